import PyProof.Rows.All
import Wide.All
import OpenK.AllK
import Wide.FinOn
import HandS.ForMost
import HandS.ForExc
import HandS.Strs
import HandS.Wide
import HandS.TupAny
import HandS.TupMul
import HandS.Style
import HandS.Zip
import HandS.Conv
import HandS.IsInst
import HandS.FStr
import HandS.NoneIn
import HandS.Deep
import HandS.Rev
import HandS.Text
import HandS.SortInts
import HandS.More
import HandS.Walk
import PyProof.ReprRoads
import PyProof.StrLawsRepr
import PyProof.FitsInt
import PySem.Challenge.RW_slideback_k55_depths_let
set_option Elab.async false
set_option linter.all false
set_option maxRecDepth 100000
set_option maxHeartbeats 4000000
/-! # The data layer: values without addresses, slots that own what may change -/
namespace DL
open PySem PySem.Spec PyProof.Rows L2

abbrev St := L2.St
abbrev D := PyData
abbrev Fg := PySem.W.Frag
/-- a row's items -/
def seqOf : PyData → Option (List PyData)
  | .list xs => some xs
  | .tuple xs => some xs
  | _ => none
/-- a field of an owned instance -/
inductive Fl where
  | val (d : D)
  | lst (xs : List D)
/-- what a slot holds -/
inductive Sl where
  | no
  | val (d : D)
  | raw (v : V) (T : Hp → Prop)
  | lst (xs : List D)
  | ins (C : Addr) (fs : List (Str × Fl))

mutual
/-- the value v is the data d, told by what stays -/
inductive Is (G : Hp) : V → D → Prop
  | non : Is G .non .none
  | bl (b : Bool) : Is G (.bl b) (.bool b)
  | int (i : Int) : Is G (.int i) (.int i)
  | str (x : Str) : Is G (.str x) (.str x)
  | lst {a : Addr} {vs : List V} {ds : List PyData} : Rd G a (.lst vs) → IsAll G vs ds → Is G (.ref a) (.list ds)
  | tup {a : Addr} {vs : List V} {ds : List PyData} : Rd G a (.tup vs) → IsAll G vs ds → Is G (.ref a) (.tuple ds)
inductive IsAll (G : Hp) : List V → List PyData → Prop
  | nil : IsAll G [] []
  | cons {v : V} {vs : List V} {d : PyData} {ds : List PyData} : Is G v d → IsAll G vs ds → IsAll G (v :: vs) (d :: ds)
end
theorem Same.rd {G G' : Hp} {a : Addr} {u : HO} (h : Same G G') (r : Rd G a u) : Rd G' a u := by
  rcases r with r | ⟨o, r⟩
  · exact .inl (h _ _ r)
  · exact .inr ⟨o, h _ _ r⟩
mutual
theorem Is.mono' {G G' : Hp} (h : Same G G') : ∀ {d : D} {v : V}, Is G v d → Is G' v d
  | _, _, .non => .non
  | _, _, .bl b => .bl b
  | _, _, .int i => .int i
  | _, _, .str x => .str x
  | _, _, .lst s a => .lst (Same.rd h s) (IsAll.mono' h a)
  | _, _, .tup s a => .tup (Same.rd h s) (IsAll.mono' h a)
theorem IsAll.mono' {G G' : Hp} (h : Same G G') : ∀ {ds : List D} {vs : List V}, IsAll G vs ds → IsAll G' vs ds
  | _, _, .nil => .nil
  | _, _, .cons a b => .cons (Is.mono' h a) (IsAll.mono' h b)
end
mutual
theorem Is.dp {K : Fg} {G : Hp} : ∀ {d : D} {v : V}, Is G v d → Dp K G v d
  | _, _, .non => .non
  | _, _, .bl b => .bl b
  | _, _, .int i => .int i
  | _, _, .str x => .str x
  | _, _, .lst s a => .lst (.inl s) (IsAll.dp a)
  | _, _, .tup s a => .tup (.inl s) (IsAll.dp a)
theorem IsAll.dp {K : Fg} {G : Hp} : ∀ {ds : List D} {vs : List V}, IsAll G vs ds → DpAll K G vs ds
  | _, _, .nil => .nil
  | _, _, .cons a b => .cons (Is.dp a) (IsAll.dp b)
end
theorem IsAll.length' {G : Hp} : ∀ {ds : List D} {vs : List V}, IsAll G vs ds → vs.length = ds.length
  | _, _, .nil => rfl
  | _, _, .cons _ b => by rw [List.length_cons, List.length_cons, IsAll.length' b]
theorem IsAll.get' {G : Hp} : ∀ {ds : List D} {vs : List V} {i : Nat} {d : D}, IsAll G vs ds → ds[i]? = some d → ∃ v, vs[i]? = some v ∧ Is G v d
  | _, _, _, _, .nil, e => by simp at e
  | _, _, 0, d, .cons a _, e => by simp at e; subst e; exact ⟨_, rfl, a⟩
  | _, _, i + 1, d, .cons _ b, e => by
    obtain ⟨v, h1, h2⟩ := IsAll.get' (i := i) (d := d) b (by simpa using e)
    exact ⟨v, by simpa using h1, h2⟩
theorem IsAll.app' {G : Hp} : ∀ {ds es : List D} {vs us : List V}, IsAll G vs ds → IsAll G us es → IsAll G (vs ++ us) (ds ++ es)
  | _, _, _, _, .nil, h => h
  | _, _, _, _, .cons a b, h => .cons a (IsAll.app' b h)
theorem IsAll.set' {G : Hp} {v : V} {d : D} (r : Is G v d) : ∀ {ds : List D} {vs : List V} (i : Nat), IsAll G vs ds → IsAll G (vs.set i v) (ds.set i d)
  | _, _, _, .nil => .nil
  | _, _, 0, .cons _ b => .cons r b
  | _, _, i + 1, .cons a b => .cons a (IsAll.set' r i b)
theorem IsAll.take' {G : Hp} : ∀ {ds : List D} {vs : List V} (n : Nat), IsAll G vs ds → IsAll G (vs.take n) (ds.take n)
  | _, _, 0, _ => .nil
  | _, _, _ + 1, .nil => .nil
  | _, _, n + 1, .cons a b => .cons a (IsAll.take' n b)
theorem IsAll.drop' {G : Hp} : ∀ {ds : List D} {vs : List V} (n : Nat), IsAll G vs ds → IsAll G (vs.drop n) (ds.drop n)
  | _, _, 0, h => h
  | _, _, _ + 1, .nil => .nil
  | _, _, n + 1, .cons a b => IsAll.drop' n b
theorem IsAll.erase' {G : Hp} : ∀ {ds : List D} {vs : List V} (n : Nat), IsAll G vs ds → IsAll G (vs.eraseIdx n) (ds.eraseIdx n)
  | _, _, _, .nil => .nil
  | _, _, 0, .cons a b => b
  | _, _, n + 1, .cons a b => .cons a (IsAll.erase' n b)
theorem IsAll.nil_iff {G : Hp} {ds : List D} {vs : List V} (h : IsAll G vs ds) : vs.isEmpty = ds.isEmpty := by
  cases h <;> rfl

inductive FlsR (G H : Hp) : List (Str × Fl) → List (Str × V) → List Addr → Prop
  | nil : FlsR G H [] [] []
  | val {f d v fs gs as} : Is G v d → FlsR G H fs gs as → FlsR G H ((f, .val d) :: fs) ((f, v) :: gs) as
  | lst {f xs a vs fs gs as} : H a = some (.lst vs) → IsAll G vs xs → a ∉ as → FlsR G H fs gs as → FlsR G H ((f, .lst xs) :: fs) ((f, .ref a) :: gs) (a :: as)
inductive SlR (G H : Hp) : Sl → Option V → List Addr → Prop
  | no {o} : SlR G H .no o []
  | val {d v} : Is G v d → SlR G H (.val d) (some v) []
  | raw {v T} : (∀ G', Same G G' → T G') → SlR G H (.raw v T) (some v) []
  | lst {a vs xs} : H a = some (.lst vs) → IsAll G vs xs → SlR G H (.lst xs) (some (.ref a)) [a]
  | ins {a C dx gs fs as} : H a = some (.ins C dx gs) → FlsR G H fs gs as → SlR G H (.ins C fs) (some (.ref a)) (a :: as)

theorem FlsR.keep {G G' H H' : Hp} (h : Same G G') : ∀ {fs gs as}, FlsR G H fs gs as → (∀ a ∈ as, H' a = H a) → FlsR G' H' fs gs as
  | _, _, _, .nil, _ => .nil
  | _, _, _, .val d r, k => .val (Is.mono' h d) (r.keep h k)
  | _, _, _, .lst e d n r, k => .lst ((k _ (by simp)).trans e) (IsAll.mono' h d) n (r.keep h fun a ha => k a (List.mem_cons_of_mem _ ha))
theorem SlR.keep {G G' H H' : Hp} (h : Same G G') {s o as} (x : SlR G H s o as) (k : ∀ a ∈ as, H' a = H a) : SlR G' H' s o as := by
  cases x with
  | no => exact .no
  | val d => exact .val (Is.mono' h d)
  | raw t => exact .raw fun G2 g2 => t G2 (h.trans g2)
  | lst e d => exact .lst ((k _ (by simp)).trans e) (IsAll.mono' h d)
  | ins e r => exact .ins ((k _ (by simp)).trans e) (r.keep h fun a ha => k a (List.mem_cons_of_mem _ ha))
theorem FlsR.there {G H : Hp} : ∀ {fs gs as}, FlsR G H fs gs as → ∀ a ∈ as, ∃ o, H a = some o
  | _, _, _, .nil, a, h => by simp at h
  | _, _, _, .val _ r, a, h => r.there a h
  | _, _, _, .lst e _ _ r, a, h => by
    rcases List.mem_cons.mp h with rfl | h
    · exact ⟨_, e⟩
    · exact r.there a h
theorem SlR.there {G H : Hp} {s o as} (x : SlR G H s o as) : ∀ a ∈ as, ∃ u, H a = some u := by
  intro a h
  cases x with
  | no => simp at h
  | val _ => simp at h
  | raw _ => simp at h
  | lst e _ => simp at h; subst h; exact ⟨_, e⟩
  | ins e r =>
    rcases List.mem_cons.mp h with rfl | h
    · exact ⟨_, e⟩
    · exact r.there a h

/-- what stays the same through a def's run: F the caller's heap but what is lent, G0 what was known to stay at the entry, pv the lent things' slots -/
structure Fr where
  F : Hp
  G0 : Hp
  pv : List (Nat × V)
abbrev Fr.ix (fr : Fr) : List Nat := fr.pv.map (·.1)
/-- each slot's content stands, with its own things fp i; two slots own nothing in common -/
structure OwnR (F G H : Hp) (σ : St) (ρ : List Sl) (fp : Nat → List Addr) : Prop where
  at' : ∀ i s, ρ[i]? = some s → ∃ o, σ[i]? = some o ∧ SlR G H s o (fp i)
  apart : ∀ i j a, a ∈ fp i → a ∈ fp j → i = j
  own : ∀ i a, a ∈ fp i → G a = none ∧ F a = none ∧ i < ρ.length
theorem OwnR.there {F G H : Hp} {σ : St} {ρ : List Sl} {fp : Nat → List Addr} (x : OwnR F G H σ ρ fp) {i : Nat} {a : Addr} (h : a ∈ fp i) : ∃ u, H a = some u := by
  have hl := (x.own i a h).2.2
  obtain ⟨o, _, r⟩ := x.at' i ρ[i] (by simp [hl])
  exact r.there a h
structure StR (fr : Fr) (G H : Hp) (σ : St) (ρ : List Sl) : Prop where
  gh : Same G H
  fh : Same fr.F H
  g0 : Same fr.G0 G
  fg : ∀ b o, G b = some o → fr.G0 b = some o ∨ fr.F b = none
  pv : ∀ p ∈ fr.pv, σ[p.1]? = some (some p.2)
  len : σ.length = ρ.length
  sl : ∃ fp, OwnR fr.F G H σ ρ fp
/-- a value handed back: what stays, or what is owned by nobody else -/
structure RetR (fr : Fr) (G H : Hp) (σ : St) (ρ : List Sl) (v : V) (s : Sl) : Prop where
  gh : Same G H
  fh : Same fr.F H
  g0 : Same fr.G0 G
  fg : ∀ b o, G b = some o → fr.G0 b = some o ∨ fr.F b = none
  pv : ∀ p ∈ fr.pv, σ[p.1]? = some (some p.2)
  len : σ.length = ρ.length
  sl : ∃ fp as, OwnR fr.F G H σ ρ fp ∧ SlR G H s (some v) as ∧ ∀ a ∈ as, G a = none ∧ fr.F a = none ∧ ∀ i, a ∉ fp i
section
variable {fr : Fr} {G H : Hp} {σ : St} {ρ : List Sl} {p : Addr} {o : HO} {v : V} {s : Sl}
theorem RetR.st (h : RetR fr G H σ ρ v s) : StR fr G H σ ρ := ⟨h.gh, h.fh, h.g0, h.fg, h.pv, h.len, let ⟨fp, _, x, _⟩ := h.sl; ⟨fp, x⟩⟩
theorem StR.ret (h : StR fr G H σ ρ) {d : D} (r : Is G v d) : RetR fr G H σ ρ v (.val d) := ⟨h.gh, h.fh, h.g0, h.fg, h.pv, h.len, let ⟨fp, x⟩ := h.sl; ⟨fp, [], x, .val r, by simp⟩⟩
theorem StR.retRaw (h : StR fr G H σ ρ) {T : Hp → Prop} (t : ∀ G', Same G G' → T G') : RetR fr G H σ ρ v (.raw v T) := ⟨h.gh, h.fh, h.g0, h.fg, h.pv, h.len, let ⟨fp, x⟩ := h.sl; ⟨fp, [], x, .raw t, by simp⟩⟩
/-- more is laid, and more of it stays -/
theorem OwnR.more {F G H G' H' : Hp} {fp : Nat → List Addr} (x : OwnR F G H σ ρ fp) (gg : Same G G') (hh : ∀ i a, a ∈ fp i → H' a = H a) (n : ∀ i a, a ∈ fp i → G' a = none) : OwnR F G' H' σ ρ fp :=
  ⟨fun i s e => let ⟨o, h1, h2⟩ := x.at' i s e; ⟨o, h1, h2.keep gg (hh i)⟩, x.apart, fun i a ha => ⟨n i a ha, (x.own i a ha).2⟩⟩
/-- a thing that stays is laid -/
theorem StR.newG (h : StR fr G H σ ρ) (hp : H p = none) : StR fr (upd G p o) (upd H p o) σ ρ ∧ Same G (upd G p o) := by
  have gp : G p = none := h.gh.free hp
  have fp : fr.F p = none := h.fh.free hp
  have gg : Same G (upd G p o) := fun b u e => by rw [upd_ne (ne_of_none e gp)]; exact e
  refine ⟨⟨fun b u e => ?_, fun b u e => ?_, h.g0.trans gg, fun b u e => ?_, h.pv, h.len, ?_⟩, gg⟩
  · by_cases hb : b = p
    · subst hb; rw [upd_same] at e ⊢; exact e
    · rw [upd_ne hb] at e ⊢; exact h.gh b u e
  · rw [upd_ne (ne_of_none e fp)]; exact h.fh b u e
  · by_cases hb : b = p
    · subst hb; exact .inr fp
    · rw [upd_ne hb] at e; exact h.fg b u e
  · obtain ⟨q, x⟩ := h.sl
    have ne : ∀ i a, a ∈ q i → a ≠ p := fun i a ha z => by
      obtain ⟨u, e⟩ := x.there ha
      rw [z, hp] at e; cases e
    exact ⟨q, x.more gg (fun i a ha => upd_ne (ne i a ha)) fun i a ha => by rw [upd_ne (ne i a ha)]; exact (x.own i a ha).1⟩
/-- a new thing that is nobody's -/
theorem StR.grow {H' : Hp} (h : StR fr G H σ ρ) (k : Same H H') : StR fr G H' σ ρ :=
  ⟨h.gh.trans k, h.fh.trans k, h.g0, h.fg, h.pv, h.len, by
    obtain ⟨q, x⟩ := h.sl
    exact ⟨q, x.more (Same.refl _) (fun i a ha => by
      obtain ⟨u, e⟩ := x.there ha
      rw [e, k a u e]) fun i a ha => (x.own i a ha).1⟩⟩
/-- a slot's content, with all else put back -/
theorem StR.at (h : StR fr G H σ ρ) {i : Nat} {s : Sl} (e : ρ[i]? = some s) : ∃ (o : Option V) (bs : List Addr), σ[i]? = some o ∧ SlR G H s o bs ∧ (∀ a ∈ bs, G a = none ∧ fr.F a = none) ∧
    ∀ (s' : Sl) (o' : Option V) (bs' : List Addr) (G' H' : Hp), Same G G' → Same G' H' → (∀ b u, H b = some u → b ∉ bs → H' b = some u) → (∀ b u, G' b = some u → G b = some u ∨ (fr.F b = none ∧ (b ∈ bs ∨ H b = none))) →
      SlR G' H' s' o' bs' → (∀ a ∈ bs', (a ∈ bs ∨ H a = none) ∧ G' a = none) → (i ∉ fr.ix ∨ o' = o) → StR fr G' H' (σ.set i o') (ρ.set i s') := by
  obtain ⟨fp, x⟩ := h.sl
  obtain ⟨o, h1, h2⟩ := x.at' i s e
  have hi : i < ρ.length := (List.getElem?_eq_some_iff.mp e).1
  refine ⟨o, fp i, h1, h2, fun a ha => ⟨(x.own i a ha).1, (x.own i a ha).2.1⟩, fun s' o' bs' G' H' gg gh' keep new y fresh hpv => ?_⟩
  have out : ∀ j a, j ≠ i → a ∈ fp j → a ∉ fp i := fun j a hj ha hb => hj (x.apart j i a ha hb)
  have same : ∀ j a, j ≠ i → a ∈ fp j → H' a = H a := fun j a hj ha => by
    obtain ⟨u, q⟩ := x.there ha
    rw [q, keep a u q (out j a hj ha)]
  have old : ∀ j a, j ≠ i → a ∈ fp j → G' a = none := fun j a hj ha => by
    cases q : G' a with
    | none => rfl
    | some u =>
      rcases new a u q with z | ⟨_, z | z⟩
      · rw [(x.own j a ha).1] at z; cases z
      · exact absurd z (out j a hj ha)
      · obtain ⟨u', e⟩ := x.there ha; rw [z] at e; cases e
  refine ⟨gh', fun b u q => keep b u (h.fh b u q) fun hb' => ?_, h.g0.trans gg, fun b u q => ?_, fun p hp => ?_, by rw [List.length_set, List.length_set]; exact h.len, fun j => if j = i then bs' else fp j, ⟨fun j t et => ?_, fun j k a ha hk => ?_, fun j a ha => ?_⟩⟩
  · rw [(x.own i b hb').2.1] at q; cases q
  · rcases new b u q with z | z
    · exact h.fg b u z
    · exact .inr z.1
  · by_cases hj : i = p.1
    · have : i ∈ fr.ix := hj ▸ List.mem_map_of_mem hp
      rcases hpv with hi' | hi'
      · exact absurd this hi'
      · have q := h.pv p hp
        rw [← hj, h1] at q
        rw [← hj, List.getElem?_set_self (by rw [h.len]; exact hi), hi']
        exact q
    · rw [List.getElem?_set_ne hj]; exact h.pv p hp
  · by_cases hj : j = i
    · subst hj
      rw [List.getElem?_set_self hi] at et
      cases et
      refine ⟨o', by rw [List.getElem?_set_self (by rw [h.len]; exact hi)], ?_⟩
      simp only [if_true]; exact y
    · rw [List.getElem?_set_ne (Ne.symm hj)] at et ⊢
      obtain ⟨o2, q1, q2⟩ := x.at' j t et
      refine ⟨o2, q1, ?_⟩
      simp only [if_neg hj]
      exact q2.keep gg fun a ha => same j a hj ha
  · have key : ∀ j a, a ∈ fp j → j ≠ i → a ∈ bs' → False := fun j a ha hj hb => by
      rcases (fresh a hb).1 with z | z
      · exact out j a hj ha z
      · obtain ⟨u, e⟩ := x.there ha; rw [z] at e; cases e
    try dsimp only at ha hk
    by_cases hj : j = i <;> by_cases hk' : k = i
    · rw [hj, hk']
    · rw [if_pos hj] at ha; rw [if_neg hk'] at hk
      exact (key k a hk hk' ha).elim
    · rw [if_neg hj] at ha; rw [if_pos hk'] at hk
      exact (key j a ha hj hk).elim
    · rw [if_neg hj] at ha; rw [if_neg hk'] at hk
      exact x.apart j k a ha hk
  · try dsimp only at ha
    rw [List.length_set]
    by_cases hj : j = i
    · rw [if_pos hj] at ha
      refine ⟨(fresh a ha).2, ?_, by rw [hj]; exact hi⟩
      rcases (fresh a ha).1 with q | q
      · exact (x.own i a q).2.1
      · exact h.fh.free q
    · rw [if_neg hj] at ha
      exact ⟨old j a hj ha, (x.own j a ha).2⟩
/-- what is handed back goes into a slot -/
theorem RetR.set (h : RetR fr G H σ ρ v s) {i : Nat} (hi : i ∉ fr.ix) : StR fr G H (σ.set i (some v)) (ρ.set i s) := by
  by_cases hl : i < ρ.length
  · obtain ⟨fp, as, x, y, n⟩ := h.sl
    refine ⟨h.gh, h.fh, h.g0, h.fg, fun p hp => ?_, by rw [List.length_set, List.length_set]; exact h.len, fun j => if j = i then as else fp j, ⟨fun j t et => ?_, fun j k a ha hk => ?_, fun j a ha => ?_⟩⟩
    · have hj : i ≠ p.1 := fun hj => hi (hj ▸ List.mem_map_of_mem hp)
      rw [List.getElem?_set_ne hj]; exact h.pv p hp
    · by_cases hj : j = i
      · subst hj
        rw [List.getElem?_set_self hl] at et
        cases et
        refine ⟨some v, by rw [List.getElem?_set_self (by rw [h.len]; exact hl)], ?_⟩
        simp only [if_true]; exact y
      · rw [List.getElem?_set_ne (Ne.symm hj)] at et ⊢
        obtain ⟨o2, q1, q2⟩ := x.at' j t et
        refine ⟨o2, q1, ?_⟩
        simp only [if_neg hj]; exact q2
    · try dsimp only at ha hk
      by_cases hj : j = i <;> by_cases hk' : k = i
      · rw [hj, hk']
      · rw [if_pos hj] at ha; rw [if_neg hk'] at hk
        exact ((n a ha).2.2 k hk).elim
      · rw [if_neg hj] at ha; rw [if_pos hk'] at hk
        exact ((n a hk).2.2 j ha).elim
      · rw [if_neg hj] at ha; rw [if_neg hk'] at hk
        exact x.apart j k a ha hk
    · try dsimp only at ha
      rw [List.length_set]
      by_cases hj : j = i
      · rw [if_pos hj] at ha
        exact ⟨(n a ha).1, (n a ha).2.1, by rw [hj]; exact hl⟩
      · rw [if_neg hj] at ha
        exact x.own j a ha
  · have e := h.len
    rw [List.set_eq_of_length_le (by omega), List.set_eq_of_length_le (by omega)]
    exact h.st
theorem StR.setV (h : StR fr G H σ ρ) {i : Nat} {d : D} (r : Is G v d) (hi : i ∉ fr.ix) : StR fr G H (σ.set i (some v)) (ρ.set i (.val d)) := (h.ret r).set hi
/-- a slot is forgotten -/
theorem StR.setNo (h : StR fr G H σ ρ) {i : Nat} (o' : Option V) (hi : i ∉ fr.ix) : StR fr G H (σ.set i o') (ρ.set i .no) := by
  by_cases hl : i < ρ.length
  · obtain ⟨o, bs, h1, h2, h3, h5⟩ := h.at (i := i) (s := ρ[i]) (by simp [hl])
    exact h5 _ _ [] G H (Same.refl _) h.gh (fun b u q _ => q) (fun b u q => .inl q) .no (by simp) (.inl hi)
  · have e := h.len
    rw [List.set_eq_of_length_le (by omega), List.set_eq_of_length_le (by omega)]
    exact h
/-- .. the value staying -/
theorem StR.drop (h : StR fr G H σ ρ) {i : Nat} : StR fr G H σ (ρ.set i .no) := by
  by_cases hl : i < ρ.length
  · obtain ⟨o, bs, h1, h2, h3, h5⟩ := h.at (i := i) (s := ρ[i]) (by simp [hl])
    have z := h5 .no o [] G H (Same.refl _) h.gh (fun b u q _ => q) (fun b u q => .inl q) .no (by simp) (.inr rfl)
    have hσ : σ.set i o = σ := by
      obtain ⟨q1, q2⟩ := List.getElem?_eq_some_iff.mp h1
      rw [← q2]; exact List.set_getElem_self q1
    rw [hσ] at z; exact z
  · rw [List.set_eq_of_length_le (by omega)]; exact h
/-- an owned list that a slot holds is read, written, or stays from here on -/
theorem StR.lstAt (h : StR fr G H σ ρ) {i : Nat} {xs : List D} (e : ρ[i]? = some (.lst xs)) : ∃ a vs, σ[i]? = some (some (.ref a)) ∧ H a = some (.lst vs) ∧ IsAll G vs xs ∧ G a = none ∧
    (∀ vs' xs', IsAll G vs' xs' → StR fr G (upd H a (.lst vs')) σ (ρ.set i (.lst xs'))) ∧
    (StR fr (upd G a (.lst vs)) H σ (ρ.set i (.val (.list xs))) ∧ Same G (upd G a (.lst vs)) ∧ Is (upd G a (.lst vs)) (.ref a) (.list xs)) := by
  obtain ⟨o, bs, h1, h2, h4, h5⟩ := h.at e
  cases h2 with
  | lst ha hd =>
    rename_i a vs
    obtain ⟨g1, g2⟩ := h4 a (by simp)
    have hσ : σ.set i (some (V.ref a)) = σ := by
      obtain ⟨q1, q2⟩ := List.getElem?_eq_some_iff.mp h1
      rw [← q2]; exact List.set_getElem_self q1
    have gg : Same G (upd G a (.lst vs)) := fun b u q => by rw [upd_ne (ne_of_none q g1)]; exact q
    refine ⟨a, vs, h1, ha, hd, g1, fun vs' xs' hd' => ?_, ?_, gg, .lst (.inl upd_same) (IsAll.mono' gg hd)⟩
    · have z := h5 (.lst xs') (some (.ref a)) [a] G (upd H a (.lst vs')) (Same.refl _) (fun b u q => by rw [upd_ne (ne_of_none q g1)]; exact h.gh b u q)
        (fun b u q hb => by rw [upd_ne (by simpa using hb)]; exact q) (fun b u q => .inl q) (.lst upd_same hd') (fun b hb => ⟨.inl hb, by rw [List.mem_singleton.mp hb]; exact g1⟩) (.inr rfl)
      rw [hσ] at z; exact z
    · have z := h5 (.val (.list xs)) (some (.ref a)) [] (upd G a (.lst vs)) H gg (fun b u q => by
          by_cases hb : b = a
          · subst hb; rw [upd_same] at q; cases q; exact ha
          · rw [upd_ne hb] at q; exact h.gh b u q) (fun b u q _ => q) (fun b u q => by
          by_cases hb : b = a
          · subst hb; exact .inr ⟨g2, .inl (by simp)⟩
          · rw [upd_ne hb] at q; exact .inl q) (.val (.lst (.inl upd_same) (IsAll.mono' gg hd))) (by simp) (.inr rfl)
      rw [hσ] at z; exact z
/-- a new list of one's own -/
theorem StR.newL (h : StR fr G H σ ρ) {p : Addr} {vs : List V} {xs : List D} (hp : H p = none) (r : IsAll G vs xs) : RetR fr G (upd H p (.lst vs)) σ ρ (.ref p) (.lst xs) := by
  have k : Same H (upd H p (.lst vs)) := fun b u e => by rw [upd_ne (ne_of_none e hp)]; exact e
  have h' := h.grow k
  obtain ⟨fp, x⟩ := h.sl
  refine ⟨h'.gh, h'.fh, h'.g0, h'.fg, h'.pv, h'.len, fp, [p], x.more (Same.refl _) (fun i a ha => ?_) (fun i a ha => (x.own i a ha).1), .lst upd_same r, fun a ha => ?_⟩
  · obtain ⟨u, e⟩ := x.there ha
    rw [e, k a u e]
  · have : a = p := by simpa using ha
    subst this
    refine ⟨h.gh.free hp, h.fh.free hp, fun i hi => ?_⟩
    obtain ⟨u, e⟩ := x.there hi
    rw [hp] at e; cases e
/-- an owned list handed back stays from here on -/
theorem RetR.freeze {xs : List D} (h : RetR fr G H σ ρ v (.lst xs)) : ∃ G', Same G G' ∧ StR fr G' H σ ρ ∧ Is G' v (.list xs) := by
  obtain ⟨fp, as, x, y, n⟩ := h.sl
  cases y with
  | lst ha hd =>
    rename_i a vs
    obtain ⟨g1, g2, g3⟩ := n a (by simp)
    have gg : Same G (upd G a (.lst vs)) := fun b u q => by rw [upd_ne (ne_of_none q g1)]; exact q
    refine ⟨upd G a (.lst vs), gg, ⟨fun b u q => ?_, h.fh, h.g0.trans gg, fun b u q => ?_, h.pv, h.len, fp, x.more gg (fun _ _ _ => rfl) fun i b hb => ?_⟩, .lst (.inl upd_same) (IsAll.mono' gg hd)⟩
    · by_cases hb : b = a
      · subst hb; rw [upd_same] at q; cases q; exact ha
      · rw [upd_ne hb] at q; exact h.gh b u q
    · by_cases hb : b = a
      · subst hb; exact .inr g2
      · rw [upd_ne hb] at q; exact h.fg b u q
    · have hba : b ≠ a := fun z => g3 i (z ▸ hb)
      rw [upd_ne hba]; exact (x.own i b hb).1
end
end DL
namespace DL
open PySem PySem.Spec PyProof.Rows L2

/-! ### readings over data -/
abbrev DK := D → List Sl → Prop
abbrev TD := List Sl → DK → Prop
abbrev TDb := List Sl → (Bool → List Sl → Prop) → Prop
abbrev TDl := List Sl → (List D → List Sl → Prop) → Prop
structure EndsD where
  nx : List Sl → Prop
  rt : Sl → List Sl → Prop
abbrev TDs := EndsD → List Sl → Prop
abbrev TDg := D → List Sl → (List Sl → Prop) → Prop
def opt {α : Type} (o : Option α) (K : α → Prop) : Prop := match o with
  | some z => K z
  | none => False
theorem opt_some {α : Type} {z : α} {K : α → Prop} : opt (some z) K = K z := rfl
theorem opt_none {α : Type} {K : α → Prop} : opt none K = False := rfl
theorem opt_ite {α : Type} {c : Prop} [Decidable c] {a : Option α} {K : α → Prop} : opt (if c then a else none) K = (c ∧ opt a K) := by
  by_cases h : c <;> simp [h, opt]
theorem opt_get {α : Type} {o : Option α} {K : α → Prop} (h : opt o K) : ∃ z, o = some z ∧ K z := by
  cases o with
  | none => exact h.elim
  | some z => exact ⟨z, rfl, h⟩
theorem opt_mono {α : Type} {o : Option α} {A B : α → Prop} (k : ∀ z, A z → B z) (h : opt o A) : opt o B := by
  cases o with
  | none => exact h
  | some z => exact k z h

/-- from one state of ours to a later one in which the slots are as they were -/
structure Stp (G H G' H' : Hp) : Prop where
  g : Same G G'
  st : ∀ fr σ ρ, StR fr G H σ ρ → StR fr G' H' σ ρ
theorem Stp.refl {G H : Hp} : Stp G H G H := ⟨Same.refl _, fun _ _ _ h => h⟩
theorem Stp.trans {G H G1 H1 G2 H2 : Hp} (a : Stp G H G1 H1) (b : Stp G1 H1 G2 H2) : Stp G H G2 H2 := ⟨a.g.trans b.g, fun _ _ _ h => b.st _ _ _ (a.st _ _ _ h)⟩
theorem Stp.new {G H : Hp} {p : Addr} {o : HO} (gh : Same G H) (hp : H p = none) : Stp G H (upd G p o) (upd H p o) :=
  ⟨fun b u e => by rw [upd_ne (ne_of_none e (gh.free hp))]; exact e, fun _ _ _ h => (h.newG hp).1⟩

def Lft (fr : Fr) (t : TD) : TE := fun σ H Q => ∃ G ρ, StR fr G H σ ρ ∧ t ρ fun d ρ' => ∀ v G' H', Same G G' → StR fr G' H' σ ρ' → Is G' v d → Q v H'
def LftT (fr : Fr) (t : TDb) : TT := fun σ H Q => ∃ G ρ, StR fr G H σ ρ ∧ t ρ fun b ρ' => ∀ G' H', Same G G' → StR fr G' H' σ ρ' → Q b H'
def LftA (fr : Fr) (t : TDl) : TA := fun σ H Q => ∃ G ρ, StR fr G H σ ρ ∧ t ρ fun ds ρ' => ∀ vs G' H', Same G G' → StR fr G' H' σ ρ' → IsAll G' vs ds → Q vs H'
def dn (fr : Fr) (G : Hp) (D : Ends) : EndsD where
  nx := fun ρ' => ∀ σ' G' H', Same G G' → StR fr G' H' σ' ρ' → D.nx σ' H'
  rt := fun s ρ' => ∀ σ' v G' H', Same G G' → RetR fr G' H' σ' ρ' v s → D.rt v H'
def LftS (fr : Fr) (t : TDs) : TS := fun D σ H => ∃ G ρ, StR fr G H σ ρ ∧ t (dn fr G D) ρ
def LftG (fr : Fr) (t : TDg) : TG := fun v σ H Q => ∃ G ρ d, StR fr G H σ ρ ∧ Is G v d ∧ t d ρ fun ρ' => ∀ σ' G' H', Same G G' → StR fr G' H' σ' ρ' → Q σ' H'

structure PD (X : Cx) (fr : Fr) (e : Expr) (t : TD) : Prop where
  run : PE X e (Lft fr t)
  mono : ∀ ρ (A B : DK), (∀ d ρ', A d ρ' → B d ρ') → t ρ A → t ρ B
structure PDb (X : Cx) (fr : Fr) (e : Expr) (t : TDb) : Prop where
  run : PT X e (LftT fr t)
  mono : ∀ ρ (A B : Bool → List Sl → Prop), (∀ d ρ', A d ρ' → B d ρ') → t ρ A → t ρ B
structure PDl (X : Cx) (fr : Fr) (es : List Expr) (t : TDl) : Prop where
  run : PA X es (LftA fr t)
  mono : ∀ ρ (A B : List D → List Sl → Prop), (∀ d ρ', A d ρ' → B d ρ') → t ρ A → t ρ B
structure PDs (X : Cx) (fr : Fr) (s : Stmt) (t : TDs) : Prop where
  run : PS X s (LftS fr t)
  mono : ∀ ρ (A B : EndsD), (∀ ρ', A.nx ρ' → B.nx ρ') → (∀ s ρ', A.rt s ρ' → B.rt s ρ') → t A ρ → t B ρ
structure PDss (X : Cx) (fr : Fr) (s : List Stmt) (t : TDs) : Prop where
  run : PSs X s (LftS fr t)
  mono : ∀ ρ (A B : EndsD), (∀ ρ', A.nx ρ' → B.nx ρ') → (∀ s ρ', A.rt s ρ' → B.rt s ρ') → t A ρ → t B ρ
structure PDg (X : Cx) (fr : Fr) (e : Expr) (t : TDg) : Prop where
  run : PG X e (LftG fr t)
  mono : ∀ d ρ (A B : List Sl → Prop), (∀ ρ', A ρ' → B ρ') → t d ρ A → t d ρ B

section
variable {X : Cx} {fr : Fr} {e a b c : Expr} {es : List Expr}
theorem PE.imp {t t' : TE} (h : PE X e t) (k : ∀ σ H Q, t' σ H Q → t σ H Q) : PE X e t' := ⟨fun pins s σ H Q I x => h.run pins s σ H Q I (k σ H Q x)⟩
theorem PT.imp {t t' : TT} (h : PT X e t) (k : ∀ σ H Q, t' σ H Q → t σ H Q) : PT X e t' := ⟨fun pins s σ H Q I x => h.run pins s σ H Q I (k σ H Q x)⟩
theorem PA.imp {t t' : TA} (h : PA X es t) (k : ∀ σ H Q, t' σ H Q → t σ H Q) : PA X es t' := ⟨fun pos pins s σ H Q I x => h.run pos pins s σ H Q I (k σ H Q x)⟩
theorem PS.imp {st : Stmt} {t t' : TS} (h : PS X st t) (k : ∀ D σ H, t' D σ H → t D σ H) : PS X st t' := ⟨fun pins s σ H D I x => h.run pins s σ H D I (k D σ H x)⟩
theorem PSs.imp {st : List Stmt} {t t' : TS} (h : PSs X st t) (k : ∀ D σ H, t' D σ H → t D σ H) : PSs X st t' := ⟨fun pins s σ H D I x => h.run pins s σ H D I (k D σ H x)⟩
theorem PG.imp {t t' : TG} (h : PG X e t) (k : ∀ v σ H Q, t' v σ H Q → t v σ H Q) : PG X e t' := ⟨fun pins s σ H v u Q I r x => h.run pins s σ H v u Q I r (k v σ H Q x)⟩
/-- an expression's reading entered: from the lifted reading to what goes on with its value -/
theorem Lft.into {t : TD} {σ : St} {G H : Hp} {ρ : List Sl} {Q : VK} {A : DK} (mono : ∀ ρ (A B : DK), (∀ d ρ', A d ρ' → B d ρ') → t ρ A → t ρ B) (st : StR fr G H σ ρ) (h : t ρ A)
    (k : ∀ d ρ' v G' H', A d ρ' → Same G G' → StR fr G' H' σ ρ' → Is G' v d → Q v H') : Lft fr t σ H Q :=
  ⟨G, ρ, st, mono _ _ _ (fun d ρ' q v G' H' g s r => k d ρ' v G' H' q g s r) h⟩
theorem LftT.into {t : TDb} {σ : St} {G H : Hp} {ρ : List Sl} {Q : Bool → Hp → Prop} {A : Bool → List Sl → Prop} (mono : ∀ ρ (A B : Bool → List Sl → Prop), (∀ d ρ', A d ρ' → B d ρ') → t ρ A → t ρ B) (st : StR fr G H σ ρ) (h : t ρ A)
    (k : ∀ d ρ' G' H', A d ρ' → Same G G' → StR fr G' H' σ ρ' → Q d H') : LftT fr t σ H Q :=
  ⟨G, ρ, st, mono _ _ _ (fun d ρ' q G' H' g s => k d ρ' G' H' q g s) h⟩
theorem LftA.into {t : TDl} {σ : St} {G H : Hp} {ρ : List Sl} {Q : List V → Hp → Prop} {A : List D → List Sl → Prop} (mono : ∀ ρ (A B : List D → List Sl → Prop), (∀ d ρ', A d ρ' → B d ρ') → t ρ A → t ρ B) (st : StR fr G H σ ρ) (h : t ρ A)
    (k : ∀ d ρ' v G' H', A d ρ' → Same G G' → StR fr G' H' σ ρ' → IsAll G' v d → Q v H') : LftA fr t σ H Q :=
  ⟨G, ρ, st, mono _ _ _ (fun d ρ' q v G' H' g s r => k d ρ' v G' H' q g s r) h⟩
theorem LftS.into {t : TDs} {σ : St} {G H : Hp} {ρ : List Sl} {D : Ends} {A : EndsD} (mono : ∀ ρ (A B : EndsD), (∀ ρ', A.nx ρ' → B.nx ρ') → (∀ s ρ', A.rt s ρ' → B.rt s ρ') → t A ρ → t B ρ) (st : StR fr G H σ ρ) (h : t A ρ)
    (k : ∀ ρ' σ' G' H', A.nx ρ' → Same G G' → StR fr G' H' σ' ρ' → D.nx σ' H') (kr : ∀ s ρ' σ' v G' H', A.rt s ρ' → Same G G' → RetR fr G' H' σ' ρ' v s → D.rt v H') : LftS fr t D σ H :=
  ⟨G, ρ, st, mono _ _ _ (fun ρ' q σ' G' H' g s => k ρ' σ' G' H' q g s) (fun s ρ' q σ' v G' H' g r => kr s ρ' σ' v G' H' q g r) h⟩

/-! ### names and constants -/
/-- a name's value: what stays; what is owned stays from here on -/
def tdVar (i : Nat) : TD := fun ρ K => match ρ[i]? with
  | some (.val d) => K d ρ
  | some (.lst xs) => K (.list xs) (ρ.set i (.val (.list xs)))
  | _ => False
theorem tdVar_mono (i : Nat) : ∀ ρ (A B : DK), (∀ d ρ', A d ρ' → B d ρ') → tdVar i ρ A → tdVar i ρ B := fun ρ A B k h => by
  unfold tdVar at h ⊢
  split at h
  · exact k _ _ h
  · exact k _ _ h
  · exact h
theorem pd_var {i : Nat} {x : Str} {pos : Pos} (hN : X.N[i]? = some x) (hv : Vis X.env.scope x) (hd : (x == ("__debug__" : Str)) = false := by decide) (hcd : (x == ("__classdict__" : Str)) = false := by decide) :
    PD X fr (.Name x pos) (tdVar i) := by
  refine ⟨PE.imp (pe_var hN hv hd hcd) ?_, tdVar_mono i⟩
  rintro σ H Q ⟨G, ρ, st, h⟩
  unfold tdVar at h
  split at h
  · rename_i d e
    obtain ⟨o, bs, h1, h2, _, _⟩ := st.at e
    cases h2 with
    | val r => exact ⟨_, h1, h _ _ _ (Same.refl _) st r⟩
  · rename_i xs e
    obtain ⟨a, vs, h1, h2, h3, h4, h5, h6, h7, h8⟩ := st.lstAt e
    exact ⟨_, h1, h _ _ _ h7 h6 h8⟩
  · exact h.elim
def tdC (d : D) : TD := fun ρ K => K d ρ
theorem tdC_mono (d : D) : ∀ ρ (A B : DK), (∀ d ρ', A d ρ' → B d ρ') → tdC d ρ A → tdC d ρ B := fun ρ A B k h => k _ _ h
theorem pd_const {v : V} {d : D} (h : PE X e (tC v)) (r : ∀ G, Is G v d) : PD X fr e (tdC d) := by
  refine ⟨PE.imp h ?_, tdC_mono d⟩
  rintro σ H Q ⟨G, ρ, st, q⟩
  exact q _ _ _ (Same.refl _) st (r G)
theorem pd_int {i j pos} : PD X fr (.Constant (.int i) j pos) (tdC (.int i)) := pd_const pe_int fun _ => .int i
theorem pd_bl {b j pos} : PD X fr (.Constant (.bool b) j pos) (tdC (.bool b)) := pd_const pe_bl fun _ => .bl b
theorem pd_non {j pos} : PD X fr (.Constant .none j pos) (tdC .none) := pd_const pe_non fun _ => .non
theorem pd_str {x j pos} : PD X fr (.Constant (.str x) j pos) (tdC (.str x)) := pd_const pe_str fun _ => .str x
/-- a module's constant -/
theorem pd_glob {x : Str} {v : V} {u : Value} {d : D} {pos : Pos} (hg : Gl X x) (hm : X.mg x = some u) (r : RelV v u) (rd : ∀ G, Is G v d) (hd : (x == ("__debug__" : Str)) = false := by decide) : PD X fr (.Name x pos) (tdC d) :=
  pd_const (pe_glob hg hm r hd) rd

/-! ### operations on values -/
def OpOk (r : R2) (f : D → D → Option D) : Prop := ∀ G H x y d e z (Q : VK), Same G H → Is G x d → Is G y e → f d e = some z → (∀ v G' H', Stp G H G' H' → Is G' v z → Q v H') → r x y H Q
def UnOk (r : V → Hp → VK → Prop) (f : D → Option D) : Prop := ∀ G H x d z (Q : VK), Same G H → Is G x d → f d = some z → (∀ v G' H', Stp G H G' H' → Is G' v z → Q v H') → r x H Q
def FnlOk (r : List V → Hp → VK → Prop) (f : List D → Option D) : Prop := ∀ G H xs ds z (Q : VK), Same G H → IsAll G xs ds → f ds = some z → (∀ v G' H', Stp G H G' H' → Is G' v z → Q v H') → r xs H Q
def tdBin (f : D → D → Option D) (ta tb : TD) : TD := fun ρ K => ta ρ fun x ρ1 => tb ρ1 fun y ρ2 => opt (f x y) fun z => K z ρ2
def tdUn (f : D → Option D) (ta : TD) : TD := fun ρ K => ta ρ fun x ρ1 => opt (f x) fun z => K z ρ1
variable {ta tb tc : TD} {tl : TDl} {pos : Pos} {f : D → D → Option D}
theorem tdBin_mono (ha : PD X fr a ta) (hb : PD X fr b tb) : ∀ ρ (A B : DK), (∀ d ρ', A d ρ' → B d ρ') → tdBin f ta tb ρ A → tdBin f ta tb ρ B := fun ρ A B k h =>
  ha.mono _ _ _ (fun x ρ1 h1 => hb.mono _ _ _ (fun y ρ2 h2 => opt_mono (fun z => k z ρ2) h2) h1) h
theorem bin_into {r : R2} (hf : OpOk r f) (ha : PD X fr a ta) (hb : PD X fr b tb) : ∀ σ H Q, Lft fr (tdBin f ta tb) σ H Q → tOp r (Lft fr ta) (Lft fr tb) σ H Q := by
  rintro σ H Q ⟨G, ρ, st, h⟩
  refine Lft.into ha.mono st h fun x ρ1 v G1 H1 q1 g1 st1 r1 => ?_
  refine Lft.into hb.mono st1 q1 fun y ρ2 u G2 H2 q2 g2 st2 r2 => ?_
  obtain ⟨z, hz, k⟩ := opt_get q2
  exact hf G2 H2 v u x y z Q st2.gh (Is.mono' g2 r1) r2 hz fun w G3 H3 stp rz => k w G3 H3 (g1.trans (g2.trans stp.g)) (stp.st _ _ _ st2) rz
theorem pd_op {op : Operator} {r : R2} (ho : OpR X (binaryOp op) r) (hf : OpOk r f) (ha : PD X fr a ta) (hb : PD X fr b tb) : PD X fr (.BinOp a op b pos) (tdBin f ta tb) :=
  ⟨PE.imp (pe_op ho ha.run hb.run) (bin_into hf ha hb), tdBin_mono ha hb⟩
theorem pd_cmp {op : CmpOp} {r : R2} (ho : OpR X (compareOp op) r) (hf : OpOk r f) (ha : PD X fr a ta) (hb : PD X fr b tb) (hm : behindInMarks op b = false) : PD X fr (.Compare a [op] [b] pos) (tdBin f ta tb) :=
  ⟨PE.imp (pe_cmpR ho ha.run hb.run hm) (bin_into hf ha hb), tdBin_mono ha hb⟩
theorem pd_ix {r : R2} (ho : IxR X r) (hf : OpOk r f) (ha : PD X fr a ta) (hb : PD X fr b tb) (hs : PlainIx b) : PD X fr (.Subscript a b pos) (tdBin f ta tb) :=
  ⟨PE.imp (pe_ix ho ha.run hb.run hs) (bin_into hf ha hb), tdBin_mono ha hb⟩
theorem pd_un {op : UnaryOp} {r : V → Hp → VK → Prop} {g : D → Option D} (ho : UnR X (unaryOp op) r) (hf : UnOk r g) (ha : PD X fr a ta) : PD X fr (.UnaryOp op a pos) (tdUn g ta) := by
  refine ⟨PE.imp (pe_un ho ha.run) ?_, fun ρ A B k h => ha.mono _ _ _ (fun x ρ1 h1 => opt_mono (fun z => k z ρ1) h1) h⟩
  rintro σ H Q ⟨G, ρ, st, h⟩
  refine Lft.into ha.mono st h fun x ρ1 v G1 H1 q1 g1 st1 r1 => ?_
  obtain ⟨z, hz, k⟩ := opt_get q1
  exact hf G1 H1 v x z Q st1.gh r1 hz fun w G3 H3 stp rz => k w G3 H3 (g1.trans stp.g) (stp.st _ _ _ st1) rz

/-! ### tests -/
/-- a value that is True or False, as a test -/
def tdTest (t : TD) : TDb := fun ρ K => t ρ fun d ρ1 => match d with
  | .bool b => K b ρ1
  | _ => False
theorem tdTest_mono (ha : PD X fr a ta) : ∀ ρ (A B : Bool → List Sl → Prop), (∀ d ρ', A d ρ' → B d ρ') → tdTest ta ρ A → tdTest ta ρ B := fun ρ A B k h =>
  ha.mono _ _ _ (fun x ρ1 h1 => by
    cases x with
    | bool b => exact k b ρ1 h1
    | _ => exact h1) h
theorem test_into (ha : PD X fr a ta) : ∀ σ H Q, LftT fr (tdTest ta) σ H Q → (Lft fr ta) σ H fun x H' => ∃ k, x = .bl k ∧ Q k H' := by
  rintro σ H Q ⟨G, ρ, st, h⟩
  refine Lft.into ha.mono st h fun x ρ1 v G1 H1 q1 g1 st1 r1 => ?_
  cases x with
  | bool b => cases r1; exact ⟨b, rfl, q1 G1 H1 g1 st1⟩
  | _ => exact False.elim q1
theorem pb_val (ha : PD X fr a ta) (he : ∀ whole, isTrue a X.env whole = (do let v ← whole; standAt a.pos; holding [v] (truthy v)) := by intro _; rfl) : PDb X fr a (tdTest ta) :=
  ⟨PT.imp (pt_val ha.run he) (test_into ha), tdTest_mono ha⟩
theorem pb_cmp {op : CmpOp} {r : R2} (ho : OpR X (compareOp op) r) (hf : OpOk r f) (ha : PD X fr a ta) (hb : PD X fr b tb) (hm : behindInMarks op b = false) : PDb X fr (.Compare a [op] [b] pos) (tdTest (tdBin f ta tb)) := by
  refine ⟨PT.imp (pt_cmpR ho ha.run hb.run hm) ?_, tdTest_mono (pd_cmp ho hf ha hb hm (pos := pos))⟩
  rintro σ H Q h
  have z := test_into (a := .Compare a [op] [b] pos) (pd_cmp ho hf ha hb hm) σ H Q h
  exact bin_into hf ha hb σ H _ z
/-- a op1 b op2 c -/
def tdChain (f g : D → D → Option D) (ta tb tc : TD) : TD := fun ρ K => ta ρ fun x ρ1 => tb ρ1 fun y ρ2 => opt (f x y) fun z => match z with
  | .bool true => tc ρ2 fun w ρ3 => opt (g y w) fun z => K z ρ3
  | .bool false => K (.bool false) ρ2
  | _ => False
theorem tdChain_mono {g : D → D → Option D} (ha : PD X fr a ta) (hb : PD X fr b tb) (hc : PD X fr c tc) : ∀ ρ (A B : DK), (∀ d ρ', A d ρ' → B d ρ') → tdChain f g ta tb tc ρ A → tdChain f g ta tb tc ρ B := fun ρ A B k h =>
  ha.mono _ _ _ (fun x ρ1 h1 => hb.mono _ _ _ (fun y ρ2 h2 => opt_mono (fun z hz => by
    cases z with
    | bool b =>
      cases b with
      | true => exact hc.mono _ _ _ (fun w ρ3 h3 => opt_mono (fun z => k z ρ3) h3) hz
      | false => exact k _ _ hz
    | _ => exact hz) h2) h1) h
theorem chain_into {g : D → D → Option D} {r r' : R2} (hf : OpOk r f) (hg : OpOk r' g) (ha : PD X fr a ta) (hb : PD X fr b tb) (hc : PD X fr c tc) :
    ∀ σ H Q, Lft fr (tdChain f g ta tb tc) σ H Q → tChain r r' (Lft fr ta) (Lft fr tb) (Lft fr tc) σ H Q := by
  rintro σ H Q ⟨G, ρ, st, h⟩
  refine Lft.into ha.mono st h fun x ρ1 v G1 H1 q1 g1 st1 r1 => ?_
  refine Lft.into hb.mono st1 q1 fun y ρ2 u G2 H2 q2 g2 st2 r2 => ?_
  obtain ⟨z, hz, k⟩ := opt_get q2
  refine hf G2 H2 v u x y z _ st2.gh (Is.mono' g2 r1) r2 hz fun w G3 H3 stp rz => ?_
  have st3 := stp.st _ _ _ st2
  cases z with
  | bool b =>
    cases rz
    refine ⟨b, rfl, ?_⟩
    cases b with
    | true =>
      rw [if_pos rfl]
      refine Lft.into hc.mono st3 k fun w ρ4 w' G4 H4 q4 g4 st4 r4 => ?_
      obtain ⟨z', hz', k'⟩ := opt_get q4
      exact hg G4 H4 u w' y w z' Q st4.gh (Is.mono' (stp.g.trans g4) r2) r4 hz' fun v5 G5 H5 stp5 r5 => k' v5 G5 H5 (g1.trans (g2.trans (stp.g.trans (g4.trans stp5.g)))) (stp5.st _ _ _ st4) r5
    | false =>
      rw [if_neg Bool.false_ne_true]
      exact k _ G3 H3 (g1.trans (g2.trans stp.g)) st3 (.bl false)
  | _ => exact False.elim k
theorem pd_chain {op op' : CmpOp} {g : D → D → Option D} {r r' : R2} (ho : OpR X (compareOp op) r) (ho' : OpR X (compareOp op') r') (hf : OpOk r f) (hg : OpOk r' g) (ha : PD X fr a ta) (hb : PD X fr b tb) (hc : PD X fr c tc)
    (hm : lastMarks [op, op'] [b, c] = false := by with_unfolding_all rfl) : PD X fr (.Compare a [op, op'] [b, c] pos) (tdChain f g ta tb tc) :=
  ⟨PE.imp (pe_chain ho ho' ha.run hb.run hc.run hm) (chain_into hf hg ha hb hc), tdChain_mono ha hb hc⟩
theorem pb_chain {op op' : CmpOp} {g : D → D → Option D} {r r' : R2} (ho : OpR X (compareOp op) r) (ho' : OpR X (compareOp op') r') (hf : OpOk r f) (hg : OpOk r' g) (ha : PD X fr a ta) (hb : PD X fr b tb) (hc : PD X fr c tc)
    (hm : lastMarks [op, op'] [b, c] = false := by with_unfolding_all rfl) : PDb X fr (.Compare a [op, op'] [b, c] pos) (tdTest (tdChain f g ta tb tc)) := by
  refine ⟨PT.imp (pt_chain ho ho' ha.run hb.run hc.run hm) ?_, tdTest_mono (pd_chain ho ho' hf hg ha hb hc hm (pos := pos))⟩
  rintro σ H Q h
  have z := test_into (a := .Compare a [op, op'] [b, c] pos) (pd_chain ho ho' hf hg ha hb hc hm) σ H Q h
  exact chain_into hf hg ha hb hc σ H _ z
/-! and, or, not -/
structure PDw (X : Cx) (fr : Fr) (e : Expr) (t : TDb) : Prop where
  run : PW X e (LftT fr t)
  mono : ∀ ρ (A B : Bool → List Sl → Prop), (∀ d ρ', A d ρ' → B d ρ') → t ρ A → t ρ B
theorem PW.imp {t t' : TT} (h : PW X e t) (k : ∀ σ H Q, t' σ H Q → t σ H Q) : PW X e t' := ⟨fun wh pins s σ H Q I x => h.run wh pins s σ H Q I (k σ H Q x)⟩
theorem PDw.pb {t : TDb} (h : PDw X fr e t) : PDb X fr e t := ⟨h.run.pt, h.mono⟩
variable {tA tB : TDb} {rest : List Expr}
def tdAnd (t u : TDb) : TDb := fun ρ K => t ρ fun c ρ1 => if c = true then u ρ1 K else K false ρ1
def tdOr (t u : TDb) : TDb := fun ρ K => t ρ fun c ρ1 => if c = true then K true ρ1 else u ρ1 K
def tdNot (t : TDb) : TDb := fun ρ K => t ρ fun c ρ1 => K (!c) ρ1
theorem pw_and1 (ha : PDb X fr a tA) : PDw X fr (.BoolOp .And [a] pos) tA := ⟨L2.pw_and1 ha.run, ha.mono⟩
theorem pw_or1 (ha : PDb X fr a tA) : PDw X fr (.BoolOp .Or [a] pos) tA := ⟨L2.pw_or1 ha.run, ha.mono⟩
theorem pw_and (ha : PDb X fr a tA) (hb : PDw X fr (.BoolOp .And (b :: rest) pos) tB) : PDw X fr (.BoolOp .And (a :: b :: rest) pos) (tdAnd tA tB) := by
  refine ⟨PW.imp (L2.pw_and ha.run hb.run) ?_, fun ρ A B k h => ha.mono _ _ _ (fun x ρ1 h1 => by
    cases x with
    | true => rw [if_pos rfl] at h1 ⊢; exact hb.mono _ _ _ k h1
    | false => rw [if_neg Bool.false_ne_true] at h1 ⊢; exact k _ _ h1) h⟩
  rintro σ H Q ⟨G, ρ, st, h⟩
  refine LftT.into ha.mono st h fun x ρ1 G1 H1 q1 g1 st1 => ?_
  cases x with
  | true =>
    rw [if_pos rfl] at q1 ⊢
    exact LftT.into hb.mono st1 q1 fun x ρ2 G2 H2 q2 g2 st2 => q2 _ _ (g1.trans g2) st2
  | false => rw [if_neg Bool.false_ne_true] at q1 ⊢; exact q1 _ _ g1 st1
theorem pw_or (ha : PDb X fr a tA) (hb : PDw X fr (.BoolOp .Or (b :: rest) pos) tB) : PDw X fr (.BoolOp .Or (a :: b :: rest) pos) (tdOr tA tB) := by
  refine ⟨PW.imp (L2.pw_or ha.run hb.run) ?_, fun ρ A B k h => ha.mono _ _ _ (fun x ρ1 h1 => by
    cases x with
    | true => rw [if_pos rfl] at h1 ⊢; exact k _ _ h1
    | false => rw [if_neg Bool.false_ne_true] at h1 ⊢; exact hb.mono _ _ _ k h1) h⟩
  rintro σ H Q ⟨G, ρ, st, h⟩
  refine LftT.into ha.mono st h fun x ρ1 G1 H1 q1 g1 st1 => ?_
  cases x with
  | true => rw [if_pos rfl] at q1 ⊢; exact q1 _ _ g1 st1
  | false =>
    rw [if_neg Bool.false_ne_true] at q1 ⊢
    exact LftT.into hb.mono st1 q1 fun x ρ2 G2 H2 q2 g2 st2 => q2 _ _ (g1.trans g2) st2
theorem pb_not (ha : PDb X fr a tA) : PDb X fr (.UnaryOp .Not a pos) (tdNot tA) := by
  refine ⟨PT.imp (pt_not ha.run) ?_, fun ρ A B k h => ha.mono _ _ _ (fun x ρ1 h1 => k _ _ h1) h⟩
  rintro σ H Q ⟨G, ρ, st, h⟩
  exact LftT.into ha.mono st h fun x ρ1 G1 H1 q1 g1 st1 => q1 _ _ g1 st1
/-! .. as values -/
def tdAndV (ta tb : TD) : TD := fun ρ K => ta ρ fun d ρ1 => match d with
  | .bool true => tb ρ1 K
  | .bool false => K (.bool false) ρ1
  | _ => False
def tdOrV (ta tb : TD) : TD := fun ρ K => ta ρ fun d ρ1 => match d with
  | .bool false => tb ρ1 K
  | .bool true => K (.bool true) ρ1
  | _ => False
def tdNotV (ta : TD) : TD := fun ρ K => ta ρ fun d ρ1 => match d with
  | .bool b => K (.bool (!b)) ρ1
  | _ => False
theorem pd_one {op} (h : PD X fr a ta) : PD X fr (.BoolOp op [a] pos) ta := ⟨pe_one h.run, h.mono⟩
theorem pd_and (ha : PD X fr a ta) (hb : PD X fr (.BoolOp .And (b :: rest) pos) tb) : PD X fr (.BoolOp .And (a :: b :: rest) pos) (tdAndV ta tb) := by
  refine ⟨PE.imp (pe_and ha.run hb.run) ?_, fun ρ A B k h => ha.mono _ _ _ (fun x ρ1 h1 => by
    cases x with
    | bool x =>
      cases x with
      | true => exact hb.mono _ _ _ k h1
      | false => exact k _ _ h1
    | _ => exact h1) h⟩
  rintro σ H Q ⟨G, ρ, st, h⟩
  refine Lft.into ha.mono st h fun x ρ1 v G1 H1 q1 g1 st1 r1 => ?_
  cases x with
  | bool x =>
    cases r1
    refine ⟨x, rfl, ?_⟩
    cases x with
    | true =>
      rw [if_pos rfl]
      exact Lft.into hb.mono st1 q1 fun x ρ2 v G2 H2 q2 g2 st2 r2 => q2 _ _ _ (g1.trans g2) st2 r2
    | false => rw [if_neg Bool.false_ne_true]; exact q1 _ _ _ g1 st1 (.bl false)
  | _ => exact False.elim q1
theorem pd_or (ha : PD X fr a ta) (hb : PD X fr (.BoolOp .Or (b :: rest) pos) tb) : PD X fr (.BoolOp .Or (a :: b :: rest) pos) (tdOrV ta tb) := by
  refine ⟨PE.imp (pe_or ha.run hb.run) ?_, fun ρ A B k h => ha.mono _ _ _ (fun x ρ1 h1 => by
    cases x with
    | bool x =>
      cases x with
      | false => exact hb.mono _ _ _ k h1
      | true => exact k _ _ h1
    | _ => exact h1) h⟩
  rintro σ H Q ⟨G, ρ, st, h⟩
  refine Lft.into ha.mono st h fun x ρ1 v G1 H1 q1 g1 st1 r1 => ?_
  cases x with
  | bool x =>
    cases r1
    refine ⟨x, rfl, ?_⟩
    cases x with
    | true => rw [if_pos rfl]; exact q1 _ _ _ g1 st1 (.bl true)
    | false =>
      rw [if_neg Bool.false_ne_true]
      exact Lft.into hb.mono st1 q1 fun x ρ2 v G2 H2 q2 g2 st2 r2 => q2 _ _ _ (g1.trans g2) st2 r2
  | _ => exact False.elim q1
theorem pd_not (ha : PD X fr a ta) : PD X fr (.UnaryOp .Not a pos) (tdNotV ta) := by
  refine ⟨PE.imp (pe_not ha.run) ?_, fun ρ A B k h => ha.mono _ _ _ (fun x ρ1 h1 => by
    cases x with
    | bool x => exact k _ _ h1
    | _ => exact h1) h⟩
  rintro σ H Q ⟨G, ρ, st, h⟩
  refine Lft.into ha.mono st h fun x ρ1 v G1 H1 q1 g1 st1 r1 => ?_
  cases x with
  | bool x =>
    cases r1
    exact ⟨x, rfl, q1 _ _ _ g1 st1 (.bl _)⟩
  | _ => exact False.elim q1
/-- a if t else b -/
def tdIf (t : TDb) (ta tb : TD) : TD := fun ρ K => t ρ fun c ρ1 => if c = true then ta ρ1 K else tb ρ1 K
theorem pd_if {t : TDb} (hc : PDb X fr c t) (ha : PD X fr a ta) (hb : PD X fr b tb) : PD X fr (.IfExp c a b pos) (tdIf t ta tb) := by
  refine ⟨PE.imp (pe_ifExp hc.run ha.run hb.run) ?_, fun ρ A B k h => hc.mono _ _ _ (fun x ρ1 h1 => by
    cases x with
    | true => rw [if_pos rfl] at h1 ⊢; exact ha.mono _ _ _ k h1
    | false => rw [if_neg Bool.false_ne_true] at h1 ⊢; exact hb.mono _ _ _ k h1) h⟩
  rintro σ H Q ⟨G, ρ, st, h⟩
  refine LftT.into hc.mono st h fun x ρ1 G1 H1 q1 g1 st1 => ?_
  cases x with
  | true =>
    rw [if_pos rfl] at q1 ⊢
    exact Lft.into ha.mono st1 q1 fun x ρ2 v G2 H2 q2 g2 st2 r2 => q2 _ _ _ (g1.trans g2) st2 r2
  | false =>
    rw [if_neg Bool.false_ne_true] at q1 ⊢
    exact Lft.into hb.mono st1 q1 fun x ρ2 v G2 H2 q2 g2 st2 r2 => q2 _ _ _ (g1.trans g2) st2 r2

/-! ### lists of expressions, displays, calls of built-ins -/
def tdNil : TDl := fun ρ K => K [] ρ
def tdCons (ta : TD) (tl : TDl) : TDl := fun ρ K => ta ρ fun x ρ1 => tl ρ1 fun xs ρ2 => K (x :: xs) ρ2
theorem pl_nil : PDl X fr [] tdNil := by
  refine ⟨PA.imp pa_nil ?_, fun ρ A B k h => k _ _ h⟩
  rintro σ H Q ⟨G, ρ, st, h⟩
  exact h _ _ _ (Same.refl _) st .nil
theorem pl_cons (ha : PD X fr a ta) (hl : PDl X fr es tl) (hs : starEach (a :: es) X.env = (false, eval a X.env) :: starEach es X.env := by rfl) : PDl X fr (a :: es) (tdCons ta tl) := by
  refine ⟨PA.imp (pa_cons ha.run hl.run hs) ?_, fun ρ A B k h => ha.mono _ _ _ (fun x ρ1 h1 => hl.mono _ _ _ (fun xs ρ2 => k _ _) h1) h⟩
  rintro σ H Q ⟨G, ρ, st, h⟩
  refine Lft.into ha.mono st h fun x ρ1 v G1 H1 q1 g1 st1 r1 => ?_
  exact LftA.into hl.mono st1 q1 fun xs ρ2 vs G2 H2 q2 g2 st2 r2 => q2 _ _ _ (g1.trans g2) st2 (.cons (Is.mono' g2 r1) r2)
def sz (n : Nat) : Prop := n ≤ sizeLine
def tdTup (t : TDl) : TD := fun ρ K => t ρ fun xs ρ1 => xs.length ≤ sizeLine ∧ K (.tuple xs) ρ1
def tdLst (t : TDl) : TD := fun ρ K => t ρ fun xs ρ1 => xs.length ≤ sizeLine ∧ K (.list xs) ρ1
theorem pd_tup {x1} (hl : PDl X fr es tl) : PD X fr (.Tuple es x1 pos) (tdTup tl) := by
  refine ⟨PE.imp (pe_tup hl.run) ?_, fun ρ A B k h => hl.mono _ _ _ (fun x ρ1 h1 => ⟨h1.1, k _ _ h1.2⟩) h⟩
  rintro σ H Q ⟨G, ρ, st, h⟩
  refine LftA.into hl.mono st h fun x ρ1 vs G1 H1 q1 g1 st1 r1 => ⟨by rw [IsAll.length' r1]; exact q1.1, fun p hp => ?_⟩
  obtain ⟨st2, g2⟩ := st1.newG (o := .tup vs) hp
  exact q1.2 _ _ _ (g1.trans g2) st2 (.tup (.inl upd_same) (IsAll.mono' g2 r1))
theorem pd_lst (hl : PDl X fr es tl) : PD X fr (.List es pos) (tdLst tl) := by
  refine ⟨PE.imp (pe_lst hl.run) ?_, fun ρ A B k h => hl.mono _ _ _ (fun x ρ1 h1 => ⟨h1.1, k _ _ h1.2⟩) h⟩
  rintro σ H Q ⟨G, ρ, st, h⟩
  refine LftA.into hl.mono st h fun x ρ1 vs G1 H1 q1 g1 st1 r1 => ⟨by rw [IsAll.length' r1]; exact q1.1, fun p hp => ?_⟩
  obtain ⟨st2, g2⟩ := st1.newG (o := .lst vs) hp
  exact q1.2 _ _ _ (g1.trans g2) st2 (.lst (.inl upd_same) (IsAll.mono' g2 r1))
def tdFn (f : List D → Option D) (t : TDl) : TD := fun ρ K => t ρ fun xs ρ1 => opt (f xs) fun z => K z ρ1
theorem fn_into {g : List D → Option D} {r : List V → Hp → VK → Prop} (hf : FnlOk r g) (hl : PDl X fr es tl) : ∀ σ H Q, Lft fr (tdFn g tl) σ H Q → tCB r (LftA fr tl) σ H Q := by
  rintro σ H Q ⟨G, ρ, st, h⟩
  refine LftA.into hl.mono st h fun xs ρ1 vs G1 H1 q1 g1 st1 r1 => ?_
  obtain ⟨z, hz, k⟩ := opt_get q1
  exact hf G1 H1 vs xs z Q st1.gh r1 hz fun w G3 H3 stp rz => k w G3 H3 (g1.trans stp.g) (stp.st _ _ _ st1) rz
theorem tdFn_mono {g : List D → Option D} (hl : PDl X fr es tl) : ∀ ρ (A B : DK), (∀ d ρ', A d ρ' → B d ρ') → tdFn g tl ρ A → tdFn g tl ρ B := fun ρ A B k h =>
  hl.mono _ _ _ (fun x ρ1 h1 => opt_mono (fun z => k z ρ1) h1) h
theorem pd_callB {id : String} {x : Str} {p : Pos} {g : List D → Option D} {r : List V → Hp → VK → Prop} (hc : CallR X (.builtin id) r) (hf : FnlOk r g) (hg : Gl X x) (hm : X.mg x = none) (hv : bootBuiltins x = some (.builtin id)) (hl : PDl X fr (a :: es) tl)
    (hn : x ≠ "__name__" := by decide) (hdb : (x == ("__debug__" : Str)) = false := by decide) (he : starEach (a :: es) X.env = (false, eval a X.env) :: starEach es X.env := by rfl) (hpl : (backTo pos (starEach es X.env)).any (·.1) = false := by rfl) :
    PD X fr (.Call (.Name x p) (a :: es) [] pos) (tdFn g tl) := ⟨PE.imp (pe_callB hc hg hm hv hl.run hn hdb he hpl) (fn_into hf hl), tdFn_mono hl⟩
theorem pd_callTy {T : String} {x : Str} {p : Pos} {g : List D → Option D} {r : List V → Hp → VK → Prop} (hc : CallR X (.type T) r) (hf : FnlOk r g) (hg : Gl X x) (hm : X.mg x = none) (hv : bootBuiltins x = some (.type T)) (hl : PDl X fr (a :: es) tl)
    (hn : x ≠ "__name__" := by decide) (hdb : (x == ("__debug__" : Str)) = false := by decide) (he : starEach (a :: es) X.env = (false, eval a X.env) :: starEach es X.env := by rfl) (hpl : (backTo pos (starEach es X.env)).any (·.1) = false := by rfl) :
    PD X fr (.Call (.Name x p) (a :: es) [] pos) (tdFn g tl) := ⟨PE.imp (pe_callTy hc hg hm hv hl.run hn hdb he hpl) (fn_into hf hl), tdFn_mono hl⟩
end
end DL
namespace DL
open PySem PySem.Spec PyProof.Rows L2

/-! ### values that may be owned -/
abbrev TDf := List Sl → (Sl → List Sl → Prop) → Prop
def LftF (fr : Fr) (t : TDf) : TE := fun σ H Q => ∃ G ρ, StR fr G H σ ρ ∧ t ρ fun s ρ' => ∀ v G' H', Same G G' → RetR fr G' H' σ ρ' v s → Q v H'
structure PF (X : Cx) (fr : Fr) (e : Expr) (t : TDf) : Prop where
  run : PE X e (LftF fr t)
  mono : ∀ ρ (A B : Sl → List Sl → Prop), (∀ s ρ', A s ρ' → B s ρ') → t ρ A → t ρ B
theorem LftF.into {fr : Fr} {t : TDf} {σ : St} {G H : Hp} {ρ : List Sl} {Q : VK} {A : Sl → List Sl → Prop} (mono : ∀ ρ (A B : Sl → List Sl → Prop), (∀ s ρ', A s ρ' → B s ρ') → t ρ A → t ρ B) (st : StR fr G H σ ρ) (h : t ρ A)
    (k : ∀ s ρ' v G' H', A s ρ' → Same G G' → RetR fr G' H' σ ρ' v s → Q v H') : LftF fr t σ H Q :=
  ⟨G, ρ, st, mono _ _ _ (fun d ρ' q v G' H' g s => k d ρ' v G' H' q g s) h⟩
section
variable {X : Cx} {fr : Fr} {e a b c : Expr} {es : List Expr} {ta tb : TD} {tl : TDl} {tf : TDf} {pos : Pos}
def tfV (t : TD) : TDf := fun ρ K => t ρ fun d ρ' => K (.val d) ρ'
theorem pf_val (h : PD X fr e ta) : PF X fr e (tfV ta) := by
  refine ⟨PE.imp h.run ?_, fun ρ A B k z => h.mono _ _ _ (fun d ρ' => k _ _) z⟩
  rintro σ H Q ⟨G, ρ, st, q⟩
  exact Lft.into h.mono st q fun d ρ' v G' H' q g s r => q _ _ _ g (s.ret r)
def tdFz (t : TDf) : TD := fun ρ K => t ρ fun s ρ' => match s with
  | .val d => K d ρ'
  | .lst xs => K (.list xs) ρ'
  | _ => False
theorem pd_fz (h : PF X fr e tf) : PD X fr e (tdFz tf) := by
  refine ⟨PE.imp h.run ?_, fun ρ A B k z => h.mono _ _ _ (fun s ρ' q => by
    cases s <;> first | exact k _ _ q | exact q) z⟩
  rintro σ H Q ⟨G, ρ, st, q⟩
  refine LftF.into h.mono st q fun s ρ' v G' H' q g r => ?_
  cases s with
  | val d =>
    obtain ⟨fp, as, x, y, n⟩ := r.sl
    cases y with
    | val rd => exact q _ _ _ g r.st rd
  | lst xs =>
    obtain ⟨G2, g2, st2, r2⟩ := r.freeze
    exact q _ _ _ (g.trans g2) st2 r2
  | no => exact q.elim
  | raw _ _ => exact q.elim
  | ins _ _ => exact q.elim
def tfLst (t : TDl) : TDf := fun ρ K => t ρ fun xs ρ1 => xs.length ≤ sizeLine ∧ K (.lst xs) ρ1
theorem pf_lst (hl : PDl X fr es tl) : PF X fr (.List es pos) (tfLst tl) := by
  refine ⟨PE.imp (pe_lst hl.run) ?_, fun ρ A B k h => hl.mono _ _ _ (fun x ρ1 h1 => ⟨h1.1, k _ _ h1.2⟩) h⟩
  rintro σ H Q ⟨G, ρ, st, h⟩
  refine LftA.into hl.mono st h fun x ρ1 vs G1 H1 q1 g1 st1 r1 => ⟨by rw [IsAll.length' r1]; exact q1.1, fun p hp => ?_⟩
  exact q1.2 _ _ _ g1 (st1.newL hp r1)
/-- what a name holds, taken away from it -/
def tfMove (i : Nat) : TDf := fun ρ K => match ρ[i]? with
  | some (.val d) => K (.val d) ρ
  | some (.raw v T) => K (.raw v T) ρ
  | some (.lst xs) => K (.lst xs) (ρ.set i .no)
  | some (.ins C fs) => K (.ins C fs) (ρ.set i .no)
  | _ => False
theorem RetR.moved {G H : Hp} {σ : St} {ρ : List Sl} {i : Nat} {s : Sl} {v : V} (st : StR fr G H σ ρ) (e : ρ[i]? = some s) (h1 : σ[i]? = some (some v)) : RetR fr G H σ (ρ.set i .no) v s := by
  obtain ⟨fp, x⟩ := st.sl
  obtain ⟨o, q1, q2⟩ := x.at' i s e
  rw [h1] at q1; cases q1
  have st' := st.drop (i := i)
  refine ⟨st'.gh, st'.fh, st'.g0, st'.fg, st'.pv, st'.len, fun j => if j = i then [] else fp j, fp i, ⟨fun j t et => ?_, fun j k a ha hk => ?_, fun j a ha => ?_⟩, q2, fun a ha => ⟨(x.own i a ha).1, (x.own i a ha).2.1, fun j hj => ?_⟩⟩
  · by_cases hj : j = i
    · subst hj
      rw [List.getElem?_set_self (List.getElem?_eq_some_iff.mp e).1] at et
      cases et
      simp only [if_true]
      exact ⟨_, h1, .no⟩
    · rw [List.getElem?_set_ne (Ne.symm hj)] at et
      simp only [if_neg hj]
      exact x.at' j t et
  · by_cases hj : j = i
    · rw [if_pos hj] at ha; cases ha
    · by_cases hk' : k = i
      · rw [if_pos hk'] at hk; cases hk
      · rw [if_neg hj] at ha; rw [if_neg hk'] at hk; exact x.apart j k a ha hk
  · by_cases hj : j = i
    · rw [if_pos hj] at ha; cases ha
    · rw [if_neg hj] at ha; rw [List.length_set]; exact x.own j a ha
  · try dsimp only at hj
    by_cases hj' : j = i
    · rw [if_pos hj'] at hj; cases hj
    · rw [if_neg hj'] at hj; exact hj' (x.apart j i a hj ha)
theorem pf_move {i : Nat} {x : Str} {pos : Pos} (hN : X.N[i]? = some x) (hv : Vis X.env.scope x) (hd : (x == ("__debug__" : Str)) = false := by decide) (hcd : (x == ("__classdict__" : Str)) = false := by decide) :
    PF X fr (.Name x pos) (tfMove i) := by
  refine ⟨PE.imp (pe_var hN hv hd hcd) ?_, fun ρ A B k h => ?_⟩
  · rintro σ H Q ⟨G, ρ, st, h⟩
    unfold tfMove at h
    have key : ∀ {s : Sl}, ρ[i]? = some s → ∃ o bs, σ[i]? = some o ∧ SlR G H s o bs := fun e => by
      obtain ⟨o, bs, h1, h2, _, _⟩ := st.at e
      exact ⟨o, bs, h1, h2⟩
    split at h
    · rename_i e
      obtain ⟨o, bs, h1, h2⟩ := key e
      cases h2 with
      | val r => exact ⟨_, h1, h _ _ _ (Same.refl _) (st.ret r)⟩
    · rename_i e
      obtain ⟨o, bs, h1, h2⟩ := key e
      cases h2 with
      | raw t => exact ⟨_, h1, h _ _ _ (Same.refl _) (st.retRaw t)⟩
    · rename_i e
      obtain ⟨o, bs, h1, h2⟩ := key e
      cases h2 with
      | lst => exact ⟨_, h1, h _ _ _ (Same.refl _) (RetR.moved st e h1)⟩
    · rename_i e
      obtain ⟨o, bs, h1, h2⟩ := key e
      cases h2 with
      | ins => exact ⟨_, h1, h _ _ _ (Same.refl _) (RetR.moved st e h1)⟩
    · exact h.elim
  · unfold tfMove at h ⊢
    split at h <;> first | exact k _ _ h | exact h

/-! ### small statements -/
variable {t u : TDs}
def tsNext : TDs := fun D ρ => D.nx ρ
def tsSeq (t u : TDs) : TDs := fun D ρ => t { D with nx := u D } ρ
theorem ss_nil : PDss X fr [] tsNext := by
  refine ⟨PSs.imp pss_nil ?_, fun ρ A B k _ h => k _ h⟩
  rintro D σ H ⟨G, ρ, st, h⟩
  exact h _ _ _ (Same.refl _) st
theorem ss_cons {s : Stmt} {r : List Stmt} (h1 : PDs X fr s t) (h2 : PDss X fr r u) : PDss X fr (s :: r) (tsSeq t u) := by
  refine ⟨PSs.imp (pss_cons h1.run h2.run) ?_, fun ρ A B k kr h => h1.mono ρ { A with nx := u A } { B with nx := u B } (fun ρ' => h2.mono ρ' A B k kr) kr h⟩
  rintro D σ H ⟨G, ρ, st, h⟩
  refine LftS.into h1.mono st h (fun ρ' σ' G' H' q g s => ?_) (fun s ρ' σ' v G' H' q g r => q _ _ _ _ g r)
  exact LftS.into h2.mono s q (fun ρ2 σ2 G2 H2 q2 g2 s2 => q2 _ _ _ (g.trans g2) s2) (fun s ρ2 σ2 v G2 H2 q2 g2 r => q2 _ _ _ _ (g.trans g2) r)
theorem ss_one {s : Stmt} (h1 : PDs X fr s t) : PDss X fr [s] t := by
  refine ⟨PSs.imp (pss_one h1.run) ?_, h1.mono⟩
  intro D σ H h; exact h
theorem s_pass : PDs X fr (.Pass pos) tsNext := by
  refine ⟨PS.imp ps_pass ?_, fun ρ A B k _ h => k _ h⟩
  rintro D σ H ⟨G, ρ, st, h⟩
  exact h _ _ _ (Same.refl _) st
theorem s_doc {x j pos pos'} : PDs X fr (.Expr (.Constant (.str x) j pos) pos') tsNext := by
  refine ⟨PS.imp ps_doc ?_, fun ρ A B k _ h => k _ h⟩
  rintro D σ H ⟨G, ρ, st, h⟩
  exact h _ _ _ (Same.refl _) st
def tsAsg (t : TDf) (i : Nat) : TDs := fun D ρ => t ρ fun s ρ1 => D.nx (ρ1.set i s)
theorem asg_mono {i : Nat} (he : PF X fr e tf) : ∀ ρ (A B : EndsD), (∀ ρ', A.nx ρ' → B.nx ρ') → (∀ s ρ', A.rt s ρ' → B.rt s ρ') → tsAsg tf i A ρ → tsAsg tf i B ρ := fun ρ A B k _ h => he.mono _ _ _ (fun s ρ1 => k _) h
theorem s_asg {i : Nat} {x : Str} {pos' : Pos} (hN : X.N.Nodup) (hi : X.N[i]? = some x) (hx : Loc X.env.scope x) (hf : X.fn x = true ∨ X.env.scope.names.lookup x = some .local) (hix : i ∉ fr.ix) (he : PF X fr e tf)
    (hs : swapsWith e (some (.Name x pos')) pos.line X.env = pure false := by rfl) : PDs X fr (.Assign [.Name x pos'] e pos) (tsAsg tf i) := by
  refine ⟨PS.imp (ps_set hN hi hx he.run hs hf) ?_, asg_mono he⟩
  rintro D σ H ⟨G, ρ, st, h⟩
  exact LftF.into he.mono st h fun s ρ' v G' H' q g r => q _ _ _ g (r.set hix)
def tsExpr (t : TD) : TDs := fun D ρ => t ρ fun _ ρ1 => D.nx ρ1
theorem s_expr (he : PD X fr e ta) (hs : swapsWith e none pos.line X.env = pure false := by rfl) : PDs X fr (.Expr e pos) (tsExpr ta) := by
  refine ⟨PS.imp (ps_expr he.run hs) ?_, fun ρ A B k _ h => he.mono _ _ _ (fun s ρ1 => k _) h⟩
  rintro D σ H ⟨G, ρ, st, h⟩
  exact Lft.into he.mono st h fun s ρ' v G' H' q g st r => q _ _ _ g st
def tsRet (t : TDf) : TDs := fun D ρ => t ρ D.rt
theorem s_ret (he : PF X fr e tf) : PDs X fr (.Return (some e) pos) (tsRet tf) := by
  refine ⟨PS.imp (ps_ret he.run) ?_, fun ρ A B _ kr h => he.mono _ _ _ (fun s ρ1 => kr _ _) h⟩
  rintro D σ H ⟨G, ρ, st, h⟩
  exact LftF.into he.mono st h fun s ρ' v G' H' q g r => q _ _ _ _ g r
def tsRetN : TDs := fun D ρ => D.rt (.val .none) ρ
theorem s_retN : PDs X fr (.Return none pos) tsRetN := by
  refine ⟨PS.imp ps_retN ?_, fun ρ A B _ kr h => kr _ _ h⟩
  rintro D σ H ⟨G, ρ, st, h⟩
  exact h _ _ _ _ (Same.refl _) (st.ret .non)
def tsIf (c : TDb) (t u : TDs) : TDs := fun D ρ => c ρ fun b ρ1 => if b = true then t D ρ1 else u D ρ1
theorem s_if {c : Expr} {tc : TDb} {x y : List Stmt} (hc : PDb X fr c tc) (hx : PDss X fr x t) (hy : PDss X fr y u) : PDs X fr (.If c x y pos) (tsIf tc t u) := by
  refine ⟨PS.imp (ps_if hc.run hx.run hy.run) ?_, fun ρ A B k kr h => hc.mono _ _ _ (fun b ρ1 h1 => by
    cases b with
    | true => rw [if_pos rfl] at h1 ⊢; exact hx.mono _ _ _ k kr h1
    | false => rw [if_neg Bool.false_ne_true] at h1 ⊢; exact hy.mono _ _ _ k kr h1) h⟩
  rintro D σ H ⟨G, ρ, st, h⟩
  refine LftT.into hc.mono st h fun b ρ1 G1 H1 q g st1 => ?_
  cases b with
  | true =>
    rw [if_pos rfl] at q ⊢
    exact LftS.into hx.mono st1 q (fun ρ2 σ2 G2 H2 q2 g2 s2 => q2 _ _ _ (g.trans g2) s2) (fun s ρ2 σ2 v G2 H2 q2 g2 r => q2 _ _ _ _ (g.trans g2) r)
  | false =>
    rw [if_neg Bool.false_ne_true] at q ⊢
    exact LftS.into hy.mono st1 q (fun ρ2 σ2 G2 H2 q2 g2 s2 => q2 _ _ _ (g.trans g2) s2) (fun s ρ2 σ2 v G2 H2 q2 g2 r => q2 _ _ _ _ (g.trans g2) r)

/-! ### targets -/
/-- a target that sets slots of ixs alone -/
def LftGx (fr : Fr) (ixs : List Nat) (t : TDg) : TG := fun v σ H Q => ∃ G ρ d, StR fr G H σ ρ ∧ Is G v d ∧ t d ρ fun ρ' => ∀ σ' G' H', (∀ vs, (∀ i ∈ ixs, i ∈ vs) → wipe σ' vs = wipe σ vs) → Same G G' → StR fr G' H' σ' ρ' → Q σ' H'
structure PDt (X : Cx) (fr : Fr) (ixs : List Nat) (e : Expr) (t : TDg) : Prop where
  run : PG X e (LftGx fr ixs t)
  mono : ∀ d ρ (A B : List Sl → Prop), (∀ ρ', A ρ' → B ρ') → t d ρ A → t d ρ B
def tgName (i : Nat) : TDg := fun d ρ K => K (ρ.set i (.val d))
theorem wipe_set {σ : St} {i : Nat} {o : Option V} : ∀ {vs : List Nat}, i ∈ vs → wipe (σ.set i o) vs = wipe σ vs
  | [], h => by simp at h
  | v :: vs, h => by
    unfold wipe
    by_cases hi : i ∈ vs
    · rw [wipe_set hi]
    · have e : i = v := by
        rcases List.mem_cons.mp h with e | e
        · exact e
        · exact absurd e hi
      subst e
      have out : ∀ (vs : List Nat) (σ : St), i ∉ vs → wipe (σ.set i o) vs = (wipe σ vs).set i o := by
        intro vs
        induction vs with
        | nil => intro σ _; rfl
        | cons w ws ih =>
          intro σ hw
          have h1 : i ≠ w := fun e => hw (e ▸ List.mem_cons_self)
          have h2 : i ∉ ws := fun e => hw (List.mem_cons_of_mem _ e)
          show (wipe (σ.set i o) ws).set w none = ((wipe σ ws).set w none).set i o
          rw [ih σ h2, List.set_comm _ _ h1]
      rw [out vs σ hi, List.set_set]
theorem t_name {i : Nat} {x : Str} (hN : X.N.Nodup) (hi : X.N[i]? = some x) (hx : Loc X.env.scope x) (hf : X.fn x = true ∨ X.env.scope.names.lookup x = some .local) (hix : i ∉ fr.ix) : PDt X fr [i] (.Name x pos) (tgName i) := by
  refine ⟨PG.imp (pg_name hN hi hx hf) ?_, fun d ρ A B k h => k _ h⟩
  rintro v σ H Q ⟨G, ρ, d, st, r, h⟩
  exact h _ _ _ (fun vs hvs => wipe_set (hvs i (by simp))) (Same.refl _) (st.setV r hix)
abbrev TDgs := List D → List Sl → (List Sl → Prop) → Prop
def LftGs (fr : Fr) (ixs : List Nat) (t : TDgs) : TGs := fun us σ H Q => ∃ G ρ ds, StR fr G H σ ρ ∧ IsAll G us ds ∧ t ds ρ fun ρ' => ∀ σ' G' H', (∀ vs, (∀ i ∈ ixs, i ∈ vs) → wipe σ' vs = wipe σ vs) → Same G G' → StR fr G' H' σ' ρ' → Q σ' H'
structure PDts (X : Cx) (fr : Fr) (ixs : List Nat) (es : List Expr) (t : TDgs) : Prop where
  run : PGs X es (LftGs fr ixs t)
  mono : ∀ d ρ (A B : List Sl → Prop), (∀ ρ', A ρ' → B ρ') → t d ρ A → t d ρ B
def tgNil : TDgs := fun ds ρ K => ds = [] ∧ K ρ
def tgCons (g : TDg) (gs : TDgs) : TDgs := fun ds ρ K => match ds with
  | d :: r => g d ρ fun ρ1 => gs r ρ1 K
  | [] => False
theorem PGs.imp {t t' : TGs} (h : PGs X es t) (k : ∀ v σ H Q, t' v σ H Q → t v σ H Q) : PGs X es t' := ⟨fun pins s σ H v u Q I r x => h.run pins s σ H v u Q I r (k v σ H Q x)⟩
theorem ts_nil : PDts X fr [] [] tgNil := by
  refine ⟨PGs.imp pgs_nil ?_, fun d ρ A B k h => ⟨h.1, k _ h.2⟩⟩
  rintro us σ H Q ⟨G, ρ, ds, st, r, rfl, h⟩
  cases r
  exact ⟨rfl, h _ _ _ (fun _ _ => rfl) (Same.refl _) st⟩
theorem ts_cons {g : TDg} {gs : TDgs} {ix ixs : List Nat} (h1 : PDt X fr ix e g) (h2 : PDts X fr ixs es gs) (hs : (assignEach (e :: es) X.env).map (·.2) = assign e X.env :: (assignEach es X.env).map (·.2) := by rfl) : PDts X fr (ix ++ ixs) (e :: es) (tgCons g gs) := by
  refine ⟨PGs.imp (pgs_cons h1.run h2.run hs) ?_, fun d ρ A B k h => by
    cases d with
    | nil => exact h
    | cons d r => exact h1.mono _ _ _ _ (fun ρ1 => h2.mono _ _ _ _ k) h⟩
  rintro us σ H Q ⟨G, ρ, ds, st, r, h⟩
  cases r with
  | nil => exact h.elim
  | cons r1 r2 =>
    refine ⟨_, _, rfl, G, ρ, _, st, r1, h1.mono _ _ _ _ (fun ρ1 q σ1 G1 H1 w1 g1 st1 => ?_) h⟩
    refine ⟨G1, ρ1, _, st1, IsAll.mono' g1 r2, h2.mono _ _ _ _ (fun ρ2 q2 σ2 G2 H2 w2 g2 st2 => ?_) q⟩
    exact q2 _ _ _ (fun vs hvs => (w2 vs fun i hi => hvs i (List.mem_append_right _ hi)).trans (w1 vs fun i hi => hvs i (List.mem_append_left _ hi))) (g1.trans g2) st2
/-- (a, b, ..) = a tuple of that length -/
def tgTup (n : Nat) (gs : TDgs) : TDg := fun d ρ K => match d with
  | .tuple xs => xs.length = n ∧ gs xs ρ K
  | _ => False
theorem t_tup {gs : TDgs} {k n : Nat} {ixs : List Nat} (hc : X.calm = true) (h : PDts X fr ixs es gs) (hn : (assignEach es X.env).length = n := by rfl) (hst : (assignEach es X.env).findIdx? (·.1) = none := by rfl) : PDt X fr ixs (.Tuple es k pos) (tgTup n gs) := by
  refine ⟨PG.imp (pg_tup hc h.run hn hst) ?_, fun d ρ A B k q => by
    cases d with
    | tuple xs => exact ⟨q.1, h.mono _ _ _ _ k q.2⟩
    | _ => exact q⟩
  rintro v σ H Q ⟨G, ρ, d, st, r, q⟩
  cases r with
  | tup s ra =>
    exact ⟨_, _, rfl, .inl (Same.rd st.gh s), by rw [IsAll.length' ra]; exact q.1, G, ρ, _, st, ra, q.2⟩
  | non => exact q.elim
  | bl => exact q.elim
  | int => exact q.elim
  | str => exact q.elim
  | lst => exact q.elim
/-- target = value, any target -/
def tsAsgG (t : TD) (g : TDg) : TDs := fun D ρ => t ρ fun d ρ1 => g d ρ1 D.nx
theorem s_asgG {tg : Expr} {g : TDg} {ixs : List Nat} (he : PD X fr e ta) (hg : PDt X fr ixs tg g) (hs : swapsWithSole [tg] e pos.line X.env = pure false := by rfl) (hw : swappedStores [tg] e X.env = pure none := by rfl)
    (h1 : (assignEach [tg] X.env).map (·.2) = [assign tg X.env] := by rfl) : PDs X fr (.Assign [tg] e pos) (tsAsgG ta g) := by
  refine ⟨PS.imp (ps_asg he.run hg.run hs hw h1) ?_, fun ρ A B k _ h => he.mono _ _ _ (fun d ρ1 => hg.mono _ _ _ _ k) h⟩
  rintro D σ H ⟨G, ρ, st, h⟩
  refine Lft.into he.mono st h fun d ρ1 v G1 H1 q g1 st1 r => ?_
  exact ⟨G1, ρ1, d, st1, r, hg.mono _ _ _ _ (fun ρ2 q2 σ2 G2 H2 _ g2 st2 => q2 _ _ _ (g1.trans g2) st2) q⟩

/-! ### what is walked -/
def ItOk (J : It) (G : Hp) (items : List D) : Prop := ∀ fr σ ρ G1 H1, StR fr G1 H1 σ ρ → Same G G1 → (∀ i, items.length ≤ i → J.stop i H1) ∧
  ∀ i d, items[i]? = some d → J.go i H1 ∧ ∀ x H2, J.yld i H1 x H2 → ∃ G2, Same G1 G2 ∧ StR fr G2 H2 σ ρ ∧ Is G2 x d
def LftI (fr : Fr) (t : TDl) : TI := fun σ H R => ∃ G ρ, StR fr G H σ ρ ∧ t ρ fun items ρ' => ∀ J G' H', Same G G' → StR fr G' H' σ ρ' → ItOk J G' items → R J H'
structure PDi (X : Cx) (fr : Fr) (tg e : Expr) (t : TDl) : Prop where
  run : PI X tg e (LftI fr t)
  mono : ∀ ρ (A B : List D → List Sl → Prop), (∀ d ρ', A d ρ' → B d ρ') → t ρ A → t ρ B
theorem LftI.into {t : TDl} {σ : St} {G H : Hp} {ρ : List Sl} {R : It → Hp → Prop} {A : List D → List Sl → Prop} (mono : ∀ ρ (A B : List D → List Sl → Prop), (∀ d ρ', A d ρ' → B d ρ') → t ρ A → t ρ B) (st : StR fr G H σ ρ) (h : t ρ A)
    (k : ∀ d ρ' J G' H', A d ρ' → Same G G' → StR fr G' H' σ ρ' → ItOk J G' d → R J H') : LftI fr t σ H R :=
  ⟨G, ρ, st, mono _ _ _ (fun d ρ' q J G' H' g s r => k d ρ' J G' H' q g s r) h⟩
def loopD (g : TDg) (body : TDs) (D : EndsD) : List PyData → List Sl → Prop
  | [], ρ => D.nx ρ
  | x :: xs, ρ => g x ρ fun ρ1 => body { D with nx := loopD g body D xs } ρ1
def tsFor (ti : TDl) (g : TDg) (body : TDs) : TDs := fun D ρ => ti ρ fun items ρ1 => loopD g body D items ρ1
theorem loopD_mono {tg : Expr} {g : TDg} {ixs : List Nat} {bs : List Stmt} {body : TDs} (hg : PDt X fr ixs tg g) (hb : PDss X fr bs body) {A B : EndsD} (k : ∀ ρ', A.nx ρ' → B.nx ρ') (kr : ∀ s ρ', A.rt s ρ' → B.rt s ρ') :
    ∀ items ρ, loopD g body A items ρ → loopD g body B items ρ
  | [], ρ, h => k _ h
  | x :: xs, ρ, h => hg.mono _ _ _ _ (fun ρ1 h1 => hb.mono ρ1 { A with nx := loopD g body A xs } { B with nx := loopD g body B xs } (fun ρ2 => loopD_mono hg hb k kr xs ρ2) kr h1) h
theorem s_for {tg iter : Expr} {ti : TDl} {g : TDg} {ixs : List Nat} {bs : List Stmt} {body : TDs} (hp : PassesOwn (model X.prog X.w) X.A X.env X.xe) (hc : X.calm = true) (hi : PDi X fr tg iter ti) (hg : PDt X fr ixs tg g) (hb : PDss X fr bs body)
    (hs : ∀ x, foldedSetIterable iter X.env x = pure x := by intro _; rfl) : PDs X fr (.For tg iter bs [] pos) (tsFor ti g body) := by
  refine ⟨PS.imp (ps_for hp hc hi.run hg.run hb.run hs) ?_, fun ρ A B k kr h => hi.mono _ _ _ (fun items ρ1 h1 => loopD_mono hg hb k kr items ρ1 h1) h⟩
  rintro D σ H ⟨G, ρ, st, h⟩
  refine LftI.into hi.mono st h fun items ρ1 J G1 H1 q g1 st1 hJ => ?_
  refine ⟨fun i m σ H => m = items.length - i ∧ i ≤ items.length ∧ ∃ G' ρ', Same G1 G' ∧ StR fr G' H σ ρ' ∧ loopD g body (dn fr G D) (items.drop i) ρ', ⟨_, rfl, Nat.zero_le _, G1, ρ1, Same.refl _, st1, q⟩, ?_⟩
  rintro i m σ' H' ⟨rfl, hi', G', ρ', g', st', q'⟩
  obtain ⟨js, jy⟩ := hJ fr σ' ρ' G' H' st' g'
  by_cases hlt : i < items.length
  · have ei : items[i]? = some items[i] := by simp [hlt]
    obtain ⟨go, yl⟩ := jy i _ ei
    have ed : items.drop i = items[i] :: items.drop (i + 1) := List.drop_eq_getElem_cons hlt
    rw [ed] at q'
    refine .inr ⟨go, fun σ2 H2 => ∃ G2 ρ2, Same G1 G2 ∧ StR fr G2 H2 σ2 ρ2 ∧ loopD g body (dn fr G D) (items.drop (i + 1)) ρ2, fun σ2 H2 ⟨G2, ρ2, z1, z2, z3⟩ => ⟨items.length - (i + 1), by omega, rfl, hlt, G2, ρ2, z1, z2, z3⟩, fun x H2 y => ?_⟩
    obtain ⟨G2, g2, st2, r2⟩ := yl x H2 y
    refine ⟨G2, ρ', _, st2, r2, hg.mono _ _ _ _ (fun ρ3 q3 σ3 G3 H3 _ g3 st3 => ?_) q'⟩
    refine LftS.into hb.mono st3 q3 (fun ρ4 σ4 G4 H4 q4 g4 st4 => ⟨G4, ρ4, g'.trans (g2.trans (g3.trans g4)), st4, q4⟩) (fun s ρ4 σ4 v G4 H4 q4 g4 r4 => ?_)
    exact q4 _ _ _ _ (g1.trans (g'.trans (g2.trans (g3.trans g4)))) r4
  · refine .inl ⟨js i (by omega), ?_⟩
    rw [List.drop_eq_nil_of_le (by omega)] at q'
    exact q' _ _ _ (g1.trans g') st'

/-! ### while -/
def whileD (c : TDb) (body : TDs) (D : EndsD) : Nat → List Sl → Prop
  | 0, _ => False
  | n + 1, ρ => c ρ fun b ρ1 => if b = true then body { D with nx := whileD c body D n } ρ1 else D.nx ρ1
def tsWhile (c : TDb) (body : TDs) : TDs := fun D ρ => ∃ n, whileD c body D n ρ
theorem whileD_mono {c : Expr} {tc : TDb} {bs : List Stmt} {body : TDs} (hc : PDb X fr c tc) (hb : PDss X fr bs body) {A B : EndsD} (k : ∀ ρ', A.nx ρ' → B.nx ρ') (kr : ∀ s ρ', A.rt s ρ' → B.rt s ρ') :
    ∀ n ρ, whileD tc body A n ρ → whileD tc body B n ρ
  | 0, ρ, h => h
  | n + 1, ρ, h => hc.mono _ _ _ (fun b ρ1 h1 => by
    cases b with
    | true => rw [if_pos rfl] at h1 ⊢; exact hb.mono ρ1 { A with nx := whileD tc body A n } { B with nx := whileD tc body B n } (fun ρ2 => whileD_mono hc hb k kr n ρ2) kr h1
    | false => rw [if_neg Bool.false_ne_true] at h1 ⊢; exact k _ h1) h
theorem s_while {c : Expr} {tc : TDb} {bs : List Stmt} {body : TDs} (hp : PassesOwn (model X.prog X.w) X.A X.env X.xe) (hc : PDb X fr c tc) (hb : PDss X fr bs body) : PDs X fr (.While c bs [] pos) (tsWhile tc body) := by
  refine ⟨PS.imp (ps_while hp hc.run hb.run) ?_, fun ρ A B k kr ⟨n, h⟩ => ⟨n, whileD_mono hc hb k kr n ρ h⟩⟩
  rintro D σ H ⟨G, ρ, st, n, h⟩
  refine ⟨fun m σ H => ∃ G' ρ', Same G G' ∧ StR fr G' H σ ρ' ∧ whileD tc body (dn fr G D) m ρ', ⟨n, G, ρ, Same.refl _, st, h⟩, ?_⟩
  rintro m σ' H' ⟨G', ρ', g', st', q'⟩
  cases m with
  | zero => exact q'.elim
  | succ m =>
    refine LftT.into hc.mono st' q' fun b ρ1 G1 H1 q1 g1 st1 => ?_
    cases b with
    | true =>
      rw [if_pos rfl] at q1 ⊢
      refine ⟨fun σ2 H2 => ∃ G2 ρ2, Same G G2 ∧ StR fr G2 H2 σ2 ρ2 ∧ whileD tc body (dn fr G D) m ρ2, fun σ2 H2 z => ⟨m, Nat.lt_succ_self _, z⟩, ?_⟩
      exact LftS.into hb.mono st1 q1 (fun ρ4 σ4 G4 H4 q4 g4 st4 => ⟨G4, ρ4, g'.trans (g1.trans g4), st4, q4⟩) (fun s ρ4 σ4 v G4 H4 q4 g4 r4 => q4 _ _ _ _ (g'.trans (g1.trans g4)) r4)
    | false =>
      rw [if_neg Bool.false_ne_true] at q1 ⊢
      exact q1 _ _ _ (g'.trans g1) st1
end
end DL
namespace DL
open PySem PySem.Spec PyProof.Rows L2

/-! ### what is raised -/
abbrev Exn := Value × Option D
def ExR (G H : Hp) : Option Addr → Option D → Prop
  | none, none => True
  | some dx, some p => ∃ v, H dx = some (.xd [(("place" : Str), v)]) ∧ Is G v p
  | _, _ => False
abbrev WD := Exn → List Sl → Prop
def LftW (fr : Fr) (W : WD) : WX := fun cls d σ H => ∃ G ρ pl, StR fr G H σ ρ ∧ ExR G H d pl ∧ W (cls, pl) ρ
def W0 : WD := fun _ _ => False
theorem takesW0 {X : Cx} {fr : Fr} : Takes X (LftW fr W0) := fun u s' x => by
  obtain ⟨_, _, _, _, _, _, _, _, _, _, _, _, _, _, _, _, _, _, _, _, _, z⟩ := x
  exact z.elim

/-! ### what a def promises -/
abbrev SpD := List Sl → (Sl → List Sl → Prop) → (Exn → List Sl → Prop) → Prop
def Sl.pure : Sl → Prop
  | .lst _ => False
  | .ins _ _ => False
  | _ => True
def LftSp (ix : List Nat) (sp : SpD) : Sp := fun vs H Q E => ∃ (fr : Fr) (args : List Sl), fr.ix = ix ∧ StR fr fr.G0 H (vs.map some) args ∧ (∀ i s, args[i]? = some s → i ∈ ix ∨ s.pure) ∧
  sp args (fun r args' => ∀ v G' H', Same fr.G0 G' → RetR fr G' H' (vs.map some) args' v r → Q v H') (fun ex args' => ∀ d G' H', Same fr.G0 G' → StR fr G' H' (vs.map some) args' → ExR G' H' d ex.2 → E ex.1 d H')

/-! ### the arguments of a call -/
inductive AV where
  | d (x : D)
  | raw (v : V)
  | own (i : Nat)
def AvR (G : Hp) (σ : St) (v : V) : AV → Prop
  | .d x => Is G v x
  | .raw u => v = u
  | .own i => σ[i]? = some (some v)
inductive AvAll (G : Hp) (σ : St) : List V → List AV → Prop
  | nil : AvAll G σ [] []
  | cons {v vs a as} : AvR G σ v a → AvAll G σ vs as → AvAll G σ (v :: vs) (a :: as)
theorem AvR.mono {G G' : Hp} {σ : St} {v : V} {a : AV} (h : Same G G') (x : AvR G σ v a) : AvR G' σ v a := by
  cases a with
  | d y => exact Is.mono' h x
  | raw u => exact x
  | own i => exact x
theorem AvAll.mono {G G' : Hp} {σ : St} (h : Same G G') : ∀ {vs as}, AvAll G σ vs as → AvAll G' σ vs as
  | _, _, .nil => .nil
  | _, _, .cons x r => .cons (x.mono h) (r.mono h)
theorem AvAll.length {G : Hp} {σ : St} : ∀ {vs as}, AvAll G σ vs as → vs.length = as.length
  | _, _, .nil => rfl
  | _, _, .cons _ r => by rw [List.length_cons, List.length_cons, r.length]
theorem AvAll.get {G : Hp} {σ : St} : ∀ {vs as} {i : Nat} {a : AV}, AvAll G σ vs as → as[i]? = some a → ∃ v, vs[i]? = some v ∧ AvR G σ v a
  | _, _, _, _, .nil, e => by simp at e
  | _, _, 0, a, .cons x _, e => by simp at e; subst e; exact ⟨_, rfl, x⟩
  | _, _, i + 1, a, .cons _ r, e => by
    obtain ⟨v, h1, h2⟩ := AvAll.get (i := i) (a := a) r (by simpa using e)
    exact ⟨v, by simpa using h1, h2⟩
def rsv (ρ : List Sl) : AV → Sl
  | .d x => .val x
  | .raw v => .raw v fun _ => True
  | .own i => ρ[i]?.getD .no
def ownIx : List AV → List Nat
  | [] => []
  | .own i :: r => i :: ownIx r
  | .d _ :: r => ownIx r
  | .raw _ :: r => ownIx r
def ixOf : Nat → List AV → List Nat
  | _, [] => []
  | k, .own _ :: r => k :: ixOf (k + 1) r
  | k, .d _ :: r => ixOf (k + 1) r
  | k, .raw _ :: r => ixOf (k + 1) r
def wb : List AV → List Sl → List Sl → List Sl
  | .own i :: avs, s :: args, ρ => wb avs args (ρ.set i s)
  | .d _ :: avs, _ :: args, ρ => wb avs args ρ
  | .raw _ :: avs, _ :: args, ρ => wb avs args ρ
  | _, _, ρ => ρ
def pvOf : Nat → List AV → List V → List (Nat × V)
  | k, .own _ :: r, v :: vs => (k, v) :: pvOf (k + 1) r vs
  | k, .d _ :: r, _ :: vs => pvOf (k + 1) r vs
  | k, .raw _ :: r, _ :: vs => pvOf (k + 1) r vs
  | _, _, _ => []
theorem mem_ownIx : ∀ {avs : List AV} {i : Nat}, i ∈ ownIx avs ↔ ∃ j : Nat, avs[j]? = some (.own i)
  | [], i => by simp [ownIx]
  | .own k :: r, i => by
    unfold ownIx
    rw [List.mem_cons, mem_ownIx]
    constructor
    · rintro (rfl | ⟨j, h⟩)
      · exact ⟨0, rfl⟩
      · exact ⟨j + 1, by simpa using h⟩
    · rintro ⟨j, h⟩
      cases j with
      | zero => simp at h; exact .inl h.symm
      | succ j => exact .inr ⟨j, by simpa using h⟩
  | .d x :: r, i => by
    unfold ownIx
    rw [mem_ownIx]
    constructor
    · rintro ⟨j, h⟩; exact ⟨j + 1, by simpa using h⟩
    · rintro ⟨j, h⟩
      cases j with
      | zero => simp at h
      | succ j => exact ⟨j, by simpa using h⟩
  | .raw x :: r, i => by
    unfold ownIx
    rw [mem_ownIx]
    constructor
    · rintro ⟨j, h⟩; exact ⟨j + 1, by simpa using h⟩
    · rintro ⟨j, h⟩
      cases j with
      | zero => simp at h
      | succ j => exact ⟨j, by simpa using h⟩
theorem own_inj : ∀ {avs : List AV} {i j k : Nat}, (ownIx avs).Nodup → avs[j]? = some (.own i) → avs[k]? = some (.own i) → j = k
  | [], _, _, _, _, h, _ => by simp at h
  | a :: r, i, 0, 0, _, _, _ => rfl
  | a :: r, i, 0, k + 1, nd, h, h' => by
    simp at h; subst h
    unfold ownIx at nd
    exact absurd (mem_ownIx.mpr ⟨k, by simpa using h'⟩) (List.nodup_cons.mp nd).1
  | a :: r, i, j + 1, 0, nd, h, h' => by
    simp at h'; subst h'
    unfold ownIx at nd
    exact absurd (mem_ownIx.mpr ⟨j, by simpa using h⟩) (List.nodup_cons.mp nd).1
  | a :: r, i, j + 1, k + 1, nd, h, h' => by
    have nd' : (ownIx r).Nodup := by
      cases a with
      | own q => unfold ownIx at nd; exact (List.nodup_cons.mp nd).2
      | d q => unfold ownIx at nd; exact nd
      | raw q => unfold ownIx at nd; exact nd
    rw [own_inj (i := i) (j := j) (k := k) nd' (by simpa using h) (by simpa using h')]
theorem wb_length : ∀ (avs : List AV) (args ρ : List Sl), (wb avs args ρ).length = ρ.length
  | [], _, _ => by simp [wb]
  | .own i :: avs, [], ρ => by simp [wb]
  | .d x :: avs, [], ρ => by simp [wb]
  | .raw x :: avs, [], ρ => by simp [wb]
  | .own i :: avs, s :: args, ρ => by unfold wb; rw [wb_length avs args, List.length_set]
  | .d x :: avs, s :: args, ρ => by unfold wb; exact wb_length avs args ρ
  | .raw x :: avs, s :: args, ρ => by unfold wb; exact wb_length avs args ρ
theorem wb_out : ∀ (avs : List AV) (args ρ : List Sl) {i : Nat}, i ∉ ownIx avs → (wb avs args ρ)[i]? = ρ[i]?
  | [], _, _, i, _ => by simp [wb]
  | .own k :: avs, [], ρ, i, _ => by simp [wb]
  | .d x :: avs, [], ρ, i, _ => by simp [wb]
  | .raw x :: avs, [], ρ, i, _ => by simp [wb]
  | .own k :: avs, s :: args, ρ, i, h => by
    unfold ownIx at h
    rw [List.mem_cons, not_or] at h
    unfold wb
    rw [wb_out avs args _ h.2, List.getElem?_set_ne (Ne.symm h.1)]
  | .d x :: avs, s :: args, ρ, i, h => by unfold wb; exact wb_out avs args ρ h
  | .raw x :: avs, s :: args, ρ, i, h => by unfold wb; exact wb_out avs args ρ h
theorem wb_in : ∀ (avs : List AV) (args ρ : List Sl) {i j : Nat}, (ownIx avs).Nodup → args.length = avs.length → i < ρ.length → avs[j]? = some (.own i) → (wb avs args ρ)[i]? = args[j]?
  | [], _, _, i, j, _, _, _, h => by simp at h
  | a :: avs, [], ρ, i, j, _, hl, _, _ => by simp at hl
  | .own k :: avs, s :: args, ρ, i, 0, nd, hl, hi, h => by
    simp at h; subst h
    unfold ownIx at nd
    unfold wb
    rw [wb_out avs args _ (List.nodup_cons.mp nd).1, List.getElem?_set_self hi]
    rfl
  | .own k :: avs, s :: args, ρ, i, j + 1, nd, hl, hi, h => by
    unfold ownIx at nd
    unfold wb
    rw [wb_in avs args _ (i := i) (j := j) (List.nodup_cons.mp nd).2 (by simpa using hl) (by rw [List.length_set]; exact hi) (by simpa using h)]
    simp
  | .d x :: avs, s :: args, ρ, i, 0, nd, hl, hi, h => by simp at h
  | .d x :: avs, s :: args, ρ, i, j + 1, nd, hl, hi, h => by
    unfold wb
    rw [wb_in avs args _ (i := i) (j := j) nd (by simpa using hl) hi (by simpa using h)]
    simp
  | .raw x :: avs, s :: args, ρ, i, 0, nd, hl, hi, h => by simp at h
  | .raw x :: avs, s :: args, ρ, i, j + 1, nd, hl, hi, h => by
    unfold wb
    rw [wb_in avs args _ (i := i) (j := j) nd (by simpa using hl) hi (by simpa using h)]
    simp
theorem pv_ix : ∀ (avs : List AV) (vs : List V) (k : Nat), vs.length = avs.length → (pvOf k avs vs).map (·.1) = ixOf k avs
  | [], _, _, _ => by simp [pvOf, ixOf]
  | a :: avs, [], _, h => by simp at h
  | .own i :: avs, v :: vs, k, h => by unfold pvOf ixOf; rw [List.map_cons, pv_ix avs vs (k + 1) (by simpa using h)]
  | .d i :: avs, v :: vs, k, h => by unfold pvOf ixOf; exact pv_ix avs vs (k + 1) (by simpa using h)
  | .raw i :: avs, v :: vs, k, h => by unfold pvOf ixOf; exact pv_ix avs vs (k + 1) (by simpa using h)
theorem pv_get : ∀ (avs : List AV) (vs : List V) (k : Nat) (p : Nat × V), p ∈ pvOf k avs vs → k ≤ p.1 ∧ vs[p.1 - k]? = some p.2
  | [], _, _, _, h => by simp [pvOf] at h
  | .own i :: avs, [], _, p, h => by simp [pvOf] at h
  | .d i :: avs, [], _, p, h => by simp [pvOf] at h
  | .raw i :: avs, [], _, p, h => by simp [pvOf] at h
  | .own i :: avs, v :: vs, k, p, h => by
    unfold pvOf at h
    rcases List.mem_cons.mp h with rfl | h
    · simp
    · obtain ⟨h1, h2⟩ := pv_get avs vs (k + 1) p h
      refine ⟨by omega, ?_⟩
      have e : p.1 - k = (p.1 - (k + 1)) + 1 := by omega
      rw [e, List.getElem?_cons_succ]; exact h2
  | .d i :: avs, v :: vs, k, p, h => by
    unfold pvOf at h
    obtain ⟨h1, h2⟩ := pv_get avs vs (k + 1) p h
    refine ⟨by omega, ?_⟩
    have e : p.1 - k = (p.1 - (k + 1)) + 1 := by omega
    rw [e, List.getElem?_cons_succ]; exact h2
  | .raw i :: avs, v :: vs, k, p, h => by
    unfold pvOf at h
    obtain ⟨h1, h2⟩ := pv_get avs vs (k + 1) p h
    refine ⟨by omega, ?_⟩
    have e : p.1 - k = (p.1 - (k + 1)) + 1 := by omega
    rw [e, List.getElem?_cons_succ]; exact h2
theorem mem_ixOf : ∀ (avs : List AV) (k j : Nat), (∃ i, avs[j]? = some (.own i)) → k + j ∈ ixOf k avs
  | [], _, _, ⟨i, h⟩ => by simp at h
  | .own q :: avs, k, 0, _ => by unfold ixOf; simp
  | .d q :: avs, k, 0, ⟨i, h⟩ => by simp at h
  | .raw q :: avs, k, 0, ⟨i, h⟩ => by simp at h
  | .own q :: avs, k, j + 1, ⟨i, h⟩ => by
    unfold ixOf
    have := mem_ixOf avs (k + 1) j ⟨i, by simpa using h⟩
    rw [show k + (j + 1) = k + 1 + j by omega]
    exact List.mem_cons_of_mem _ this
  | .d q :: avs, k, j + 1, ⟨i, h⟩ => by
    unfold ixOf
    have := mem_ixOf avs (k + 1) j ⟨i, by simpa using h⟩
    rw [show k + (j + 1) = k + 1 + j by omega]
    exact this
  | .raw q :: avs, k, j + 1, ⟨i, h⟩ => by
    unfold ixOf
    have := mem_ixOf avs (k + 1) j ⟨i, by simpa using h⟩
    rw [show k + (j + 1) = k + 1 + j by omega]
    exact this
open Classical in
/-- things are lent to a callee, and come back -/
theorem lend {fr : Fr} {G H : Hp} {σ : St} {ρ : List Sl} {vs : List V} {avs : List AV} (st : StR fr G H σ ρ) (av : AvAll G σ vs avs) (nd : (ownIx avs).Nodup) :
    ∃ frc : Fr, frc.G0 = G ∧ frc.ix = ixOf 0 avs ∧ StR frc G H (vs.map some) (avs.map (rsv ρ)) ∧ (∀ i s, (avs.map (rsv ρ))[i]? = some s → i ∈ ixOf 0 avs ∨ s.pure) ∧
      ∀ G' H' args', args'.length = avs.length → Same G G' → (∀ v r, RetR frc G' H' (vs.map some) args' v r → RetR fr G' H' σ (wb avs args' ρ) v r) := by
  obtain ⟨fp, x⟩ := st.sl
  have fq : ∀ j : Nat, ∃ l : List Addr, (∀ i, avs[j]? = some (.own i) → l = fp i) ∧ ((∀ i, avs[j]? ≠ some (.own i)) → l = []) := fun j => by
    cases e : avs[j]? with
    | none => exact ⟨[], fun i h => (by cases h), fun _ => rfl⟩
    | some a =>
      cases a with
      | own i => exact ⟨fp i, fun k h => (by cases h; rfl), fun h => absurd rfl (h i)⟩
      | d _ => exact ⟨[], fun i h => (by cases h), fun _ => rfl⟩
      | raw _ => exact ⟨[], fun i h => (by cases h), fun _ => rfl⟩
  let fc : Nat → List Addr := fun j => (fq j).choose
  have fc1 : ∀ (j i : Nat), avs[j]? = some (.own i) → fc j = fp i := fun j => (fq j).choose_spec.1
  have fc2 : ∀ (j : Nat), (∀ i, avs[j]? ≠ some (.own i)) → fc j = [] := fun j => (fq j).choose_spec.2
  have fcm : ∀ j a, a ∈ fc j → ∃ i, avs[j]? = some (.own i) ∧ a ∈ fp i := fun j a ha => by
    by_cases h : ∃ i, avs[j]? = some (.own i)
    · obtain ⟨i, e⟩ := h
      exact ⟨i, e, by rw [← fc1 j i e]; exact ha⟩
    · rw [fc2 j fun i e => h ⟨i, e⟩] at ha; cases ha
  have ownlt : ∀ (j i : Nat), avs[j]? = some (.own i) → ∃ v s, vs[j]? = some v ∧ σ[i]? = some (some v) ∧ ρ[i]? = some s ∧ i < ρ.length := fun j i e => by
    obtain ⟨v, h1, h2⟩ := av.get e
    have h2 : σ[i]? = some (some v) := h2
    have hl : i < ρ.length := by rw [← st.len]; exact (List.getElem?_eq_some_iff.mp h2).1
    exact ⟨v, ρ[i], h1, h2, by simp [hl], hl⟩
  refine ⟨⟨fun b => if ∃ i ∈ ownIx avs, b ∈ fp i then none else H b, G, pvOf 0 avs vs⟩, rfl, pv_ix avs vs 0 av.length, ⟨st.gh, fun b u e => ?_, Same.refl _, fun b o e => .inl e, fun p hp => ?_, ?_, fc, fun j s e => ?_, fun j k a ha hk => ?_, fun j a ha => ?_⟩, fun j s e => ?_, fun G' H' args' hl gg v r ret => ?_⟩
  · have e : (if ∃ i ∈ ownIx avs, b ∈ fp i then none else H b) = some u := e
    split at e
    · cases e
    · exact e
  · obtain ⟨_, h2⟩ := pv_get avs vs 0 p hp
    rw [Nat.sub_zero] at h2
    rw [List.getElem?_map, h2]; rfl
  · rw [List.length_map, List.length_map]; exact av.length
  · rw [List.getElem?_map] at e
    cases ea : avs[j]? with
    | none => rw [ea] at e; cases e
    | some a =>
      rw [ea] at e
      have e : rsv ρ a = s := Option.some.inj e
      obtain ⟨v, h1, h2⟩ := av.get ea
      refine ⟨some v, by rw [List.getElem?_map, h1]; rfl, ?_⟩
      cases a with
      | d y => subst e; rw [fc2 j fun i q => by rw [ea] at q; cases q]; exact .val h2
      | raw u => subst e; rw [fc2 j fun i q => by rw [ea] at q; cases q]; have h2 : v = u := h2; subst h2; exact .raw fun _ _ => trivial
      | own i =>
        obtain ⟨v', s', k1, k2, k3, k4⟩ := ownlt j i ea
        rw [h1] at k1; cases k1
        have es : s = s' := by rw [← e]; show ρ[i]?.getD .no = s'; rw [k3]; rfl
        subst es
        obtain ⟨o, q1, q2⟩ := x.at' i s k3
        rw [k2] at q1; cases q1
        rw [fc1 j i ea]; exact q2
  · obtain ⟨i, e1, m1⟩ := fcm j a ha
    obtain ⟨i', e2, m2⟩ := fcm k a hk
    have := x.apart i i' a m1 m2
    subst this
    exact own_inj nd e1 e2
  · obtain ⟨i, e1, m1⟩ := fcm j a ha
    refine ⟨(x.own i a m1).1, ?_, by rw [List.length_map]; exact (List.getElem?_eq_some_iff.mp e1).1⟩
    show (if ∃ i ∈ ownIx avs, a ∈ fp i then none else H a) = none
    rw [if_pos ⟨i, mem_ownIx.mpr ⟨j, e1⟩, m1⟩]
  · rw [List.getElem?_map] at e
    cases ea : avs[j]? with
    | none => rw [ea] at e; cases e
    | some a =>
      rw [ea] at e
      have e : rsv ρ a = s := Option.some.inj e
      cases a with
      | d y => subst e; exact .inr trivial
      | raw u => subst e; exact .inr trivial
      | own i => exact .inl (by have := mem_ixOf avs 0 j ⟨i, ea⟩; rwa [Nat.zero_add] at this)
  · -- back
    have Fin : ∀ b, (∃ i ∈ ownIx avs, b ∈ fp i) → (if ∃ i ∈ ownIx avs, b ∈ fp i then none else H b) = none := fun b h => if_pos h
    have Fout : ∀ b, ¬ (∃ i ∈ ownIx avs, b ∈ fp i) → (if ∃ i ∈ ownIx avs, b ∈ fp i then none else H b) = H b := fun b h => if_neg h
    have lentF : ∀ b, (∃ i ∈ ownIx avs, b ∈ fp i) → fr.F b = none := fun b ⟨i, _, m⟩ => (x.own i b m).2.1
    have keepH : ∀ b u, H b = some u → ¬ (∃ i ∈ ownIx avs, b ∈ fp i) → H' b = some u := fun b u e n => ret.fh b u (by show (if ∃ i ∈ ownIx avs, b ∈ fp i then none else H b) = some u; rw [Fout b n]; exact e)
    obtain ⟨fd, as, y, ys, yn⟩ := ret.sl
    have noneF : ∀ b, (if ∃ i ∈ ownIx avs, b ∈ fp i then none else H b) = none → fr.F b = none := fun b e => by
      by_cases h : ∃ i ∈ ownIx avs, b ∈ fp i
      · exact lentF b h
      · rw [Fout b h] at e; exact st.fh.free e
    -- slots that were not lent
    have other : ∀ i a, i ∉ ownIx avs → a ∈ fp i → H' a = H a ∧ G' a = none ∧ ¬ (∃ k ∈ ownIx avs, a ∈ fp k) := fun i a hi ha => by
      have n : ¬ (∃ k ∈ ownIx avs, a ∈ fp k) := fun ⟨k, hk, m⟩ => hi (x.apart k i a m ha ▸ hk)
      obtain ⟨u, e⟩ := x.there ha
      refine ⟨by rw [e, keepH a u e n], ?_, n⟩
      cases q : G' a with
      | none => rfl
      | some o =>
        rcases ret.fg a o q with z | z
        · have z : G a = some o := z
          rw [(x.own i a ha).1] at z; cases z
        · have z : (if ∃ i ∈ ownIx avs, a ∈ fp i then none else H a) = none := z
          rw [Fout a n, e] at z; cases z
    let ff : Nat → List Addr := fun i => if h : ∃ j : Nat, avs[j]? = some (.own i) then fd h.choose else fp i
    have ff1 : ∀ (i j : Nat), avs[j]? = some (.own i) → ff i = fd j := fun i j e => by
      have h : ∃ j : Nat, avs[j]? = some (.own i) := ⟨j, e⟩
      show (if h : ∃ j : Nat, avs[j]? = some (.own i) then fd h.choose else fp i) = fd j
      rw [dif_pos h, own_inj nd h.choose_spec e]
    have ff2 : ∀ i, i ∉ ownIx avs → ff i = fp i := fun i e => by
      show (if h : ∃ j : Nat, avs[j]? = some (.own i) then fd h.choose else fp i) = fp i
      rw [dif_neg fun h => e (mem_ownIx.mpr h)]
    have apartDO : ∀ j i a, a ∈ fd j → i ∉ ownIx avs → a ∈ fp i → False := fun j i a ha hi m => by
      obtain ⟨h1, _, h3⟩ := other i a hi m
      obtain ⟨u, e⟩ := x.there m
      have z : (if ∃ i ∈ ownIx avs, a ∈ fp i then none else H a) = none := (y.own j a ha).2.1
      rw [Fout a h3, e] at z; cases z
    refine ⟨ret.gh, fun b u e => keepH b u (st.fh b u e) fun h => (by rw [lentF b h] at e; cases e), st.g0.trans gg, fun b o e => ?_, st.pv, by rw [wb_length]; exact st.len, ff, as, ⟨fun i s e => ?_, fun i k a ha hk => ?_, fun i a ha => ?_⟩, ys, fun a ha => ?_⟩
    · rcases ret.fg b o e with z | z
      · exact st.fg b o z
      · exact .inr (noneF b z)
    · by_cases hi : i ∈ ownIx avs
      · obtain ⟨j, ej⟩ := mem_ownIx.mp hi
        obtain ⟨v', s', k1, k2, k3, k4⟩ := ownlt j i ej
        rw [wb_in avs args' ρ nd hl k4 ej] at e
        obtain ⟨o, q1, q2⟩ := y.at' j s e
        rw [List.getElem?_map, k1] at q1
        cases q1
        exact ⟨_, k2, by rw [ff1 i j ej]; exact q2⟩
      · rw [wb_out avs args' ρ hi] at e
        obtain ⟨o, q1, q2⟩ := x.at' i s e
        refine ⟨o, q1, ?_⟩
        rw [ff2 i hi]
        exact q2.keep gg fun a ha => (other i a hi ha).1
    · by_cases hi : i ∈ ownIx avs <;> by_cases hk' : k ∈ ownIx avs
      · obtain ⟨j, ej⟩ := mem_ownIx.mp hi
        obtain ⟨j', ej'⟩ := mem_ownIx.mp hk'
        rw [ff1 i j ej] at ha; rw [ff1 k j' ej'] at hk
        have := y.apart j j' a ha hk
        subst this
        rw [ej] at ej'; cases ej'; rfl
      · obtain ⟨j, ej⟩ := mem_ownIx.mp hi
        rw [ff1 i j ej] at ha; rw [ff2 k hk'] at hk
        exact (apartDO j k a ha hk' hk).elim
      · obtain ⟨j, ej⟩ := mem_ownIx.mp hk'
        rw [ff2 i hi] at ha; rw [ff1 k j ej] at hk
        exact (apartDO j i a hk hi ha).elim
      · rw [ff2 i hi] at ha; rw [ff2 k hk'] at hk
        exact x.apart i k a ha hk
    · rw [wb_length]
      by_cases hi : i ∈ ownIx avs
      · obtain ⟨j, ej⟩ := mem_ownIx.mp hi
        rw [ff1 i j ej] at ha
        obtain ⟨v', s', k1, k2, k3, k4⟩ := ownlt j i ej
        exact ⟨(y.own j a ha).1, noneF a (y.own j a ha).2.1, k4⟩
      · rw [ff2 i hi] at ha
        exact ⟨(other i a hi ha).2.1, (x.own i a ha).2⟩
    · obtain ⟨h1, h2, h3⟩ := yn a ha
      refine ⟨h1, noneF a h2, fun i hi => ?_⟩
      by_cases hi' : i ∈ ownIx avs
      · obtain ⟨j, ej⟩ := mem_ownIx.mp hi'
        rw [ff1 i j ej] at hi
        exact h3 j hi
      · rw [ff2 i hi'] at hi
        obtain ⟨k1, _, k3⟩ := other i a hi' hi
        obtain ⟨u, e⟩ := x.there hi
        have z : (if ∃ i ∈ ownIx avs, a ∈ fp i then none else H a) = none := h2
        rw [Fout a k3, e] at z; cases z
end DL
namespace DL
open PySem PySem.Spec PyProof.Rows L2

/-! ### argument lists of calls -/
abbrev TDa := List Sl → (List AV → List Sl → Prop) → Prop
def LftV (fr : Fr) (t : TDa) : TA := fun σ H Q => ∃ G ρ, StR fr G H σ ρ ∧ t ρ fun avs ρ' => ∀ vs G' H', Same G G' → StR fr G' H' σ ρ' → AvAll G' σ vs avs → Q vs H'
structure PDa (X : Cx) (fr : Fr) (es : List Expr) (t : TDa) : Prop where
  run : PA X es (LftV fr t)
  mono : ∀ ρ (A B : List AV → List Sl → Prop), (∀ d ρ', A d ρ' → B d ρ') → t ρ A → t ρ B
theorem LftV.into {fr : Fr} {t : TDa} {σ : St} {G H : Hp} {ρ : List Sl} {Q : List V → Hp → Prop} {A : List AV → List Sl → Prop} (mono : ∀ ρ (A B : List AV → List Sl → Prop), (∀ d ρ', A d ρ' → B d ρ') → t ρ A → t ρ B) (st : StR fr G H σ ρ) (h : t ρ A)
    (k : ∀ d ρ' v G' H', A d ρ' → Same G G' → StR fr G' H' σ ρ' → AvAll G' σ v d → Q v H') : LftV fr t σ H Q :=
  ⟨G, ρ, st, mono _ _ _ (fun d ρ' q v G' H' g s r => k d ρ' v G' H' q g s r) h⟩
def taNil : TDa := fun ρ K => K [] ρ
def taCons (ta : TD) (tl : TDa) : TDa := fun ρ K => ta ρ fun x ρ1 => tl ρ1 fun xs ρ2 => K (.d x :: xs) ρ2
/-- a slot's own thing is lent -/
def taOwn (i : Nat) (tl : TDa) : TDa := fun ρ K => (match ρ[i]? with
  | some (.lst _) => True
  | some (.ins _ _) => True
  | some (.raw _ _) => True
  | _ => False) ∧ tl ρ fun xs ρ2 => K (.own i :: xs) ρ2
section
variable {X : Cx} {fr : Fr} {e a b c : Expr} {es : List Expr} {ta tb : TD} {tl : TDa} {pos : Pos}
theorem a_nil : PDa X fr [] taNil := by
  refine ⟨PA.imp pa_nil ?_, fun ρ A B k h => k _ _ h⟩
  rintro σ H Q ⟨G, ρ, st, h⟩
  exact h _ _ _ (Same.refl _) st .nil
theorem a_cons (ha : PD X fr a ta) (hl : PDa X fr es tl) (hs : starEach (a :: es) X.env = (false, eval a X.env) :: starEach es X.env := by rfl) : PDa X fr (a :: es) (taCons ta tl) := by
  refine ⟨PA.imp (pa_cons ha.run hl.run hs) ?_, fun ρ A B k h => ha.mono _ _ _ (fun x ρ1 h1 => hl.mono _ _ _ (fun xs ρ2 => k _ _) h1) h⟩
  rintro σ H Q ⟨G, ρ, st, h⟩
  refine Lft.into ha.mono st h fun x ρ1 v G1 H1 q1 g1 st1 r1 => ?_
  exact LftV.into hl.mono st1 q1 fun xs ρ2 vs G2 H2 q2 g2 st2 r2 => q2 _ _ _ (g1.trans g2) st2 (.cons (Is.mono' g2 r1) r2)
theorem a_own {i : Nat} {x : Str} {p : Pos} (hN : X.N[i]? = some x) (hv : Vis X.env.scope x) (hl : PDa X fr es tl) (hs : starEach (.Name x p :: es) X.env = (false, eval (.Name x p) X.env) :: starEach es X.env := by rfl)
    (hd : (x == ("__debug__" : Str)) = false := by decide) (hcd : (x == ("__classdict__" : Str)) = false := by decide) : PDa X fr (.Name x p :: es) (taOwn i tl) := by
  refine ⟨PA.imp (pa_cons (pe_var hN hv hd hcd) hl.run hs) ?_, fun ρ A B k h => ⟨h.1, hl.mono _ _ _ (fun xs ρ2 => k _ _) h.2⟩⟩
  rintro σ H Q ⟨G, ρ, st, h1, h⟩
  have key : ∃ v, σ[i]? = some (some v) := by
    split at h1
    · rename_i e
      obtain ⟨o, bs, q1, q2, _⟩ := st.at e
      cases q2; exact ⟨_, q1⟩
    · rename_i e
      obtain ⟨o, bs, q1, q2, _⟩ := st.at e
      cases q2; exact ⟨_, q1⟩
    · rename_i e
      obtain ⟨o, bs, q1, q2, _⟩ := st.at e
      cases q2; exact ⟨_, q1⟩
    · exact h1.elim
  obtain ⟨v, ev⟩ := key
  exact ⟨v, ev, LftV.into hl.mono st h fun xs ρ2 vs G2 H2 q2 g2 st2 r2 => q2 _ _ _ g2 st2 (.cons ev r2)⟩

/-! ### the call of a def -/
def tfCall (ix : List Nat) (sp : SpD) (W : WD) (ta : TDa) : TDf := fun ρ K => ta ρ fun avs ρ1 => (ownIx avs).Nodup ∧ ixOf 0 avs = ix ∧
  sp (avs.map (rsv ρ1)) (fun s args => K s (wb avs args ρ1)) (fun ex args => W ex (wb avs args ρ1))
/-- a promise that asks no more when more is wanted of less -/
def SpMono (sp : SpD) : Prop := ∀ args (R R' : Sl → List Sl → Prop) (E E' : Exn → List Sl → Prop), (∀ s a, R s a → R' s a) → (∀ x a, E x a → E' x a) → sp args R E → sp args R' E'
theorem call_into {ix : List Nat} {sp : SpD} {W : WD} (mo : SpMono sp) (ha : PDa X fr es tl) : ∀ σ H Q, LftF fr (tfCall ix sp W tl) σ H Q → tCallS (LftSp ix sp) (WE (LftW fr W)) (LftV fr tl) σ H Q := by
  rintro σ H Q ⟨G, ρ, st, h⟩
  refine LftV.into ha.mono st h fun avs ρ1 vs G1 H1 q g st1 av => ?_
  obtain ⟨nd, hix, q⟩ := q
  obtain ⟨frc, c1, c2, c3, c4, c5⟩ := lend st1 av nd
  have hlen : ∀ {args : List Sl}, (vs.map some).length = args.length → args.length = avs.length := fun {args} e => by
    rw [List.length_map, av.length] at e
    exact e.symm
  refine ⟨frc, avs.map (rsv ρ1), c2.trans hix, by rw [c1]; exact c3, fun i s e => by rw [← hix]; exact c4 i s e, mo _ _ _ _ _ (fun s args z => ?_) (fun ex args z => ?_) q⟩
  · intro v G2 H2 gg ret
    rw [c1] at gg
    exact z _ _ _ (g.trans gg) (c5 G2 H2 args (hlen ret.len) gg v s ret)
  · intro d G2 H2 gg st2 ee
    rw [c1] at gg
    exact ⟨G2, _, ex.2, (c5 G2 H2 args (hlen st2.len) gg .non (.val .none) (st2.ret .non)).st, ee, z⟩
theorem call_mono {ix : List Nat} {sp : SpD} {W : WD} (mo : SpMono sp) (ha : PDa X fr es tl) : ∀ ρ (A B : Sl → List Sl → Prop), (∀ s ρ', A s ρ' → B s ρ') → tfCall ix sp W tl ρ A → tfCall ix sp W tl ρ B := fun ρ A B k h =>
  ha.mono _ _ _ (fun avs ρ1 ⟨h1, h2, h3⟩ => ⟨h1, h2, mo _ _ _ _ _ (fun s a z => k _ _ z) (fun _ _ z => z) h3⟩) h
theorem pf_call {k : Nat} {f : Addr} {fd : FuncData} {ps : List Str} {x : Str} {p : Pos} {ix : List Nat} {sp : SpD} {W : WD} (F : FnOk X.prog X.w X.K X.mg X.base (L2.CX X.prog X.w) k f fd ps (LftSp ix sp)) (mo : SpMono sp) (hr : Room k X.A) (hg : Gl X x) (hm : X.mg x = some (.ref f))
    (hk : PySem.W.keepIn X.K (.ref f) = true) (hb : Binds X.K fd ps []) (tk : Takes X (LftW fr W)) (ha : PDa X fr (a :: es) tl) (hdb : (x == ("__debug__" : Str)) = false := by decide) (he : starEach (a :: es) X.env = (false, eval a X.env) :: starEach es X.env := by rfl)
    (hpl : (backTo pos (starEach es X.env)).any (·.1) = false := by rfl) : PF X fr (.Call (.Name x p) (a :: es) [] pos) (tfCall ix sp W tl) :=
  ⟨PE.imp (pe_callS F hr hg hm hk hb (fun σ => passAt tk σ) ha.run hdb he hpl) (call_into mo ha), call_mono mo ha⟩
/-- where what comes back stays -/
def tdCall (ix : List Nat) (sp : SpD) (W : WD) (ta : TDa) : TD := tdFz (tfCall ix sp W ta)
end

/-! ### a def's body -/
def back (ix : List Nat) (args ρ : List Sl) : List Sl := args.zipIdx.map fun p => if ix.contains p.2 then ρ[p.2]?.getD .no else p.1
theorem back_get {ix : List Nat} {args ρ : List Sl} {i : Nat} : (back ix args ρ)[i]? = args[i]?.map fun s => if ix.contains i then ρ[i]?.getD .no else s := by
  unfold back
  rw [List.getElem?_map, List.getElem?_zipIdx]
  cases args[i]? with
  | none => rfl
  | some s => simp
theorem back_len {ix : List Nat} {args ρ : List Sl} : (back ix args ρ).length = args.length := by unfold back; rw [List.length_map, List.length_zipIdx]
theorem back_ret {fr : Fr} {H G' H' : Hp} {σ' : St} {args ρ' : List Sl} {vs : List V} {v : V} {r : Sl} (st : StR fr fr.G0 H (vs.map some) args) (hp : ∀ i s, args[i]? = some s → i ∈ fr.ix ∨ s.pure) (gg : Same fr.G0 G') (ret : RetR fr G' H' σ' ρ' v r) :
    RetR fr G' H' (vs.map some) (back fr.ix args ρ') v r := by
  obtain ⟨fp, as, x, ys, yn⟩ := ret.sl
  refine ⟨ret.gh, ret.fh, ret.g0, ret.fg, st.pv, by rw [back_len]; exact st.len, fun i => if i ∈ fr.ix ∧ i < args.length then fp i else [], as, ⟨fun i s e => ?_, fun i k a ha hk => ?_, fun i a ha => ?_⟩, ys, fun a ha => ?_⟩
  · rw [back_get] at e
    cases ea : args[i]? with
    | none => rw [ea] at e; cases e
    | some t =>
      rw [ea] at e
      have hl : i < args.length := (List.getElem?_eq_some_iff.mp ea).1
      have e : (if fr.ix.contains i = true then ρ'[i]?.getD .no else t) = s := Option.some.inj e
      obtain ⟨fp0, x0⟩ := st.sl
      obtain ⟨o, h1, h2⟩ := x0.at' i t ea
      generalize fp0 i = l0 at h2
      refine ⟨o, h1, ?_⟩
      by_cases hi : i ∈ fr.ix
      · rw [if_pos (by simpa using hi)] at e
        rw [if_pos ⟨hi, hl⟩]
        obtain ⟨p, hp1, hp2⟩ := List.mem_map.mp hi
        have q1 := st.pv p hp1
        have q2 := ret.pv p hp1
        rw [hp2] at q1 q2
        rw [h1] at q1
        have hl' : i < ρ'.length := by rw [← ret.len]; exact (List.getElem?_eq_some_iff.mp q2).1
        have ee : ρ'[i]? = some s := by
          have z : ρ'[i]? = some ρ'[i] := by simp [hl']
          rw [z] at e ⊢
          exact congrArg some e
        obtain ⟨o', k1, k2⟩ := x.at' i s ee
        rw [q2] at k1
        cases k1
        cases q1
        exact k2
      · rw [if_neg (by simpa using hi)] at e
        rw [if_neg (fun z => hi z.1)]
        subst e
        rcases hp i t ea with z | z
        · exact absurd z hi
        · cases h2 with
          | no => exact .no
          | val d => exact .val (Is.mono' gg d)
          | raw t => exact .raw fun G2 g2 => t G2 (gg.trans g2)
          | lst _ _ => exact z.elim
          | ins _ _ => exact z.elim
  · by_cases c1 : i ∈ fr.ix ∧ i < args.length <;> by_cases c2 : k ∈ fr.ix ∧ k < args.length
    · rw [if_pos c1] at ha; rw [if_pos c2] at hk; exact x.apart i k a ha hk
    · rw [if_neg c2] at hk; cases hk
    · rw [if_neg c1] at ha; cases ha
    · rw [if_neg c1] at ha; cases ha
  · by_cases c1 : i ∈ fr.ix ∧ i < args.length
    · rw [if_pos c1] at ha
      exact ⟨(x.own i a ha).1, (x.own i a ha).2.1, by rw [back_len]; exact c1.2⟩
    · rw [if_neg c1] at ha; cases ha
  · obtain ⟨h1, h2, h3⟩ := yn a ha
    refine ⟨h1, h2, fun i hi => ?_⟩
    dsimp only at hi
    by_cases c1 : i ∈ fr.ix ∧ i < args.length
    · exact h3 i (by rw [if_pos c1] at hi; exact hi)
    · rw [if_neg c1] at hi; cases hi
theorem StR.ext {fr : Fr} {G H : Hp} {σ : St} {ρ : List Sl} (st : StR fr G H σ ρ) (n : Nat) : StR fr G H (σ ++ List.replicate n none) (ρ ++ List.replicate n .no) := by
  obtain ⟨fp, x⟩ := st.sl
  refine ⟨st.gh, st.fh, st.g0, st.fg, fun p hp => ?_, by rw [List.length_append, List.length_append, List.length_replicate, List.length_replicate, st.len], fp, ⟨fun i s e => ?_, x.apart, fun i a ha => ?_⟩⟩
  · have q := st.pv p hp
    have hl := (List.getElem?_eq_some_iff.mp q).1
    rw [List.getElem?_append_left hl]; exact q
  · by_cases hl : i < ρ.length
    · rw [List.getElem?_append_left hl] at e
      obtain ⟨o, h1, h2⟩ := x.at' i s e
      exact ⟨o, by rw [List.getElem?_append_left (by rw [st.len]; exact hl)]; exact h1, h2⟩
    · rw [List.getElem?_append_right (by omega), List.getElem?_replicate] at e
      split at e
      · cases e
        rename_i hn
        have hf : fp i = [] := by
          cases q : fp i with
          | nil => rfl
          | cons b l => exact absurd (x.own i b (by rw [q]; simp)).2.2 hl
        refine ⟨none, ?_, by rw [hf]; exact .no⟩
        rw [List.getElem?_append_right (by rw [st.len]; omega), List.getElem?_replicate, st.len, if_pos hn]
      · cases e
  · obtain ⟨h1, h2, h3⟩ := x.own i a ha
    exact ⟨h1, h2, by rw [List.length_append]; omega⟩
section
variable {P : Program} {w : World} {K : PySem.W.Frag} {mg : Str → Option Value} {base : Heap}
/-- the context of a def's body -/
abbrev bcx (P : Program) (w : World) (K : PySem.W.Frag) (mg : Str → Option Value) (base : Heap) (N : List Str) (qual : Str) (st : Stmt) (f : Addr) (cdv : Value) (A : Around) (outer : List Env) (s : Shared) (H : Hp) (E : XK) : Cx :=
  cxOf (L2.CX P w) P w K mg base N qual (defScope st) f cdv A outer s H E
/-- THE RULE: a def keeps its promise over data by its body's reading over data -/
theorem fnD {x qual : Str} {st : Stmt} {f : Addr} {fd : FuncData} {N ps : List Str} {k : Nat} (ix : List Nat) (sp : SpD) (tb : WD → TDs) (F : Fun K x qual st f fd) (S : FnScope N ps (defScope st)) (len : ∀ args R E, sp args R E → args.length = ps.length)
    (hterm : ∀ (cdv : Value) (A : Around) (outer : List Env) (s : Shared) (H : Hp) (E : XK) (fr : Fr) (W : WD), Room k (A.deeper (envOfC qual (defScope st) s.heap.objs.size f cdv)) → fr.ix = ix → Takes (bcx P w K mg base N qual st f cdv A outer s H E) (LftW fr W) →
      PDss (bcx P w K mg base N qual st f cdv A outer s H E) fr (defBody st) (tb W))
    (hbody : ∀ args R E, (∀ i s, args[i]? = some s → i ∈ ix ∨ s.pure) → sp args R E → tb (fun ex ρ => E ex (back ix args ρ)) ⟨fun ρ => R (.val .none) (back ix args ρ), fun s ρ => R s (back ix args ρ)⟩ (args ++ List.replicate (N.length - args.length) .no)) :
    FnOk P w K mg base (L2.CX P w) (k + 1) f fd ps (LftSp ix sp) := by
  refine F.okX S (fun vs H Q E h => ?_) (fun cdv A outer s H vs Q E hr h => ?_)
  · obtain ⟨fr, args, _, st, _, h⟩ := h
    have := st.len
    rw [List.length_map] at this
    rw [this]; exact len _ _ _ h
  · obtain ⟨fr, args, hix, st, hp, h⟩ := h
    subst hix
    have z := hbody args _ _ hp h
    have pd := hterm cdv A outer s H E fr (fun ex ρ => ∀ d G' H', Same fr.G0 G' → StR fr G' H' (vs.map some) (back fr.ix args ρ) → ExR G' H' d ex.2 → E ex.1 d H') hr rfl (Takes.imp (takes_of (E₁ := fun e' s'' => L2.CX P w outer H s E e' s'') rfl rfl rfl rfl) fun c d σ H2 q => by
      obtain ⟨G2, ρ2, pl, st2, ee, q⟩ := q
      exact q d G2 H2 st2.g0 (back_ret st hp st2.g0 (st2.ret .non)).st ee)
    refine ⟨_, pd.run, fr.G0, _, ?_, pd.mono _ _ _ (fun ρ q => ?_) (fun s ρ q => ?_) z⟩
    · have e : N.length - args.length = N.length - vs.length := by rw [← st.len, List.length_map]
      have := st.ext (N.length - args.length)
      unfold L2.start
      rw [e] at this ⊢
      exact this
    · intro σ' G' H' gg st2
      exact q .non G' H' gg (back_ret st hp gg (st2.ret .non))
    · intro σ' v G' H' gg ret
      exact q v G' H' gg (back_ret st hp gg ret)
end
end DL
namespace DL
open PySem PySem.Spec PyProof.Rows L2

/-! ### raise -/
def tsRaise (W : WD) (cls : Value) : TDs := fun _ ρ => W (cls, none) ρ
section
variable {X : Cx} {fr : Fr} {e a b c : Expr} {es : List Expr} {ta tb : TD} {pos : Pos}
theorem s_raise {W : WD} {C : Addr} {x m : Str} {j : Nat} {p p2 pos2 : Pos} {bmB : List Value} {B newId initId : String} (hc : X.calm = true) (tk : Takes X (LftW fr W)) (F : ExcBaseFacts B newId initId bmB) (q : PySem.W.excIn X.K C bmB newId = true) (gC : X.mg x = some (.ref C)) (kC : PySem.W.keepIn X.K (.ref C) = true)
    (r : Raises X (.ref C)) (hg : Gl X x) (hdb : (x == ("__debug__" : Str)) = false := by decide) : PDs X fr (.Raise (some (.Call (.Name x p) [.Constant (.str m) j p2] [] pos)) none pos2) (tsRaise W (.ref C)) := by
  refine ⟨PS.imp (ps_raise hc tk (pmk_own F q gC kC r hg hdb)) ?_, fun ρ A B _ _ h => h⟩
  rintro D σ H ⟨G, ρ, st, h⟩
  exact ⟨G, ρ, none, st, trivial, h⟩

/-! ### what an owned list does -/
/-- a method of the list that slot i owns: g tells its items behind it and what comes back -/
def isLst (ρ : List Sl) (i : Nat) : Prop := match ρ[i]? with
  | some (.lst _) => True
  | _ => False
def onLst (ρ : List Sl) (i : Nat) (K : List D → Prop) : Prop := match ρ[i]? with
  | some (.lst xs) => K xs
  | _ => False
theorem isLst_get {ρ : List Sl} {i : Nat} (h : isLst ρ i) : ∃ xs, ρ[i]? = some (.lst xs) := by
  unfold isLst at h
  split at h
  · exact ⟨_, by assumption⟩
  · exact h.elim
theorem onLst_get {ρ : List Sl} {i : Nat} {K : List D → Prop} (h : onLst ρ i K) : ∃ xs, ρ[i]? = some (.lst xs) ∧ K xs := by
  unfold onLst at h
  split at h
  · exact ⟨_, by assumption, h⟩
  · exact h.elim
theorem onLst_mono {ρ : List Sl} {i : Nat} {K K' : List D → Prop} (k : ∀ xs, K xs → K' xs) (h : onLst ρ i K) : onLst ρ i K' := by
  unfold onLst at h ⊢
  split at h
  · exact k _ h
  · exact h.elim
def tdMeth (i : Nat) (g : List D → List D → Option (List D × D)) (t : TDl) : TD := fun ρ K => isLst ρ i ∧ t ρ fun ds ρ1 => onLst ρ1 i fun xs => opt (g xs ds) fun z => K z.2 (ρ1.set i (.lst z.1))
def MtOk (r : V → List V → Hp → VK → Prop) (g : List D → List D → Option (List D × D)) : Prop := ∀ G H a vs us xs ds z (Q : VK), Same G H → H a = some (.lst vs) → G a = none → IsAll G vs xs → IsAll G us ds → g xs ds = some z →
  (∀ v vs', IsAll G vs' z.1 → Is G v z.2 → Q v (upd H a (.lst vs'))) → r (.ref a) us H Q
theorem tyList {K : Fg} {H : Hp} {a : Addr} {vs : List V} (h : H a = some (.lst vs)) : tyV K "list" (.ref a) H := .inl ⟨rfl, _, SqL.of h⟩
theorem pd_meth {i : Nat} {x name : Str} {id : String} {p apos : Pos} {tl : TDl} {r : V → List V → Hp → VK → Prop} {g : List D → List D → Option (List D × D)} (slot : Slot "list" name id) (hty : typeOf (.builtin id) = pure (.type "method_descriptor")) (hm : MtR X id r) (hr : MtOk r g)
    (hN : X.N[i]? = some x) (hv : Vis X.env.scope x) (hl : PDl X fr (e :: es) tl) (hd : (x == ("__debug__" : Str)) = false := by decide) (hcd : (x == ("__classdict__" : Str)) = false := by decide)
    (hbase : attributeBase (.Name x p) name X.env (eval (.Name x p) X.env) = eval (.Name x p) X.env := by rfl)
    (hfew : ((backTo pos (starEach (e :: es) X.env)).all (fun x => !x.1) && (backToKw pos (keywordEach [] X.env)).all (fun x => x.1.isSome)
      && decide ((e :: es).length + ([] : List Keyword).length + (if ([] : List Keyword).isEmpty then 0 else 1) < 30)) = true := by rfl)
    (hline : (apos.endLine == pos.line) = true := by rfl) (hs : starEach (e :: es) X.env = (false, eval e X.env) :: starEach es X.env := by rfl) (hplain : (backTo pos (starEach es X.env)).any (·.1) = false := by rfl) :
    PD X fr (.Call (.Attribute (.Name x p) name apos) (e :: es) [] pos) (tdMeth i g tl) := by
  refine ⟨PE.imp (pe_bm PySem.F.plainAttrs_list slot hty hm (pe_var hN hv hd hcd) hl.run hbase hfew hline hs hplain) ?_, fun ρ A B k h => ⟨h.1, hl.mono _ _ _ (fun ds ρ1 => onLst_mono fun xs => opt_mono fun z => k _ _) h.2⟩⟩
  rintro σ H Q ⟨G, ρ, st, h0, h⟩
  obtain ⟨xs0, e0⟩ := isLst_get h0
  obtain ⟨a, vs0, s1, s2, _⟩ := st.lstAt e0
  refine ⟨_, s1, tyList s2, LftA.into hl.mono st h fun ds ρ1 us G1 H1 q g1 st1 r1 => ?_⟩
  obtain ⟨xs, e1, q⟩ := onLst_get q
  obtain ⟨a', vs, k1, k2, k3, k4, k5, _⟩ := st1.lstAt e1
  rw [s1] at k1
  cases k1
  obtain ⟨z, hz, k⟩ := opt_get q
  exact hr G1 H1 a vs us xs ds z Q st1.gh k2 k4 k3 r1 hz fun v vs' rv rz => k _ _ _ g1 (k5 vs' z.1 rv) rz
/-- .. without arguments -/
theorem pd_meth0 {i : Nat} {x name : Str} {id : String} {p apos : Pos} {r : V → List V → Hp → VK → Prop} {g : List D → List D → Option (List D × D)} (slot : Slot "list" name id) (hty : typeOf (.builtin id) = pure (.type "method_descriptor")) (hm : MtR X id r) (hr : MtOk r g)
    (hN : X.N[i]? = some x) (hv : Vis X.env.scope x) (hd : (x == ("__debug__" : Str)) = false := by decide) (hcd : (x == ("__classdict__" : Str)) = false := by decide)
    (hbase : attributeBase (.Name x p) name X.env (eval (.Name x p) X.env) = eval (.Name x p) X.env := by rfl) (hline : (apos.endLine == pos.line) = true := by rfl) :
    PD X fr (.Call (.Attribute (.Name x p) name apos) [] [] pos) (tdMeth i g tdNil) := by
  refine ⟨PE.imp (pe_bm0 PySem.F.plainAttrs_list slot hty hm (pe_var hN hv hd hcd) hbase hline) ?_, fun ρ A B k h => ⟨h.1, onLst_mono (fun xs => opt_mono fun z => k _ _) h.2⟩⟩
  rintro σ H Q ⟨G, ρ, st, h0, h⟩
  obtain ⟨xs, e1, q⟩ := onLst_get h
  obtain ⟨a, vs, k1, k2, k3, k4, k5, _⟩ := st.lstAt e1
  obtain ⟨z, hz, k⟩ := opt_get q
  exact ⟨_, k1, tyList k2, hr G H a vs [] xs [] z Q st.gh k2 k4 k3 .nil hz fun v vs' rv rz => k _ _ _ (Same.refl _) (k5 vs' z.1 rv) rz⟩
def gAppend : List D → List D → Option (List D × D) := fun xs ds => match ds with
  | [d] => if xs.length < sizeLine then some (xs ++ [d], .none) else none
  | _ => none
theorem ok_append : MtOk rAppend gAppend := by
  intro G H a vs us xs ds z Q gh ha ga rx ru hz k
  cases ru with
  | nil => cases hz
  | cons r1 r2 =>
    cases r2 with
    | cons _ _ => cases hz
    | nil =>
      simp only [gAppend] at hz
      split at hz
      · cases hz
        exact ⟨a, vs, _, rfl, rfl, ha, by rw [IsAll.length' rx]; assumption, k _ _ (IsAll.app' rx (.cons r1 .nil)) .non⟩
      · cases hz
def gPopAt : List D → List D → Option (List D × D) := fun xs ds => match ds with
  | [.int i] => if -(2 ^ 63) ≤ i ∧ i < 2 ^ 63 then (ixN xs.length i).bind fun k => xs[k]?.map fun y => (xs.eraseIdx k, y) else none
  | _ => none
theorem ok_popAt : MtOk rPopAt gPopAt := by
  intro G H a vs us xs ds z Q gh ha ga rx ru hz k
  cases ru with
  | nil => cases hz
  | cons r1 r2 =>
    cases r2 with
    | cons _ _ => cases r1 <;> cases hz
    | nil =>
      cases r1 with
      | int i =>
        simp only [gPopAt] at hz
        split at hz
        · rename_i hb
          cases e1 : ixN xs.length i with
          | none => rw [e1] at hz; cases hz
          | some j =>
            rw [e1] at hz
            cases e2 : xs[j]? with
            | none => simp [e2] at hz
            | some y =>
              simp [e2] at hz
              subst hz
              obtain ⟨v, h1, h2⟩ := rx.get' e2
              have hl := IsAll.length' rx
              exact ⟨a, vs, i, j, v, rfl, rfl, ha, hb.1, hb.2, by rw [hl]; exact (ixN_seq e1).1, h1, k _ _ (IsAll.erase' j rx) h2⟩
        · cases hz
      | _ => cases hz
def gPop : List D → List D → Option (List D × D) := fun xs ds => match ds with
  | [] => xs[xs.length - 1]?.map fun y => (xs.dropLast, y)
  | _ => none
theorem IsAll.dropLast' {G : Hp} : ∀ {ds : List D} {vs : List V}, IsAll G vs ds → IsAll G vs.dropLast ds.dropLast
  | _, _, .nil => .nil
  | _, _, .cons a .nil => .nil
  | _, _, .cons a (.cons b r) => .cons a (IsAll.dropLast' (.cons b r))
theorem ok_pop : MtOk rPop gPop := by
  intro G H a vs us xs ds z Q gh ha ga rx ru hz k
  cases ru with
  | cons _ _ => cases hz
  | nil =>
  unfold gPop at hz
  cases e2 : xs[xs.length - 1]? with
  | none => simp [e2] at hz
  | some y =>
    simp [e2] at hz
    subst hz
    obtain ⟨v, h1, h2⟩ := rx.get' e2
    exact ⟨a, vs, v, rfl, rfl, ha, by rw [IsAll.length' rx]; exact h1, k _ _ (IsAll.dropLast' rx) h2⟩
def gInsert : List D → List D → Option (List D × D) := fun xs ds => match ds with
  | [.int i, y] => if xs.length < sizeLine ∧ 0 ≤ i ∧ i < 2 ^ 63 then some (xs.take i.toNat ++ [y] ++ xs.drop i.toNat, .none) else none
  | _ => none
theorem ok_insert : MtOk (fun x vs H Q => ∃ (l : Addr) (xs : List V) (i : Int) (y : V), x = .ref l ∧ vs = [.int i, y] ∧ H l = some (.lst xs) ∧ xs.length < sizeLine ∧ 0 ≤ i ∧ i < 2 ^ 63 ∧
    Q .non (upd H l (.lst (xs.take i.toNat ++ [y] ++ xs.drop i.toNat)))) gInsert := by
  intro G H a vs us xs ds z Q gh ha ga rx ru hz k
  cases ru with
  | nil => cases hz
  | cons r1 r2 =>
    cases r2 with
    | nil => cases r1 <;> cases hz
    | cons r3 r4 =>
      cases r4 with
      | cons _ _ => cases r1 <;> cases hz
      | nil =>
        cases r1 with
        | int i =>
          simp only [gInsert] at hz
          split at hz
          · rename_i hb
            cases hz
            exact ⟨a, vs, i, _, rfl, rfl, ha, by rw [IsAll.length' rx]; exact hb.1, hb.2.1, hb.2.2, k _ _ (IsAll.app' (IsAll.app' (IsAll.take' _ rx) (.cons r3 .nil)) (IsAll.drop' _ rx)) .non⟩
          · cases hz
        | _ => cases hz
/-- xs[i] = e, xs a list that slot i owns -/
def tsSetIx (i : Nat) (te ti : TD) : TDs := fun D ρ => te ρ fun y ρ1 => isLst ρ1 i ∧ ti ρ1 fun k ρ2 => onLst ρ2 i fun xs => match k with
  | .int k => opt (ixN xs.length k) fun j => D.nx (ρ2.set i (.lst (xs.set j y)))
  | _ => False
theorem s_setIx {i : Nat} {x : Str} {p : Pos} {tp : Pos} (hN : X.N[i]? = some x) (hv : Vis X.env.scope x) (he : PD X fr e ta) (hi : PD X fr a tb) (hd : (x == ("__debug__" : Str)) = false := by decide) (hcd : (x == ("__classdict__" : Str)) = false := by decide)
    (hass : ∀ v, assign (.Subscript (.Name x p) a tp) X.env v = (do
      let ov ← holding [v] (eval (.Name x p) X.env)
      let iv ← holding [v, ov] (eval a X.env)
      standAt tp
      holding [v, ov, iv] (setItem ov iv v)
      release [v, ov, iv] []) := by intro _; rfl)
    (hs : swapsWithSole [.Subscript (.Name x p) a tp] e pos.line X.env = pure false := by rfl) (hw : swappedStores [.Subscript (.Name x p) a tp] e X.env = pure none := by rfl)
    (h1 : (assignEach [.Subscript (.Name x p) a tp] X.env).map (·.2) = [assign (.Subscript (.Name x p) a tp) X.env] := by rfl) : PDs X fr (.Assign [.Subscript (.Name x p) a tp] e pos) (tsSetIx i ta tb) := by
  refine ⟨PS.imp (ps_asg he.run (pg_sub (pe_var hN hv hd hcd) hi.run set_list hass) hs hw h1) ?_, fun ρ A B k _ h => he.mono _ _ _ (fun y ρ1 ⟨z1, z2⟩ => ⟨z1, hi.mono _ _ _ (fun j ρ2 => onLst_mono fun xs z => by
    cases j with
    | int j => exact opt_mono (fun _ => k _) z
    | _ => exact z) z2⟩) h⟩
  rintro D σ H ⟨G, ρ, st, h⟩
  refine Lft.into he.mono st h fun y ρ1 v G1 H1 q g1 st1 r1 => ?_
  obtain ⟨h0, q⟩ := q
  obtain ⟨xs0, e0⟩ := isLst_get h0
  obtain ⟨l, vs0, s1, s2, _⟩ := st1.lstAt e0
  refine ⟨_, s1, Lft.into hi.mono st1 q fun j ρ2 u G2 H2 q2 g2 st2 r2 => ?_⟩
  obtain ⟨xs, e1, q2⟩ := onLst_get q2
  obtain ⟨a', vs, k1, k2, k3, k4, k5, _⟩ := st2.lstAt e1
  rw [s1] at k1
  cases k1
  cases r2 with
  | int j =>
    obtain ⟨n, hn, q2⟩ := opt_get q2
    exact ⟨l, vs, j, n, rfl, rfl, k2, by rw [IsAll.length' k3]; exact hn, q2 _ _ _ (g1.trans g2) (k5 _ _ (IsAll.set' (Is.mono' g2 r1) n k3))⟩
  | _ => exact q2.elim

/-! ### owned lists looked at -/
/-- xs[e] -/
def tdIxO (i : Nat) (ti : TD) : TD := fun ρ K => isLst ρ i ∧ ti ρ fun k ρ1 => onLst ρ1 i fun xs => match k with
  | .int k => opt (atI xs k) fun d => K d ρ1
  | _ => False
theorem at_get {G : Hp} {vs : List V} {xs : List D} {i : Int} {d : D} (r : IsAll G vs xs) (h : atI xs i = some d) : ∃ v, atI vs i = some v ∧ Is G v d := by
  unfold atI at h ⊢
  rw [IsAll.length' r]
  cases e : ixN xs.length i with
  | none => rw [e] at h; cases h
  | some j =>
    rw [e] at h
    obtain ⟨v, h1, h2⟩ := r.get' h
    exact ⟨v, h1, h2⟩
theorem σ_same {ρ ρ' : List Sl} {G H : Hp} {σ : St} {i : Nat} {xs : List D} {l : Addr} (st : StR fr G H σ ρ) (e : ρ[i]? = some (.lst xs)) (s1 : σ[i]? = some (some (.ref l))) : ∃ vs, H l = some (.lst vs) ∧ IsAll G vs xs := by
  obtain ⟨a', vs, k1, k2, k3, _⟩ := st.lstAt e
  rw [s1] at k1
  cases k1
  exact ⟨vs, k2, k3⟩
theorem pd_ixO {i : Nat} {x : Str} {p : Pos} (hN : X.N[i]? = some x) (hv : Vis X.env.scope x) (hi : PD X fr a ta) (hs : PlainIx a) (hd : (x == ("__debug__" : Str)) = false := by decide) (hcd : (x == ("__classdict__" : Str)) = false := by decide) :
    PD X fr (.Subscript (.Name x p) a pos) (tdIxO i ta) := by
  refine ⟨PE.imp (pe_ix ix_list (pe_var hN hv hd hcd) hi.run hs) ?_, fun ρ A B k h => ⟨h.1, hi.mono _ _ _ (fun j ρ2 => onLst_mono fun xs z => by
    cases j with
    | int j => exact opt_mono (fun _ => k _ _) z
    | _ => exact z) h.2⟩⟩
  rintro σ H Q ⟨G, ρ, st, h0, h⟩
  obtain ⟨xs0, e0⟩ := isLst_get h0
  obtain ⟨l, vs0, s1, s2, _⟩ := st.lstAt e0
  refine ⟨_, s1, Lft.into hi.mono st h fun j ρ2 u G2 H2 q2 g2 st2 r2 => ?_⟩
  obtain ⟨xs, e1, q2⟩ := onLst_get q2
  obtain ⟨vs, k2, k3⟩ := σ_same (ρ' := ρ2) st2 e1 s1
  cases r2 with
  | int j =>
    obtain ⟨d, hd', q2⟩ := opt_get q2
    obtain ⟨w', hw, rw'⟩ := at_get k3 hd'
    exact ⟨l, vs, j, w', rfl, rfl, SqL.of k2, hw, q2 _ _ _ g2 st2 rw'⟩
  | _ => exact q2.elim
/-- len(xs) -/
def tdLenO (i : Nat) : TD := fun ρ K => onLst ρ i fun xs => K (.int xs.length) ρ
theorem pd_lenO {i : Nat} {x : Str} {p q : Pos} (hN : X.N[i]? = some x) (hv : Vis X.env.scope x) (hg : Gl X "len") (hm : X.mg "len" = none) (hd : (x == ("__debug__" : Str)) = false := by decide) (hcd : (x == ("__classdict__" : Str)) = false := by decide)
    (he : starEach (.Name x p :: []) X.env = (false, eval (.Name x p) X.env) :: starEach [] X.env := by rfl) (hpl : (backTo pos (starEach [] X.env)).any (·.1) = false := by rfl) :
    PD X fr (.Call (.Name "len" q) [.Name x p] [] pos) (tdLenO i) := by
  refine ⟨PE.imp (pe_callB call_len_seq hg hm PySem.boot_len (pa_cons (pe_var hN hv hd hcd) pa_nil he) (by decide) (by decide) he hpl) ?_, fun ρ A B k h => onLst_mono (fun xs => k _ _) h⟩
  rintro σ H Q ⟨G, ρ, st, h⟩
  obtain ⟨xs, e1, q2⟩ := onLst_get h
  obtain ⟨l, vs, s1, s2, s3, _⟩ := st.lstAt e1
  refine ⟨_, s1, l, vs, rfl, .inl (SqL.of s2), ?_⟩
  rw [IsAll.length' s3]
  exact q2 _ _ _ (Same.refl _) st (.int _)
end
end DL
namespace DL
open PySem PySem.Spec PyProof.Rows L2

/-! ### comprehensions -/
def wipeD (ρ : List Sl) : List Nat → List Sl
  | [] => ρ
  | v :: vs => (wipeD ρ vs).set v .no
def Sl.keep : Sl → Sl
  | .val d => .val d
  | .raw v T => .raw v T
  | _ => .no
def restD (ρ1 ρ2 : List Sl) : List Nat → List Sl
  | [] => ρ2
  | v :: vs => (restD ρ1 ρ2 vs).set v ((ρ1[v]?.getD .no).keep)
theorem StR.wipe {fr : Fr} {G H : Hp} {σ : St} {ρ : List Sl} (st : StR fr G H σ ρ) : ∀ {vs : List Nat}, (∀ v ∈ vs, v ∉ fr.ix) → StR fr G H (L2.wipe σ vs) (wipeD ρ vs)
  | [], _ => st
  | v :: vs, h => (StR.wipe st fun w hw => h w (List.mem_cons_of_mem _ hw)).setNo none (h v List.mem_cons_self)
theorem restD_len {ρ1 ρ2 : List Sl} : ∀ {vs : List Nat}, (restD ρ1 ρ2 vs).length = ρ2.length
  | [] => rfl
  | v :: vs => by unfold restD; rw [List.length_set, restD_len]
theorem restD_out {ρ1 ρ2 : List Sl} {i : Nat} : ∀ {vs : List Nat}, i ∉ vs → (restD ρ1 ρ2 vs)[i]? = ρ2[i]?
  | [], _ => rfl
  | v :: vs, h => by
    have h1 : v ≠ i := fun e => h (e ▸ List.mem_cons_self)
    unfold restD
    rw [List.getElem?_set_ne h1, restD_out fun z => h (List.mem_cons_of_mem _ z)]
theorem restD_in {ρ1 ρ2 : List Sl} {i : Nat} (hl : i < ρ2.length) : ∀ {vs : List Nat}, i ∈ vs → (restD ρ1 ρ2 vs)[i]? = some ((ρ1[i]?.getD .no).keep)
  | [], h => by simp at h
  | v :: vs, h => by
    unfold restD
    by_cases e : v = i
    · subst e
      rw [List.getElem?_set_self (by rw [restD_len]; exact hl)]
    · rw [List.getElem?_set_ne e]
      exact restD_in hl ((List.mem_cons.mp h).resolve_left fun z => e z.symm)
theorem unwipe {fr : Fr} {G1 H1 G H : Hp} {σ : St} {ρ1 ρ2 : List Sl} {vs : List Nat} {v : V} {s : Sl} (st1 : StR fr G1 H1 σ ρ1) (gg : Same G1 G) (hv : ∀ v ∈ vs, v ∉ fr.ix) (ret : RetR fr G H (L2.wipe σ vs) ρ2 v s) :
    RetR fr G H σ (restD ρ1 ρ2 vs) v s := by
  obtain ⟨fp, as, x, ys, yn⟩ := ret.sl
  have hlen : σ.length = ρ2.length := by rw [← ret.len, wipe_length]
  refine ⟨ret.gh, ret.fh, ret.g0, ret.fg, st1.pv, by rw [restD_len]; exact hlen, fun i => if i ∈ vs then [] else fp i, as, ⟨fun i t e => ?_, fun i k a ha hk => ?_, fun i a ha => ?_⟩, ys, fun a ha => ?_⟩
  · by_cases hi : i ∈ vs
    · have hl : i < ρ2.length := by
        have := (List.getElem?_eq_some_iff.mp e).1
        rw [restD_len] at this; exact this
      rw [restD_in hl hi] at e
      have e := Option.some.inj e
      rw [if_pos hi]
      have hl1 : i < ρ1.length := by rw [← st1.len, hlen]; exact hl
      obtain ⟨fp0, x0⟩ := st1.sl
      obtain ⟨o, h1, h2⟩ := x0.at' i ρ1[i] (by simp [hl1])
      refine ⟨o, h1, ?_⟩
      have e' : (ρ1[i]).keep = t := by rw [← e]; simp [hl1]
      subst e'
      generalize fp0 i = l0 at h2
      generalize ρ1[i] = z at h2
      cases h2 with
      | no => exact .no
      | val d => exact .val (Is.mono' gg d)
      | raw t => exact .raw fun G2 g2 => t G2 (gg.trans g2)
      | lst _ _ => exact .no
      | ins _ _ => exact .no
    · rw [restD_out hi] at e
      rw [if_neg hi]
      obtain ⟨o, h1, h2⟩ := x.at' i t e
      rw [wipe_out hi] at h1
      exact ⟨o, h1, h2⟩
  · by_cases c1 : i ∈ vs <;> by_cases c2 : k ∈ vs
    · rw [if_pos c1] at ha; cases ha
    · rw [if_pos c1] at ha; cases ha
    · rw [if_pos c2] at hk; cases hk
    · rw [if_neg c1] at ha; rw [if_neg c2] at hk; exact x.apart i k a ha hk
  · by_cases c1 : i ∈ vs
    · rw [if_pos c1] at ha; cases ha
    · rw [if_neg c1] at ha
      rw [restD_len]; exact x.own i a ha
  · obtain ⟨h1, h2, h3⟩ := yn a ha
    refine ⟨h1, h2, fun i hi => ?_⟩
    dsimp only at hi
    by_cases c1 : i ∈ vs
    · rw [if_pos c1] at hi; cases hi
    · rw [if_neg c1] at hi; exact h3 i hi
/-- a thing handed back is shut away -/
theorem RetR.shut {fr : Fr} {G H : Hp} {σ : St} {ρ : List Sl} {D : Addr} {xs : List PyData} (ret : RetR fr G H σ ρ (.ref D) (.lst xs)) : ∃ vs, H D = some (.lst vs) ∧ IsAll G vs xs ∧ G D = none ∧ fr.F D = none ∧ StR ⟨upd fr.F D (.lst vs), G, fr.pv⟩ G H σ ρ := by
  obtain ⟨fp, as, x, ys, yn⟩ := ret.sl
  cases ys with
  | lst ha hd =>
    rename_i vs
    obtain ⟨g1, g2, g3⟩ := yn D (by simp)
    refine ⟨vs, ha, hd, g1, g2, ret.gh, fun b u e => ?_, Same.refl _, fun b o e => .inl e, ret.pv, ret.len, fp, x.at', x.apart, fun i a ha' => ?_⟩
    · have e : upd fr.F D (.lst vs) b = some u := e
      by_cases hb : b = D
      · subst hb; rw [upd_same] at e; cases e; exact ha
      · rw [upd_ne hb] at e; exact ret.fh b u e
    · obtain ⟨h1, h2, h3⟩ := x.own i a ha'
      refine ⟨h1, ?_, h3⟩
      show upd fr.F D (.lst vs) a = none
      rw [upd_ne fun z => g3 i (by rw [← z]; exact ha')]; exact h2
/-- .. and opened again, otherwise -/
theorem unshut {fr : Fr} {G G' H' : Hp} {σ : St} {ρ : List Sl} {D : Addr} {o : HO} {xs : List PyData} {vs : List V} (g0 : Same fr.G0 G) (fg : ∀ b o, G b = some o → fr.G0 b = some o ∨ fr.F b = none) (gD : G D = none) (fD : fr.F D = none)
    (st : StR ⟨upd fr.F D o, G, fr.pv⟩ G' H' σ ρ) (r : IsAll G' vs xs) : RetR fr G' (upd H' D (.lst vs)) σ ρ (.ref D) (.lst xs) := by
  obtain ⟨fp, x⟩ := st.sl
  have nG : G' D = none := by
    cases q : G' D with
    | none => rfl
    | some u =>
      rcases st.fg D u q with z | z
      · have z : G D = some u := z
        rw [gD] at z; cases z
      · have z : upd fr.F D o D = none := z
        rw [upd_same] at z; cases z
  have nfp : ∀ i a, a ∈ fp i → a ≠ D := fun i a ha z => by
    subst z
    have q : upd fr.F a o a = none := (x.own i a ha).2.1
    rw [upd_same] at q; cases q
  have noF : ∀ b, upd fr.F D o b = none → fr.F b = none := fun b e => by
    by_cases hb : b = D
    · subst hb; exact fD
    · rw [upd_ne hb] at e; exact e
  refine ⟨fun b u e => ?_, fun b u e => ?_, g0.trans st.g0, fun b u e => ?_, st.pv, st.len, fp, [D], ⟨fun i s e => ?_, x.apart, fun i a ha => ?_⟩, .lst upd_same r, fun a ha => ?_⟩
  · rw [upd_ne (ne_of_none e nG)]; exact st.gh b u e
  · have hb : b ≠ D := ne_of_none e fD
    rw [upd_ne hb]
    exact st.fh b u (by show upd fr.F D o b = some u; rw [upd_ne hb]; exact e)
  · rcases st.fg b u e with z | z
    · exact fg b u z
    · exact .inr (noF b z)
  · obtain ⟨o', h1, h2⟩ := x.at' i s e
    exact ⟨o', h1, h2.keep (Same.refl _) fun a ha => upd_ne (nfp i a ha)⟩
  · obtain ⟨h1, h2, h3⟩ := x.own i a ha
    exact ⟨h1, noF a h2, h3⟩
  · have e : a = D := by simpa using ha
    subst e
    exact ⟨nG, fD, fun i hi => nfp i a hi rfl⟩

def lcD (g : TDg) (tt : TDb) (te : TD) (vs : List Nat) : List PyData → List PyData → List Sl → (List PyData → List Sl → Prop) → Prop
  | [], acc, ρ, K => K acc ρ
  | x :: xs, acc, ρ, K => g x ρ fun ρ1 => tt ρ1 fun b ρ2 => if b = true then te ρ2 fun y ρ3 => acc.length < sizeLine ∧ lcD g tt te vs xs (acc ++ [y]) (wipeD ρ3 vs) K else lcD g tt te vs xs acc (wipeD ρ2 vs) K
def tfLc (ti : TDl) (g : TDg) (tt : TDb) (te : TD) (vs : List Nat) : TDf := fun ρ K => ti ρ fun items ρ1 => lcD g tt te vs items [] (wipeD ρ1 vs) fun ys ρ2 => K (.lst ys) (restD ρ1 ρ2 vs)
def tdYes : TDb := fun ρ K => K true ρ
def XG (ix : List Nat) (ixs : List Nat) (t : TDg) : TG := fun v σ H Q => ∃ fr : Fr, fr.ix = ix ∧ LftGx fr ixs t v σ H Q
def XT (ix : List Nat) (t : TDb) : TT := fun σ H Q => ∃ fr : Fr, fr.ix = ix ∧ LftT fr t σ H Q
def XE' (ix : List Nat) (t : TD) : TE := fun σ H Q => ∃ fr : Fr, fr.ix = ix ∧ Lft fr t σ H Q
section
variable {X : Cx} {fr : Fr} {e elt tg iter : Expr} {ti : TDl} {g : TDg} {tt : TDb} {te : TD} {ixs : List Nat}
theorem lcD_mono {vs : List Nat} (mg : ∀ d ρ (A B : List Sl → Prop), (∀ ρ', A ρ' → B ρ') → g d ρ A → g d ρ B) (mt : ∀ ρ (A B : Bool → List Sl → Prop), (∀ d ρ', A d ρ' → B d ρ') → tt ρ A → tt ρ B) (me : ∀ ρ (A B : DK), (∀ d ρ', A d ρ' → B d ρ') → te ρ A → te ρ B)
    {A B : List PyData → List Sl → Prop} (k : ∀ ys ρ, A ys ρ → B ys ρ) : ∀ items acc ρ, lcD g tt te vs items acc ρ A → lcD g tt te vs items acc ρ B
  | [], acc, ρ, h => k _ _ h
  | x :: xs, acc, ρ, h => mg _ _ _ _ (fun ρ1 h1 => mt _ _ _ (fun b ρ2 h2 => by
    cases b with
    | true => rw [if_pos rfl] at h2 ⊢; exact me _ _ _ (fun y ρ3 ⟨h3, h4⟩ => ⟨h3, lcD_mono mg mt me k xs _ _ h4⟩) h2
    | false => rw [if_neg Bool.false_ne_true] at h2 ⊢; exact lcD_mono mg mt me k xs _ _ h2) h1) h
theorem lc_into {vs : List Nat} (hv : ∀ v ∈ vs, v ∉ fr.ix) (hx : ∀ i ∈ ixs, i ∈ vs) (mi : ∀ ρ (A B : List D → List Sl → Prop), (∀ d ρ', A d ρ' → B d ρ') → ti ρ A → ti ρ B) (mg : ∀ d ρ (A B : List Sl → Prop), (∀ ρ', A ρ' → B ρ') → g d ρ A → g d ρ B)
    (mt : ∀ ρ (A B : Bool → List Sl → Prop), (∀ d ρ', A d ρ' → B d ρ') → tt ρ A → tt ρ B) (me : ∀ ρ (A B : DK), (∀ d ρ', A d ρ' → B d ρ') → te ρ A → te ρ B) :
    ∀ σ H Q, LftF fr (tfLc ti g tt te vs) σ H Q → tLc (LftI fr ti) (XG fr.ix ixs g) (XT fr.ix tt) (XE' fr.ix te) vs σ H Q := by
  rintro σ H Q ⟨G, ρ, st, h⟩
  refine LftI.into mi st h fun items ρ1 J G1 H1 q g1 st1 hJ => ?_
  intro Dl hD
  have w1 := StR.wipe st1 hv
  have r1 : RetR fr G1 (upd H1 Dl (.lst [])) (L2.wipe σ vs) (wipeD ρ1 vs) (.ref Dl) (.lst []) := w1.newL hD .nil
  refine ⟨fun i m H => m = items.length - i ∧ i ≤ items.length ∧ ∃ G' ρ' acc, Same G1 G' ∧ RetR fr G' H (L2.wipe σ vs) ρ' (.ref Dl) (.lst acc) ∧ lcD g tt te vs (items.drop i) acc ρ' (fun ys ρ2 => ∀ v G' H', Same G G' → RetR fr G' H' σ (restD ρ1 ρ2 vs) v (.lst ys) → Q v H'), ⟨_, rfl, Nat.zero_le _, G1, _, [], Same.refl _, r1, q⟩, ?_⟩
  rintro i m H' ⟨rfl, hi', G', ρ', acc, g', ret, q'⟩
  obtain ⟨vacc, d1, d2, d3, d4, sst⟩ := ret.shut
  obtain ⟨js, jy⟩ := hJ _ _ _ _ _ sst g'
  by_cases hlt : i < items.length
  · have ei : items[i]? = some items[i] := by simp [hlt]
    obtain ⟨go, yl⟩ := jy i _ ei
    have ed : items.drop i = items[i] :: items.drop (i + 1) := List.drop_eq_getElem_cons hlt
    rw [ed] at q'
    refine .inr ⟨go, fun H2 => ∃ G2 ρ2 acc2, Same G1 G2 ∧ RetR fr G2 H2 (L2.wipe σ vs) ρ2 (.ref Dl) (.lst acc2) ∧ lcD g tt te vs (items.drop (i + 1)) acc2 ρ2 (fun ys ρ2 => ∀ v G' H', Same G G' → RetR fr G' H' σ (restD ρ1 ρ2 vs) v (.lst ys) → Q v H'),
      fun H2 ⟨G2, ρ2, acc2, z1, z2, z3⟩ => ⟨items.length - (i + 1), by omega, rfl, hlt, G2, ρ2, acc2, z1, z2, z3⟩, fun x H2 y => ?_⟩
    obtain ⟨G2, g2, st2, r2⟩ := yl x H2 y
    refine ⟨⟨upd fr.F Dl (.lst vacc), G', fr.pv⟩, rfl, G2, ρ', _, st2, r2, mg _ _ _ _ (fun ρ3 q3 σ3 G3 H3 wv g3 st3 => ?_) q'⟩
    have wv' : L2.wipe σ3 vs = L2.wipe σ vs := by
      rw [wv vs hx]
      have : ∀ (vs : List Nat) (σ : St), L2.wipe (L2.wipe σ vs) vs = L2.wipe σ vs := by
        intro us τ
        apply List.ext_getElem?
        intro j
        by_cases hj : j ∈ us
        · have wi : ∀ (us : List Nat) (τ : St), j ∈ us → j < τ.length → (L2.wipe τ us)[j]? = some none := by
            intro us
            induction us with
            | nil => intro τ h; simp at h
            | cons u us ih =>
              intro τ h hl
              unfold L2.wipe
              by_cases e : u = j
              · subst e; rw [List.getElem?_set_self (by rw [wipe_length]; exact hl)]
              · rw [List.getElem?_set_ne e]
                exact ih τ ((List.mem_cons.mp h).resolve_left fun z => e z.symm) hl
          by_cases hl : j < τ.length
          · rw [wi us _ hj (by rw [wipe_length]; exact hl), wi us _ hj hl]
          · rw [List.getElem?_eq_none (by rw [wipe_length, wipe_length]; omega), List.getElem?_eq_none (by rw [wipe_length]; omega)]
        · rw [wipe_out hj]
      exact this vs σ
    refine ⟨wv', ⟨upd fr.F Dl (.lst vacc), G', fr.pv⟩, rfl, G3, ρ3, st3, mt _ _ _ (fun b ρ4 q4 G4 H4 g4 st4 => ?_) q3⟩
    have hv' : ∀ v ∈ vs, v ∉ (⟨upd fr.F Dl (.lst vacc), G', fr.pv⟩ : Fr).ix := hv
    cases b with
    | true =>
      dsimp only
      rw [if_pos rfl] at q4 ⊢
      refine ⟨⟨upd fr.F Dl (.lst vacc), G', fr.pv⟩, rfl, G4, ρ4, st4, me _ _ _ (fun y ρ5 q5 v5 G5 H5 g5 st5 r5 => ?_) q4⟩
      obtain ⟨hs, q5⟩ := q5
      have gg := g2.trans (g3.trans (g4.trans g5))
      refine ⟨vacc, st5.fh Dl _ upd_same, by rw [IsAll.length' d2]; exact hs, G5, wipeD ρ5 vs, _, g'.trans gg, ?_, q5⟩
      have := StR.wipe st5 hv'
      rw [wv'] at this
      exact unshut ret.g0 ret.fg d3 d4 this (IsAll.app' (IsAll.mono' gg d2) (.cons r5 .nil))
    | false =>
      dsimp only
      rw [if_neg Bool.false_ne_true] at q4 ⊢
      have gg := g2.trans (g3.trans g4)
      refine ⟨G4, wipeD ρ4 vs, acc, g'.trans gg, ?_, q4⟩
      have := StR.wipe st4 hv'
      rw [wv'] at this
      have z := unshut ret.g0 ret.fg d3 d4 this (IsAll.mono' gg d2)
      have eH : upd H4 Dl (.lst vacc) = H4 := by
        funext b
        by_cases hb : b = Dl
        · subst hb; rw [upd_same]; exact (st4.fh b _ upd_same).symm
        · rw [upd_ne hb]
      rw [eH] at z; exact z
  · refine .inl ⟨js i (by omega), ?_⟩
    rw [List.drop_eq_nil_of_le (by omega)] at q'
    exact q' _ _ _ (g1.trans g') (unwipe st1 g' hv ret)

/-- the context of a comprehension's block -/
abbrev blkCx (X : Cx) (s : Shared) (H : Hp) (scope : Scope) (C : Addr) (cl : List (Str × Addr)) (fp : List Addr) : Cx := X.blk s H scope (compEnvC scope cl C X.env) fp
variable {scope : Scope} {own : List (Str × Nat)} {pos : Pos}
theorem pf_lc (hc : X.calm = true) (hN : X.N.Nodup) (hi : PDi X fr tg iter ti) (ok : BlkOk X.N X.env.scope scope own) (hv : ∀ v ∈ own.map (·.2), v ∉ fr.ix) (hx : ∀ i ∈ ixs, i ∈ own.map (·.2))
    (hg : ∀ s H C cl fp (fr' : Fr), fr'.ix = fr.ix → PDt (blkCx X s H scope C cl fp) fr' ixs tg g) (he : ∀ s H C cl fp (fr' : Fr), fr'.ix = fr.ix → PD (blkCx X s H scope C cl fp) fr' elt te)
    (hs : ∀ x, foldedSetIterable iter X.env x = pure x := by intro _; rfl) : PF X fr (.ListComp elt [⟨tg, iter, [], 0⟩] scope pos) (tfLc ti g tdYes te (own.map (·.2))) := by
  have mg := (hg X.s_0 X.H_0 0 [] [] fr rfl).mono
  have me := (he X.s_0 X.H_0 0 [] [] fr rfl).mono
  have mt : ∀ ρ (A B : Bool → List Sl → Prop), (∀ d ρ', A d ρ' → B d ρ') → tdYes ρ A → tdYes ρ B := fun ρ A B k h => k _ _ h
  refine ⟨PE.imp (pe_lc (g := XG fr.ix ixs g) (tt := XT fr.ix tdYes) (te := XE' fr.ix te) hc hN hi.run ok (fun s H C cl fp => ⟨fun pins s' σ H' v u Q I r ⟨fr', h1, h2⟩ => (hg s H C cl fp fr' h1).run.run pins s' σ H' v u Q I r h2⟩)
    (fun s H C cl fp => ⟨fun pins s' σ H' Q I ⟨fr', h1, G, ρ, st, h2⟩ => pts_nil.run pins s' σ H' Q I (h2 _ _ (Same.refl _) st)⟩) (fun s H C cl fp => ⟨fun pins s' σ H' Q I ⟨fr', h1, h2⟩ => (he s H C cl fp fr' h1).run.run pins s' σ H' Q I h2⟩) hs) (lc_into hv hx hi.mono mg mt me), ?_⟩
  exact fun ρ A B k h => hi.mono _ _ _ (fun items ρ1 h1 => lcD_mono mg mt me (fun ys ρ2 => k _ _) items _ _ h1) h
theorem pf_lcIf {cond : Expr} (hc : X.calm = true) (hN : X.N.Nodup) (hi : PDi X fr tg iter ti) (ok : BlkOk X.N X.env.scope scope own) (hv : ∀ v ∈ own.map (·.2), v ∉ fr.ix) (hx : ∀ i ∈ ixs, i ∈ own.map (·.2))
    (hg : ∀ s H C cl fp (fr' : Fr), fr'.ix = fr.ix → PDt (blkCx X s H scope C cl fp) fr' ixs tg g) (ht : ∀ s H C cl fp (fr' : Fr), fr'.ix = fr.ix → PDb (blkCx X s H scope C cl fp) fr' cond tt)
    (he : ∀ s H C cl fp (fr' : Fr), fr'.ix = fr.ix → PD (blkCx X s H scope C cl fp) fr' elt te)
    (hs : ∀ x, foldedSetIterable iter X.env x = pure x := by intro _; rfl) : PF X fr (.ListComp elt [⟨tg, iter, [cond], 0⟩] scope pos) (tfLc ti g tt te (own.map (·.2))) := by
  have mg := (hg X.s_0 X.H_0 0 [] [] fr rfl).mono
  have me := (he X.s_0 X.H_0 0 [] [] fr rfl).mono
  have mt := (ht X.s_0 X.H_0 0 [] [] fr rfl).mono
  refine ⟨PE.imp (pe_lc (g := XG fr.ix ixs g) (tt := XT fr.ix tt) (te := XE' fr.ix te) hc hN hi.run ok (fun s H C cl fp => ⟨fun pins s' σ H' v u Q I r ⟨fr', h1, h2⟩ => (hg s H C cl fp fr' h1).run.run pins s' σ H' v u Q I r h2⟩)
    (fun s H C cl fp => pts_one ⟨fun pins s' σ H' Q I ⟨fr', h1, h2⟩ => (ht s H C cl fp fr' h1).run.run pins s' σ H' Q I h2⟩) (fun s H C cl fp => ⟨fun pins s' σ H' Q I ⟨fr', h1, h2⟩ => (he s H C cl fp fr' h1).run.run pins s' σ H' Q I h2⟩) hs) (lc_into hv hx hi.mono mg mt me), ?_⟩
  exact fun ρ A B k h => hi.mono _ _ _ (fun items ρ1 h1 => lcD_mono mg mt me (fun ys ρ2 => k _ _) items _ _ h1) h
/-- name = [..] -/
theorem s_lc {i : Nat} {y : Str} {py spos : Pos} (hc : X.calm = true) (hN : X.N.Nodup) (hy : X.N[i]? = some y) (hyl : X.env.scope.names.lookup y = some .local) (hix : i ∉ fr.ix) (hi : PDi X fr tg iter ti) (ok : BlkOk X.N X.env.scope scope own) (hv : ∀ v ∈ own.map (·.2), v ∉ fr.ix) (hx : ∀ i ∈ ixs, i ∈ own.map (·.2))
    (hg : ∀ s H C cl fp (fr' : Fr), fr'.ix = fr.ix → PDt (blkCx X s H scope C cl fp) fr' ixs tg g) (he : ∀ s H C cl fp (fr' : Fr), fr'.ix = fr.ix → PD (blkCx X s H scope C cl fp) fr' elt te)
    (hsw : swapsWith (.ListComp elt [⟨tg, iter, [], 0⟩] scope pos) (some (.Name y py)) spos.line X.env = pure true)
    (hs : ∀ x, foldedSetIterable iter X.env x = pure x := by intro _; rfl) : PDs X fr (.Assign [.Name y py] (.ListComp elt [⟨tg, iter, [], 0⟩] scope pos) spos) (tsAsg (tfLc ti g tdYes te (own.map (·.2))) i) := by
  have mg := (hg X.s_0 X.H_0 0 [] [] fr rfl).mono
  have me := (he X.s_0 X.H_0 0 [] [] fr rfl).mono
  have mt : ∀ ρ (A B : Bool → List Sl → Prop), (∀ d ρ', A d ρ' → B d ρ') → tdYes ρ A → tdYes ρ B := fun ρ A B k h => k _ _ h
  refine ⟨PS.imp (ps_setLc (i := i) (g := XG fr.ix ixs g) (tt := XT fr.ix tdYes) (te := XE' fr.ix te) hc hN hy hyl hsw hi.run ok (fun s H C cl fp => ⟨fun pins s' σ H' v u Q I r ⟨fr', h1, h2⟩ => (hg s H C cl fp fr' h1).run.run pins s' σ H' v u Q I r h2⟩)
    (fun s H C cl fp => ⟨fun pins s' σ H' Q I ⟨fr', h1, G, ρ, st, h2⟩ => pts_nil.run pins s' σ H' Q I (h2 _ _ (Same.refl _) st)⟩) (fun s H C cl fp => ⟨fun pins s' σ H' Q I ⟨fr', h1, h2⟩ => (he s H C cl fp fr' h1).run.run pins s' σ H' Q I h2⟩) hs) ?_, ?_⟩
  · rintro D σ H ⟨G, ρ, st, h⟩
    exact lc_into hv hx hi.mono mg mt me σ H _ ⟨G, ρ, st, hi.mono _ _ _ (fun items ρ1 h1 => lcD_mono mg mt me (fun ys ρ2 q v G' H' g r => q _ _ _ g (r.set hix)) items _ _ h1) h⟩
  · exact fun ρ A B k _ h => hi.mono _ _ _ (fun items ρ1 h1 => lcD_mono mg mt me (fun ys ρ2 => k _) items _ _ h1) h
theorem s_lcIf {cond : Expr} {i : Nat} {y : Str} {py spos : Pos} (hc : X.calm = true) (hN : X.N.Nodup) (hy : X.N[i]? = some y) (hyl : X.env.scope.names.lookup y = some .local) (hix : i ∉ fr.ix) (hi : PDi X fr tg iter ti) (ok : BlkOk X.N X.env.scope scope own) (hv : ∀ v ∈ own.map (·.2), v ∉ fr.ix) (hx : ∀ i ∈ ixs, i ∈ own.map (·.2))
    (hg : ∀ s H C cl fp (fr' : Fr), fr'.ix = fr.ix → PDt (blkCx X s H scope C cl fp) fr' ixs tg g) (ht : ∀ s H C cl fp (fr' : Fr), fr'.ix = fr.ix → PDb (blkCx X s H scope C cl fp) fr' cond tt)
    (he : ∀ s H C cl fp (fr' : Fr), fr'.ix = fr.ix → PD (blkCx X s H scope C cl fp) fr' elt te)
    (hsw : swapsWith (.ListComp elt [⟨tg, iter, [cond], 0⟩] scope pos) (some (.Name y py)) spos.line X.env = pure true)
    (hs : ∀ x, foldedSetIterable iter X.env x = pure x := by intro _; rfl) : PDs X fr (.Assign [.Name y py] (.ListComp elt [⟨tg, iter, [cond], 0⟩] scope pos) spos) (tsAsg (tfLc ti g tt te (own.map (·.2))) i) := by
  have mg := (hg X.s_0 X.H_0 0 [] [] fr rfl).mono
  have me := (he X.s_0 X.H_0 0 [] [] fr rfl).mono
  have mt := (ht X.s_0 X.H_0 0 [] [] fr rfl).mono
  refine ⟨PS.imp (ps_setLc (i := i) (g := XG fr.ix ixs g) (tt := XT fr.ix tt) (te := XE' fr.ix te) hc hN hy hyl hsw hi.run ok (fun s H C cl fp => ⟨fun pins s' σ H' v u Q I r ⟨fr', h1, h2⟩ => (hg s H C cl fp fr' h1).run.run pins s' σ H' v u Q I r h2⟩)
    (fun s H C cl fp => pts_one ⟨fun pins s' σ H' Q I ⟨fr', h1, h2⟩ => (ht s H C cl fp fr' h1).run.run pins s' σ H' Q I h2⟩) (fun s H C cl fp => ⟨fun pins s' σ H' Q I ⟨fr', h1, h2⟩ => (he s H C cl fp fr' h1).run.run pins s' σ H' Q I h2⟩) hs) ?_, ?_⟩
  · rintro D σ H ⟨G, ρ, st, h⟩
    exact lc_into hv hx hi.mono mg mt me σ H _ ⟨G, ρ, st, hi.mono _ _ _ (fun items ρ1 h1 => lcD_mono mg mt me (fun ys ρ2 q v G' H' g r => q _ _ _ g (r.set hix)) items _ _ h1) h⟩
  · exact fun ρ A B k _ h => hi.mono _ _ _ (fun items ρ1 h1 => lcD_mono mg mt me (fun ys ρ2 => k _) items _ _ h1) h
end
end DL
namespace DL
open PySem PySem.Spec PyProof.Rows L2

/-! ### len(set(texts)) -/
/-- the texts of a list, each once -/
def onceS : List Str → List Str
  | [] => []
  | x :: xs => if x ∈ xs then onceS xs else x :: onceS xs
def metS (acc : List Str) (x : Str) : List Str := if acc.any (· == x) then acc else acc ++ [x]
def metsS (xs : List Str) : List Str := xs.foldl metS []
theorem metS_any (acc : List Str) (x k : Str) : (metS acc x).any (· == k) = (acc.any (· == k) || decide (k = x)) := by
  unfold metS
  by_cases h : acc.any (· == x) = true
  · rw [if_pos h]
    by_cases e : k = x
    · subst e; simp [h]
    · simp [e]
  · rw [if_neg h, List.any_append]
    by_cases e : k = x
    · subst e; simp
    · have e' : ¬ x = k := fun z => e z.symm
      simp [e, e']
theorem metS_len (acc : List Str) (x : Str) : (metS acc x).length = if acc.any (· == x) then acc.length else acc.length + 1 := by
  unfold metS
  by_cases h : acc.any (· == x) = true
  · rw [if_pos h, if_pos h]
  · rw [if_neg h, if_neg h]; simp
theorem metsS_le (xs : List Str) : ∀ acc : List Str, (xs.foldl metS acc).length ≤ acc.length + xs.length := by
  induction xs with
  | nil => intro acc; simp
  | cons x xs ih =>
    intro acc
    rw [List.foldl_cons]
    have := ih (metS acc x)
    rw [metS_len] at this
    rw [List.length_cons]
    split at this <;> omega
theorem metsS_take {xs : List Str} {i : Nat} {x : Str} (h : xs[i]? = some x) : metsS (xs.take (i + 1)) = metS (metsS (xs.take i)) x := by
  unfold metsS
  rw [List.take_add_one, h, List.foldl_append]; rfl
section
variable {P : Program} {w : World} {A : Around} {R : Result → Shared → Prop} {I : Addr} {fp wr : List Addr} {G : Array GenState → Array GenState → Prop} {n : Nat} {Y : Nat → Value → Prop} {St' : Nat → Shared → Prop}
theorem fillS (W : WalksS P w A.in1 I fp wr G n Y St') (S : Addr) (hS : S ∉ fp) (xs : List Str) (hn : xs.length = n) (hb : n + 1 < scanBound) (hy : ∀ i v, Y i v → ∃ t, v = .str (xs.getD i Str.empty) t) :
    ∀ (j i : Nat) (s : Shared), i + j = n → St' i s → s.heap.SetOf (PySem.strKind P w) S (fun k => (metsS (xs.take i)).any (· == k)) (metsS (xs.take i)).length →
      (∀ s', Moved (S :: wr) G s s' → s'.heap.SetOf (PySem.strKind P w) S (fun k => (metsS xs).any (· == k)) (metsS xs).length → R (.ok (.ret .none)) s') →
      codeAny (model P w) A (.builtin "set.update.loop" ⟨[.ref S, .ref I], []⟩) R s := by
  have out : S ∉ wr := fun h => hS (W.sub _ h)
  have more : ∀ b ∈ wr, b ∈ S :: wr := fun b => List.mem_cons_of_mem _
  have stay : ∀ {s s' : Shared} {p : Str → Bool} {m : Nat}, Moved wr G s s' → s.heap.SetOf (PySem.strKind P w) S p m → s'.heap.SetOf (PySem.strKind P w) S p m := fun hm ⟨o, es, ep, t, ho, r⟩ =>
    ⟨o, es, ep, t, hm.heap S _ out ho, r⟩
  intro j
  induction j with
  | zero =>
    intro i s hij st hset k
    have ei : i = n := by omega
    subst ei
    refine codeAny_builtin PyProof.Rows.F.entry_set_update_loop ?_
    rw [Around.under_plainId PyProof.Rows.F.plain_set_update_loop _]
    refine (show wpAny _ A.in1 (pyNext (.ref I) >>= _) _ _ s from wpAny_bind (W.done s _ _ st fun s' hm => ?_))
    have z := stay hm hset
    rw [List.take_of_length_le (by omega)] at z
    exact (show wpAny _ A.in1 (ret Value.none) _ _ s' from wpAny_pure (k s' (hm.mono more) z))
  | succ j ih =>
    intro i s hij st hset k
    refine codeAny_builtin PyProof.Rows.F.entry_set_update_loop ?_
    rw [Around.under_plainId PyProof.Rows.F.plain_set_update_loop _]
    refine (show wpAny _ A.in1 (pyNext (.ref I) >>= _) _ _ s from wpAny_bind (W.item i s _ _ (by omega) st fun v s1 yv st1 hm => ?_))
    obtain ⟨t, rfl⟩ := hy i v yv
    have hset1 := stay hm hset
    have hx : xs[i]? = some (xs.getD i Str.empty) := by
      have hl : i < xs.length := by omega
      simp [List.getD, hl]
    generalize xs.getD i Str.empty = x at hx
    refine (show wpAny _ A.in1 (holding [Value.str x t] (setAdd S (.str x t)) >>= _) _ _ s1 from wpAny_bind (wpAny_holding ?_))
    unfold setAdd
    refine wpAny_holding (wpAny_bind ((PySem.strKind P w).pyHash (k := x) (strKind_is _ _ _ _) ?_))
    have room : (metsS (xs.take i)).length + 1 < scanBound := by
      have := metsS_le (xs.take i) []
      rw [List.length_take] at this
      unfold metsS
      simp only [List.length_nil] at this
      omega
    refine wpAny_setAddHashed_of (knd := PySem.strKind P w) (s := { s1 with toks := s1.toks + 1 }) (strKind_is _ _ _ _) rfl hset1 room fun h2 hsb hset2 => ?_
    have hset3 : h2.SetOf (PySem.strKind P w) S (fun k => (metsS (xs.take (i + 1))).any (· == k)) (metsS (xs.take (i + 1))).length := by
      rw [metsS_take hx]
      exact SetOf_congr hset2 (fun k => (metS_any _ _ _).symm) (metS_len _ _).symm
    have far : ∀ b o, b ≠ S → s1.heap.get? b = some o → h2.get? b = some o := fun b o hb e => (hsb.2 b hb).trans e
    refine wpAny_pure ⟨plainId_quiet PyProof.Rows.F.plain_set_update_loop _, ih (i + 1) _ (by omega) (W.frame _ s1 _ _ st1 (Nat.le_succ _) fun b hb o e => far b o (fun z => hS (z ▸ hb)) e) hset3 fun s3 hm3 hset4 => ?_⟩
    exact k s3 (Moved.trans W.gtrans ((hm.mono more).then_heap (Nat.le_succ _) fun b o hb e => far b o (fun z => hb (z ▸ List.mem_cons_self)) e) hm3) hset4
end
section
variable {P : Program} {w : World} {A : Around} {E : Value → Shared → Prop} {s : Shared}
theorem setOfTexts {l : Addr} {its : Array Value} {xs : List Str} {Q : Value → Shared → Prop} (hh : A.handled = none) (hl : s.heap.IsList l its) (hi : PyProof.Rows.StrsAre its.toList xs) (hb : xs.length + 1 < scanBound)
    (k : ∀ (h' : Heap) (tk : Nat), h'.SetOf (PySem.strKind P w) s.heap.objs.size (fun k => (metsS xs).any (· == k)) (metsS xs).length → (∀ b o, b < s.heap.objs.size → s.heap.get? b = some o → h'.get? b = some o) → Q (.ref s.heap.objs.size) { s with heap := h', toks := tk }) :
    wpAny (model P w) A (call (.type "set") [.ref l]) Q E s := by
  obtain ⟨c, tl, hmro⟩ := PySem.F.called_set.mro
  have hmade := PySem.F.called_set.made
  have hsub := PySem.F.called_set.sub
  refine wpAny_call (codeAny_of_tree (show wpAny _ _ (callAny (.type "set") _) _ _ _ from wpAny_pure ⟨Code.quiet_builtin _ (by decide +kernel), codeAny_builtin PySem.F.entry_type_call ?_⟩))
  rw [Around.under_plain (weight_type_call_type "set" [.ref l] []) rfl]
  have h1 := PySem.F.called_set.notType
  have h2 := PySem.F.called_set.canCreate
  have hct := PySem.F.typeCall_set_1 (.ref l)
  repeat (any_goals (first | assumption | wp_step))
  have nw : ∀ led : Bool, (s.heap.push { cls := .type "set", dict := none, data := .set #[] 0 (.fresh 0 0 led) }).get? s.heap.objs.size = some { cls := .type "set", dict := none, data := .set #[] 0 (.fresh 0 0 led) } := fun led => Heap.get?_push_size _ rfl
  refine codeAny_mono (code_set_new_1 (.ref l) (E := E) (Q₁ := fun v s1 => ∃ led : Bool, v = .ref s.heap.objs.size ∧ s1 = { s with heap := s.heap.push { cls := .type "set", dict := none, data := .set #[] 0 (.fresh 0 0 led) } }) fun led => ⟨led, rfl, rfl⟩) fun r s1 hr => ?_
  match r, hr with
  | .error e, hr => exact hr
  | .ok .next, hr => exact hr.elim
  | .ok .brk, hr => exact hr.elim
  | .ok .cont, hr => exact hr.elim
  | .ok (.ret v), hr =>
    obtain ⟨led, rfl, rfl⟩ := hr
    have hT : Shared.TypeIs { s with heap := s.heap.push { cls := .type "set", dict := none, data := .set #[] 0 (.fresh 0 0 led) } } (.ref s.heap.objs.size) "set" := ⟨_, nw led, rfl⟩
    have hli := PySem.F.called_set.init.lookup
    have hbi := PySem.F.called_set.init.bind (.ref s.heap.objs.size)
    repeat (any_goals (first | assumption | wp_step))
    let end' : Value → Shared → Prop := fun r s2 => r = .none ∧ ∃ h' tk, s2 = { s with heap := h', toks := tk } ∧ h'.SetOf (PySem.strKind P w) s.heap.objs.size (fun k => (metsS xs).any (· == k)) (metsS xs).length ∧ (∀ b o, b < s.heap.objs.size → s.heap.get? b = some o → h'.get? b = some o)
    refine codeAny_mono (codeAny_call_builtin (R := wants end' E) PySem.F.called_set.init.plain PySem.F.entry_set_init (check_set_init_1 hT ?_)) fun r2 s2 hr2 => ?_
    · obtain ⟨⟨oc, od, dt, osl⟩, hol, hcl, nl, hdl⟩ := hl
      dsimp only at hcl hdl
      subst hcl hdl
      have hol1 := Heap.get?_push_of_some { cls := .type "set", dict := none, data := .set #[] 0 (.fresh 0 0 led) } hol
      have n1 := PySem.F.sub_list_set
      have n2 := PySem.F.sub_list_frozenset
      have n3 : (Value.type "list" == Value.type "dict") = false := by decide
      have hl1 : (s.heap.push { cls := .type "set", dict := none, data := .set #[] 0 (.fresh 0 0 led) }).IsList l its := ⟨_, hol1, rfl, nl, rfl⟩
      unfold Builtin.«set.__init__» noKeywords Builtin.Frozenset.updateFrom
      generalize hPI : pyIter = PI
      wp_walk
      subst hPI
      refine wpAny_pyIter_list hl1 (wpAny_bind (wpAny_runValue ?_))
      have lt : l < s.heap.objs.size := Heap.lt_size hol
      have ne1 : l ≠ (s.heap.push { cls := .type "set", dict := none, data := .set #[] 0 (.fresh 0 0 led) }).objs.size := by
        rw [Heap.size_push]; exact Nat.ne_of_lt (Nat.lt_succ_of_lt lt)
      have ne2 : s.heap.objs.size ≠ (s.heap.push { cls := .type "set", dict := none, data := .set #[] 0 (.fresh 0 0 led) }).objs.size := by
        rw [Heap.size_push]; exact Nat.ne_of_lt (Nat.lt_succ_self _)
      have sz : xs.length = its.size := by rw [← StrsAre.len_eq hi, Array.length_toList]
      refine fillS ((Walks.list (by simp [hh]) _ l ne1 its).toS) s.heap.objs.size (by simp only [List.mem_cons, List.not_mem_nil, or_false, not_or]; exact ⟨ne2, Nat.ne_of_gt lt⟩) xs sz (by rw [← sz]; exact hb)
        (fun i v hv => SS.strs_at hi i v (by rw [Array.getElem?_toList]; exact hv)) its.size 0 _ (by omega) ⟨⟨_, Heap.get?_push_size _ rfl, rfl, rfl⟩, hl1.push _⟩ ?_ ?_
      · exact PyProof.Rows.SetOf_congr ((PyProof.Rows.setObjOf_fresh (knd := PySem.strKind P w) led).setOf (Heap.get?_push_of_some _ (nw led)) (by unfold scanBound; omega)) (fun _ => rfl) rfl
      · rintro ⟨h', g', d', tk', os'⟩ hm hset
        obtain rfl : g' = s.gens := hm.gens
        obtain rfl : d' = s.drawn := hm.drawn
        obtain rfl : os' = s.os := hm.os
        refine (show wpAny _ _ _ _ _ _ from wpAny_pure (show wpAny _ _ (ret Value.none) _ _ _ from wpAny_pure ⟨rfl, h', tk', rfl, hset, fun b o hb' e => ?_⟩))
        have c1 : b ≠ s.heap.objs.size := Nat.ne_of_lt hb'
        have c2 : b ≠ (s.heap.push { cls := .type "set", dict := none, data := .set #[] 0 (.fresh 0 0 led) }).objs.size := by
          rw [Heap.size_push]; exact Nat.ne_of_lt (Nat.lt_succ_of_lt hb')
        exact hm.heap b o (by simp only [List.mem_cons, List.not_mem_nil, or_false, not_or]; exact ⟨c1, c2⟩) (Heap.get?_push_of_some _ (Heap.get?_push_of_some _ e))
    · match r2, hr2 with
      | .error e, hr2 => exact hr2
      | .ok .next, hr2 => exact hr2.elim
      | .ok .brk, hr2 => exact hr2.elim
      | .ok .cont, hr2 => exact hr2.elim
      | .ok (.ret v), hr2 =>
        obtain ⟨rfl, h', tk, rfl, hset, keep⟩ := hr2
        repeat (any_goals (first | assumption | wp_step))
        exact k _ _ hset keep
theorem setOfTextsT {l : Addr} {its : Array Value} {xs : List Str} {Q : Value → Shared → Prop} (hh : A.handled = none) (hl : s.heap.IsTuple l its) (hi : PyProof.Rows.StrsAre its.toList xs) (hb : xs.length + 1 < scanBound)
    (k : ∀ (h' : Heap) (tk : Nat), h'.SetOf (PySem.strKind P w) s.heap.objs.size (fun k => (metsS xs).any (· == k)) (metsS xs).length → (∀ b o, b < s.heap.objs.size → s.heap.get? b = some o → h'.get? b = some o) → Q (.ref s.heap.objs.size) { s with heap := h', toks := tk }) :
    wpAny (model P w) A (call (.type "set") [.ref l]) Q E s := by
  obtain ⟨c, tl, hmro⟩ := PySem.F.called_set.mro
  have hmade := PySem.F.called_set.made
  have hsub := PySem.F.called_set.sub
  refine wpAny_call (codeAny_of_tree (show wpAny _ _ (callAny (.type "set") _) _ _ _ from wpAny_pure ⟨Code.quiet_builtin _ (by decide +kernel), codeAny_builtin PySem.F.entry_type_call ?_⟩))
  rw [Around.under_plain (weight_type_call_type "set" [.ref l] []) rfl]
  have h1 := PySem.F.called_set.notType
  have h2 := PySem.F.called_set.canCreate
  have hct := PySem.F.typeCall_set_1 (.ref l)
  repeat (any_goals (first | assumption | wp_step))
  have nw : ∀ led : Bool, (s.heap.push { cls := .type "set", dict := none, data := .set #[] 0 (.fresh 0 0 led) }).get? s.heap.objs.size = some { cls := .type "set", dict := none, data := .set #[] 0 (.fresh 0 0 led) } := fun led => Heap.get?_push_size _ rfl
  refine codeAny_mono (code_set_new_1 (.ref l) (E := E) (Q₁ := fun v s1 => ∃ led : Bool, v = .ref s.heap.objs.size ∧ s1 = { s with heap := s.heap.push { cls := .type "set", dict := none, data := .set #[] 0 (.fresh 0 0 led) } }) fun led => ⟨led, rfl, rfl⟩) fun r s1 hr => ?_
  match r, hr with
  | .error e, hr => exact hr
  | .ok .next, hr => exact hr.elim
  | .ok .brk, hr => exact hr.elim
  | .ok .cont, hr => exact hr.elim
  | .ok (.ret v), hr =>
    obtain ⟨led, rfl, rfl⟩ := hr
    have hT : Shared.TypeIs { s with heap := s.heap.push { cls := .type "set", dict := none, data := .set #[] 0 (.fresh 0 0 led) } } (.ref s.heap.objs.size) "set" := ⟨_, nw led, rfl⟩
    have hli := PySem.F.called_set.init.lookup
    have hbi := PySem.F.called_set.init.bind (.ref s.heap.objs.size)
    repeat (any_goals (first | assumption | wp_step))
    let end' : Value → Shared → Prop := fun r s2 => r = .none ∧ ∃ h' tk, s2 = { s with heap := h', toks := tk } ∧ h'.SetOf (PySem.strKind P w) s.heap.objs.size (fun k => (metsS xs).any (· == k)) (metsS xs).length ∧ (∀ b o, b < s.heap.objs.size → s.heap.get? b = some o → h'.get? b = some o)
    refine codeAny_mono (codeAny_call_builtin (R := wants end' E) PySem.F.called_set.init.plain PySem.F.entry_set_init (check_set_init_1 hT ?_)) fun r2 s2 hr2 => ?_
    · obtain ⟨⟨oc, od, dt, osl⟩, hol, hcl, nl, hdl⟩ := hl
      dsimp only at hcl hdl
      subst hcl hdl
      have hol1 := Heap.get?_push_of_some { cls := .type "set", dict := none, data := .set #[] 0 (.fresh 0 0 led) } hol
      have n1 := PySem.F.sub_tuple_set
      have n2 := PySem.F.sub_tuple_frozenset
      have n3 : (Value.type "tuple" == Value.type "dict") = false := by decide
      have hl1 : (s.heap.push { cls := .type "set", dict := none, data := .set #[] 0 (.fresh 0 0 led) }).IsTuple l its := ⟨_, hol1, rfl, nl, rfl⟩
      unfold Builtin.«set.__init__» noKeywords Builtin.Frozenset.updateFrom
      generalize hPI : pyIter = PI
      wp_walk
      subst hPI
      refine wpAny_pyIter_tuple hl1 (wpAny_bind (wpAny_runValue ?_))
      have lt : l < s.heap.objs.size := Heap.lt_size hol
      have ne1 : l ≠ (s.heap.push { cls := .type "set", dict := none, data := .set #[] 0 (.fresh 0 0 led) }).objs.size := by
        rw [Heap.size_push]; exact Nat.ne_of_lt (Nat.lt_succ_of_lt lt)
      have ne2 : s.heap.objs.size ≠ (s.heap.push { cls := .type "set", dict := none, data := .set #[] 0 (.fresh 0 0 led) }).objs.size := by
        rw [Heap.size_push]; exact Nat.ne_of_lt (Nat.lt_succ_self _)
      have sz : xs.length = its.size := by rw [← StrsAre.len_eq hi, Array.length_toList]
      refine fillS ((Walks.tuple (by simp [hh]) _ l ne1 its).toS) s.heap.objs.size (by simp only [List.mem_cons, List.not_mem_nil, or_false, not_or]; exact ⟨ne2, Nat.ne_of_gt lt⟩) xs sz (by rw [← sz]; exact hb)
        (fun i v hv => SS.strs_at hi i v (by rw [Array.getElem?_toList]; exact hv)) its.size 0 _ (by omega) ⟨⟨_, Heap.get?_push_size _ rfl, rfl, rfl⟩, hl1.push _⟩ ?_ ?_
      · exact PyProof.Rows.SetOf_congr ((PyProof.Rows.setObjOf_fresh (knd := PySem.strKind P w) led).setOf (Heap.get?_push_of_some _ (nw led)) (by unfold scanBound; omega)) (fun _ => rfl) rfl
      · rintro ⟨h', g', d', tk', os'⟩ hm hset
        obtain rfl : g' = s.gens := hm.gens
        obtain rfl : d' = s.drawn := hm.drawn
        obtain rfl : os' = s.os := hm.os
        refine (show wpAny _ _ _ _ _ _ from wpAny_pure (show wpAny _ _ (ret Value.none) _ _ _ from wpAny_pure ⟨rfl, h', tk', rfl, hset, fun b o hb' e => ?_⟩))
        have c1 : b ≠ s.heap.objs.size := Nat.ne_of_lt hb'
        have c2 : b ≠ (s.heap.push { cls := .type "set", dict := none, data := .set #[] 0 (.fresh 0 0 led) }).objs.size := by
          rw [Heap.size_push]; exact Nat.ne_of_lt (Nat.lt_succ_of_lt hb')
        exact hm.heap b o (by simp only [List.mem_cons, List.not_mem_nil, or_false, not_or]; exact ⟨c1, c2⟩) (Heap.get?_push_of_some _ (Heap.get?_push_of_some _ e))
    · match r2, hr2 with
      | .error e, hr2 => exact hr2
      | .ok .next, hr2 => exact hr2.elim
      | .ok .brk, hr2 => exact hr2.elim
      | .ok .cont, hr2 => exact hr2.elim
      | .ok (.ret v), hr2 =>
        obtain ⟨rfl, h', tk, rfl, hset, keep⟩ := hr2
        repeat (any_goals (first | assumption | wp_step))
        exact k _ _ hset keep
/-- len(set(xs)), xs a list of texts -/
def strsOf : List D → Option (List Str)
  | [] => some []
  | .str x :: r => (strsOf r).map (x :: ·)
  | _ => none
theorem strs_vals {G : Hp} : ∀ {ds : List D} {vs : List V} {xs : List Str}, IsAll G vs ds → strsOf ds = some xs → vs = xs.map V.str
  | [], _, xs, .nil, h => by cases h; rfl
  | d :: ds, _, xs, .cons r1 r2, h => by
    cases r1 with
    | str x =>
      cases e : strsOf ds with
      | none => simp [strsOf, e] at h
      | some ys =>
        simp [strsOf, e] at h
        subst h
        rw [strs_vals r2 e]; rfl
    | _ => simp [strsOf] at h
def tdLenSet (t : TD) : TD := fun ρ K => t ρ fun d ρ1 => opt (seqOf d) fun ds => opt (strsOf ds) fun xs => xs.length + 1 < scanBound ∧ K (.int (metsS xs).length) ρ1
theorem pd_lenSet {X : Cx} {fr : Fr} {a : Expr} {ta : TD} {p p2 q pos : Pos} (hc : X.calm = true) (hg : Gl X "len") (hm : X.mg "len" = none) (hg2 : Gl X "set") (hm2 : X.mg "set" = none) (ha : PD X fr a ta)
    (na : starEach [a] X.env = (false, eval a X.env) :: starEach [] X.env := by rfl) : PD X fr (.Call (.Name "len" p) [.Call (.Name "set" p2) [a] [] q] [] pos) (tdLenSet ta) := by
  refine ⟨⟨fun pins s σ H Q I h => ?_⟩, fun ρ A B k h => ha.mono _ _ _ (fun d ρ1 z => by
    cases d with
    | list ds => exact opt_mono (o := strsOf ds) (fun xs z => ⟨z.1, k _ _ z.2⟩) z
    | tuple ds => exact opt_mono (o := strsOf ds) (fun xs z => ⟨z.1, k _ _ z.2⟩) z
    | _ => exact z) h⟩
  obtain ⟨G, ρ, st, h⟩ := h
  refine Call_ (ld_blt I hg hm boot_len (PyProof.Rows.callWith_builtin1 (PyProof.Rows.args_cons ?_ rfl) rfl rfl))
  refine Call_ (ld_blt I hg2 hm2 boot_set (PyProof.Rows.callWith_type1 (PyProof.Rows.args_cons ?_ na) na rfl))
  refine thn (ha.run.run pins s σ H (fun v H1 => ∃ l xs, v = .ref l ∧ (Rd H1 l (.lst (xs.map V.str)) ∨ Rd H1 l (.tup (xs.map V.str))) ∧ xs.length + 1 < scanBound ∧ Q (.int (metsS xs).length) H1) I (Lft.into ha.mono st h fun d ρ1 v G1 H1 z g st1 r => ?_)) fun v s1 ⟨x, H1, I1, r1, z⟩ => PyProof.Rows.args_nil ?_
  · cases r with
    | lst rd ra =>
      obtain ⟨xs, hx, z1, z2⟩ := opt_get (o := strsOf _) z
      have e := strs_vals ra hx
      subst e
      exact ⟨_, xs, rfl, .inl (Same.rd st1.gh rd), z1, z2 _ _ _ g st1 (.int _)⟩
    | tup rd ra =>
      obtain ⟨xs, hx, z1, z2⟩ := opt_get (o := strsOf _) z
      have e := strs_vals ra hx
      subst e
      exact ⟨_, xs, rfl, .inr (Same.rd st1.gh rd), z1, z2 _ _ _ g st1 (.int _)⟩
    | _ => exact z.elim
  · obtain ⟨l, xs, rfl, rd, hb, z⟩ := z
    cases r1
    rcases rd with rd | rd
    · obtain ⟨its, rv, pl, hz⟩ := I1.list (.inl rd)
      refine setOfTexts (I1.ok.hd hc) pl.isList (by simpa using strsAre_of rv) hb fun h' tk hS hk => PyProof.Rows.args_nil ?_
      obtain ⟨o, es, ep, t, ho, hex, hd, _, _, _, hf, hn⟩ := hS
      have I2 : Inv X pins σ H1 { s1 with heap := h', toks := tk } := I1.kept fun b o e => hk b o (Heap.lt_size e) e
      have lt := metsS_le xs []
      unfold scanBound at hb
      exact call_len_set ho hex hd hf (by rw [hn]; unfold metsS; simp only [List.length_nil] at lt; omega) ⟨.int (metsS xs).length, H1, I2.tok _, ⟨_, by rw [hn]⟩, z⟩
    · obtain ⟨its, rv, pl, hz⟩ := I1.tuple (.inl rd)
      refine setOfTextsT (I1.ok.hd hc) pl (by simpa using strsAre_of rv) hb fun h' tk hS hk => PyProof.Rows.args_nil ?_
      obtain ⟨o, es, ep, t, ho, hex, hd, _, _, _, hf, hn⟩ := hS
      have I2 : Inv X pins σ H1 { s1 with heap := h', toks := tk } := I1.kept fun b o e => hk b o (Heap.lt_size e) e
      have lt := metsS_le xs []
      unfold scanBound at hb
      exact call_len_set ho hex hd hf (by rw [hn]; unfold metsS; simp only [List.length_nil] at lt; omega) ⟨.int (metsS xs).length, H1, I2.tok _, ⟨_, by rw [hn]⟩, z⟩
end
end DL
namespace DL
open PySem PySem.Spec PyProof.Rows L2

/-! ### rules over data, told by a function of data -/
def rD (g : D → D → Option D) : R2 := fun x y H Q => ∃ G d e z, Same G H ∧ Is G x d ∧ Is G y e ∧ g d e = some z ∧ ∀ v G' H', Stp G H G' H' → Is G' v z → Q v H'
def rDU (g : D → Option D) : V → Hp → VK → Prop := fun x H Q => ∃ G d z, Same G H ∧ Is G x d ∧ g d = some z ∧ ∀ v G' H', Stp G H G' H' → Is G' v z → Q v H'
def rDL (g : List D → Option D) : List V → Hp → VK → Prop := fun xs H Q => ∃ G ds z, Same G H ∧ IsAll G xs ds ∧ g ds = some z ∧ ∀ v G' H', Stp G H G' H' → Is G' v z → Q v H'
theorem okD {g : D → D → Option D} : OpOk (rD g) g := fun G H x y d e z Q gh a b h k => ⟨G, d, e, z, gh, a, b, h, k⟩
theorem okU {g : D → Option D} : UnOk (rDU g) g := fun G H x d z Q gh a h k => ⟨G, d, z, gh, a, h, k⟩
theorem okL {g : List D → Option D} : FnlOk (rDL g) g := fun G H xs ds z Q gh a h k => ⟨G, ds, z, gh, a, h, k⟩
theorem OpOk.new {G H : Hp} {p : Addr} {o : HO} (gh : Same G H) (hp : H p = none) : Stp G H (upd G p o) (upd H p o) := Stp.new gh hp
theorem isAll_ints {G : Hp} : ∀ ns : List Int, IsAll G (ns.map V.int) (ns.map PyData.int)
  | [] => .nil
  | n :: ns => .cons (.int n) (isAll_ints ns)
theorem isAll_strs {G : Hp} : ∀ ns : List Str, IsAll G (ns.map V.str) (ns.map PyData.str)
  | [] => .nil
  | n :: ns => .cons (.str n) (isAll_strs ns)
theorem isAll_bls {G : Hp} : ∀ ns : List Bool, IsAll G (ns.map V.bl) (ns.map PyData.bool)
  | [] => .nil
  | n :: ns => .cons (.bl n) (isAll_bls ns)
def intsOf : List D → Option (List Int)
  | [] => some []
  | .int x :: r => (intsOf r).map (x :: ·)
  | _ => none
theorem ints_vals {G : Hp} : ∀ {ds : List D} {vs : List V} {xs : List Int}, IsAll G vs ds → intsOf ds = some xs → vs = xs.map V.int
  | [], _, xs, .nil, h => by cases h; rfl
  | d :: ds, _, xs, .cons r1 r2, h => by
    cases r1 with
    | int x =>
      cases e : intsOf ds with
      | none => simp [intsOf, e] at h
      | some ys =>
        simp [intsOf, e] at h
        subst h
        rw [ints_vals r2 e]; rfl
    | _ => simp [intsOf] at h
theorem intsOf_map : ∀ xs : List Int, intsOf (xs.map PyData.int) = some xs
  | [] => rfl
  | x :: xs => by simp [intsOf, intsOf_map xs]
def blsOf : List D → Option (List Bool)
  | [] => some []
  | .bool x :: r => (blsOf r).map (x :: ·)
  | _ => none
theorem bls_vals {G : Hp} : ∀ {ds : List D} {vs : List V} {xs : List Bool}, IsAll G vs ds → blsOf ds = some xs → vs = xs.map V.bl
  | [], _, xs, .nil, h => by cases h; rfl
  | d :: ds, _, xs, .cons r1 r2, h => by
    cases r1 with
    | bl x =>
      cases e : blsOf ds with
      | none => simp [blsOf, e] at h
      | some ys =>
        simp [blsOf, e] at h
        subst h
        rw [bls_vals r2 e]; rfl
    | _ => simp [blsOf] at h
theorem blsOf_map : ∀ xs : List Bool, blsOf (xs.map PyData.bool) = some xs
  | [] => rfl
  | x :: xs => by simp [blsOf, blsOf_map xs]

section
variable {X : Cx}
theorem Is.sq {K : Fg} {G H : Hp} {v : V} {ds : List D} (gh : Same G H) (r : Is G v (.list ds)) : ∃ a vs, v = .ref a ∧ SqL K H a vs ∧ IsAll G vs ds ∧ Rd H a (.lst vs) := by
  cases r with
  | lst s a => exact ⟨_, _, rfl, .inl (Same.rd gh s), a, Same.rd gh s⟩
theorem Is.sqT {K : Fg} {G H : Hp} {v : V} {ds : List D} (gh : Same G H) (r : Is G v (.tuple ds)) : ∃ a vs, v = .ref a ∧ SqT K H a vs ∧ IsAll G vs ds := by
  cases r with
  | tup s a => exact ⟨_, _, rfl, .inl (Same.rd gh s), a⟩
theorem isAll_nil {G : Hp} {vs : List V} {ds : List D} (r : IsAll G vs ds) : vs = [] ↔ ds = [] := by cases r <;> simp

/-! ### + -/
def addD : D → D → Option D
  | .int i, .int j => some (.int (i + j))
  | .str a, .str b => if a.length + b.length ≤ sizeLine then some (.str (a ++ b)) else none
  | .list xs, .list ys => if xs.length + ys.length ≤ sizeLine then some (.list (xs ++ ys)) else none
  | .tuple xs, .tuple ys => if xs.length + ys.length ≤ sizeLine then some (.tuple (xs ++ ys)) else none
  | _, _ => none
theorem op_addD : OpR X (binaryOp .Add) (rD addD) := by
  intro pins s σ H x y v u Q I rx ry h
  obtain ⟨G, d, e, z, gh, a, b, hz, k⟩ := h
  cases d with
  | int i =>
    cases e with
    | int j => cases a; cases b; cases hz; exact op_add pins s σ H _ _ v u Q I rx ry ⟨i, j, rfl, rfl, k _ _ _ ⟨Same.refl _, fun _ _ _ h => h⟩ (.int _)⟩
    | _ => cases hz
  | str i =>
    cases e with
    | str j =>
      cases a; cases b
      simp only [addD] at hz
      split at hz
      · cases hz; exact op_add_str pins s σ H _ _ v u Q I rx ry ⟨i, j, rfl, rfl, by assumption, k _ _ _ Stp.refl (.str _)⟩
      · cases hz
    | _ => cases hz
  | list xs =>
    cases e with
    | list ys =>
      simp only [addD] at hz
      split at hz
      · rename_i hl
        cases hz
        obtain ⟨p, vs, rfl, _, ra, r1⟩ := a.sq (K := X.K) gh
        obtain ⟨q, ws, rfl, _, rb, r2⟩ := b.sq (K := X.K) gh
        cases rx; cases ry
        obtain ⟨z1, its, n, rv, e1⟩ := r1.ok I.hok
        obtain ⟨z2, its2, n2, rv2, e2⟩ := r2.ok I.hok
        have l1 := rv.length
        have l2 := rv2.length
        have m1 := IsAll.length' ra
        have m2 := IsAll.length' rb
        refine PySem.P.add_list e1 e2 ?_ (by rw [List.size_toArray, List.size_toArray]; omega)
        have ea : its.toArray ++ its2.toArray = (its ++ its2).toArray := by simp
        rw [ea]
        refine ⟨.ref _, _, I.lnew (t' := s.toks) (rv.append rv2) (by rw [List.length_append]; omega), rfl, ?_⟩
        exact k _ _ _ (Stp.new gh I.fresh) (.lst (.inl upd_same) (IsAll.mono' (Stp.new (o := .lst (vs ++ ws)) gh I.fresh).g (IsAll.app' ra rb)))
      · cases hz
    | _ => cases hz
  | tuple xs =>
    cases e with
    | tuple ys =>
      simp only [addD] at hz
      split at hz
      · rename_i hl
        cases hz
        obtain ⟨p, vs, rfl, s1, ra⟩ := a.sqT (K := X.K) gh
        obtain ⟨q, ws, rfl, s2, rb⟩ := b.sqT (K := X.K) gh
        refine op_catA pins s σ H _ _ v u Q I rx ry ⟨p, q, vs, ws, rfl, rfl, s1, s2, by rw [IsAll.length' ra, IsAll.length' rb]; exact hl, fun e => ?_, fun _ e => ?_, fun _ _ l hp => ?_⟩
        · rw [(isAll_nil ra).mp e] at k; exact k _ _ _ Stp.refl b
        · rw [(isAll_nil rb).mp e, List.append_nil] at k; exact k _ _ _ Stp.refl a
        · exact k _ _ _ (Stp.new gh hp) (.tup (.inl upd_same) (IsAll.mono' (Stp.new (o := .tup (vs ++ ws)) gh hp).g (IsAll.app' ra rb)))
      · cases hz
    | _ => cases hz
  | _ => cases hz
/-! ### - * // % ** and the signs -/
def intD (C : Int → Int → Prop) [∀ i j, Decidable (C i j)] (g : Int → Int → Int) : D → D → Option D
  | .int i, .int j => if C i j then some (.int (g i j)) else none
  | _, _ => none
theorem intD_some {C : Int → Int → Prop} [∀ i j, Decidable (C i j)] {g : Int → Int → Int} {d e z : D} (h : intD C g d e = some z) : ∃ i j, d = .int i ∧ e = .int j ∧ C i j ∧ z = .int (g i j) := by
  cases d <;> cases e <;> simp only [intD] at h <;> try cases h
  rename_i i j
  split at h
  · cases h; exact ⟨i, j, rfl, rfl, by assumption, rfl⟩
  · cases h
theorem op_intD {f : Value → Value → Sem Value} {C : Int → Int → Prop} [∀ i j, Decidable (C i j)] {g : Int → Int → Int} (h : OpR X f (rI C fun i j => .int (g i j))) : OpR X f (rD (intD C g)) := by
  intro pins s σ H x y v u Q I rx ry ⟨G, d, e, z, gh, a, b, hz, k⟩
  obtain ⟨i, j, rfl, rfl, c, rfl⟩ := intD_some hz
  cases a; cases b
  exact h pins s σ H _ _ v u Q I rx ry ⟨i, j, rfl, rfl, c, k _ _ _ Stp.refl (.int _)⟩
theorem rI_of {f : Value → Value → Sem Value} {g : Int → Int → V} (h : OpR X f (rI0 g)) : OpR X f (rI (fun _ _ => True) g) := by
  intro pins s σ H x y v u Q I rx ry ⟨i, j, e1, e2, _, q⟩
  exact h pins s σ H x y v u Q I rx ry ⟨i, j, e1, e2, q⟩
instance (i j : Int) : Decidable (CMulW i j) := by unfold CMulW; infer_instance
instance (i j : Int) : Decidable (CDivW i j) := by unfold CDivW; infer_instance
instance (i j : Int) : Decidable (CPow i j) := by unfold CPow; infer_instance
abbrev subD := intD (fun _ _ => True) fun i j => i - j
theorem op_subD : OpR X (binaryOp .Sub) (rD subD) := op_intD (rI_of op_sub)
abbrev divD := intD CDivW fun i j => i / j
theorem op_divD : OpR X (binaryOp .FloorDiv) (rD divD) := op_intD op_fdivW
abbrev modD := intD (fun _ j => 0 < j) fun i j => i % j
theorem op_modD : OpR X (binaryOp .Mod) (rD modD) := op_intD op_mod
abbrev powD := intD CPow fun i j => i ^ j.toNat
theorem op_powD : OpR X (binaryOp .Pow) (rD powD) := op_intD op_pow
def negD : D → Option D
  | .int i => some (.int (-i))
  | _ => none
theorem un_negD : UnR X (unaryOp .USub) (rDU negD) := by
  intro pins s σ H x v Q I rx ⟨G, d, z, gh, a, hz, k⟩
  cases d <;> cases hz
  cases a
  exact un_neg pins s σ H _ v Q I rx ⟨_, rfl, k _ _ _ Stp.refl (.int _)⟩

/-! ### comparisons -/
def cmpD (p : Int → Int → Bool) (q : Str → Str → Option Bool) : D → D → Option D
  | .int i, .int j => some (.bool (p i j))
  | .str i, .str j => (q i j).map .bool
  | _, _ => none
theorem op_cmpD {f : Value → Value → Sem Value} {p : Int → Int → Bool} {q : Str → Str → Option Bool} (h : OpR X f (rI0 fun i j => .bl (p i j))) (h2 : OpR X f (fun x y H Q => ∃ i j b, x = .str i ∧ y = .str j ∧ q i j = some b ∧ Q (.bl b) H)) : OpR X f (rD (cmpD p q)) := by
  intro pins s σ H x y v u Q I rx ry ⟨G, d, e, z, gh, a, b, hz, k⟩
  cases d with
  | int i =>
    cases e with
    | int j => cases a; cases b; cases hz; exact h pins s σ H _ _ v u Q I rx ry ⟨i, j, rfl, rfl, k _ _ _ Stp.refl (.bl _)⟩
    | _ => cases hz
  | str i =>
    cases e with
    | str j =>
      cases a; cases b
      simp only [cmpD] at hz
      cases e : q i j with
      | none => rw [e] at hz; cases hz
      | some b => rw [e] at hz; cases hz; exact h2 pins s σ H _ _ v u Q I rx ry ⟨i, j, b, rfl, rfl, e, k _ _ _ Stp.refl (.bl _)⟩
    | _ => cases hz
  | _ => cases hz
abbrev ltD := cmpD (fun i j => decide (i < j)) fun i j => some (decide (i.cps.toList < j.cps.toList))
abbrev leD := cmpD (fun i j => decide (i ≤ j)) fun i j => some (!decide (j.cps.toList < i.cps.toList))
abbrev gtD := cmpD (fun i j => decide (j < i)) fun i j => some (decide (j.cps.toList < i.cps.toList))
abbrev geD := cmpD (fun i j => decide (j ≤ i)) fun i j => some (!decide (i.cps.toList < j.cps.toList))
theorem op_ltD : OpR X (compareOp .Lt) (rD ltD) := op_cmpD op_lt fun pins s σ H x y v u Q I rx ry ⟨i, j, b, e1, e2, e3, q⟩ => by cases e3; exact op_lt_str pins s σ H x y v u Q I rx ry ⟨i, j, e1, e2, q⟩
theorem op_leD : OpR X (compareOp .LtE) (rD leD) := op_cmpD op_le fun pins s σ H x y v u Q I rx ry ⟨i, j, b, e1, e2, e3, q⟩ => by cases e3; exact op_le_str pins s σ H x y v u Q I rx ry ⟨i, j, e1, e2, q⟩
theorem op_gtD : OpR X (compareOp .Gt) (rD gtD) := op_cmpD op_gt fun pins s σ H x y v u Q I rx ry ⟨i, j, b, e1, e2, e3, q⟩ => by cases e3; exact op_gt_str pins s σ H x y v u Q I rx ry ⟨i, j, e1, e2, q⟩
theorem op_geD : OpR X (compareOp .GtE) (rD geD) := op_cmpD op_ge fun pins s σ H x y v u Q I rx ry ⟨i, j, b, e1, e2, e3, q⟩ => by cases e3; exact op_ge_str pins s σ H x y v u Q I rx ry ⟨i, j, e1, e2, q⟩
/-- == and !=: where both are shaped -/
def eqDD : D → D → Option D
  | .str a, .str b => some (.bool (decide (a = b)))
  | d, e => if SeqAt.shaped d = true ∧ SeqAt.shaped e = true then some (.bool (PyData.eqv d e)) else none
def neDD : D → D → Option D
  | .str a, .str b => some (.bool (!decide (a = b)))
  | d, e => if SeqAt.shaped d = true ∧ SeqAt.shaped e = true then some (.bool (!PyData.eqv d e)) else none
theorem eqDD_cases {d e z : D} (h : eqDD d e = some z) : (∃ a b, d = .str a ∧ e = .str b ∧ z = .bool (decide (a = b))) ∨ (SeqAt.shaped d = true ∧ SeqAt.shaped e = true ∧ z = .bool (PyData.eqv d e)) := by
  unfold eqDD at h
  split at h
  · cases h; exact .inl ⟨_, _, rfl, rfl, rfl⟩
  · split at h
    · rename_i hs; cases h; exact .inr ⟨hs.1, hs.2, rfl⟩
    · cases h
theorem neDD_cases {d e z : D} (h : neDD d e = some z) : (∃ a b, d = .str a ∧ e = .str b ∧ z = .bool (!decide (a = b))) ∨ (SeqAt.shaped d = true ∧ SeqAt.shaped e = true ∧ z = .bool (!PyData.eqv d e)) := by
  unfold neDD at h
  split at h
  · cases h; exact .inl ⟨_, _, rfl, rfl, rfl⟩
  · split at h
    · rename_i hs; cases h; exact .inr ⟨hs.1, hs.2, rfl⟩
    · cases h
theorem op_eqDD (hu : X.A.units + 64 < cLine) : OpR X (compareOp .Eq) (rD eqDD) := by
  intro pins s σ H x y v u Q I rx ry ⟨G, d, e, z, gh, a, b, hz, k⟩
  rcases eqDD_cases hz with ⟨i, j, rfl, rfl, rfl⟩ | ⟨h1, h2, rfl⟩
  · cases a; cases b
    refine op_eq pins s σ H _ _ v u Q I rx ry ⟨rfl, ?_⟩
    have e : decide (V.str i = V.str j) = decide (i = j) := by by_cases h : i = j <;> simp [h]
    rw [e]
    exact k _ _ _ Stp.refl (.bl _)
  · exact op_eqD hu pins s σ H _ _ v u Q I rx ry ⟨d, e, Is.dp (Is.mono' gh a), Is.dp (Is.mono' gh b), h1, h2, k _ _ _ Stp.refl (.bl _)⟩
theorem op_neDD (hu : X.A.units + 64 < cLine) : OpR X (compareOp .NotEq) (rD neDD) := by
  intro pins s σ H x y v u Q I rx ry ⟨G, d, e, z, gh, a, b, hz, k⟩
  rcases neDD_cases hz with ⟨i, j, rfl, rfl, rfl⟩ | ⟨h1, h2, rfl⟩
  · cases a; cases b
    refine op_ne pins s σ H _ _ v u Q I rx ry ⟨rfl, ?_⟩
    have e : decide (V.str i = V.str j) = decide (i = j) := by by_cases h : i = j <;> simp [h]
    rw [e]
    exact k _ _ _ Stp.refl (.bl _)
  · exact op_neD hu pins s σ H _ _ v u Q I rx ry ⟨d, e, Is.dp (Is.mono' gh a), Is.dp (Is.mono' gh b), h1, h2, k _ _ _ Stp.refl (.bl _)⟩
/-- is None, is not None, is True, .. -/
def isNonD : D → Bool
  | .none => true
  | _ => false
theorem isNon_v {G : Hp} {v : V} {d : D} (r : Is G v d) : decide (v = .non) = isNonD d := by cases r <;> simp [isNonD]
def isSD : D → D → Option D
  | d, .none => some (.bool (isNonD d))
  | .bool a, .bool b => some (.bool (decide (a = b)))
  | .none, .bool _ => some (.bool false)
  | _, _ => none
def isntD : D → D → Option D
  | d, .none => some (.bool (!isNonD d))
  | .bool a, .bool b => some (.bool (!decide (a = b)))
  | .none, .bool _ => some (.bool true)
  | _, _ => none
theorem op_isSD : OpR X (compareOp .Is) (rD isSD) := by
  intro pins s σ H x y v u Q I rx ry ⟨G, d, e, z, gh, a, b, hz, k⟩
  cases e with
  | none =>
    cases b
    have hz : some (PyData.bool (isNonD d)) = some z := by cases d <;> exact hz
    cases hz
    exact op_isN pins s σ H _ _ v u Q I rx ry ⟨rfl, by rw [isNon_v a]; exact k _ _ _ Stp.refl (.bl _)⟩
  | bool b' =>
    cases d with
    | bool a' => cases a; cases b; cases hz; exact op_isBl pins s σ H _ _ v u Q I rx ry ⟨a', b', rfl, rfl, k _ _ _ Stp.refl (.bl _)⟩
    | none =>
      cases a; cases b; cases hz
      cases rx; cases ry
      have e : isSame Value.none (Value.bool b') = pure false := by cases b' <;> rfl
      show wpAny _ _ (isSame Value.none (Value.bool b') >>= fun r => pure (Value.bool r)) _ _ s
      rw [e]
      exact wpAny_bind (wpAny_pure (wpAny_pure ⟨.bl false, H, I, rfl, k _ _ _ Stp.refl (.bl _)⟩))
    | _ => cases hz
  | _ => cases d <;> cases hz
theorem op_isntD : OpR X (compareOp .IsNot) (rD isntD) := by
  intro pins s σ H x y v u Q I rx ry ⟨G, d, e, z, gh, a, b, hz, k⟩
  cases e with
  | none =>
    cases b
    have hz : some (PyData.bool (!isNonD d)) = some z := by cases d <;> exact hz
    cases hz
    exact op_notN pins s σ H _ _ v u Q I rx ry ⟨rfl, by rw [isNon_v a]; exact k _ _ _ Stp.refl (.bl _)⟩
  | bool b' =>
    cases d with
    | bool a' => cases a; cases b; cases hz; exact op_notBl pins s σ H _ _ v u Q I rx ry ⟨a', b', rfl, rfl, k _ _ _ Stp.refl (.bl _)⟩
    | none =>
      cases a; cases b; cases hz
      cases rx; cases ry
      have e : isSame Value.none (Value.bool b') = pure false := by cases b' <;> rfl
      show wpAny _ _ (isSame Value.none (Value.bool b') >>= fun r => pure (Value.bool (!r))) _ _ s
      rw [e]
      exact wpAny_bind (wpAny_pure (wpAny_pure ⟨.bl true, H, I, rfl, k _ _ _ Stp.refl (.bl _)⟩))
    | _ => cases hz
  | _ => cases d <;> cases hz
/-! ### in, not in -/
/-- a text in a text, a scalar in a row of such -/
def flatD : D → Bool
  | .none => true
  | .bool _ => true
  | .int _ => true
  | .str _ => true
  | _ => false
theorem flat_v {G : Hp} {v : V} {d : D} (r : Is G v d) (h : flatD d = true) : flatV v = true := by cases r <;> first | rfl | cases h
theorem flat_vs {G : Hp} : ∀ {ds : List D} {vs : List V}, IsAll G vs ds → ds.all flatD = true → vs.all flatV = true
  | _, _, .nil, _ => rfl
  | _, _, .cons a b, h => by
    rw [List.all_cons, Bool.and_eq_true] at h ⊢
    exact ⟨flat_v a h.1, flat_vs b h.2⟩
/-- == of scalars of one kind -/
def eqF : D → D → Bool
  | .none, .none => true
  | .bool a, .bool b => a == b
  | .bool a, .int j => (if a then 1 else 0) == j
  | .int i, .bool b => i == (if b then 1 else 0)
  | .int i, .int j => i == j
  | .str a, .str b => a == b
  | _, _ => false
end
end DL
namespace DL
open PySem PySem.Spec PyProof.Rows L2
section
variable {X : Cx}
/-! ### in, not in -/
theorem eqF_v {G : Hp} {v u : V} {d e : D} (r : Is G v d) (q : Is G u e) : eqV v u = eqF d e := by
  cases r <;> cases q <;> rfl
theorem inF_v {G : Hp} {v : V} {d : D} (r : Is G v d) : ∀ {ds : List D} {vs : List V}, IsAll G vs ds → inV v vs = ds.any fun z => eqF z d
  | _, _, .nil => rfl
  | _, _, .cons a b => by
    unfold inV
    rw [List.any_cons, List.any_cons, eqF_v a r]
    congr 1
    exact inF_v r b
def inBD : D → D → Option Bool
  | .str a, .str b => some (!(Builtin.Str.occurrences b a 0 b.length 1).isEmpty)
  | d, .list ds => if flatD d = true ∧ ds.all flatD = true then some (ds.any fun z => eqF z d) else if SeqAt.shaped d = true ∧ SeqAt.shaped (.list ds) = true then some (ds.any fun z => PyData.eqv z d) else none
  | d, .tuple ds => if flatD d = true ∧ ds.all flatD = true then some (ds.any fun z => eqF z d) else none
  | _, _ => none
def inD : D → D → Option D := fun d e => (inBD d e).map .bool
def notInD : D → D → Option D := fun d e => (inBD d e).map fun b => .bool (!b)
theorem op_inDD (hu : X.A.units + 65 < cLine) : OpR X (compareOp .In) (rD inD) := by
  intro pins s σ H x y v u Q I rx ry ⟨G, d, e, z, gh, a, b, hz, k⟩
  unfold inD at hz
  cases e with
  | str t =>
    cases d with
    | str i =>
      cases a; cases b
      simp [inBD] at hz
      subst hz
      exact op_in_str pins s σ H _ _ v u Q I rx ry ⟨i, t, rfl, rfl, k _ _ _ Stp.refl (by simpa using Is.bl _)⟩
    | _ => simp [inBD] at hz
  | list ds =>
    have e : inBD d (.list ds) = if flatD d = true ∧ ds.all flatD = true then some (ds.any fun z => eqF z d) else if SeqAt.shaped d = true ∧ SeqAt.shaped (.list ds) = true then some (ds.any fun z => PyData.eqv z d) else none := by cases d <;> rfl
    rw [e] at hz
    split at hz
    · rename_i hf
      cases hz
      obtain ⟨p, vs, rfl, sq, ra, _⟩ := b.sq (K := X.K) gh
      exact op_in_seq pins s σ H _ _ v u Q I rx ry ⟨p, vs, rfl, .inl sq, flat_v a hf.1, flat_vs ra hf.2, by rw [inF_v a ra]; exact k _ _ _ Stp.refl (.bl _)⟩
    · split at hz
      · rename_i hs
        cases hz
        exact op_inD hu pins s σ H _ _ v u Q I rx ry ⟨d, ds, Is.dp (Is.mono' gh a), Is.dp (Is.mono' gh b), hs.1, hs.2, k _ _ _ Stp.refl (.bl _)⟩
      · cases hz
  | tuple ds =>
    have e : inBD d (.tuple ds) = if flatD d = true ∧ ds.all flatD = true then some (ds.any fun z => eqF z d) else none := by cases d <;> rfl
    rw [e] at hz
    split at hz
    · rename_i hf
      cases hz
      obtain ⟨p, vs, rfl, sq, ra⟩ := b.sqT (K := X.K) gh
      exact op_in_seq pins s σ H _ _ v u Q I rx ry ⟨p, vs, rfl, .inr sq, flat_v a hf.1, flat_vs ra hf.2, by rw [inF_v a ra]; exact k _ _ _ Stp.refl (.bl _)⟩
    · cases hz
  | _ => cases d <;> simp [inBD] at hz
theorem op_notInDD (hu : X.A.units + 65 < cLine) : OpR X (compareOp .NotIn) (rD notInD) := by
  intro pins s σ H x y v u Q I rx ry ⟨G, d, e, z, gh, a, b, hz, k⟩
  unfold notInD at hz
  cases e with
  | str t =>
    cases d with
    | str i =>
      cases a; cases b
      simp [inBD] at hz
      subst hz
      exact op_notin_str pins s σ H _ _ v u Q I rx ry ⟨i, t, rfl, rfl, k _ _ _ Stp.refl (by simpa using Is.bl _)⟩
    | _ => simp [inBD] at hz
  | list ds =>
    have e : inBD d (.list ds) = if flatD d = true ∧ ds.all flatD = true then some (ds.any fun z => eqF z d) else if SeqAt.shaped d = true ∧ SeqAt.shaped (.list ds) = true then some (ds.any fun z => PyData.eqv z d) else none := by cases d <;> rfl
    rw [e] at hz
    split at hz
    · rename_i hf
      cases hz
      obtain ⟨p, vs, rfl, sq, ra, _⟩ := b.sq (K := X.K) gh
      exact op_notIn_seq pins s σ H _ _ v u Q I rx ry ⟨p, vs, rfl, .inl sq, flat_v a hf.1, flat_vs ra hf.2, by rw [inF_v a ra]; exact k _ _ _ Stp.refl (.bl _)⟩
    · split at hz
      · rename_i hs
        cases hz
        exact op_notInD hu pins s σ H _ _ v u Q I rx ry ⟨d, ds, Is.dp (Is.mono' gh a), Is.dp (Is.mono' gh b), hs.1, hs.2, k _ _ _ Stp.refl (.bl _)⟩
      · cases hz
  | tuple ds =>
    have e : inBD d (.tuple ds) = if flatD d = true ∧ ds.all flatD = true then some (ds.any fun z => eqF z d) else none := by cases d <;> rfl
    rw [e] at hz
    split at hz
    · rename_i hf
      cases hz
      obtain ⟨p, vs, rfl, sq, ra⟩ := b.sqT (K := X.K) gh
      exact op_notIn_seq pins s σ H _ _ v u Q I rx ry ⟨p, vs, rfl, .inr sq, flat_v a hf.1, flat_vs ra hf.2, by rw [inF_v a ra]; exact k _ _ _ Stp.refl (.bl _)⟩
    · cases hz
  | _ => cases d <;> simp [inBD] at hz

/-! ### * -/
def repS (z : Str) (n : Int) : Str := ⟨(List.replicate n.toNat z.cps.toList).flatten.toArray⟩
theorem foldl_cps (z : Str) : ∀ (n : Nat) (acc : Array Nat), (List.replicate n z.cps).foldl (· ++ ·) acc = acc ++ ((List.replicate n z.cps.toList).flatten).toArray
  | 0, acc => by simp
  | n + 1, acc => by
    rw [List.replicate_succ, List.foldl_cons, foldl_cps z n, List.replicate_succ, List.flatten_cons]
    apply Array.toList_inj.mp
    simp
def mulD : D → D → Option D
  | .int i, .int j => if CMulW i j then some (.int (i * j)) else none
  | .str z, .int n => if 0 ≤ n ∧ n < 2 ^ 40 ∧ z.length * n.toNat ≤ sizeLine then some (.str (repS z n)) else none
  | .list xs, .int n => if 0 ≤ n ∧ n < 2 ^ 40 ∧ xs.length * n.toNat ≤ sizeLine then some (.list (List.replicate n.toNat xs).flatten) else none
  | .tuple xs, .int n => if xs ≠ [] ∧ 2 ≤ n ∧ n ≤ 1000 ∧ xs.length ≤ 1000 then some (.tuple (List.replicate n.toNat xs).flatten) else none
  | _, _ => none
theorem IsAll.rep' {G : Hp} {vs : List V} {ds : List D} (r : IsAll G vs ds) : ∀ n : Nat, IsAll G (List.replicate n vs).flatten (List.replicate n ds).flatten
  | 0 => .nil
  | n + 1 => by rw [List.replicate_succ, List.replicate_succ, List.flatten_cons, List.flatten_cons]; exact IsAll.app' r (IsAll.rep' r n)
theorem op_mulD : OpR X (binaryOp .Mult) (rD mulD) := by
  intro pins s σ H x y v u Q I rx ry ⟨G, d, e, z, gh, a, b, hz, k⟩
  cases d with
  | int i =>
    cases e with
    | int j =>
      cases a; cases b
      simp only [mulD] at hz
      split at hz
      · cases hz; exact op_mulW pins s σ H _ _ v u Q I rx ry ⟨i, j, rfl, rfl, by assumption, k _ _ _ Stp.refl (.int _)⟩
      · cases hz
    | _ => cases hz
  | str t =>
    cases e with
    | int n =>
      cases a; cases b
      simp only [mulD] at hz
      split at hz
      · rename_i hn
        cases hz
        obtain ⟨n0, n1, n2⟩ := hn
        obtain ⟨tk, rfl⟩ := rx
        obtain ⟨tk', rfl⟩ := ry
        have fin : ∀ t', t' = repS t n → Made.post (Made.str t') (EP X pins σ Q) s := fun t' e => by
          subst e
          refine ⟨?_, .str _, H, I.tok _, ⟨_, rfl⟩, k _ _ _ Stp.refl (.str _)⟩
          show ((List.replicate n.toNat t.cps.toList).flatten.toArray).size ≤ sizeLine
          rw [List.size_toArray, PyProof.Rows.lm_len_rep_flat, Array.length_toList, Nat.mul_comm]
          exact n2
        refine PySem.P.mul_str ?_ (fun h1 h2 => ?_) (fun _ _ => ?_) ?_
        · rw [decide_eq_false (by omega), decide_eq_false (by omega)] <;> rfl
        · have hl : (t.length : Int) * n ≤ 16777216 := by
            have e : ((t.length * n.toNat : Nat) : Int) = (t.length : Int) * n := by rw [Int.natCast_mul]; congr 1; omega
            rw [← e]
            have := sizeLine_eq
            omega
          have hn0 : 0 < n := by omega
          intro h
          have h3 : (2 ^ 63 - 1 : Int) / n < t.length := h
          have h4 : (2 ^ 63 - 1 : Int) < (t.length : Int) * n := by
            have := Int.lt_mul_of_ediv_lt hn0 h3
            exact this
          omega
        · unfold Builtin.Str.tooLong
          exact decide_eq_false (by omega)
        · by_cases h1 : n < 1
          · rw [if_pos h1]
            have : n = 0 := by omega
            subst this
            exact fin _ (by simp [repS, Str.empty])
          · rw [if_neg h1]
            by_cases h2 : (n == 1 || t.length == 0) = true
            · rw [if_pos h2]
              rw [Bool.or_eq_true] at h2
              have e : repS t n = t := by
                rcases h2 with h2 | h2
                · have : n = 1 := by simpa using h2
                  subst this
                  unfold repS
                  simp
                · have h3 : t.length = 0 := by simpa using h2
                  obtain ⟨c⟩ := t
                  have h4 : c.size = 0 := h3
                  have h5 : c = #[] := Array.size_eq_zero_iff.mp h4
                  subst h5
                  unfold repS
                  simp
              rw [e] at k
              exact ⟨.str t, H, I, ⟨tk, rfl⟩, k _ _ _ Stp.refl (.str _)⟩
            · rw [if_neg h2]
              refine fin _ ?_
              unfold repS
              congr 1
              have := foldl_cps t n.toNat #[]
              simpa using this
      · cases hz
    | _ => cases hz
  | list xs =>
    cases e with
    | int n =>
      cases b
      simp only [mulD] at hz
      split at hz
      · rename_i hn
        cases hz
        obtain ⟨n0, n1, n2⟩ := hn
        obtain ⟨p, vs, rfl, _, ra, r1⟩ := a.sq (K := X.K) gh
        cases rx
        obtain ⟨t, rfl⟩ := ry
        obtain ⟨z1, its, c, rv, e1⟩ := r1.ok I.hok
        have l1 := rv.length
        have m1 := IsAll.length' ra
        have hlen : its.toArray.size * n.toNat ≤ sizeLine := by rw [List.size_toArray, ← l1, m1]; exact n2
        have hcap : ¬ its.toArray.size * n.toNat > (2 ^ 63 - 1) / 8 := by
          have : (sizeLine : Nat) ≤ (2 ^ 63 - 1) / 8 := by decide
          omega
        have hnew : List.foldl (fun x1 x2 => x1 ++ x2) #[] (List.replicate (if its.toArray.isEmpty = true then 0 else n.toNat) its.toArray) = (List.replicate n.toNat its).flatten.toArray := by
          have f0 : ∀ m : Nat, List.foldl (fun x1 x2 => x1 ++ x2) #[] (List.replicate m its.toArray) = (List.replicate m its).flatten.toArray := fun m => by
            simpa using foldl_rep its m []
          rw [f0]
          cases its with
          | nil => simp
          | cons a r' => rw [if_neg (by simp)]
        refine wpAny_binaryOp_repeat_ref (T := "list") (U := "int") (by decide) ⟨_, e1, rfl⟩ (fun s' => typeIs_int s' n t) noFill_list_mul F.fills_int_mul F.slot_int_rmul repeat_list F.slot_int_index.lookup
          (call_meets F.slot_int_rmul (typeIs_int s n t) F.entry_int_rmul (F.args_int_rmul_2 _ _) (int___rmul___int_list n t p its.toArray c)
            ⟨e1, rfl, ⟨_, e1, rfl⟩, call_meets F.slot_list_mul ⟨_, e1, rfl⟩ F.entry_list_mul (F.args_list_mul_2 _ _) (AutoListH.list___mul___list_int_3 p its.toArray c n t (by rw [fitsIndex_both (by omega) (by omega)]; exact Bool.false_ne_true) hcap
              (by rw [notLongL hlen]; exact Bool.false_ne_true)) ⟨e1, ?_⟩⟩)
        rw [hnew]
        refine ⟨.ref _, _, I.lnew (t' := s.toks) (rv.rep n.toNat) (by rw [PyProof.Rows.lm_len_rep_flat, Nat.mul_comm, m1]; exact n2), rfl, ?_⟩
        exact k _ _ _ (Stp.new gh I.fresh) (.lst (.inl upd_same) (IsAll.mono' (Stp.new (o := .lst (List.replicate n.toNat vs).flatten) gh I.fresh).g (IsAll.rep' ra n.toNat)))
      · cases hz
    | _ => cases hz
  | tuple xs =>
    cases e with
    | int n =>
      cases b
      simp only [mulD] at hz
      split at hz
      · rename_i hn
        cases hz
        obtain ⟨n0, n1, n2, n3⟩ := hn
        obtain ⟨p, vs, rfl, sq, ra⟩ := a.sqT (K := X.K) gh
        exact op_repT pins s σ H _ _ v u Q I rx ry ⟨p, n, vs, rfl, rfl, sq, fun e => n0 ((isAll_nil ra).mp e), n1, n2, by rw [IsAll.length' ra]; exact n3, fun q hq =>
          k _ _ _ (Stp.new gh hq) (.tup (.inl upd_same) (IsAll.mono' (Stp.new (o := .tup (List.replicate n.toNat vs).flatten) gh hq).g (IsAll.rep' ra n.toNat)))⟩
      · cases hz
    | _ => cases hz
  | _ => cases hz

/-! ### calls -/
def lenD : List D → Option D
  | [.list xs] => some (.int xs.length)
  | [.tuple xs] => some (.int xs.length)
  | [.str z] => if z.length ≤ sizeLine then some (.int z.length) else none
  | _ => none
theorem call_lenD : CallR X (.builtin "len") (rDL lenD) := by
  intro pins s σ H xs us Q I r ⟨G, ds, z, gh, a, hz, k⟩
  match ds, a, hz with
  | [.list ys], .cons a1 .nil, hz =>
    cases hz
    obtain ⟨p, vs, rfl, sq, ra, _⟩ := a1.sq (K := X.K) gh
    exact call_len_seq pins s σ H _ us Q I r ⟨p, vs, rfl, .inl sq, by rw [IsAll.length' ra]; exact k _ _ _ Stp.refl (.int _)⟩
  | [.tuple ys], .cons a1 .nil, hz =>
    cases hz
    obtain ⟨p, vs, rfl, sq, ra⟩ := a1.sqT (K := X.K) gh
    exact call_len_seq pins s σ H _ us Q I r ⟨p, vs, rfl, .inr sq, by rw [IsAll.length' ra]; exact k _ _ _ Stp.refl (.int _)⟩
  | [.str t], .cons (.str _) .nil, hz =>
    simp only [lenD] at hz
    split at hz
    · cases hz
      exact call_len_str pins s σ H _ us Q I r ⟨t, rfl, by assumption, k _ _ _ Stp.refl (.int _)⟩
    · cases hz
def i2D (g : Int → Int → Int) : List D → Option D
  | [.int i, .int j] => some (.int (g i j))
  | _ => none
theorem call_i2 {id : String} {g : Int → Int → Int} (h : CallR X (.builtin id) (fun xs H Q => ∃ i j, xs = [.int i, .int j] ∧ Q (.int (g i j)) H)) : CallR X (.builtin id) (rDL (i2D g)) := by
  intro pins s σ H xs us Q I r ⟨G, ds, z, gh, a, hz, k⟩
  match ds, a, hz with
  | [.int i, .int j], .cons (.int _) (.cons (.int _) .nil), hz => cases hz; exact h pins s σ H _ us Q I r ⟨i, j, rfl, k _ _ _ Stp.refl (.int _)⟩
abbrev min2D := i2D fun i j => if j < i then j else i
abbrev max2D := i2D fun i j => if j > i then j else i
theorem call_min2D (hc : X.calm = true) : CallR X (.builtin "min") (rDL min2D) := call_i2 (call_min2 hc)
theorem call_max2D (hc : X.calm = true) : CallR X (.builtin "max") (rDL max2D) := call_i2 (call_max2 hc)
def absD : List D → Option D
  | [.int i] => some (.int (if i < 0 then -i else i))
  | _ => none
theorem call_absD : CallR X (.builtin "abs") (rDL absD) := by
  intro pins s σ H xs us Q I r ⟨G, ds, z, gh, a, hz, k⟩
  match ds, a, hz with
  | [.int i], .cons (.int _) .nil, hz => cases hz; exact call_abs pins s σ H _ us Q I r ⟨i, rfl, k _ _ _ Stp.refl (.int _)⟩
/-- the greatest, the least of a list of whole numbers -/
def maxL : List Int → Int
  | [] => 0
  | [x] => x
  | x :: xs => max x (maxL xs)
def minL : List Int → Int
  | [] => 0
  | [x] => x
  | x :: xs => min x (minL xs)
theorem maxL_spec : ∀ {ns : List Int}, ns ≠ [] → maxL ns ∈ ns ∧ ∀ y ∈ ns, y ≤ maxL ns
  | [x], _ => by simp [maxL]
  | x :: y :: r, _ => by
    obtain ⟨h1, h2⟩ := maxL_spec (ns := y :: r) (by simp)
    have e : maxL (x :: y :: r) = max x (maxL (y :: r)) := rfl
    rw [e]
    refine ⟨?_, fun z hz => ?_⟩
    · by_cases h : x ≤ maxL (y :: r)
      · rw [Int.max_eq_right h]; exact List.mem_cons_of_mem _ h1
      · rw [Int.max_eq_left (by omega)]; exact List.mem_cons_self
    · rcases List.mem_cons.mp hz with rfl | hz
      · exact Int.le_max_left _ _
      · exact Int.le_trans (h2 z hz) (Int.le_max_right _ _)
theorem minL_spec : ∀ {ns : List Int}, ns ≠ [] → minL ns ∈ ns ∧ ∀ y ∈ ns, minL ns ≤ y
  | [x], _ => by simp [minL]
  | x :: y :: r, _ => by
    obtain ⟨h1, h2⟩ := minL_spec (ns := y :: r) (by simp)
    have e : minL (x :: y :: r) = min x (minL (y :: r)) := rfl
    rw [e]
    refine ⟨?_, fun z hz => ?_⟩
    · by_cases h : x ≤ minL (y :: r)
      · rw [Int.min_eq_left h]; exact List.mem_cons_self
      · rw [Int.min_eq_right (by omega)]; exact List.mem_cons_of_mem _ h1
    · rcases List.mem_cons.mp hz with rfl | hz
      · exact Int.min_le_left _ _
      · exact Int.le_trans (Int.min_le_right _ _) (h2 z hz)
def maxLD : List D → Option D
  | [.list xs] => (intsOf xs).bind fun ns => if ns = [] then none else some (.int (maxL ns))
  | [.int i, .int j] => some (.int (if j > i then j else i))
  | _ => none
def minLD : List D → Option D
  | [.list xs] => (intsOf xs).bind fun ns => if ns = [] then none else some (.int (minL ns))
  | [.int i, .int j] => some (.int (if j < i then j else i))
  | _ => none
theorem call_maxD (hc : X.calm = true) : CallR X (.builtin "max") (rDL maxLD) := by
  intro pins s σ H xs us Q I r ⟨G, ds, z, gh, a, hz, k⟩
  match ds, a, hz with
  | [.int i, .int j], .cons (.int _) (.cons (.int _) .nil), hz => cases hz; exact call_max2 hc pins s σ H _ us Q I r ⟨i, j, rfl, k _ _ _ Stp.refl (.int _)⟩
  | [.list ys], .cons a1 .nil, hz =>
    cases e : intsOf ys with
    | none => simp [maxLD, e] at hz
    | some ns =>
      obtain ⟨p, vs, rfl, sq, ra, _⟩ := a1.sq (K := X.K) gh
      have ev := ints_vals ra e
      subst ev
      simp [maxLD, e] at hz
      obtain ⟨h0, rfl⟩ := hz
      refine cr_max hc pins s σ H _ us Q I r ⟨p, ns, rfl, sq, List.length_pos_iff.mpr h0, fun m hm hy => ?_⟩
      obtain ⟨h1, h2⟩ := maxL_spec h0
      have : m = maxL ns := Int.le_antisymm (h2 m hm) (hy _ h1)
      subst this
      exact k _ _ _ Stp.refl (.int _)
theorem call_minD (hc : X.calm = true) : CallR X (.builtin "min") (rDL minLD) := by
  intro pins s σ H xs us Q I r ⟨G, ds, z, gh, a, hz, k⟩
  match ds, a, hz with
  | [.int i, .int j], .cons (.int _) (.cons (.int _) .nil), hz => cases hz; exact call_min2 hc pins s σ H _ us Q I r ⟨i, j, rfl, k _ _ _ Stp.refl (.int _)⟩
  | [.list ys], .cons a1 .nil, hz =>
    cases e : intsOf ys with
    | none => simp [minLD, e] at hz
    | some ns =>
      obtain ⟨p, vs, rfl, sq, ra, _⟩ := a1.sq (K := X.K) gh
      have ev := ints_vals ra e
      subst ev
      simp [minLD, e] at hz
      obtain ⟨h0, rfl⟩ := hz
      refine cr_min hc pins s σ H _ us Q I r ⟨p, ns, rfl, sq, List.length_pos_iff.mpr h0, fun m hm hy => ?_⟩
      obtain ⟨h1, h2⟩ := minL_spec h0
      have : m = minL ns := Int.le_antisymm (hy _ h1) (h2 m hm)
      subst this
      exact k _ _ _ Stp.refl (.int _)
/-- all(..), any(..) of a list of truths -/
def allD : List D → Option D
  | [.list xs] => (blsOf xs).map fun bs => .bool (bs.all id)
  | _ => none
def anyD : List D → Option D
  | [.list xs] => (blsOf xs).map fun bs => .bool (bs.any id)
  | _ => none
theorem call_allD (hc : X.calm = true) : CallR X (.builtin "all") (rDL allD) := by
  intro pins s σ H xs us Q I r ⟨G, ds, z, gh, a, hz, k⟩
  match ds, a, hz with
  | [.list ys], .cons a1 .nil, hz =>
    cases e : blsOf ys with
    | none => simp [allD, e] at hz
    | some bs =>
      obtain ⟨p, vs, rfl, sq, ra, _⟩ := a1.sq (K := X.K) gh
      have ev := bls_vals ra e
      subst ev
      simp [allD, e] at hz
      subst hz
      exact cr_all hc pins s σ H _ us Q I r ⟨p, bs, rfl, sq, k _ _ _ Stp.refl (.bl _)⟩
theorem call_anyD (hc : X.calm = true) : CallR X (.builtin "any") (rDL anyD) := by
  intro pins s σ H xs us Q I r ⟨G, ds, z, gh, a, hz, k⟩
  match ds, a, hz with
  | [.list ys], .cons a1 .nil, hz =>
    cases e : blsOf ys with
    | none => simp [anyD, e] at hz
    | some bs =>
      obtain ⟨p, vs, rfl, sq, ra, _⟩ := a1.sq (K := X.K) gh
      have ev := bls_vals ra e
      subst ev
      simp [anyD, e] at hz
      subst hz
      exact cr_any hc pins s σ H _ us Q I r ⟨p, bs, rfl, sq, k _ _ _ Stp.refl (.bl _)⟩
/-- tuple(..) -/
def tupleD : List D → Option D
  | [.list xs] => some (.tuple xs)
  | [.tuple xs] => some (.tuple xs)
  | _ => none
theorem call_tupleD : CallR X (.type "tuple") (rDL tupleD) := by
  intro pins s σ H xs us Q I r ⟨G, ds, z, gh, a, hz, k⟩
  match ds, a, hz with
  | [.list ys], .cons a1 .nil, hz =>
    cases hz
    obtain ⟨p, vs, rfl, sq, ra, _⟩ := a1.sq (K := X.K) gh
    exact call_tuple_of pins s σ H _ us Q I r ⟨p, vs, rfl, .inl ⟨sq, fun l hl => k _ _ _ (Stp.new gh hl) (.tup (.inl upd_same) (IsAll.mono' (Stp.new (o := .tup vs) gh hl).g ra))⟩⟩
  | [.tuple ys], .cons a1 .nil, hz =>
    cases hz
    obtain ⟨p, vs, e, sq, ra⟩ := a1.sqT (K := X.K) gh
    subst e
    exact call_tuple_of pins s σ H _ us Q I r ⟨p, vs, rfl, .inr ⟨sq, k _ _ _ Stp.refl a1⟩⟩
/-- int(..) of a truth or a whole number -/
def intCD : List D → Option D
  | [.int i] => some (.int i)
  | [.bool b] => some (.int (if b then 1 else 0))
  | _ => none
theorem call_intCD : CallR X (.type "int") (rDL intCD) := by
  intro pins s σ H xs us Q I r ⟨G, ds, z, gh, a, hz, k⟩
  match ds, a, hz with
  | [.int i], .cons (.int _) .nil, hz => cases hz; exact call_int1 pins s σ H _ us Q I r (.inl ⟨i, rfl, k _ _ _ Stp.refl (.int _)⟩)
  | [.bool i], .cons (.bl _) .nil, hz => cases hz; exact call_int1 pins s σ H _ us Q I r (.inr ⟨i, rfl, k _ _ _ Stp.refl (.int _)⟩)
/-- str(..) of a whole number -/
def strCD : List D → Option D
  | [.int i] => if i.natAbs.log2 < 1920 then some (.str (toString i)) else none
  | _ => none
theorem call_strCD : CallR X (.type "str") (rDL strCD) := by
  intro pins s σ H xs us Q I r ⟨G, ds, z, gh, a, hz, k⟩
  match ds, a, hz with
  | [.int i], .cons (.int _) .nil, hz =>
    simp only [strCD] at hz
    split at hz
    · cases hz; exact call_str_int pins s σ H _ us Q I r ⟨i, rfl, by assumption, k _ _ _ Stp.refl (.str _)⟩
    · cases hz
/-! ### items and slices -/
def ixD : D → D → Option D
  | .list xs, .int i => atI xs i
  | .tuple xs, .int i => atI xs i
  | .str z, .int i => if z.length ≤ sizeLine then (atI z.cps.toList i).map fun c => .str ⟨#[c]⟩ else none
  | _, _ => none
theorem ix_D : IxR X (rD ixD) := by
  intro value slice pins s σ H x y v u Q I rx ry ⟨G, d, e, z, gh, a, b, hz, k⟩ hop
  refine ix_seq value slice pins s σ H x y v u Q I rx ry ?_ hop
  cases e with
  | int i =>
    cases b
    cases d with
    | list xs =>
      obtain ⟨p, vs, rfl, sq, ra, _⟩ := a.sq (K := X.K) gh
      obtain ⟨w, h1, h2⟩ := at_get ra hz
      exact .inl ⟨p, vs, i, w, rfl, rfl, sq, h1, k _ _ _ Stp.refl h2⟩
    | tuple xs =>
      obtain ⟨p, vs, rfl, sq, ra⟩ := a.sqT (K := X.K) gh
      obtain ⟨w, h1, h2⟩ := at_get ra hz
      exact .inr (.inl ⟨p, vs, i, w, rfl, rfl, sq, h1, k _ _ _ Stp.refl h2⟩)
    | str t =>
      cases a
      simp only [ixD] at hz
      split at hz
      · rename_i hl
        cases e : atI t.cps.toList i with
        | none => rw [e] at hz; cases hz
        | some c => rw [e] at hz; cases hz; exact .inr (.inr ⟨t, i, c, rfl, rfl, hl, e, k _ _ _ Stp.refl (.str _)⟩)
      · cases hz
    | _ => cases hz
  | _ => cases d <;> cases hz
abbrev TDo := List Sl → (Option Int → List Sl → Prop) → Prop
def LftO (fr : Fr) (t : TDo) : TO := fun σ H Q => ∃ G ρ, StR fr G H σ ρ ∧ t ρ fun o ρ' => ∀ G' H', Same G G' → StR fr G' H' σ ρ' → Q o H'
structure PDo (X : Cx) (fr : Fr) (e : Option Expr) (t : TDo) : Prop where
  run : PO X e (LftO fr t)
  mono : ∀ ρ (A B : Option Int → List Sl → Prop), (∀ d ρ', A d ρ' → B d ρ') → t ρ A → t ρ B
theorem PO.imp {e : Option Expr} {t t' : TO} (h : PO X e t) (k : ∀ σ H Q, t' σ H Q → t σ H Q) : PO X e t' := ⟨fun pins s σ H Q I x => h.run pins s σ H Q I (k σ H Q x)⟩
variable {fr : Fr} {e lo hi st : Expr} {olo ohi : Option Expr} {ta : TD} {tl th : TDo} {pos p2 : Pos}
def toNo : TDo := fun ρ K => K none ρ
def toSome (t : TD) : TDo := fun ρ K => t ρ fun d ρ1 => match d with
  | .int i => K (some i) ρ1
  | _ => False
theorem pdo_none : PDo X fr none toNo := by
  refine ⟨PO.imp po_none ?_, fun ρ A B k h => k _ _ h⟩
  rintro σ H Q ⟨G, ρ, st, h⟩
  exact h _ _ (Same.refl _) st
theorem pdo_some (h : PD X fr e ta) : PDo X fr (some e) (toSome ta) := by
  refine ⟨PO.imp (po_some h.run) ?_, fun ρ A B k z => h.mono _ _ _ (fun d ρ1 z => by
    cases d with
    | int i => exact k _ _ z
    | _ => exact z) z⟩
  rintro σ H Q ⟨G, ρ, st, z⟩
  refine Lft.into h.mono st z fun d ρ1 v G1 H1 q g st1 r => ?_
  cases d with
  | int i => cases r; exact ⟨i, rfl, q _ _ g st1⟩
  | _ => exact False.elim q
/-- what a[lo:hi] is -/
def cutL (xs : List D) (lo hi : Option Int) : List D := (xs.drop (HT.sIx xs.length 0 lo)).take (HT.sIx xs.length xs.length hi - HT.sIx xs.length 0 lo)
def slD (lo hi : Option Int) : D → Option D
  | .list xs => some (.list (cutL xs lo hi))
  | .tuple xs => some (.tuple (cutL xs lo hi))
  | .str z => if z.length ≤ sizeLine then some (.str (cutS z lo hi)) else none
  | _ => none
def rSlD : V → Option Int → Option Int → Hp → VK → Prop := fun x lo hi H Q => ∃ G d z, Same G H ∧ Is G x d ∧ slD lo hi d = some z ∧ ∀ v G' H', Stp G H G' H' → Is G' v z → Q v H'
theorem cut_is {G : Hp} {vs : List V} {ds : List D} (lo hi : Option Int) (r : IsAll G vs ds) : IsAll G (cutV vs lo hi) (cutL ds lo hi) := by
  unfold cutV cutL
  rw [IsAll.length' r]
  exact IsAll.take' _ (IsAll.drop' _ r)
theorem sl_D : L2.SlR X rSlD := by
  intro pins s σ H x v vl vu lo hi sl Q I rx hs pl pu ⟨G, d, z, gh, a, hz, k⟩
  cases d with
  | list xs =>
    cases hz
    obtain ⟨p, vs, rfl, sq, ra, _⟩ := a.sq (K := X.K) gh
    exact sl_list pins s σ H _ v vl vu lo hi sl Q I rx hs pl pu ⟨p, vs, rfl, sq, fun q hq => k _ _ _ (Stp.new gh hq) (.lst (.inl upd_same) (IsAll.mono' (Stp.new (o := .lst (cutV vs lo hi)) gh hq).g (cut_is lo hi ra)))⟩
  | tuple xs =>
    cases hz
    obtain ⟨p, vs, e, sq, ra⟩ := a.sqT (K := X.K) gh
    subst e
    refine sl_tupA pins s σ H _ v vl vu lo hi sl Q I rx hs pl pu ⟨p, vs, rfl, sq, fun ⟨h1, h2⟩ => ?_, fun h q hq => k _ _ _ (Stp.new gh hq) (.tup (.inl upd_same) (IsAll.mono' (Stp.new (o := .tup (cutV vs lo hi)) gh hq).g (cut_is lo hi ra)))⟩
    have e : cutL xs lo hi = xs := by
      unfold cutL
      rw [IsAll.length' ra] at h1 h2
      rw [h1, h2, List.drop_zero]
      exact List.take_of_length_le (by omega)
    rw [e] at k
    exact k _ _ _ Stp.refl a
  | str t =>
    cases a
    simp only [slD] at hz
    split at hz
    · cases hz
      exact sl_str pins s σ H _ v vl vu lo hi sl Q I rx hs pl pu ⟨t, rfl, by assumption, k _ _ _ Stp.refl (.str _)⟩
    · cases hz
  | _ => cases hz
def tdSl (te : TD) (tl th : TDo) : TD := fun ρ K => te ρ fun d ρ1 => tl ρ1 fun l ρ2 => th ρ2 fun u ρ3 => opt (slD l u d) fun z => K z ρ3
theorem pd_sl (he : PD X fr e ta) (hl : PDo X fr olo tl) (hu : PDo X fr ohi th) : PD X fr (.Subscript e (.Slice olo ohi none p2) pos) (tdSl ta tl th) := by
  refine ⟨PE.imp (pe_slice sl_D he.run hl.run hu.run) ?_, fun ρ A B k h => he.mono _ _ _ (fun d ρ1 h1 => hl.mono _ _ _ (fun l ρ2 h2 => hu.mono _ _ _ (fun u ρ3 h3 => opt_mono (fun z => k z ρ3) h3) h2) h1) h⟩
  rintro σ H Q ⟨G, ρ, st, h⟩
  refine Lft.into he.mono st h fun d ρ1 v G1 H1 q1 g1 st1 r1 => ?_
  refine ⟨G1, ρ1, st1, hl.mono _ _ _ (fun l ρ2 q2 G2 H2 g2 st2 => ?_) q1⟩
  refine ⟨G2, ρ2, st2, hu.mono _ _ _ (fun u ρ3 q3 G3 H3 g3 st3 => ?_) q2⟩
  obtain ⟨z, hz, k⟩ := opt_get q3
  exact ⟨G3, d, z, st3.gh, Is.mono' (g2.trans g3) r1, hz, fun w G4 H4 stp rz => k w G4 H4 (g1.trans (g2.trans (g3.trans stp.g))) (stp.st _ _ _ st3) rz⟩
/-- xs[::-1], xs a list -/
def tdRev (te : TD) : TD := fun ρ K => te ρ fun d ρ1 => match d with
  | .list xs => K (.list xs.reverse) ρ1
  | _ => False
theorem IsAll.rev' {G : Hp} : ∀ {ds : List D} {vs : List V}, IsAll G vs ds → IsAll G vs.reverse ds.reverse
  | _, _, .nil => .nil
  | _, _, .cons a b => by rw [List.reverse_cons, List.reverse_cons]; exact IsAll.app' (IsAll.rev' b) (.cons a .nil)
theorem pd_rev {j : Nat} {pc pu : Pos} (he : PD X fr e ta) : PD X fr (.Subscript e (.Slice none none (some (.UnaryOp .USub (.Constant (.int 1) j pc) pu)) p2) pos) (tdRev ta) := by
  refine ⟨⟨fun pins s σ H Q I h => ?_⟩, fun ρ A B k h => he.mono _ _ _ (fun d ρ1 z => by
    cases d with
    | list xs => exact k _ _ z
    | _ => exact z) h⟩
  obtain ⟨G, ρ, stt, h⟩ := h
  let A : VK := fun v H1 => ∃ a vs, v = .ref a ∧ SqL X.K H1 a vs ∧ ∀ q, H1 q = none → Q (.ref q) (upd H1 q (.lst vs.reverse))
  refine Subscript_ (thn (he.run.run pins s σ H A I (Lft.into he.mono stt h fun d ρ1 v G1 H1 z g st1 r => ?_)) fun v s1 ⟨x, H1, I1, r1, q1⟩ => ?_)
  · cases d with
    | list xs =>
      obtain ⟨p, vs, e1, sq, ra, _⟩ := r.sq (K := X.K) st1.gh
      exact ⟨p, vs, e1, sq, fun q hq => z _ _ _ (g.trans (Stp.new st1.gh hq).g) (st1.newG hq).1 (.lst (.inl upd_same) (IsAll.mono' (Stp.new (o := .lst vs.reverse) st1.gh hq).g (IsAll.rev' ra)))⟩
    | _ => exact z.elim
  · obtain ⟨a, vs, rfl, sq, q⟩ := q1
    cases r1
    have neg : PO X (some (.UnaryOp .USub (.Constant (.int 1) j pc) pu)) (tPart (tUn (rU fun i => .int (-i)) (tC (.int 1)))) := po_some (pe_un un_neg pe_int)
    refine wpAny_Slice (thn (po_none.run pins s1 σ H1 (fun o H' => o = none ∧ H' = H1) I1 ⟨rfl, rfl⟩) fun vl s2 ⟨l, H2, I2, pl, z1, z2⟩ => thn (po_none.run pins s2 σ H2 (fun o H' => o = none ∧ H' = H2) I2 ⟨rfl, rfl⟩) fun vu s3 ⟨u, H3, I3, pu', z3, z4⟩ =>
      thn (neg.run pins s3 σ H3 (fun o H' => o = some (-1) ∧ H' = H3) I3 ⟨1, rfl, -1, rfl, rfl, rfl⟩) fun vk s4 ⟨k4, H4, I4, pk, z5, z6⟩ => ?_)
    subst z1 z2 z3 z4 z5 z6
    obtain ⟨its, rv, pl1, hz⟩ := I4.list sq
    have I5 : Inv X pins σ H4 { s4 with heap := s4.heap.push { cls := .type "slice", data := .fields #[vl, vu, vk] } } := I4.kept (t' := s4.toks) fun b ob q => Heap.get?_push_of_some _ q
    obtain ⟨its5, rv5, pl5, hz5⟩ := I5.list sq
    have hl := rv5.length
    refine tail_any (ops := [.ref a, .ref s4.heap.objs.size]) pl5.isList.typeIs slot_list_getitem.lookup ?_ (by with_unfolding_all rfl)
    refine wpAny_getItem_list_slice pl5.isList (Heap.IsSliceOf.new ..) pl pu' pk (by decide) ?_ (by rw [List.size_toArray] <;> omega)
    rw [PySem.W.krv_pick]
    refine ⟨.ref _, _, I5.laid (t' := s4.toks) (o := .lst vs.reverse) (fun b ob q => Heap.get?_push_of_some _ q) (Nat.le_refl _) ?_, rfl, q _ (I5.hok.fresh (Nat.le_refl _))⟩
    exact ⟨by rw [List.length_reverse]; exact hz5, its5.reverse, 0, rv5.reverse, Heap.get?_push_size _ rfl⟩
end
end DL
namespace DL
open PySem PySem.Spec PyProof.Rows L2
section
variable {X : Cx} {fr : Fr} {e tg : Expr} {es : List Expr} {ta : TD} {tl : TDl} {pos p p2 tpos : Pos} {elts : List Expr} {kk : Nat}
theorem PI.imp {t t' : TI} (h : PI X tg e t) (k : ∀ σ H R, t' σ H R → t σ H R) : PI X tg e t' := ⟨fun pins s σ H R I x => h.run pins s σ H R I (k σ H R x)⟩
/-! ### what is walked -/
/-- a walk whose things stay as they are -/
theorem itOk {J : It} {G : Hp} {items : List D} {n : Nat} {P : Hp → Prop} {Y : Nat → Hp → V → Hp → Prop} (w : Walk J n P Y) (hn : n = items.length) (hP : ∀ G1 H1, Same G G1 → Same G1 H1 → P H1)
    (hstop : ∀ i H, n ≤ i → P H → J.stop i H)
    (hy : ∀ i d G1 H x H', items[i]? = some d → Same G G1 → Same G1 H → Y i H x H' → ∃ G2, Same G1 G2 ∧ (∀ fr σ ρ, StR fr G1 H σ ρ → StR fr G2 H' σ ρ) ∧ Is G2 x d) : ItOk J G items := by
  intro fr σ ρ G1 H1 st g
  have hp := hP G1 H1 g st.gh
  refine ⟨fun i hi => hstop i H1 (by omega) hp, fun i d e => ?_⟩
  have hi : i < n := by rw [hn]; exact (List.getElem?_eq_some_iff.mp e).1
  refine ⟨w.goes i H1 hi hp, fun x H2 y => ?_⟩
  obtain ⟨G2, g2, st2, r2⟩ := hy i d G1 H1 x H2 e g st.gh (w.yields i H1 x H2 hi hp y)
  exact ⟨G2, g2, st2 _ _ _ st, r2⟩
theorem it_seqL {K : Fg} {G : Hp} {a : Addr} {vs : List V} {xs : List D} (r : Rd G a (.lst vs)) (ra : IsAll G vs xs) : ItOk (Itl K a) G xs :=
  itOk (Y := YAt vs) walk_list (IsAll.length' ra) (fun G1 H1 g g1 => .inl (Same.rd (g.trans g1) r)) (fun i H hi hp => ⟨vs, hp, hi⟩) fun i d G1 H x H' e g g1 ⟨h1, h2⟩ => by
    subst h1
    obtain ⟨v, q1, q2⟩ := ra.get' e
    rw [h2] at q1; cases q1
    exact ⟨G1, Same.refl _, fun _ _ _ st => st, Is.mono' g q2⟩
theorem it_seqT {K : Fg} {G : Hp} {a : Addr} {vs : List V} {xs : List D} (r : Rd G a (.tup vs)) (ra : IsAll G vs xs) : ItOk (Itt K a) G xs :=
  itOk (Y := YAt vs) walk_tup (IsAll.length' ra) (fun G1 H1 g g1 => .inl (Same.rd (g.trans g1) r)) (fun i H hi hp => ⟨vs, hp, hi⟩) fun i d G1 H x H' e g g1 ⟨h1, h2⟩ => by
    subst h1
    obtain ⟨v, q1, q2⟩ := ra.get' e
    rw [h2] at q1; cases q1
    exact ⟨G1, Same.refl _, fun _ _ _ st => st, Is.mono' g q2⟩
/-- for x in xs, xs a list or a tuple -/
def iSeqA (K : Fg) (tl : TE) : TI := fun σ H R => tl σ H fun x H1 => ∃ a, x = .ref a ∧ (((∃ xs, SqL K H1 a xs) ∧ R (Itl K a) H1) ∨ ((∃ xs, SqT K H1 a xs) ∧ R (Itt K a) H1))
theorem pi_seqA {l : Expr} {tl : TE} (hl : PE X l tl) : PI X tg l (iSeqA X.K tl) := by
  refine ⟨fun pins s σ H R I h => ?_⟩
  refine thn (hl.run pins s σ H _ I h) fun v s1 ⟨x, H1, I1, r1, q1⟩ => ?_
  obtain ⟨a, e, q1⟩ := q1
  subst e
  cases r1
  have one : ∀ {J : It} {tn : Nat → Heap → Prop} {o : Obj}, Turn X.prog X.w X.K tg J [s1.heap.objs.size] s1.heap.objs.size tn → tn 0 (s1.heap.push o) → R J H1 → PIE X pins σ tg R (.ref s1.heap.objs.size) { s1 with heap := s1.heap.push o } := fun {J tn o} t t0 q =>
    ⟨s1.heap.objs.size, [s1.heap.objs.size], _, _, H1, rfl, I1.kept (t' := s1.toks) fun b o e => Heap.get?_push_of_some _ e, t, t0, fun b hb => by
      have e : b = s1.heap.objs.size := by simpa using hb
      subst e
      exact I1.fpOk (Nat.le_refl _) (I1.hok.fresh (Nat.le_refl _)), q⟩
  rcases q1 with ⟨⟨xs, hq⟩, q⟩ | ⟨⟨xs, hq⟩, q⟩
  · obtain ⟨its, rv, pl, hz⟩ := I1.list hq
    exact wpAny_pyIter_list pl.isList (one (turn_list a _) ⟨_, Heap.get?_push_size _ rfl, rfl, rfl⟩ q)
  · obtain ⟨its, rv, pl, hz⟩ := I1.tuple hq
    exact wpAny_pyIter_tuple (show s1.heap.IsTuple a its.toArray from pl) (one (turn_tuple a _) ⟨_, Heap.get?_push_size _ rfl, rfl, rfl⟩ q)
def tiSeq (ta : TD) : TDl := fun ρ K => ta ρ fun d ρ1 => opt (seqOf d) fun xs => K xs ρ1
theorem pi_seq (h : PD X fr e ta) : PDi X fr tg e (tiSeq ta) := by
  refine ⟨PI.imp (pi_seqA h.run) ?_, fun ρ A B k z => h.mono _ _ _ (fun d ρ1 z => by
    cases d with
    | list xs => exact k _ _ z
    | tuple xs => exact k _ _ z
    | _ => exact z) z⟩
  rintro σ H R ⟨G, ρ, st, z⟩
  refine Lft.into h.mono st z fun d ρ1 v G1 H1 z g st1 r => ?_
  cases r with
  | lst rd ra => exact ⟨_, rfl, .inl ⟨⟨_, .inl (Same.rd st1.gh rd)⟩, z _ _ _ g st1 (it_seqL rd ra)⟩⟩
  | tup rd ra => exact ⟨_, rfl, .inr ⟨⟨_, .inl (Same.rd st1.gh rd)⟩, z _ _ _ g st1 (it_seqT rd ra)⟩⟩
  | non => exact z.elim
  | bl => exact z.elim
  | int => exact z.elim
  | str => exact z.elim
/-- for x in a text -/
def signsD (z : Str) : List D := z.cps.toList.map fun c => .str ⟨#[c]⟩
def tiStr (ta : TD) : TDl := fun ρ K => ta ρ fun d ρ1 => match d with
  | .str z => K (signsD z) ρ1
  | _ => False
theorem pi_strD (h : PD X fr e ta) : PDi X fr tg e (tiStr ta) := by
  refine ⟨PI.imp (pi_str h.run) ?_, fun ρ A B k z => h.mono _ _ _ (fun d ρ1 z => by
    cases d with
    | str xs => exact k _ _ z
    | _ => exact z) z⟩
  rintro σ H R ⟨G, ρ, st, z⟩
  refine Lft.into h.mono st z fun d ρ1 v G1 H1 z g st1 r => ?_
  cases r with
  | str t =>
    refine ⟨t, rfl, z _ _ _ g st1 (itOk (n := t.cps.size) (P := fun _ => True) walk_str (by simp [signsD]) (fun _ _ _ _ => trivial) (fun i H hi _ => hi) fun i d G1 H x H' e g g1 ⟨h1, c, h2, h3⟩ => ?_)⟩
    subst h1
    subst h3
    unfold signsD at e
    rw [List.getElem?_map, Array.getElem?_toList, h2] at e
    cases e
    exact ⟨G1, Same.refl _, fun _ _ _ st => st, .str _⟩
  | non => exact z.elim
  | bl => exact z.elim
  | int => exact z.elim
  | lst _ _ => exact z.elim
  | tup _ _ => exact z.elim
/-- range -/
def rgD (lo : Int) (n : Nat) : List D := (List.range n).map fun i => .int (lo + (i : Nat))
theorem rgD_get {lo : Int} {n i : Nat} {d : D} (e : (rgD lo n)[i]? = some d) : d = .int (lo + (i : Nat)) := by
  unfold rgD at e
  rw [List.getElem?_map, List.getElem?_range] at e
  · cases e; rfl
  · by_cases h : i < n
    · exact h
    · rw [List.getElem?_eq_none (by rw [List.length_range]; omega)] at e; cases e
theorem it_rg {G : Hp} {lo : Int} {n : Nat} : ItOk (Itr lo n) G (rgD lo n) :=
  itOk (n := n) (P := fun _ => True) walk_range (by simp [rgD]) (fun _ _ _ _ => trivial) (fun i H hi _ => hi) fun i d G1 H x H' e g g1 ⟨h1, h2⟩ => by
    subst h1 h2
    rw [rgD_get e]
    exact ⟨G1, Same.refl _, fun _ _ _ st => st, .int _⟩
def tiRg1 (tl : TDl) : TDl := fun ρ K => tl ρ fun ds ρ1 => match ds with
  | [.int j] => -(2 ^ 62) ≤ j ∧ j < 2 ^ 62 ∧ K (rgD 0 j.toNat) ρ1
  | _ => False
theorem rg1_mono {tl : TDl} (m : ∀ ρ (A B : List D → List Sl → Prop), (∀ d ρ', A d ρ' → B d ρ') → tl ρ A → tl ρ B) : ∀ ρ (A B : List D → List Sl → Prop), (∀ d ρ', A d ρ' → B d ρ') → tiRg1 tl ρ A → tiRg1 tl ρ B := fun ρ A B k h =>
  m _ _ _ (fun ds ρ1 z => by
    try dsimp only at z ⊢
    split at z
    · exact ⟨z.1, z.2.1, k _ _ z.2.2⟩
    · exact z) h
theorem pi_rg1 {a : Expr} (hg : Gl X "range") (hm : X.mg "range" = none) (ha : PDl X fr [a] tl) (hs : starEach [a] X.env = [(false, eval a X.env)] := by rfl) : PDi X fr tg (.Call (.Name "range" p) [a] [] pos) (tiRg1 tl) := by
  refine ⟨PI.imp (pi_range1 hg hm ha.run hs) ?_, rg1_mono ha.mono⟩
  rintro σ H R ⟨G, ρ, st, z⟩
  refine LftA.into ha.mono st z fun ds ρ1 v G1 H1 z g st1 r => ?_
  try dsimp only at z
  split at z
  · cases r with
    | cons r1 r2 => cases r1; cases r2; exact ⟨_, rfl, z.1, z.2.1, z.2.2 _ _ _ g st1 it_rg⟩
  · exact z.elim
def tiRg2 (tl : TDl) : TDl := fun ρ K => tl ρ fun ds ρ1 => match ds with
  | [.int i, .int j] => (-(2 ^ 62) ≤ i ∧ i < 2 ^ 62 ∧ -(2 ^ 62) ≤ j ∧ j < 2 ^ 62) ∧ K (rgD i (j - i).toNat) ρ1
  | _ => False
theorem pi_rg2 {a b : Expr} (hg : Gl X "range") (hm : X.mg "range" = none) (ha : PDl X fr [a, b] tl) (hs : starEach [a, b] X.env = [(false, eval a X.env), (false, eval b X.env)] := by rfl) (hs2 : starEach [b] X.env = [(false, eval b X.env)] := by rfl) :
    PDi X fr tg (.Call (.Name "range" p) [a, b] [] pos) (tiRg2 tl) := by
  refine ⟨PI.imp (pi_range2 hg hm ha.run hs hs2) ?_, fun ρ A B k h => ha.mono _ _ _ (fun ds ρ1 z => by
    try dsimp only at z ⊢
    split at z
    · exact ⟨z.1, k _ _ z.2⟩
    · exact z) h⟩
  rintro σ H R ⟨G, ρ, st, z⟩
  refine LftA.into ha.mono st z fun ds ρ1 v G1 H1 z g st1 r => ?_
  try dsimp only at z
  split at z
  · match r with
    | .cons (.int _) (.cons (.int _) .nil) => exact ⟨_, _, rfl, z.1, z.2 _ _ _ g st1 it_rg⟩
  · exact z.elim
def rgcD (lo c : Int) (n : Nat) : List D := (List.range n).map fun i => .int (lo + (i : Nat) * c)
def tiRg3 (tl : TDl) : TDl := fun ρ K => tl ρ fun ds ρ1 => match ds with
  | [.int i, .int j, .int c] => ∃ n, RgC i j c n ∧ K (rgcD i c n) ρ1
  | _ => False
theorem pi_rg3 {a b c : Expr} (hg : Gl X "range") (hm : X.mg "range" = none) (ha : PDl X fr [a, b, c] tl) (hs : starEach [a, b, c] X.env = (false, eval a X.env) :: starEach [b, c] X.env := by rfl) (hpl : (backTo pos (starEach [b, c] X.env)).any (·.1) = false := by rfl) :
    PDi X fr tg (.Call (.Name "range" p) [a, b, c] [] pos) (tiRg3 tl) := by
  refine ⟨PI.imp (pi_range3 hg hm ha.run hs hpl) ?_, fun ρ A B k h => ha.mono _ _ _ (fun ds ρ1 z => by
    try dsimp only at z ⊢
    split at z
    · obtain ⟨n, z1, z2⟩ := z
      exact ⟨n, z1, k _ _ z2⟩
    · exact z) h⟩
  rintro σ H R ⟨G, ρ, st, z⟩
  refine LftA.into ha.mono st z fun ds ρ1 v G1 H1 z g st1 r => ?_
  try dsimp only at z
  split at z
  · obtain ⟨n, z1, z2⟩ := z
    match r with
    | .cons (.int i) (.cons (.int j) (.cons (.int c) .nil)) =>
      refine ⟨i, j, c, n, rfl, z1, z2 _ _ _ g st1 (itOk (n := n) (P := fun _ => True) walk_rangeC (by simp [rgcD]) (fun _ _ _ _ => trivial) (fun i H hi _ => hi) fun k d G1 H x H' e g g1 ⟨h1, h2⟩ => ?_)⟩
      subst h1 h2
      have hk : k < n := by
        have := (List.getElem?_eq_some_iff.mp e).1
        simpa [rgcD] using this
      unfold rgcD at e
      rw [List.getElem?_map, List.getElem?_range hk] at e
      cases e
      exact ⟨G1, Same.refl _, fun _ _ _ st => st, .int _⟩
  · exact z.elim
/-- enumerate(xs), xs a list -/
def enumD (xs : List D) : List D := xs.zipIdx.map fun q => .tuple [.int (q.2 : Nat), q.1]
theorem pair_is {G H : Hp} {T : Addr} {v w : V} {d e : D} (gh : Same G H) (hT : H T = none) (r1 : Is G v d) (r2 : Is G w e) : ∃ G2, Same G G2 ∧ (∀ fr σ ρ, StR fr G H σ ρ → StR fr G2 (upd H T (.tup [v, w])) σ ρ) ∧ Is G2 (.ref T) (.tuple [d, e]) :=
  ⟨upd G T (.tup [v, w]), (Stp.new gh hT).g, (Stp.new gh hT).st, .tup (.inl upd_same) (.cons (Is.mono' (Stp.new (o := .tup [v, w]) gh hT).g r1) (.cons (Is.mono' (Stp.new (o := .tup [v, w]) gh hT).g r2) .nil))⟩
theorem it_enum {K : Fg} {G : Hp} {a : Addr} {vs : List V} {xs : List D} (r : Rd G a (.lst vs)) (ra : IsAll G vs xs) : ItOk (Ite K a) G (enumD xs) :=
  itOk (n := vs.length) walk_enum (by unfold enumD; rw [List.length_map, List.length_zipIdx]; exact IsAll.length' ra) (fun G1 H1 g g1 => (.inl (Same.rd (g.trans g1) r) : SqL K H1 a vs)) (fun i H hi hp => ⟨vs, hp, hi⟩) fun i d G1 H x H' e g g1 ⟨T, u, w, h1, h2, h3, h4, h5⟩ => by
    cases h4
    subst h1 h3
    unfold enumD at e
    rw [List.getElem?_map, List.getElem?_zipIdx] at e
    cases ex : xs[i]? with
    | none => rw [ex] at e; cases e
    | some d' =>
      rw [ex] at e
      have e : PyData.tuple [.int ((0 + i : Nat)), d'] = d := by simpa using e
      rw [Nat.zero_add] at e
      subst e
      obtain ⟨v, q1, q2⟩ := ra.get' ex
      have h5 : vs[i]? = some w := h5
      rw [h5] at q1; cases q1
      exact pair_is g1 h2 (.int _) (Is.mono' g q2)
def tiEnum (tl : TDl) : TDl := fun ρ K => tl ρ fun ds ρ1 => match ds with
  | [.list xs] => K (enumD xs) ρ1
  | _ => False
theorem pi_enumD (hg : Gl X "enumerate") (hm : X.mg "enumerate" = none) (ha : PDl X fr [e] tl) (hs : starEach [e] X.env = [(false, eval e X.env)] := by rfl) : PDi X fr (.Tuple elts kk tpos) (.Call (.Name "enumerate" p) [e] [] pos) (tiEnum tl) := by
  refine ⟨PI.imp (pi_enum hg hm ha.run hs) ?_, fun ρ A B k h => ha.mono _ _ _ (fun ds ρ1 z => by
    try dsimp only at z ⊢
    split at z
    · exact k _ _ z
    · exact z) h⟩
  rintro σ H R ⟨G, ρ, st, z⟩
  refine LftA.into ha.mono st z fun ds ρ1 v G1 H1 z g st1 r => ?_
  try dsimp only at z
  split at z
  · match r with
    | .cons (.lst rd ra) .nil => exact ⟨_, _, rfl, .inl (Same.rd st1.gh rd), z _ _ _ g st1 (it_enum rd ra)⟩
  · exact z.elim
/-! ### the script, known to the heap from ahead of the law -/
abbrev Scr (K : Fg) (a : Addr) (ns : List Int) : Hp → Prop := fun G => SqL K G a (ns.map V.int)
def onScr (K : Fg) (ρ : List Sl) (i : Nat) (k : List Int → Prop) : Prop := ∃ a ns, ρ[i]? = some (.raw (.ref a) (Scr K a ns)) ∧ k ns
theorem sqL_mono {K : Fg} {G H : Hp} {a : Addr} {xs : List V} (g : Same G H) (h : SqL K G a xs) : SqL K H a xs := by
  rcases h with h | h
  · exact .inl (Same.rd g h)
  · exact .inr h
theorem scr_at {G H : Hp} {σ : St} {ρ : List Sl} {i : Nat} {a : Addr} {ns : List Int} {K : Fg} (st : StR fr G H σ ρ) (e : ρ[i]? = some (.raw (.ref a) (Scr K a ns))) : σ[i]? = some (some (.ref a)) ∧ ∀ G', Same G G' → SqL K G' a (ns.map V.int) := by
  obtain ⟨o, bs, h1, h2, _⟩ := st.at e
  cases h2 with
  | raw t => exact ⟨h1, t⟩
def tfScrL (K : Fg) (i : Nat) : TDf := fun ρ k => onScr K ρ i fun ns => k (.lst (ns.map PyData.int)) ρ
theorem pf_scrL {i : Nat} {x : Str} {q : Pos} (hN : X.N[i]? = some x) (hv : Vis X.env.scope x) (hg : Gl X "list") (hm : X.mg "list" = none) (hd : (x == ("__debug__" : Str)) = false := by decide) (hcd : (x == ("__classdict__" : Str)) = false := by decide)
    (he : starEach (.Name x p :: []) X.env = (false, eval (.Name x p) X.env) :: starEach [] X.env := by rfl) (hpl : (backTo pos (starEach [] X.env)).any (·.1) = false := by rfl) : PF X fr (.Call (.Name "list" q) [.Name x p] [] pos) (tfScrL X.K i) := by
  refine ⟨PE.imp (pe_callTy call_list_of hg hm boot_list (pa_cons (pe_var hN hv hd hcd) pa_nil he) (by decide) (by decide) he hpl) ?_, fun ρ A B k ⟨a, ns, h1, h2⟩ => ⟨a, ns, h1, k _ _ h2⟩⟩
  rintro σ H Q ⟨G, ρ, st, a, ns, h1, h2⟩
  obtain ⟨s1, s2⟩ := scr_at st h1
  exact ⟨_, s1, a, _, rfl, .inl (s2 H st.gh), fun l hl => h2 _ _ _ (Same.refl _) (st.newL hl (isAll_ints ns))⟩
def tdScrLen (K : Fg) (i : Nat) : TD := fun ρ k => onScr K ρ i fun ns => k (.int ns.length) ρ
theorem pd_scrLen {i : Nat} {x : Str} {q : Pos} (hN : X.N[i]? = some x) (hv : Vis X.env.scope x) (hg : Gl X "len") (hm : X.mg "len" = none) (hd : (x == ("__debug__" : Str)) = false := by decide) (hcd : (x == ("__classdict__" : Str)) = false := by decide)
    (he : starEach (.Name x p :: []) X.env = (false, eval (.Name x p) X.env) :: starEach [] X.env := by rfl) (hpl : (backTo pos (starEach [] X.env)).any (·.1) = false := by rfl) : PD X fr (.Call (.Name "len" q) [.Name x p] [] pos) (tdScrLen X.K i) := by
  refine ⟨PE.imp (pe_callB call_len_seq hg hm PySem.boot_len (pa_cons (pe_var hN hv hd hcd) pa_nil he) (by decide) (by decide) he hpl) ?_, fun ρ A B k ⟨a, ns, h1, h2⟩ => ⟨a, ns, h1, k _ _ h2⟩⟩
  rintro σ H Q ⟨G, ρ, st, a, ns, h1, h2⟩
  obtain ⟨s1, s2⟩ := scr_at st h1
  refine ⟨_, s1, a, _, rfl, .inl (s2 H st.gh), ?_⟩
  rw [List.length_map]
  exact h2 _ _ _ (Same.refl _) st (.int _)
def tiScr (K : Fg) (i : Nat) : TDl := fun ρ k => onScr K ρ i fun ns => k (ns.map PyData.int) ρ
theorem pi_scr {i : Nat} {x : Str} (hN : X.N[i]? = some x) (hv : Vis X.env.scope x) (hd : (x == ("__debug__" : Str)) = false := by decide) (hcd : (x == ("__classdict__" : Str)) = false := by decide) : PDi X fr tg (.Name x p) (tiScr X.K i) := by
  refine ⟨PI.imp (pi_seqA (pe_var hN hv hd hcd)) ?_, fun ρ A B k ⟨a, ns, h1, h2⟩ => ⟨a, ns, h1, k _ _ h2⟩⟩
  rintro σ H R ⟨G, ρ, st, a, ns, h1, h2⟩
  obtain ⟨s1, s2⟩ := scr_at st h1
  refine ⟨_, s1, a, rfl, .inl ⟨⟨_, s2 H st.gh⟩, h2 _ _ _ (Same.refl _) st ?_⟩⟩
  refine itOk (Y := YAt (ns.map V.int)) walk_list (by rw [List.length_map, List.length_map]) (fun G1 H1 g g1 => s2 _ (g.trans g1)) (fun i H hi hp => ⟨_, hp, hi⟩) fun i d G1 H x H' e g g1 ⟨h1, h2⟩ => ?_
  subst h1
  rw [List.getElem?_map] at e h2
  cases en : ns[i]? with
  | none => rw [en] at e; cases e
  | some n => rw [en] at e h2; cases e; cases h2; exact ⟨G1, Same.refl _, fun _ _ _ st => st, .int _⟩
/-! ### list(..) -/
def tfList (ta : TD) : TDf := fun ρ k => ta ρ fun d ρ1 => opt (seqOf d) fun xs => k (.lst xs) ρ1
theorem pf_list {q : Pos} (ha : PD X fr e ta) (hg : Gl X "list") (hm : X.mg "list" = none) (he : starEach (e :: []) X.env = (false, eval e X.env) :: starEach [] X.env := by rfl) (hpl : (backTo pos (starEach [] X.env)).any (·.1) = false := by rfl) :
    PF X fr (.Call (.Name "list" q) [e] [] pos) (tfList ta) := by
  refine ⟨PE.imp (pe_callTy call_list_of hg hm boot_list (pa_cons ha.run pa_nil he) (by decide) (by decide) he hpl) ?_, fun ρ A B k h => ha.mono _ _ _ (fun d ρ1 z => by
    cases d with
    | list xs => exact k _ _ z
    | tuple xs => exact k _ _ z
    | _ => exact z) h⟩
  rintro σ H Q ⟨G, ρ, st, z⟩
  refine Lft.into ha.mono st z fun d ρ1 v G1 H1 z g st1 r => ?_
  cases r with
  | lst rd ra => exact ⟨_, _, rfl, .inl (.inl (Same.rd st1.gh rd)), fun l hl => z _ _ _ g (st1.newL hl ra)⟩
  | tup rd ra => exact ⟨_, _, rfl, .inr (.inl (Same.rd st1.gh rd)), fun l hl => z _ _ _ g (st1.newL hl ra)⟩
  | non => exact z.elim
  | bl => exact z.elim
  | int => exact z.elim
  | str => exact z.elim
/-- list(range(n)) -/
def tfLRg (ta : TD) : TDf := fun ρ k => ta ρ fun d ρ1 => match d with
  | .int n => RgOk 0 n ∧ k (.lst (rgD 0 n.toNat)) ρ1
  | _ => False
theorem rg_is {G : Hp} (a b : Int) : IsAll G (rgV a b) (rgD a (b - a).toNat) := by
  unfold rgV rgD
  have : ∀ l : List Nat, IsAll G (l.map fun i => V.int (a + (i : Nat))) (l.map fun i => PyData.int (a + (i : Nat))) := fun l => by
    induction l with
    | nil => exact .nil
    | cons x l ih => exact .cons (.int _) ih
  exact this _
theorem pf_lRg {q q2 pos2 : Pos} (hc : X.calm = true) (ha : PD X fr e ta) (hg : Gl X "list") (hm : X.mg "list" = none) (hg2 : Gl X "range") (hm2 : X.mg "range" = none) (na : starEach [e] X.env = (false, eval e X.env) :: starEach [] X.env := by rfl)
    (nb : starEach [.Call (.Name "range" q2) [e] [] pos2] X.env = (false, eval (.Call (.Name "range" q2) [e] [] pos2) X.env) :: starEach [] X.env := by rfl) : PF X fr (.Call (.Name "list" q) [.Call (.Name "range" q2) [e] [] pos2] [] pos) (tfLRg ta) := by
  refine ⟨PE.imp (pe_listRg hc hg hm (prg_1 hg2 hm2 ha.run na) nb) ?_, fun ρ A B k h => ha.mono _ _ _ (fun d ρ1 z => by
    cases d with
    | int n => exact ⟨z.1, k _ _ z.2⟩
    | _ => exact z) h⟩
  rintro σ H Q ⟨G, ρ, st, z⟩
  refine Lft.into ha.mono st z fun d ρ1 v G1 H1 z g st1 r => ?_
  cases r with
  | int n => exact ⟨n, rfl, z.1, fun l hl => z.2 _ _ _ g (by have := st1.newL hl (rg_is 0 n); rwa [Int.sub_zero] at this)⟩
  | non => exact z.elim
  | bl => exact z.elim
  | str => exact z.elim
  | lst _ _ => exact z.elim
  | tup _ _ => exact z.elim
/-! ### isinstance -/
def tyD : D → String
  | .none => "NoneType"
  | .bool _ => "bool"
  | .int _ => "int"
  | .str _ => "str"
  | .list _ => "list"
  | .tuple _ => "tuple"
  | .dict _ => "dict"
def isiB (a b : String) : Bool := a == b || (a == "bool" && b == "int")
theorem ty_is {K : Fg} {G H : Hp} {v : V} {d : D} (gh : Same G H) (r : Is G v d) : TyX K H v (.type (tyD d)) := by
  cases r with
  | non => exact .base .non
  | bl b => exact .base (.bl b)
  | int i => exact .base (.int i)
  | str x => exact .base (.str x)
  | lst rd _ =>
    rcases Same.rd gh rd with h | ⟨o, h⟩
    · exact .base (.lst h)
    · exact .base (.frz h)
  | tup rd _ =>
    rcases Same.rd gh rd with h | ⟨o, h⟩
    · exact .base (.tup h)
    · exact .fTuple h
def tyNs : List String := ["NoneType", "bool", "int", "str", "list", "tuple"]
theorem kit_all : ∀ a ∈ tyNs, ∀ b ∈ ["bool", "int", "str", "list", "tuple"], kitB a b = some (isiB a b) := by decide +kernel
theorem tyD_mem {G : Hp} {v : V} {d : D} (r : Is G v d) : tyD d ∈ tyNs := by cases r <;> simp [tyD, tyNs]
theorem kit_is {K : Fg} {G : Hp} {v : V} {d : D} (r : Is G v d) {b : String} (hb : b ∈ ["bool", "int", "str", "list", "tuple"]) : PySem.W.kitOne K (.type (tyD d)) (.type b) = some (isiB (tyD d) b) := kit_ty (kit_all _ (tyD_mem r) _ hb)
def tdIsi (T : String) (ta : TD) : TD := fun ρ k => ta ρ fun d ρ1 => k (.bool (isiB (tyD d) T)) ρ1
theorem pd_isi {T : String} {x : Str} {q : Pos} (hT : T ∈ ["bool", "int", "str", "list", "tuple"]) (ha : PD X fr e ta) (hg : Gl X "isinstance") (hm : X.mg "isinstance" = none) (hg2 : Gl X x) (hm2 : X.mg x = none) (hv : bootBuiltins x = some (.type T)) (hn : x ≠ "__name__" := by decide) (hd : (x == ("__debug__" : Str)) = false := by decide)
    (he1 : starEach (.Name x q :: []) X.env = (false, eval (.Name x q) X.env) :: starEach [] X.env := by rfl)
    (he : starEach (e :: [.Name x q]) X.env = (false, eval e X.env) :: starEach [.Name x q] X.env := by rfl) (hpl : (backTo pos (starEach [.Name x q] X.env)).any (·.1) = false := by rfl) : PD X fr (.Call (.Name "isinstance" p) [e, .Name x q] [] pos) (tdIsi T ta) := by
  refine ⟨PE.imp (pe_callB call_isi hg hm boot_isinstance (pa_cons ha.run (pa_cons (pe_bltn (v := .ty T) hg2 hm2 hv rfl hn hd) pa_nil he1) he) (by decide) (by decide) he hpl) ?_, fun ρ A B k h => ha.mono _ _ _ (fun d ρ1 => k _ _) h⟩
  rintro σ H Q ⟨G, ρ, st, z⟩
  refine Lft.into ha.mono st z fun d ρ1 v G1 H1 z g st1 r => ?_
  exact ⟨v, .ty T, _, _, _, rfl, .ty T, ty_is st1.gh r, kit_is r hT, z _ _ _ g st1 (.bl _)⟩
/-- isinstance(x, (T, U)) -/
def tdIsi2 (T U : String) (ta : TD) : TD := fun ρ k => ta ρ fun d ρ1 => k (.bool (isiB (tyD d) T || isiB (tyD d) U)) ρ1
theorem pd_isi2 {T U : String} {x y : Str} {q q2 tp : Pos} {j : Nat} (hT : T ∈ ["bool", "int", "str", "list", "tuple"]) (hU : U ∈ ["bool", "int", "str", "list", "tuple"]) (ha : PD X fr e ta) (hg : Gl X "isinstance") (hm : X.mg "isinstance" = none) (hg2 : Gl X x) (hm2 : X.mg x = none) (hv : bootBuiltins x = some (.type T))
    (hg3 : Gl X y) (hm3 : X.mg y = none) (hv3 : bootBuiltins y = some (.type U)) (hn : x ≠ "__name__" := by decide) (hd : (x == ("__debug__" : Str)) = false := by decide) (hn3 : y ≠ "__name__" := by decide) (hd3 : (y == ("__debug__" : Str)) = false := by decide)
    (hey : starEach (.Name y q2 :: []) X.env = (false, eval (.Name y q2) X.env) :: starEach [] X.env := by rfl) (hex : starEach (.Name x q :: [.Name y q2]) X.env = (false, eval (.Name x q) X.env) :: starEach [.Name y q2] X.env := by rfl)
    (he1 : starEach (.Tuple [.Name x q, .Name y q2] j tp :: []) X.env = (false, eval (.Tuple [.Name x q, .Name y q2] j tp) X.env) :: starEach [] X.env := by rfl)
    (he : starEach (e :: [.Tuple [.Name x q, .Name y q2] j tp]) X.env = (false, eval e X.env) :: starEach [.Tuple [.Name x q, .Name y q2] j tp] X.env := by rfl) (hpl : (backTo pos (starEach [.Tuple [.Name x q, .Name y q2] j tp] X.env)).any (·.1) = false := by rfl) :
    PD X fr (.Call (.Name "isinstance" p) [e, .Tuple [.Name x q, .Name y q2] j tp] [] pos) (tdIsi2 T U ta) := by
  refine ⟨PE.imp (pe_callB call_isiT hg hm boot_isinstance (pa_cons ha.run (pa_cons (pe_tup (pa_cons (pe_bltn (v := .ty T) hg2 hm2 hv rfl hn hd) (pa_cons (pe_bltn (v := .ty U) hg3 hm3 hv3 rfl hn3 hd3) pa_nil hey) hex)) pa_nil he1) he) (by decide) (by decide) he hpl) ?_, fun ρ A B k h => ha.mono _ _ _ (fun d ρ1 => k _ _) h⟩
  rintro σ H Q ⟨G, ρ, st, z⟩
  refine Lft.into ha.mono st z fun d ρ1 v G1 H1 z g st1 r => ?_
  refine ⟨by show 2 ≤ sizeLine; decide, fun l hl => ?_⟩
  obtain ⟨st2, g2⟩ := st1.newG (o := .tup [.ty T, .ty U]) hl
  refine ⟨v, l, [.ty T, .ty U], _, [.type T, .type U], isiB (tyD d) T || isiB (tyD d) U, rfl, upd_same, .cons (.ty T) (.cons (.ty U) .nil), ty_is st2.gh (Is.mono' g2 r), ?_, z _ _ _ (g.trans g2) st2 (.bl _)⟩
  refine kitAny_cons (kit_is r hT) (fun e => ?_) fun e => by rw [e]; rfl
  rw [e, Bool.false_or]
  refine kitAny_cons (kit_is r hU) (fun e2 => ?_) fun e2 => e2
  rw [e2]; exact kitAny_nil
end
end DL
namespace DL
open PySem PySem.Spec PyProof.Rows L2

/-! ### repr of a row, where no repr runs -/
mutual
theorem Is.noDict {G : Hp} : ∀ {d : D} {v : V}, Is G v d → d.hasDict = false
  | _, _, .non => by simp [PyData.hasDict]
  | _, _, .bl b => by simp [PyData.hasDict]
  | _, _, .int i => by simp [PyData.hasDict]
  | _, _, .str x => by simp [PyData.hasDict]
  | _, _, .lst s a => by rw [PyData.hasDict]; exact IsAll.noDict a
  | _, _, .tup s a => by rw [PyData.hasDict]; exact IsAll.noDict a
theorem IsAll.noDict {G : Hp} : ∀ {ds : List D} {vs : List V}, IsAll G vs ds → PyData.hasDictAll ds = false
  | _, _, .nil => by simp [PyData.hasDictAll]
  | _, _, .cons a b => by rw [PyData.hasDictAll, Is.noDict a, IsAll.noDict b]; rfl
end
def rowD : D → Bool
  | .list _ => true
  | .tuple _ => true
  | _ => false
def reprD : List D → Option D
  | [d] => if rowD d = true ∧ d.showable = true ∧ d.depth ≤ 40 ∧ d.shown.length ≤ sizeLine then some (.str d.shown) else none
  | _ => none
theorem call_reprD {X : Cx} (hg : X.A.guards = some []) (hu : X.A.units + 64 < cLine) : CallR X (.builtin "repr") (rDL reprD) := by
  intro pins s σ H xs us Q I r ⟨G, ds, z, gh, a, hz, k⟩
  match ds, a, hz with
  | [d], .cons (v := v) a1 .nil, hz =>
    simp only [reprD] at hz
    split at hz
    · rename_i hc
      cases hz
      obtain ⟨c1, c2, c3, c4⟩ := hc
      obtain ⟨u, rfl, ru⟩ := Vals.one r
      obtain ⟨as, rd⟩ := Dp.reads I d v u (Is.dp (Is.mono' gh a1)) ru
      have hr : ∃ b, u = .ref b := by
        cases a1 with
        | lst _ _ => exact ⟨_, ru⟩
        | tup _ _ => exact ⟨_, ru⟩
        | _ => cases c1
      obtain ⟨b, rfl⟩ := hr
      refine repr_of_reads' rd c2 (PyData.noDict_hsm (Is.noDict a1)) hg (by omega) (fun _ _ e => e) (fun h' t tk hk => ?_) c4
      exact ⟨.str _, H, I.kept hk, ⟨_, rfl⟩, k _ _ _ Stp.refl (.str _)⟩
    · cases hz
/-! how long it is at most -/
mutual
/-- its texts have signs -/
def strsOk : D → Bool
  | .str x => x.cps.toList.all (· < 16 ^ 8)
  | .list xs => strsOkAll xs
  | .tuple xs => strsOkAll xs
  | _ => true
def strsOkAll : List D → Bool
  | [] => true
  | x :: xs => strsOk x && strsOkAll xs
end
mutual
def shW : D → Nat
  | .none => 4
  | .bool _ => 5
  | .int i => i.natAbs.log2 + 3
  | .str x => 10 * x.length + 2
  | .list xs => shWs xs + 3
  | .tuple xs => shWs xs + 3
  | .dict _ => 0
def shWs : List D → Nat
  | [] => 0
  | x :: xs => shW x + 2 + shWs xs
end
theorem textFrom_le : ∀ (ts : List Str) (k : Nat) (acc : Str), (textFrom k acc ts).length ≤ acc.length + (ts.map fun t => t.length + 2).sum
  | [], k, acc => by simp [textFrom]
  | t :: r, k, acc => by
    rw [textFrom]
    refine Nat.le_trans (textFrom_le r _ _) ?_
    rw [strLen_append, strLen_append, List.map_cons, List.sum_cons]
    have : ((if k > 0 then ", " else "" : String) : Str).length ≤ 2 := by split <;> decide
    omega
theorem join_le : ∀ (ts : List Str), (Str.join ", " ts).length ≤ (ts.map fun t => t.length + 2).sum
  | [] => by decide
  | t :: r => by
    have := join_length_add (t :: r) (by simp)
    unfold piled at this
    omega
mutual
theorem shown_le : ∀ (d : D), strsOk d = true → d.hasDict = false → d.shown.length ≤ shW d
  | .none, _, _ => by rw [PyData.shown]; decide
  | .bool b, _, _ => by rw [PyData.shown]; cases b <;> decide
  | .int i, _, _ => by
    rw [PyData.shown, shW]
    have := int_text_length_le (a := i) (k := i.natAbs.log2 + 1) (by omega) (by omega)
    have e : ((toString i : String) : Str).length = (toString i).length := by rw [PySem.ofString_length]
    rw [e]; omega
  | .str x, h, _ => by
    rw [PyData.shown, shW]
    exact StrLaws.reprText_len x fun c hc => by
      have h : x.cps.toList.all (· < 16 ^ 8) = true := by simpa [strsOk] using h
      simpa using List.all_eq_true.mp h c hc
  | .list xs, h, hd => by
    rw [PyData.shown, shW]
    have := textFrom_le (PyData.shownAll xs) 0 "["
    have h2 := shownAll_le xs (by simpa [strsOk] using h) (by simpa [PyData.hasDict] using hd)
    unfold listText
    rw [strLen_append]
    have e1 : (("[" : String) : Str).length = 1 := by decide
    have e2 : (("]" : String) : Str).length = 1 := by decide
    omega
  | .tuple xs, h, hd => by
    rw [PyData.shown, shW]
    have := join_le (PyData.shownAll xs)
    have h2 := shownAll_le xs (by simpa [strsOk] using h) (by simpa [PyData.hasDict] using hd)
    unfold tupleText
    rw [strLen_append, strLen_append]
    have e1 : (("(" : String) : Str).length = 1 := by decide
    have e2 : ((if (PyData.shownAll xs).length == 1 then ",)" else ")" : String) : Str).length ≤ 2 := by split <;> decide
    omega
  | .dict _, _, h => by simp [PyData.hasDict] at h
theorem shownAll_le : ∀ (xs : List D), strsOkAll xs = true → PyData.hasDictAll xs = false → ((PyData.shownAll xs).map fun t => t.length + 2).sum ≤ shWs xs
  | [], _, _ => by simp [PyData.shownAll, shWs]
  | x :: xs, h, hd => by
    rw [PyData.shownAll, List.map_cons, List.sum_cons, shWs]
    have h : strsOk x = true ∧ strsOkAll xs = true := by simpa [strsOkAll] using h
    have hd : x.hasDict = false ∧ PyData.hasDictAll xs = false := by simpa [PyData.hasDictAll] using hd
    have := shown_le x h.1 hd.1
    have := shownAll_le xs h.2 hd.2
    omega
end
end DL
namespace DL
open PySem PySem.Spec PyProof.Rows L2

/-! ### defs that run where no repr runs: the law itself, and what it calls so -/
structure FnG (P : Program) (w : World) (K : Fg) (mg : Str → Option Value) (base : Heap) (k : Nat) (f : Addr) (fd : FuncData) (ps : List Str) (sp : Sp) : Prop where
  len : ∀ vs H Q E, sp vs H Q E → vs.length = ps.length
  go : ∀ A outer s H args us vs Q E, A.guards = some [] → Room k A → Env0 P w K mg base A outer s H → BindsTo s fd args (ps.zip us) → Vals vs us → sp vs H Q E → codeAny (model P w) A (.call (.ref f) args) (CR (L2.CX P w) outer P w H s Q E) s
section
variable {P : Program} {w : World} {K : Fg} {mg : Str → Option Value} {base : Heap}
theorem fnG {x qual : Str} {st : Stmt} {f : Addr} {fd : FuncData} {N ps : List Str} {k : Nat} {sp : Sp} (F : Fun K x qual st f fd) (S : FnScope N ps (defScope st)) (len : ∀ vs H Q E, sp vs H Q E → vs.length = ps.length)
    (hbody : ∀ (cdv : Value) (A : Around) (outer : List Env) (s : Shared) (H : Hp) (vs : List V) (Q : VK) (E : XK), A.guards = some [] → Room k (A.deeper (envOfC qual (defScope st) s.heap.objs.size f cdv)) → sp vs H Q E →
      ∃ t, PSs (bcx P w K mg base N qual st f cdv A outer s H E) (defBody st) t ∧ t { nx := fun _ H' => Q .non H', rt := Q } (start N vs) H) : FnG P w K mg base (k + 1) f fd ps sp := by
  obtain ⟨oc, od, kV, doc, pm, an, cdv, ct, osl, rfl, lk, hcd⟩ := F.ex
  constructor
  · exact len
  intro A outer s H args us vs Q E gu room e0 bt rv want
  have count := len _ _ _ _ want
  have kin : K.In s.heap := e0.mod.kin.keeps fun b o e => (e0.bs b o e).1
  have nol : s.heap.NoLimit := e0.mod.nolimit.keeps fun b o e => (e0.bs b o e).1
  have kinds : ∀ y ∈ ps.zip us, (defScope st).names.lookup y.1 = some .local ∨ ((defScope st).names.lookup y.1 = some .cell ∧ ((cellsFrom (s.heap.objs.size + 1) (defScope st).names []).lookup y.1).isSome = true) := by
    rintro ⟨n, v⟩ hy
    rcases S.par n (List.of_mem_zip hy).1 with q | q
    · exact .inl q
    · exact .inr ⟨q, PySem.W.cellsFrom_some _ _ _ (.inl q)⟩
  refine codeAny_call_function room.depth (kin _ _ lk) rfl S.co S.gen rfl (PySem.W.codeRec_of kin hcd) (bt _ _ _ _ ?_)
  apply wpAny_newFunctionEnv_cells S.kind kinds
  rintro env rfl s1 x
  refine ⟨nol.keeps x.toInCall.keep, codeAny_func ?_⟩
  obtain ⟨t, ht, hq⟩ := hbody cdv A outer s H vs Q E gu (room.deeper _) want
  have inv0 := inv_start (CX := L2.CX P w) (E := E) S room.hd e0 count rv x
  apply wpAny_mono (ht.run [] s1 _ H _ inv0 hq)
  · intro fl s' hs
    match fl, hs with
    | .ret u, ⟨v, _, H', J, rv', q⟩ => exact ⟨v, H', J.os, J.bare, J.base, J.hok, rv', q⟩
    | .next, ⟨_, H', J, q⟩ => exact ⟨V.non, H', J.os, J.bare, J.base, J.hok, rfl, q⟩
    | .brk, ⟨_, _, _, q⟩ => exact False.elim q
    | .cont, ⟨_, _, _, q⟩ => exact False.elim q
  · exact fun _ _ z => z
/-- .. over data -/
theorem fnGD {x qual : Str} {st : Stmt} {f : Addr} {fd : FuncData} {N ps : List Str} {k : Nat} (ix : List Nat) (sp : SpD) (tb : WD → TDs) (F : Fun K x qual st f fd) (S : FnScope N ps (defScope st)) (len : ∀ args R E, sp args R E → args.length = ps.length)
    (hterm : ∀ (cdv : Value) (A : Around) (outer : List Env) (s : Shared) (H : Hp) (E : XK) (fr : Fr) (W : WD), (bcx P w K mg base N qual st f cdv A outer s H E).A.guards = some [] → Room k (bcx P w K mg base N qual st f cdv A outer s H E).A → fr.ix = ix → Takes (bcx P w K mg base N qual st f cdv A outer s H E) (LftW fr W) →
      PDss (bcx P w K mg base N qual st f cdv A outer s H E) fr (defBody st) (tb W))
    (hbody : ∀ args R E, (∀ i s, args[i]? = some s → i ∈ ix ∨ s.pure) → sp args R E → tb (fun ex ρ => E ex (back ix args ρ)) ⟨fun ρ => R (.val .none) (back ix args ρ), fun s ρ => R s (back ix args ρ)⟩ (args ++ List.replicate (N.length - args.length) .no)) :
    FnG P w K mg base (k + 1) f fd ps (LftSp ix sp) := by
  refine fnG F S (fun vs H Q E h => ?_) (fun cdv A outer s H vs Q E gu hr h => ?_)
  · obtain ⟨fr, args, _, st, _, h⟩ := h
    have := st.len
    rw [List.length_map] at this
    rw [this]; exact len _ _ _ h
  · obtain ⟨fr, args, hix, st, hp, h⟩ := h
    subst hix
    have z := hbody args _ _ hp h
    have pd := hterm cdv A outer s H E fr (fun ex ρ => ∀ d G' H', Same fr.G0 G' → StR fr G' H' (vs.map some) (back fr.ix args ρ) → ExR G' H' d ex.2 → E ex.1 d H') gu hr rfl (Takes.imp (takes_of (E₁ := fun e' s'' => L2.CX P w outer H s E e' s'') rfl rfl rfl rfl) fun c d σ H2 q => by
      obtain ⟨G2, ρ2, pl, st2, ee, q⟩ := q
      exact q d G2 H2 st2.g0 (back_ret st hp st2.g0 (st2.ret .non)).st ee)
    refine ⟨_, pd.run, fr.G0, _, ?_, pd.mono _ _ _ (fun ρ q => ?_) (fun s ρ q => ?_) z⟩
    · have e : N.length - args.length = N.length - vs.length := by rw [← st.len, List.length_map]
      have := st.ext (N.length - args.length)
      unfold L2.start
      rw [e] at this ⊢
      exact this
    · intro σ' G' H' gg st2
      exact q .non G' H' gg (back_ret st hp gg (st2.ret .non))
    · intro σ' v G' H' gg ret
      exact q v G' H' gg (back_ret st hp gg ret)
end

/-! ### the end: the law answers True at every script -/
open Classical in
/-- the heap ahead of the law: the script alone, unless it is one of the module's own things -/
theorem lawCallG {P : Program} {w : World} {K : Fg} {mg mb : Str → Option Value} {k : Nat} {fa a : Addr} {fd : FuncData} {x : Str} {sp : SpD} {s₁ : Shared} {vs : List Value} {ns : List Int} (kin : K.In s₁.heap) (gl : s₁.heap.Ns mainGlobals mg) (bl : s₁.heap.Ns builtinsNs mb) (blb : ∀ x : Str, x ≠ "__name__" → mb x = bootBuiltins x)
    (nol : s₁.heap.NoLimit) (gen : s₁.gens = #[]) (ha : s₁.heap.get? a = some { cls := .type "list", data := .seq vs.toArray }) (hi : IntsAre vs ns) (hl : ns.length ≤ sizeLine) (room : Room k callerA)
    (F : ∀ base : Heap, K.In base → base.Ns mainGlobals mg → FnG P w K mg base k fa fd [x] (LftSp [] sp)) (bind : ∀ (s : Shared) (u : Value), BindsTo s fd ⟨[u], []⟩ [(x, u)])
    (mo : SpMono sp) (hsp : sp [.raw (.ref a) (Scr K a ns)] (fun s _ => s = .val (.bool true)) fun _ _ => False) :
    codeAny (model P w) callerA (.call (.ref fa) ⟨[.ref a], []⟩) (fun r s' => r = .ok (.ret (.bool true)) ∧ OldK s₁.heap s'.heap ∧ s'.os = s₁.os ∧ AllBare s'.gens) s₁ := by
  let ob : Obj := { cls := .type "list", data := .seq vs.toArray }
  let H : Hp := fun b => if b = a ∧ K.lookup a = none then some (.frz ob (.lst (ns.map V.int))) else none
  have Hn : ∀ b, b ≠ a → H b = none := fun b hb => if_neg fun z => hb z.1
  have Hs : ∀ b u, H b = some u → b = a ∧ K.lookup a = none ∧ u = .frz ob (.lst (ns.map V.int)) := fun b u e => by
    have e : (if b = a ∧ K.lookup a = none then some (HO.frz ob (.lst (ns.map V.int))) else none) = some u := e
    split at e
    · rename_i c; cases e; exact ⟨c.1, c.2, rfl⟩
    · cases e
  have sq : SqL K H a (ns.map V.int) := by
    cases hk : K.lookup a with
    | none => exact .inl (.inr ⟨ob, if_pos ⟨rfl, hk⟩⟩)
    | some o =>
      have e := kin a o hk
      rw [ha] at e
      cases e
      have ln := hi.length
      exact .inr ⟨_, vs.toArray, _, hk, rfl, rfl, rfl, by rw [List.size_toArray, ln]; exact hl, by simpa using vals_ints hi⟩
  have hok : HOk P w H s₁.heap := fun b u e => by
    obtain ⟨rfl, _, rfl⟩ := Hs b u e
    exact ⟨ha, by rw [List.length_map]; exact hl, vs, _, vals_ints hi, ha⟩
  have hid : ∀ {b : Addr} {o : Obj}, s₁.heap.get? b = some o → H b = none → (hidT s₁.heap H).get? b = some o := fun e n => hidT_get e n
  have kinH : K.In (hidT s₁.heap H) := fun b o e => hid (kin b o e) (by
    cases q : H b with
    | none => rfl
    | some u =>
      obtain ⟨rfl, z, _⟩ := Hs b u q
      rw [z] at e; cases e)
  have nsH : ∀ {b : Addr} {m : Str → Option Value}, s₁.heap.Ns b m → (hidT s₁.heap H).Ns b m := fun {b m} ⟨o, es, ep, e, d, r⟩ => ⟨o, es, ep, hid e (by
    cases q : H b with
    | none => rfl
    | some u =>
      obtain ⟨rfl, _, _⟩ := Hs b u q
      rw [ha] at e
      cases e
      cases d), d, r⟩
  have md : Mod K mg (hidT s₁.heap H) := ⟨kinH, nsH gl, ⟨mb, nsH bl, blb⟩, let ⟨mc, h1, h2⟩ := nol; ⟨mc, nsH h1, h2⟩⟩
  have e0 : Env0 P w K mg (hidT s₁.heap H) callerA [] s₁ H := ⟨rfl, md, fun b o e => of_hidT e, Nat.le_of_eq (hidT_size _ _), trivial, fun b hb => (by cases hb), hok, .of_eq gen⟩
  let fr : Fr := ⟨fun _ => none, fun b => H b, []⟩
  have st : StR fr fr.G0 H ([V.ref a].map some) [.raw (.ref a) (Scr K a ns)] := by
    refine ⟨Same.refl _, fun b u e => (by cases e), Same.refl _, fun b u e => .inl e, fun p hp => (by cases hp), rfl, fun _ => [], ⟨fun i s e => ?_, fun i j b hb => (by cases hb), fun i b hb => (by cases hb)⟩⟩
    match i, e with
    | 0, e =>
      cases e
      exact ⟨_, rfl, .raw fun G' g => sqL_mono g sq⟩
  have want : LftSp [] sp [.ref a] H (fun v H' => v = .bl true) fun _ _ _ => False := by
    refine ⟨fr, _, rfl, st, fun i s e => ?_, ?_⟩
    · match i, e with
      | 0, e => cases e; exact .inr trivial
    · refine mo _ _ _ _ _ (fun r args' z v G' H' g ret => ?_) (fun _ _ z => z.elim) hsp
      have z : r = .val (.bool true) := z
      subst z
      obtain ⟨_, _, _, y, _⟩ := ret.sl
      cases y with
      | val q => cases q; rfl
  refine codeAny_mono ((F _ kinH (nsH gl)).go callerA [] s₁ H ⟨[.ref a], []⟩ [.ref a] [.ref a] _ _ rfl room e0 (bind s₁ (.ref a)) (.cons rfl .nil) want) fun r s' z => ?_
  match r, z with
  | .error e, z =>
    obtain ⟨_, _, _, _, _, _, _, _, _, _, _, _, q⟩ := z
    exact False.elim q
  | .ok .next, z => exact False.elim z
  | .ok .brk, z => exact False.elim z
  | .ok .cont, z => exact False.elim z
  | .ok (.ret u), ⟨v, H', os, bare, un, hok', rv, q⟩ =>
    have q : v = .bl true := q
    subst q
    obtain rfl : u = Value.bool true := rv
    refine ⟨rfl, OldK.of_keep fun b o e => ?_, os, bare⟩
    cases q : H b with
    | none => exact un.keep b o e q (fun z => by cases z) (by simp)
    | some u =>
      obtain ⟨rfl, _, rfl⟩ := Hs b u q
      have e2 := (hok' b _ (un.frzs b ob _ q)).1
      rw [ha] at e
      cases e
      exact e2
/-- the goal that the head leaves, from the law's promise over data -/
theorem walkG {l : PySem.W.OpenLaw} {n k : Nat} {q : Program} {loose : List Str} {XP : (Str → Option Value) → Heap → Prop} {YP : World → Heap → Prop} {d : DefRec} {K : Params → Fg} {sp : Fg → SpD} {x : Str} (hn : l.most = some n) (hn2 : n ≤ sizeLine) (hdf : d.params.defaults = []) (room : Room k callerA)
    (hY : ∀ (w : World) (h : Heap), YP w h → (K w.params).In h)
    (F : ∀ (w : World) (mg : Str → Option Value) (fa : Addr) (h : Heap), (K w.params).In h → h.Ns mainGlobals mg → mg d.name = some (.ref fa) → ∃ fd : FuncData, (∀ (s : Shared) (u : Value), BindsTo s fd ⟨[u], []⟩ [(x, u)]) ∧
      ∀ base : Heap, (K w.params).In base → base.Ns mainGlobals mg → FnG l.prog w (K w.params) mg base k fa fd [x] (LftSp [] (sp (K w.params))))
    (mo : ∀ K, SpMono (sp K)) (hsp : ∀ (K : Fg) (a : Addr) (ns : List Int), ns.length ≤ n → sp K [.raw (.ref a) (Scr K a ns)] (fun s _ => s = .val (.bool true)) fun _ _ => False) : PySem.W.WalkO q loose XP YP l.row.toRowW d [] (fun f vs => PySem.call f vs) := by
  refine Att.attach_call hn hdf fun w s₀ s₁ mg mb fa o pm cd doc a vs ns G Y ho hd hcd hmg hobj hints hlen hg => ?_
  have kin := hY w _ Y
  obtain ⟨fd, hb, hF⟩ := F w mg fa _ kin G.T.g hmg
  exact lawCallG kin G.T.g G.T.b G.T.builtins G.T.nolimit hg hobj hints (Nat.le_trans hlen hn2) room hF hb (mo _) (hsp _ a ns hlen)
end DL
namespace DL
open PySem PySem.Spec PyProof.Rows L2

/-! ### a def's promise, with all that a call of it wants -/
structure Has (P : Program) (w : World) (K : Fg) (mg : Str → Option Value) (base : Heap) (k : Nat) (x : Str) (ps : List Str) (ix : List Nat) (sp : SpD) : Prop where
  ex : ∃ f fd, FnOk P w K mg base (L2.CX P w) k f fd ps (LftSp ix sp) ∧ mg x = some (.ref f) ∧ PySem.W.keepIn K (.ref f) = true ∧ Binds K fd ps []
  mo : SpMono sp
theorem Has.mk' {P : Program} {w : World} {K : Fg} {mg : Str → Option Value} {base : Heap} {k : Nat} {x : Str} {ps : List Str} {ix : List Nat} {sp : SpD} (f : Addr) (fd : FuncData) (F : FnOk P w K mg base (L2.CX P w) k f fd ps (LftSp ix sp)) (hm : mg x = some (.ref f)) (hk : PySem.W.keepIn K (.ref f) = true) (hb : Binds K fd ps []) (mo : SpMono sp) :
    Has P w K mg base k x ps ix sp := ⟨⟨f, fd, F, hm, hk, hb⟩, mo⟩
section
variable {X : Cx} {fr : Fr} {a b e : Expr} {es : List Expr} {ta tb : TD} {pos : Pos}
theorem pf_callH {k : Nat} {ps : List Str} {x : Str} {p : Pos} {ix : List Nat} {sp : SpD} {W : WD} {tl : TDa} (h : Has X.prog X.w X.K X.mg X.base k x ps ix sp) (hr : Room k X.A) (hg : Gl X x) (tk : Takes X (LftW fr W)) (ha : PDa X fr (a :: es) tl) (hdb : (x == ("__debug__" : Str)) = false := by decide)
    (he : starEach (a :: es) X.env = (false, eval a X.env) :: starEach es X.env := by rfl) (hpl : (backTo pos (starEach es X.env)).any (·.1) = false := by rfl) : PF X fr (.Call (.Name x p) (a :: es) [] pos) (tfCall ix sp W tl) := by
  obtain ⟨f, fd, F, hm, hk, hb⟩ := h.ex
  exact pf_call F h.mo hr hg hm hk hb tk ha hdb he hpl
theorem pd_gInt {x : Str} {i : Int} (hg : Gl X x) (hm : ∃ t, X.mg x = some (.int i t)) (hd : (x == ("__debug__" : Str)) = false := by decide) : PD X fr (.Name x pos) (tdC (.int i)) := by
  obtain ⟨t, hm⟩ := hm
  exact pd_glob hg hm (v := .int i) ⟨t, rfl⟩ (fun _ => .int i) hd
theorem pd_gStr {x : Str} {i : Str} (hg : Gl X x) (hm : ∃ t, X.mg x = some (.str i t)) (hd : (x == ("__debug__" : Str)) = false := by decide) : PD X fr (.Name x pos) (tdC (.str i)) := by
  obtain ⟨t, hm⟩ := hm
  exact pd_glob hg hm (v := .str i) ⟨t, rfl⟩ (fun _ => .str i) hd
theorem units65 {k : Nat} {A : Around} (r : Room k A) : A.units + 65 < cLine := by have := r.un; omega
/-- a statement that is never reached -/
def tsNever : TDs := fun _ _ => False
theorem s_never {s : Stmt} : PDs X fr s tsNever := ⟨PS.imp ps_never (by rintro D σ H ⟨G, ρ, st, h⟩; exact h), fun _ _ _ _ _ h => h⟩
/-- a comprehension's block, looked at by computing -/
def blkB (N : List Str) (sc scope : Scope) (own : List (Str × Nat)) : Bool :=
  decide (scope.kind = .function) && (scope.names.all fun y => decide (scope.names.lookup y.1 = some y.2)) && (own.all fun p => decide (N[p.2]? = some p.1))
    && (scope.names.all fun y => !decide (y.2 = .free) || (decide (sc.names.lookup y.1 = some .cell) || decide (sc.names.lookup y.1 = some .free)))
    && (scope.names.all fun y => !(decide (y.2 = .local) || decide (y.2 = .cell)) || ((own.map (·.1)).contains y.1 || !N.contains y.1))
theorem blkOk {N : List Str} {sc scope : Scope} {own : List (Str × Nat)} (h : blkB N sc scope own = true) : BlkOk N sc scope own := by
  unfold blkB at h
  simp only [Bool.and_eq_true, List.all_eq_true, Bool.or_eq_true, Bool.not_eq_true', decide_eq_true_eq, decide_eq_false_iff_not] at h
  obtain ⟨⟨⟨⟨h1, h2⟩, h3⟩, h4⟩, h5⟩ := h
  refine ⟨h1, h2, h3, fun y hy e => ?_, fun y hy e => ?_⟩
  · rcases h4 y hy with z | z
    · exact absurd e z
    · exact z
  · rcases h5 y hy with z | z
    · rcases e with e | e
      · rw [e] at z; simp at z
      · rw [e] at z; simp at z
    · rcases z with z | z
      · exact .inl (by simpa using z)
      · exact .inr (by simpa using z)
theorem passB {P : Program} {w : World} {K : Fg} {mg : Str → Option Value} {base : Heap} {N : List Str} {qual : Str} {st : Stmt} {f : Addr} {cdv : Value} {A : Around} {outer : List Env} {s : Shared} {H : Hp} {E : XK} :
    PassesOwn (model (bcx P w K mg base N qual st f cdv A outer s H E).prog (bcx P w K mg base N qual st f cdv A outer s H E).w) (bcx P w K mg base N qual st f cdv A outer s H E).A (bcx P w K mg base N qual st f cdv A outer s H E).env (bcx P w K mg base N qual st f cdv A outer s H E).xe :=
  L2.passes_of (K := fun e s'' => L2.CX P w outer H s E e s'') rfl
/-- xs.index(x), xs a list of scalars -/
def indexB (xs : List D) (d : D) : Option D := if flatD d = true ∧ xs.all flatD = true then (xs.findIdx? fun z => eqF z d).map fun j => .int (j : Nat) else none
def tdIndex (ta tb : TD) : TD := fun ρ K => ta ρ fun x ρ1 => match x with
  | .list xs => tb ρ1 fun y ρ2 => opt (indexB xs y) fun z => K z ρ2
  | _ => False
theorem find_v {G : Hp} {v : V} {d : D} (r : Is G v d) : ∀ {ds : List D} {vs : List V} {j : Nat}, IsAll G vs ds → ds.findIdx? (fun z => eqF z d) = some j → ∃ z, vs[j]? = some z ∧ eqV z v = true ∧ ∀ (m : Nat) z', m < j → vs[m]? = some z' → eqV z' v = false
  | _, _, j, .nil, h => by simp at h
  | _, _, j, .cons (v := w) (d := e) a b, h => by
    rw [List.findIdx?_cons] at h
    split at h
    · rename_i c
      cases h
      exact ⟨w, rfl, by rw [eqF_v a r]; exact c, fun m z' hm => absurd hm (Nat.not_lt_zero _)⟩
    · rename_i c
      cases e1 : List.findIdx? (fun z => eqF z d) _ with
      | none => rw [e1] at h; cases h
      | some i =>
        rw [e1] at h
        cases h
        obtain ⟨z, h1, h2, h3⟩ := find_v r b e1
        refine ⟨z, h1, h2, fun m z' hm hz => ?_⟩
        cases m with
        | zero => cases hz; rw [eqF_v a r]; simpa using c
        | succ m => exact h3 m z' (Nat.lt_of_succ_lt_succ hm) (by simpa using hz)
theorem pd_index {apos : Pos} (ha : PD X fr a ta) (hb : PD X fr b tb) (hbase : attributeBase a "index" X.env (eval a X.env) = eval a X.env := by rfl)
    (hfew : ((backTo pos (starEach (b :: []) X.env)).all (fun x => !x.1) && (backToKw pos (keywordEach [] X.env)).all (fun x => x.1.isSome)
      && decide ((b :: ([] : List Expr)).length + ([] : List Keyword).length + (if ([] : List Keyword).isEmpty then 0 else 1) < 30)) = true := by rfl)
    (hline : (apos.endLine == pos.line) = true := by rfl) (hs : starEach (b :: []) X.env = (false, eval b X.env) :: starEach [] X.env := by rfl) (hplain : (backTo pos (starEach ([] : List Expr) X.env)).any (·.1) = false := by rfl) :
    PD X fr (.Call (.Attribute a "index" apos) [b] [] pos) (tdIndex ta tb) := by
  refine ⟨PE.imp (pe_bm PySem.F.plainAttrs_list PySem.F.slot_list_index PySem.F.type_list_index mt_index ha.run (pa_cons hb.run pa_nil hs) hbase hfew hline hs hplain) ?_, fun ρ A B k h => ha.mono _ _ _ (fun x ρ1 z => by
    cases x with
    | list xs => exact hb.mono _ _ _ (fun y ρ2 => opt_mono fun z => k z ρ2) z
    | _ => exact z) h⟩
  rintro σ H Q ⟨G, ρ, st, h⟩
  refine Lft.into ha.mono st h fun x ρ1 v G1 H1 q1 g1 st1 r1 => ?_
  cases x with
  | list xs =>
    have ty : tyV X.K "list" v H1 := by
      obtain ⟨p, vs, rfl, sq, _⟩ := r1.sq (K := X.K) st1.gh
      exact .inl ⟨rfl, _, sq⟩
    refine ⟨ty, Lft.into hb.mono st1 q1 fun y ρ2 u G2 H2 q2 g2 st2 r2 => ?_⟩
    obtain ⟨z, hz, k⟩ := opt_get q2
    unfold indexB at hz
    split at hz
    · rename_i hf
      cases e : xs.findIdx? (fun z => eqF z y) with
      | none => rw [e] at hz; cases hz
      | some j =>
        rw [e] at hz
        cases hz
        obtain ⟨p, vs, rfl, sq, ra, _⟩ := (Is.mono' g2 r1).sq (K := X.K) st2.gh
        obtain ⟨z, h1, h2, h3⟩ := find_v r2 ra e
        exact ⟨p, vs, u, j, z, rfl, rfl, sq, flat_v r2 hf.1, flat_vs ra hf.2, h1, h2, h3, k _ _ _ (g1.trans g2) st2 (.int _)⟩
    · cases hz
  | _ => exact q1.elim
end
theorem bt_len : bootBuiltins "len" = some (.builtin "len") := by decide +kernel
theorem bt_max : bootBuiltins "max" = some (.builtin "max") := by decide +kernel
theorem bt_min : bootBuiltins "min" = some (.builtin "min") := by decide +kernel
theorem bt_abs : bootBuiltins "abs" = some (.builtin "abs") := by decide +kernel
theorem bt_all : bootBuiltins "all" = some (.builtin "all") := by decide +kernel
theorem bt_any : bootBuiltins "any" = some (.builtin "any") := by decide +kernel
theorem bt_repr : bootBuiltins "repr" = some (.builtin "repr") := by decide +kernel
theorem bt_isinstance : bootBuiltins "isinstance" = some (.builtin "isinstance") := by decide +kernel
theorem bt_sorted : bootBuiltins "sorted" = some (.builtin "sorted") := by decide +kernel
theorem bt_sum : bootBuiltins "sum" = some (.builtin "sum") := by decide +kernel
theorem bt_divmod : bootBuiltins "divmod" = some (.builtin "divmod") := by decide +kernel
theorem bt_int : bootBuiltins "int" = some (.type "int") := by decide +kernel
theorem bt_bool : bootBuiltins "bool" = some (.type "bool") := by decide +kernel
theorem bt_str : bootBuiltins "str" = some (.type "str") := by decide +kernel
theorem bt_list : bootBuiltins "list" = some (.type "list") := by decide +kernel
theorem bt_tuple : bootBuiltins "tuple" = some (.type "tuple") := by decide +kernel
theorem bt_set : bootBuiltins "set" = some (.type "set") := by decide +kernel
theorem bt_range : bootBuiltins "range" = some (.type "range") := by decide +kernel
theorem bt_zip : bootBuiltins "zip" = some (.type "zip") := by decide +kernel
theorem bt_enumerate : bootBuiltins "enumerate" = some (.type "enumerate") := by decide +kernel
end DL
namespace DL
open PySem PySem.Spec PyProof.Rows L2

/-! ### for reading terms -/
theorem back_nil {args ρ : List Sl} : back [] args ρ = args := by
  apply List.ext_getElem?
  intro i
  rw [back_get]
  cases args[i]? <;> rfl
theorem back_zero {a : Sl} {r ρ : List Sl} : back [0] (a :: r) ρ = ρ[0]?.getD .no :: r := by
  apply List.ext_getElem?
  intro i
  rw [back_get]
  cases i with
  | zero => rfl
  | succ i =>
    rw [List.getElem?_cons_succ, List.getElem?_cons_succ]
    cases r[i]? <;> simp
theorem shaped_int (i : Int) : SeqAt.shaped (.int i) = true := by simp [SeqAt.shaped, PyData.canLay0, PyData.depth]
theorem shaped_bool (i : Bool) : SeqAt.shaped (.bool i) = true := by simp [SeqAt.shaped, PyData.canLay0, PyData.depth]
theorem shaped_none : SeqAt.shaped .none = true := by simp [SeqAt.shaped, PyData.canLay0, PyData.depth]
theorem eqDD_int (i j : Int) : eqDD (.int i) (.int j) = some (.bool (decide (i = j))) := by
  show (if SeqAt.shaped (.int i) = true ∧ SeqAt.shaped (.int j) = true then some (PyData.bool (PyData.eqv (.int i) (.int j))) else none) = _
  rw [if_pos ⟨shaped_int i, shaped_int j⟩]
  simp [PyData.eqv]
  exact Bool.beq_eq_decide_eq i j
theorem neDD_int (i j : Int) : neDD (.int i) (.int j) = some (.bool (!decide (i = j))) := by
  show (if SeqAt.shaped (.int i) = true ∧ SeqAt.shaped (.int j) = true then some (PyData.bool (!PyData.eqv (.int i) (.int j))) else none) = _
  rw [if_pos ⟨shaped_int i, shaped_int j⟩]
  simp [PyData.eqv]
  exact Bool.beq_eq_decide_eq i j
theorem eqDD_bool (i j : Bool) : eqDD (.bool i) (.bool j) = some (.bool (decide (i = j))) := by
  show (if SeqAt.shaped (.bool i) = true ∧ SeqAt.shaped (.bool j) = true then some (PyData.bool (PyData.eqv (.bool i) (.bool j))) else none) = _
  rw [if_pos ⟨shaped_bool i, shaped_bool j⟩]
  simp [PyData.eqv]
  cases i <;> cases j <;> rfl
theorem neDD_bool (i j : Bool) : neDD (.bool i) (.bool j) = some (.bool (!decide (i = j))) := by
  show (if SeqAt.shaped (.bool i) = true ∧ SeqAt.shaped (.bool j) = true then some (PyData.bool (!PyData.eqv (.bool i) (.bool j))) else none) = _
  rw [if_pos ⟨shaped_bool i, shaped_bool j⟩]
  simp [PyData.eqv]
  cases i <;> cases j <;> rfl
theorem eqDD_str (a b : Str) : eqDD (.str a) (.str b) = some (.bool (decide (a = b))) := rfl
theorem neDD_str (a b : Str) : neDD (.str a) (.str b) = some (.bool (!decide (a = b))) := rfl
theorem seqOf_list (xs : List D) : seqOf (.list xs) = some xs := rfl
theorem seqOf_tuple (xs : List D) : seqOf (.tuple xs) = some xs := rfl
theorem at0 {α : Type} {a : α} {xs : List α} : atI (a :: xs) 0 = some a := atI_nat (j := 0) rfl
theorem at1 {α : Type} {a b : α} {xs : List α} : atI (a :: b :: xs) 1 = some b := atI_nat (j := 1) rfl
theorem at2 {α : Type} {a b c : α} {xs : List α} : atI (a :: b :: c :: xs) 2 = some c := atI_nat (j := 2) rfl
theorem at3 {α : Type} {a b c d : α} {xs : List α} : atI (a :: b :: c :: d :: xs) 3 = some d := atI_nat (j := 3) rfl
theorem at4 {α : Type} {a b c d e : α} {xs : List α} : atI (a :: b :: c :: d :: e :: xs) 4 = some e := atI_nat (j := 4) rfl
theorem ixN5_1 : ixN 5 1 = some 1 := rfl
theorem ixN5_2 : ixN 5 2 = some 2 := rfl
theorem ixN5_3 : ixN 5 3 = some 3 := rfl
theorem nodup1 {α : Type} {a : α} : [a].Nodup := by simp
/-- one statement at a time, the rest held back -/
theorem seq_step {t u : TDs} {De : EndsD} {ρ : List Sl} (h : ∀ N : TDs, N = u → t { De with nx := N De } ρ) : tsSeq t u De ρ := h u rfl
theorem for_step {ti : TDl} {g : TDg} {b : TDs} {De : EndsD} {ρ : List Sl} (h : ∀ (g' : TDg) (b' : TDs), g' = g → b' = b → ti ρ fun items ρ1 => loopD g' b' De items ρ1) : tsFor ti g b De ρ := h g b rfl rfl
/-- a walk, turn by turn -/
theorem loop_ind {α : Type} {g : TDg} {body : TDs} {De : EndsD} (f : α → D) (I : List α → List Sl → Prop) (hs : ∀ x xs ρ, (∀ ρ', I xs ρ' → loopD g body De (xs.map f) ρ') → I (x :: xs) ρ → g (f x) ρ fun ρ1 => body { De with nx := loopD g body De (xs.map f) } ρ1) (he : ∀ ρ, I [] ρ → De.nx ρ) :
    ∀ xs ρ, I xs ρ → loopD g body De (xs.map f) ρ
  | [], ρ, h => he ρ h
  | x :: xs, ρ, h => hs x xs ρ (fun ρ' h' => loop_ind f I hs he xs ρ' h') h
theorem lc_ind {α : Type} {g : TDg} {tt : TDb} {te : TD} {vs : List Nat} {K : List D → List Sl → Prop} (f : α → D) (I : List α → List D → List Sl → Prop)
    (hs : ∀ x xs acc ρ, (∀ acc' ρ', I xs acc' ρ' → lcD g tt te vs (xs.map f) acc' ρ' K) → I (x :: xs) acc ρ → g (f x) ρ fun ρ1 => tt ρ1 fun b ρ2 => if b = true then te ρ2 fun y ρ3 => acc.length < sizeLine ∧ lcD g tt te vs (xs.map f) (acc ++ [y]) (wipeD ρ3 vs) K else lcD g tt te vs (xs.map f) acc (wipeD ρ2 vs) K)
    (he : ∀ acc ρ, I [] acc ρ → K acc ρ) : ∀ xs acc ρ, I xs acc ρ → lcD g tt te vs (xs.map f) acc ρ K
  | [], acc, ρ, h => he acc ρ h
  | x :: xs, acc, ρ, h => hs x xs acc ρ (fun acc' ρ' h' => lc_ind f I hs he xs acc' ρ' h') h
/-- a comprehension that only computes -/
theorem lc_map {α : Type} {g : TDg} {te : TD} {vs : List Nat} {K : List D → List Sl → Prop} {ρ0 : List Sl} (f : α → D) (F : α → D) : ∀ (xs : List α) (acc : List D), acc.length + xs.length ≤ sizeLine →
    (∀ x ∈ xs, ∀ A : DK, (∀ ρ, wipeD ρ vs = ρ0 → A (F x) ρ) → g (f x) ρ0 fun ρ1 => te ρ1 A) → K (acc ++ xs.map F) ρ0 → lcD g tdYes te vs (xs.map f) acc ρ0 K
  | [], acc, _, _, h => by rw [List.map_nil, List.append_nil] at h; exact h
  | x :: xs, acc, hl, hs, h => by
    refine hs x List.mem_cons_self _ fun ρ hρ => ?_
    rw [hρ]
    rw [List.length_cons] at hl
    refine ⟨by omega, lc_map f F xs (acc ++ [F x]) (by rw [List.length_append, List.length_singleton]; omega) (fun y hy => hs y (List.mem_cons_of_mem _ hy)) ?_⟩
    rw [List.append_assoc, List.singleton_append]
    rw [List.map_cons] at h
    exact h
theorem map_id_D (xs : List D) : xs.map (fun d => d) = xs := List.map_id' xs
theorem loop_indD {g : TDg} {body : TDs} {De : EndsD} (I : List D → List Sl → Prop) (hs : ∀ x xs ρ, (∀ ρ', I xs ρ' → loopD g body De xs ρ') → I (x :: xs) ρ → g x ρ fun ρ1 => body { De with nx := loopD g body De xs } ρ1) (he : ∀ ρ, I [] ρ → De.nx ρ) :
    ∀ xs ρ, I xs ρ → loopD g body De xs ρ
  | [], ρ, h => he ρ h
  | x :: xs, ρ, h => hs x xs ρ (fun ρ' h' => loop_indD I hs he xs ρ' h') h
/-- factors that are not too great -/
theorem cmul {i j : Int} (hi : i.natAbs < 2 ^ 1000) (hj : j.natAbs < 2 ^ 1000) : CMulW i j := wide_mul hi hj (by decide) (by decide) (by decide)
theorem cdiv {i j : Int} (h0 : 0 < j) (hj : j.natAbs < 2 ^ 1000) : CDivW i j := wide_div h0 hj (by decide) (by decide)
theorem na_mod {x m : Int} (h0 : 0 < m) (h : m.natAbs < 2 ^ 1000) : (x % m).natAbs < 2 ^ 1000 := by
  have h1 := Int.emod_nonneg x (by omega : m ≠ 0)
  have h2 := Int.emod_lt_of_pos x h0
  omega
theorem na_mul {x y : Int} (hx : x.natAbs < 2 ^ 400) (hy : y.natAbs < 2 ^ 400) : (x * y).natAbs < 2 ^ 1000 := by
  have := wide_lt hx hy
  exact Nat.lt_of_lt_of_le this (Nat.pow_le_pow_right (by decide) (by decide))
end DL
namespace DL
namespace LW
open PySem PySem.Spec PyProof.Rows L2

/-! ### the program's text, by places -/
abbrev top (i : Nat) : Stmt := PySem.Challenge.pw_slideback_k55_depths_let.main.body.getD i (.Pass ⟨0, 0, 0, 0⟩)

structure Txt (mg : Str → Option Value) : Prop where
  b_all : mg "all" = none
  b_bool : mg "bool" = none
  b_enumerate : mg "enumerate" = none
  b_int : mg "int" = none
  b_isinstance : mg "isinstance" = none
  b_len : mg "len" = none
  b_list : mg "list" = none
  b_max : mg "max" = none
  b_min : mg "min" = none
  b_range : mg "range" = none
  b_repr : mg "repr" = none
  b_set : mg "set" = none
  b_str : mg "str" = none
  b_tuple : mg "tuple" = none
  c_LETTERS : ∃ t, mg "LETTERS" = some (.str "abcdefghijklmnopqrstuvwxyz" t)
  c_MOST_CARDS : ∃ t, mg "MOST_CARDS" = some (.int 40 t)
  c_MOST_LETTERS : ∃ t, mg "MOST_LETTERS" = some (.int 8 t)

abbrev MM : Int := 2305843009213693951
/-! ### the law's own draws -/
def bagD (ns : List Int) (pos : Nat) (st cnt tot : Int) : List D := [.list (ns.map PyData.int), .int pos, .int st, .int cnt, .int tot]
/-- a bag from which at most c times was drawn -/
def Bag (c : Int) (b : List D) : Prop := ∃ ns pos st cnt tot, b = bagD ns pos st cnt tot ∧ pos ≤ ns.length ∧ 0 ≤ st ∧ 0 ≤ cnt ∧ cnt ≤ c ∧ 0 ≤ tot ∧ tot < MM
theorem Bag.le {c d : Int} {b : List D} (h : Bag c b) (k : c ≤ d) : Bag d b := by
  obtain ⟨ns, pos, st, cnt, tot, h1, h2, h3, h4, h5, h6⟩ := h
  exact ⟨ns, pos, st, cnt, tot, h1, h2, h3, h4, by omega, h6⟩
theorem atI_int {xs : List D} {j : Nat} {d : D} (h : xs[j]? = some d) : atI xs (j : Int) = some d := atI_nat h

def sp__law_bag (K : Fg) : SpD := fun args R E => ∃ a ns, args = [.raw (.ref a) (Scr K a ns)] ∧ ∀ b, Bag 0 b → R (.lst b) args
theorem mo__law_bag {K : Fg} : SpMono (sp__law_bag K) := fun args R R' E E' h1 h2 ⟨a, ns, e, k⟩ => ⟨a, ns, e, fun b hb => h1 _ _ (k b hb)⟩
theorem len__law_bag {K : Fg} {args R E} (h : sp__law_bag K args R E) : args.length = 1 := by obtain ⟨n, p, rfl, _⟩ := h; rfl

def t__law_bag (K : Fg) (W : WD) : TDs :=
  (tsSeq (tsAsg (tfV (tdC (.int 1))) 1)
  (tsSeq (tsFor (tiScr K 0) (tgName 2) (tsAsg (tfV (tdBin modD (tdBin addD (tdBin addD (tdBin mulD (tdVar 1) (tdC (.int 1000003))) (tdBin modD (tdVar 2) (tdC (.int 2305843009213693951)))) (tdC (.int 1))) (tdC (.int 2305843009213693951)))) 1))
  (tsRet (tfLst (tdCons (tdFz (tfScrL K 0)) (tdCons (tdC (.int 0)) (tdCons (tdC (.int 0)) (tdCons (tdC (.int 0)) (tdCons (tdVar 1) tdNil)))))))))

theorem body__law_bag {K : Fg} {args : List Sl} {R : Sl → List Sl → Prop} {E : Exn → List Sl → Prop} (h : sp__law_bag K args R E) :
    t__law_bag K (fun ex ρ => E ex (back [0] args ρ)) ⟨fun ρ => R (.val .none) (back [0] args ρ), fun s ρ => R s (back [0] args ρ)⟩ (args ++ List.replicate (3 - args.length) .no) := by
  obtain ⟨a, ns, rfl, k⟩ := h
  simp only [t__law_bag, tsSeq, tsAsg, tsNext, tsRet, tsRetN, tsExpr, tsIf, tsFor, tsWhile, tsNever, tsAsgG, tsSetIx, tfV, tfLst, tfMove, tfList, tfLRg, tfLc, tfCall, tdFz, tdVar, tdC, tdBin, tdUn, tdTest, tdChain, tdAnd, tdOr, tdNot, tdAndV, tdOrV, tdNotV, tdIf, tdNil, tdCons, tdTup, tdLst, tdFn, tdIxO, tdLenO, tdMeth, tdSl, tdRev, toNo, toSome, tdIsi, tdIsi2, tdLenSet, tdIndex, tdYes, taNil, taCons, taOwn, tgName, tgNil, tgCons, tgTup, tiSeq, tiStr, tiRg1, tiRg2, tiRg3, tiEnum, onLst, isLst, seqOf_list, seqOf_tuple, addD, subD, divD, modD, powD, intD, negD, mulD, cmpD, i2D, lenD, ixD, List.getElem?_cons_succ, List.getElem?_cons_zero, List.set_cons_succ, List.set_cons_zero, opt_some, opt_none, opt_ite, if_true, if_false, Bool.false_eq_true, List.map_cons, List.map_nil, List.cons_append, List.nil_append, List.append_nil, List.replicate_succ, List.replicate_zero, List.length_cons, List.length_nil, rsv, ownIx, ixOf, wb, Option.getD_some, back_nil, back_zero, eqDD_int, neDD_int, eqDD_bool, neDD_bool, eqDD_str, neDD_str, ltD, leD, gtD, geD, List.nodup_nil, nodup1, at0, at1, at2, at3, at4, ixN5_1, ixN5_2, ixN5_3, Nat.reduceAdd, true_and, and_true, eq_self, List.length_singleton, slD, signsD, wipeD, restD, Sl.keep, rgD, subD, maxLD, minLD, Bool.not_true, Bool.not_false, tiScr]
  refine ⟨a, ns, rfl, loop_ind PyData.int (fun _ ρ => ∃ tot z, ρ = [.raw (.ref a) (Scr K a ns), .val (.int tot), z] ∧ 0 ≤ tot ∧ tot < MM) ?_ ?_ _ _ ⟨1, _, rfl, by decide, by decide⟩⟩
  · rintro x xs ρ ih ⟨tot, z, rfl, h0, h1⟩
    simp only [tsSeq, tsAsg, tsNext, tsRet, tsRetN, tsExpr, tsIf, tsFor, tsWhile, tsNever, tsAsgG, tsSetIx, tfV, tfLst, tfMove, tfList, tfLRg, tfLc, tfCall, tdFz, tdVar, tdC, tdBin, tdUn, tdTest, tdChain, tdAnd, tdOr, tdNot, tdAndV, tdOrV, tdNotV, tdIf, tdNil, tdCons, tdTup, tdLst, tdFn, tdIxO, tdLenO, tdMeth, tdSl, tdRev, toNo, toSome, tdIsi, tdIsi2, tdLenSet, tdIndex, tdYes, taNil, taCons, taOwn, tgName, tgNil, tgCons, tgTup, tiSeq, tiStr, tiRg1, tiRg2, tiRg3, tiEnum, onLst, isLst, seqOf_list, seqOf_tuple, addD, subD, divD, modD, powD, intD, negD, mulD, cmpD, i2D, lenD, ixD, List.getElem?_cons_succ, List.getElem?_cons_zero, List.set_cons_succ, List.set_cons_zero, opt_some, opt_none, opt_ite, if_true, if_false, Bool.false_eq_true, List.map_cons, List.map_nil, List.cons_append, List.nil_append, List.append_nil, List.replicate_succ, List.replicate_zero, List.length_cons, List.length_nil, rsv, ownIx, ixOf, wb, Option.getD_some, back_nil, back_zero, eqDD_int, neDD_int, eqDD_bool, neDD_bool, eqDD_str, neDD_str, ltD, leD, gtD, geD, List.nodup_nil, nodup1, at0, at1, at2, at3, at4, ixN5_1, ixN5_2, ixN5_3, Nat.reduceAdd, true_and, and_true, eq_self, List.length_singleton, slD, signsD, wipeD, restD, Sl.keep, rgD, subD, maxLD, minLD, Bool.not_true, Bool.not_false]
    have h1 : tot < 2305843009213693951 := h1
    refine ⟨cmul (by omega) (by decide), by decide, by decide, ih _ ⟨_, _, rfl, Int.emod_nonneg _ (by decide), Int.emod_lt_of_pos _ (by decide)⟩⟩
  · rintro ρ ⟨tot, z, rfl, h0, h1⟩
    simp only [tfScrL, onScr, tsSeq, tsAsg, tsNext, tsRet, tsRetN, tsExpr, tsIf, tsFor, tsWhile, tsNever, tsAsgG, tsSetIx, tfV, tfLst, tfMove, tfList, tfLRg, tfLc, tfCall, tdFz, tdVar, tdC, tdBin, tdUn, tdTest, tdChain, tdAnd, tdOr, tdNot, tdAndV, tdOrV, tdNotV, tdIf, tdNil, tdCons, tdTup, tdLst, tdFn, tdIxO, tdLenO, tdMeth, tdSl, tdRev, toNo, toSome, tdIsi, tdIsi2, tdLenSet, tdIndex, tdYes, taNil, taCons, taOwn, tgName, tgNil, tgCons, tgTup, tiSeq, tiStr, tiRg1, tiRg2, tiRg3, tiEnum, onLst, isLst, seqOf_list, seqOf_tuple, addD, subD, divD, modD, powD, intD, negD, mulD, cmpD, i2D, lenD, ixD, List.getElem?_cons_succ, List.getElem?_cons_zero, List.set_cons_succ, List.set_cons_zero, opt_some, opt_none, opt_ite, if_true, if_false, Bool.false_eq_true, List.map_cons, List.map_nil, List.cons_append, List.nil_append, List.append_nil, List.replicate_succ, List.replicate_zero, List.length_cons, List.length_nil, rsv, ownIx, ixOf, wb, Option.getD_some, back_nil, back_zero, eqDD_int, neDD_int, eqDD_bool, neDD_bool, eqDD_str, neDD_str, ltD, leD, gtD, geD, List.nodup_nil, nodup1, at0, at1, at2, at3, at4, ixN5_1, ixN5_2, ixN5_3, Nat.reduceAdd, true_and, and_true, eq_self, List.length_singleton, slD, signsD, wipeD, restD, Sl.keep, rgD, subD, maxLD, minLD, Bool.not_true, Bool.not_false]
    refine ⟨a, ns, rfl, by show 5 ≤ sizeLine; decide, ?_⟩
    exact k _ ⟨ns, 0, 0, 0, tot, rfl, Nat.zero_le _, by decide, by decide, by decide, h0, h1⟩

theorem sc__law_bag : FnScope ["script", "total", "cell"] ["script"] (defScope (top 18)) := ⟨rfl, rfl, rfl, by decide +kernel, rfl, by decide +kernel, by decide +kernel⟩
theorem has__law_bag {P : Program} {w : World} {K : Fg} {mg : Str → Option Value} {base : Heap} {f : Addr} {fd : FuncData} (T : Txt mg) (F : Fun K "_law_bag" "_law_bag" (top 18) f fd) (hm : mg "_law_bag" = some (.ref f)) (hb : Binds K fd ["script"] [])  : Has P w K mg base 1 "_law_bag" ["script"] [0] (sp__law_bag K) :=
  ⟨⟨f, fd, fnD [0] (sp__law_bag K) (t__law_bag K) F sc__law_bag (fun args R E h => len__law_bag h) (fun cdv A outer s H E fr W hr hfr tk => (ss_cons (s_asg (i := 1) sc__law_bag.nd rfl (by first | exact .inl rfl | exact .inr rfl) (by first | exact .inl rfl | exact .inr rfl) (by rw [hfr]; decide) (pf_val pd_int))
  (ss_cons (s_for passB rfl (pi_scr (i := 0) rfl (by first | exact .inl rfl | exact .inr (.inl rfl) | exact .inr (.inr rfl))) (t_name (i := 2) sc__law_bag.nd rfl (by first | exact .inl rfl | exact .inr rfl) (by first | exact .inl rfl | exact .inr rfl) (by rw [hfr]; decide)) (ss_one (s_asg (i := 1) sc__law_bag.nd rfl (by first | exact .inl rfl | exact .inr rfl) (by first | exact .inl rfl | exact .inr rfl) (by rw [hfr]; decide) (pf_val (pd_op op_modD okD (pd_op op_addD okD (pd_op op_addD okD (pd_op op_mulD okD (pd_var (i := 1) rfl (by first | exact .inl rfl | exact .inr (.inl rfl) | exact .inr (.inr rfl))) pd_int) (pd_op op_modD okD (pd_var (i := 2) rfl (by first | exact .inl rfl | exact .inr (.inl rfl) | exact .inr (.inr rfl))) pd_int)) pd_int) pd_int)))))
  (ss_one (s_ret (pf_lst (pl_cons (pd_fz (pf_scrL (i := 0) rfl (by first | exact .inl rfl | exact .inr (.inl rfl) | exact .inr (.inr rfl)) rfl T.b_list)) (pl_cons pd_int (pl_cons pd_int (pl_cons pd_int (pl_cons (pd_var (i := 1) rfl (by first | exact .inl rfl | exact .inr (.inl rfl) | exact .inr (.inr rfl))) pl_nil))))))))))) (fun args R E hp h => body__law_bag h), hm, F.kp, hb⟩, mo__law_bag⟩

def sp__law_stir : SpD := fun args R E => ∃ n p : Int, args = [.val (.int n), .val (.int p)] ∧ 0 ≤ n ∧ n < 2 ^ 62 ∧ 0 ≤ p ∧ p < 2 ^ 100 ∧ ∀ z : Int, R (.val (.int z)) args
theorem mo__law_stir : SpMono sp__law_stir := fun args R R' E E' h1 h2 ⟨n, p, a, b, c, d, e, k⟩ => ⟨n, p, a, b, c, d, e, fun z => h1 _ _ (k z)⟩
theorem len__law_stir {args R E} (h : sp__law_stir args R E) : args.length = 2 := by obtain ⟨n, p, rfl, _⟩ := h; rfl

def t__law_stir (W : WD) : TDs :=
  (tsSeq (tsAsg (tfV (tdBin modD (tdBin addD (tdBin addD (tdBin mulD (tdVar 0) (tdC (.int 998244353))) (tdBin mulD (tdVar 1) (tdC (.int 1000000007)))) (tdC (.int 5))) (tdC (.int 2305843009213693951)))) 2)
  (tsSeq (tsAsg (tfV (tdBin modD (tdBin mulD (tdVar 2) (tdVar 2)) (tdC (.int 2305843009213693951)))) 3)
  (tsRet (tfV (tdBin divD (tdBin modD (tdBin addD (tdBin addD (tdBin mulD (tdVar 3) (tdC (.int 2860486313))) (tdBin mulD (tdBin mulD (tdVar 1) (tdVar 1)) (tdC (.int 48271)))) (tdBin divD (tdVar 2) (tdC (.int 3)))) (tdC (.int 2305843009213693921))) (tdC (.int 1024)))))))

theorem body__law_stir {args : List Sl} {R : Sl → List Sl → Prop} {E : Exn → List Sl → Prop} (h : sp__law_stir args R E) :
    t__law_stir (fun ex ρ => E ex (back [] args ρ)) ⟨fun ρ => R (.val .none) (back [] args ρ), fun s ρ => R s (back [] args ρ)⟩ (args ++ List.replicate (4 - args.length) .no) := by
  obtain ⟨n, p, rfl, n0, n1, p0, p1, k⟩ := h
  simp only [t__law_stir, tsSeq, tsAsg, tsNext, tsRet, tsRetN, tsExpr, tsIf, tsFor, tsWhile, tsNever, tsAsgG, tsSetIx, tfV, tfLst, tfMove, tfList, tfLRg, tfLc, tfCall, tdFz, tdVar, tdC, tdBin, tdUn, tdTest, tdChain, tdAnd, tdOr, tdNot, tdAndV, tdOrV, tdNotV, tdIf, tdNil, tdCons, tdTup, tdLst, tdFn, tdIxO, tdLenO, tdMeth, tdSl, tdRev, toNo, toSome, tdIsi, tdIsi2, tdLenSet, tdIndex, tdYes, taNil, taCons, taOwn, tgName, tgNil, tgCons, tgTup, tiSeq, tiStr, tiRg1, tiRg2, tiRg3, tiEnum, onLst, isLst, seqOf_list, seqOf_tuple, addD, subD, divD, modD, powD, intD, negD, mulD, cmpD, i2D, lenD, ixD, List.getElem?_cons_succ, List.getElem?_cons_zero, List.set_cons_succ, List.set_cons_zero, opt_some, opt_none, opt_ite, if_true, if_false, Bool.false_eq_true, List.map_cons, List.map_nil, List.cons_append, List.nil_append, List.append_nil, List.replicate_succ, List.replicate_zero, List.length_cons, List.length_nil, rsv, ownIx, ixOf, wb, Option.getD_some, back_nil, back_zero, eqDD_int, neDD_int, eqDD_bool, neDD_bool, eqDD_str, neDD_str, ltD, leD, gtD, geD, List.nodup_nil, nodup1, at0, at1, at2, at3, at4, ixN5_1, ixN5_2, ixN5_3, Nat.reduceAdd, true_and, and_true, eq_self, List.length_singleton, slD, signsD, wipeD, restD, Sl.keep, rgD, subD, maxLD, minLD, Bool.not_true, Bool.not_false]
  have m : ∀ x : Int, (x % 2305843009213693951).natAbs < 2 ^ 1000 := fun x => na_mod (by decide) (by decide)
  have q : (p * p).natAbs < 2 ^ 1000 := na_mul (by omega) (by omega)
  exact ⟨cmul (by omega) (by decide), cmul (by omega) (by decide), by decide, cmul (m _) (m _), by decide, cmul (m _) (by decide), cmul (by omega) (by omega), cmul q (by decide), cdiv (by decide) (by decide), by decide, cdiv (by decide) (by decide), k _⟩

theorem sc__law_stir : FnScope ["number", "place", "one", "two"] ["number", "place"] (defScope (top 19)) := ⟨rfl, rfl, rfl, by decide +kernel, rfl, by decide +kernel, by decide +kernel⟩
theorem has__law_stir {P : Program} {w : World} {K : Fg} {mg : Str → Option Value} {base : Heap} {f : Addr} {fd : FuncData} (T : Txt mg) (F : Fun K "_law_stir" "_law_stir" (top 19) f fd) (hm : mg "_law_stir" = some (.ref f)) (hb : Binds K fd ["number", "place"] [])  : Has P w K mg base 1 "_law_stir" ["number", "place"] [] (sp__law_stir) :=
  ⟨⟨f, fd, fnD [] (sp__law_stir) (t__law_stir) F sc__law_stir (fun args R E h => len__law_stir h) (fun cdv A outer s H E fr W hr hfr tk => (ss_cons (s_asg (i := 2) sc__law_stir.nd rfl (by first | exact .inl rfl | exact .inr rfl) (by first | exact .inl rfl | exact .inr rfl) (by rw [hfr]; decide) (pf_val (pd_op op_modD okD (pd_op op_addD okD (pd_op op_addD okD (pd_op op_mulD okD (pd_var (i := 0) rfl (by first | exact .inl rfl | exact .inr (.inl rfl) | exact .inr (.inr rfl))) pd_int) (pd_op op_mulD okD (pd_var (i := 1) rfl (by first | exact .inl rfl | exact .inr (.inl rfl) | exact .inr (.inr rfl))) pd_int)) pd_int) pd_int)))
  (ss_cons (s_asg (i := 3) sc__law_stir.nd rfl (by first | exact .inl rfl | exact .inr rfl) (by first | exact .inl rfl | exact .inr rfl) (by rw [hfr]; decide) (pf_val (pd_op op_modD okD (pd_op op_mulD okD (pd_var (i := 2) rfl (by first | exact .inl rfl | exact .inr (.inl rfl) | exact .inr (.inr rfl))) (pd_var (i := 2) rfl (by first | exact .inl rfl | exact .inr (.inl rfl) | exact .inr (.inr rfl)))) pd_int)))
  (ss_one (s_ret (pf_val (pd_op op_divD okD (pd_op op_modD okD (pd_op op_addD okD (pd_op op_addD okD (pd_op op_mulD okD (pd_var (i := 3) rfl (by first | exact .inl rfl | exact .inr (.inl rfl) | exact .inr (.inr rfl))) pd_int) (pd_op op_mulD okD (pd_op op_mulD okD (pd_var (i := 1) rfl (by first | exact .inl rfl | exact .inr (.inl rfl) | exact .inr (.inr rfl))) (pd_var (i := 1) rfl (by first | exact .inl rfl | exact .inr (.inl rfl) | exact .inr (.inr rfl)))) pd_int)) (pd_op op_divD okD (pd_var (i := 2) rfl (by first | exact .inl rfl | exact .inr (.inl rfl) | exact .inr (.inr rfl))) pd_int)) pd_int) pd_int))))))) (fun args R E hp h => body__law_stir h), hm, F.kp, hb⟩, mo__law_stir⟩

def sp__law_draw : SpD := fun args R E => ∃ (c : Int) (b : List D) (m : Int), args = [.lst b, .val (.int m)] ∧ Bag c b ∧ c < 2 ^ 90 ∧ 0 < m ∧ m < 2 ^ 60 ∧ ∀ b' z, Bag (c + 1) b' → 0 ≤ z → z < m → R (.val (.int z)) [.lst b', .val (.int m)]
theorem mo__law_draw : SpMono sp__law_draw := fun args R R' E E' h1 h2 ⟨c, b, m, e, a1, a2, a3, a4, k⟩ => ⟨c, b, m, e, a1, a2, a3, a4, fun b' z x y w => h1 _ _ (k b' z x y w)⟩
theorem len__law_draw {args R E} (h : sp__law_draw args R E) : args.length = 2 := by obtain ⟨c, b, m, rfl, _⟩ := h; rfl

def t__law_draw (W : WD) : TDs :=
  (tsSeq (tsIf (tdTest (tdBin eqDD (tdVar 1) (tdC (.int 1)))) (tsRet (tfV (tdC (.int 0)))) tsNext)
  (tsSeq (tsSetIx 0 (tdBin addD (tdIxO 0 (tdC (.int 3))) (tdC (.int 1))) (tdC (.int 3)))
  (tsSeq (tsIf (tdAnd (tdTest (tdBin ltD (tdIxO 0 (tdC (.int 2))) (tdC (.int 2)))) (tdTest (tdBin eqDD (tdIxO 0 (tdC (.int 1))) (tdFn lenD (tdCons (tdIxO 0 (tdC (.int 0))) tdNil))))) (tsRet (tfV (tdBin modD (tdFz (tfCall [] (sp__law_stir) W (taCons (tdIxO 0 (tdC (.int 4))) (taCons (tdIxO 0 (tdC (.int 3))) taNil)))) (tdVar 1)))) tsNext)
  (tsSeq (tsIf (tdTest (tdBin ltD (tdIxO 0 (tdC (.int 2))) (tdC (.int 2)))) (tsSeq (tsAsg (tfV (tdBin ixD (tdIxO 0 (tdC (.int 0))) (tdIxO 0 (tdC (.int 1))))) 2)
  (tsSeq (tsSetIx 0 (tdBin addD (tdIxO 0 (tdC (.int 1))) (tdC (.int 1))) (tdC (.int 1)))
  (tsSeq (tsIf (tdTest (tdBin ltD (tdVar 2) (tdBin powD (tdC (.int 10)) (tdC (.int 18))))) (tsRet (tfV (tdBin modD (tdFz (tfCall [] (sp__law_stir) W (taCons (tdBin modD (tdVar 2) (tdC (.int 2305843009213693951))) (taCons (tdIxO 0 (tdC (.int 3))) taNil)))) (tdVar 1)))) tsNext)
  (tsSetIx 0 (tdBin subD (tdVar 2) (tdBin powD (tdC (.int 10)) (tdC (.int 18)))) (tdC (.int 2)))))) tsNext)
  (tsSeq (tsAsg (tfV (tdBin modD (tdIxO 0 (tdC (.int 2))) (tdVar 1))) 3)
  (tsSeq (tsSetIx 0 (tdBin divD (tdIxO 0 (tdC (.int 2))) (tdVar 1)) (tdC (.int 2)))
  (tsRet (tfMove 3))))))))

theorem body__law_draw {args : List Sl} {R : Sl → List Sl → Prop} {E : Exn → List Sl → Prop} (h : sp__law_draw args R E) :
    t__law_draw (fun ex ρ => E ex (back [0] args ρ)) ⟨fun ρ => R (.val .none) (back [0] args ρ), fun s ρ => R s (back [0] args ρ)⟩ (args ++ List.replicate (4 - args.length) .no) := by
  obtain ⟨c, b, m, rfl, ⟨ns, pos, st, cnt, tot, rfl, b1, b2, b3, b4, b5, b6⟩, hc, m0, m1, k⟩ := h
  have b6 : tot < 2305843009213693951 := b6
  have e10 : CPow 10 18 := by decide
  have fin : ∀ (s : Int) (pos' : Nat) (st' cnt' : Int), pos' ≤ ns.length → 0 ≤ st' → 0 ≤ cnt' → cnt' ≤ c + 1 → 0 ≤ s → s < m → R (.val (.int s)) [.lst [.list (ns.map PyData.int), .int (pos' : Int), .int st', .int cnt', .int tot], .val (.int m)] := fun s pos' st' cnt' h1 h2 h3 h4 h5 h6 =>
    k _ _ ⟨ns, pos', st', cnt', tot, rfl, h1, h2, h3, h4, b5, b6⟩ h5 h6
  have stir : ∀ (n : Int) (A : Sl → List Sl → Prop) (B : Exn → List Sl → Prop), 0 ≤ n → n < 2 ^ 62 → (∀ z : Int, A (.val (.int z)) [.val (.int n), .val (.int (cnt + 1))]) → sp__law_stir [.val (.int n), .val (.int (cnt + 1))] A B := fun n A B h0 h1 k =>
    ⟨n, cnt + 1, rfl, h0, h1, by omega, by omega, k⟩
  have md : ∀ z : Int, 0 ≤ z % m ∧ z % m < m := fun z => ⟨Int.emod_nonneg _ (by omega), Int.emod_lt_of_pos _ m0⟩
  have cd : CDivW 0 m ∧ ∀ x, CDivW x m := ⟨cdiv m0 (by omega), fun x => cdiv m0 (by omega)⟩
  simp only [t__law_draw, bagD, tsSeq, tsAsg, tsNext, tsRet, tsRetN, tsExpr, tsIf, tsFor, tsWhile, tsNever, tsAsgG, tsSetIx, tfV, tfLst, tfMove, tfList, tfLRg, tfLc, tfCall, tdFz, tdVar, tdC, tdBin, tdUn, tdTest, tdChain, tdAnd, tdOr, tdNot, tdAndV, tdOrV, tdNotV, tdIf, tdNil, tdCons, tdTup, tdLst, tdFn, tdIxO, tdLenO, tdMeth, tdSl, tdRev, toNo, toSome, tdIsi, tdIsi2, tdLenSet, tdIndex, tdYes, taNil, taCons, taOwn, tgName, tgNil, tgCons, tgTup, tiSeq, tiStr, tiRg1, tiRg2, tiRg3, tiEnum, onLst, isLst, seqOf_list, seqOf_tuple, addD, subD, divD, modD, powD, intD, negD, mulD, cmpD, i2D, lenD, ixD, List.getElem?_cons_succ, List.getElem?_cons_zero, List.set_cons_succ, List.set_cons_zero, opt_some, opt_none, opt_ite, if_true, if_false, Bool.false_eq_true, List.map_cons, List.map_nil, List.cons_append, List.nil_append, List.append_nil, List.replicate_succ, List.replicate_zero, List.length_cons, List.length_nil, rsv, ownIx, ixOf, wb, Option.getD_some, back_nil, back_zero, eqDD_int, neDD_int, eqDD_bool, neDD_bool, eqDD_str, neDD_str, ltD, leD, gtD, geD, List.nodup_nil, nodup1, at0, at1, at2, at3, at4, ixN5_1, ixN5_2, ixN5_3, Nat.reduceAdd, true_and, and_true, eq_self, List.length_singleton, slD, signsD, wipeD, restD, Sl.keep, rgD, subD, maxLD, minLD, Bool.not_true, Bool.not_false]
  by_cases hm : m = 1
  · subst hm
    simp only [decide_true, tsSeq, tsAsg, tsNext, tsRet, tsRetN, tsExpr, tsIf, tsFor, tsWhile, tsNever, tsAsgG, tsSetIx, tfV, tfLst, tfMove, tfList, tfLRg, tfLc, tfCall, tdFz, tdVar, tdC, tdBin, tdUn, tdTest, tdChain, tdAnd, tdOr, tdNot, tdAndV, tdOrV, tdNotV, tdIf, tdNil, tdCons, tdTup, tdLst, tdFn, tdIxO, tdLenO, tdMeth, tdSl, tdRev, toNo, toSome, tdIsi, tdIsi2, tdLenSet, tdIndex, tdYes, taNil, taCons, taOwn, tgName, tgNil, tgCons, tgTup, tiSeq, tiStr, tiRg1, tiRg2, tiRg3, tiEnum, onLst, isLst, seqOf_list, seqOf_tuple, addD, subD, divD, modD, powD, intD, negD, mulD, cmpD, i2D, lenD, ixD, List.getElem?_cons_succ, List.getElem?_cons_zero, List.set_cons_succ, List.set_cons_zero, opt_some, opt_none, opt_ite, if_true, if_false, Bool.false_eq_true, List.map_cons, List.map_nil, List.cons_append, List.nil_append, List.append_nil, List.replicate_succ, List.replicate_zero, List.length_cons, List.length_nil, rsv, ownIx, ixOf, wb, Option.getD_some, back_nil, back_zero, eqDD_int, neDD_int, eqDD_bool, neDD_bool, eqDD_str, neDD_str, ltD, leD, gtD, geD, List.nodup_nil, nodup1, at0, at1, at2, at3, at4, ixN5_1, ixN5_2, ixN5_3, Nat.reduceAdd, true_and, and_true, eq_self, List.length_singleton, slD, signsD, wipeD, restD, Sl.keep, rgD, subD, maxLD, minLD, Bool.not_true, Bool.not_false]
    exact fin 0 pos st cnt b1 b2 b3 (by omega) (by decide) (by decide)
  simp only [decide_eq_false hm, List.length_map, tsSeq, tsAsg, tsNext, tsRet, tsRetN, tsExpr, tsIf, tsFor, tsWhile, tsNever, tsAsgG, tsSetIx, tfV, tfLst, tfMove, tfList, tfLRg, tfLc, tfCall, tdFz, tdVar, tdC, tdBin, tdUn, tdTest, tdChain, tdAnd, tdOr, tdNot, tdAndV, tdOrV, tdNotV, tdIf, tdNil, tdCons, tdTup, tdLst, tdFn, tdIxO, tdLenO, tdMeth, tdSl, tdRev, toNo, toSome, tdIsi, tdIsi2, tdLenSet, tdIndex, tdYes, taNil, taCons, taOwn, tgName, tgNil, tgCons, tgTup, tiSeq, tiStr, tiRg1, tiRg2, tiRg3, tiEnum, onLst, isLst, seqOf_list, seqOf_tuple, addD, subD, divD, modD, powD, intD, negD, mulD, cmpD, i2D, lenD, ixD, List.getElem?_cons_succ, List.getElem?_cons_zero, List.set_cons_succ, List.set_cons_zero, opt_some, opt_none, opt_ite, if_true, if_false, Bool.false_eq_true, List.map_cons, List.map_nil, List.cons_append, List.nil_append, List.append_nil, List.replicate_succ, List.replicate_zero, List.length_cons, List.length_nil, rsv, ownIx, ixOf, wb, Option.getD_some, back_nil, back_zero, eqDD_int, neDD_int, eqDD_bool, neDD_bool, eqDD_str, neDD_str, ltD, leD, gtD, geD, List.nodup_nil, nodup1, at0, at1, at2, at3, at4, ixN5_1, ixN5_2, ixN5_3, Nat.reduceAdd, true_and, and_true, eq_self, List.length_singleton, slD, signsD, wipeD, restD, Sl.keep, rgD, subD, maxLD, minLD, Bool.not_true, Bool.not_false]
  by_cases h2 : st < 2
  · simp only [decide_eq_true h2, tsSeq, tsAsg, tsNext, tsRet, tsRetN, tsExpr, tsIf, tsFor, tsWhile, tsNever, tsAsgG, tsSetIx, tfV, tfLst, tfMove, tfList, tfLRg, tfLc, tfCall, tdFz, tdVar, tdC, tdBin, tdUn, tdTest, tdChain, tdAnd, tdOr, tdNot, tdAndV, tdOrV, tdNotV, tdIf, tdNil, tdCons, tdTup, tdLst, tdFn, tdIxO, tdLenO, tdMeth, tdSl, tdRev, toNo, toSome, tdIsi, tdIsi2, tdLenSet, tdIndex, tdYes, taNil, taCons, taOwn, tgName, tgNil, tgCons, tgTup, tiSeq, tiStr, tiRg1, tiRg2, tiRg3, tiEnum, onLst, isLst, seqOf_list, seqOf_tuple, addD, subD, divD, modD, powD, intD, negD, mulD, cmpD, i2D, lenD, ixD, List.getElem?_cons_succ, List.getElem?_cons_zero, List.set_cons_succ, List.set_cons_zero, opt_some, opt_none, opt_ite, if_true, if_false, Bool.false_eq_true, List.map_cons, List.map_nil, List.cons_append, List.nil_append, List.append_nil, List.replicate_succ, List.replicate_zero, List.length_cons, List.length_nil, rsv, ownIx, ixOf, wb, Option.getD_some, back_nil, back_zero, eqDD_int, neDD_int, eqDD_bool, neDD_bool, eqDD_str, neDD_str, ltD, leD, gtD, geD, List.nodup_nil, nodup1, at0, at1, at2, at3, at4, ixN5_1, ixN5_2, ixN5_3, Nat.reduceAdd, true_and, and_true, eq_self, List.length_singleton, slD, signsD, wipeD, restD, Sl.keep, rgD, subD, maxLD, minLD, Bool.not_true, Bool.not_false]
    by_cases hp : (pos : Int) = ns.length
    · simp only [decide_eq_true hp, tsSeq, tsAsg, tsNext, tsRet, tsRetN, tsExpr, tsIf, tsFor, tsWhile, tsNever, tsAsgG, tsSetIx, tfV, tfLst, tfMove, tfList, tfLRg, tfLc, tfCall, tdFz, tdVar, tdC, tdBin, tdUn, tdTest, tdChain, tdAnd, tdOr, tdNot, tdAndV, tdOrV, tdNotV, tdIf, tdNil, tdCons, tdTup, tdLst, tdFn, tdIxO, tdLenO, tdMeth, tdSl, tdRev, toNo, toSome, tdIsi, tdIsi2, tdLenSet, tdIndex, tdYes, taNil, taCons, taOwn, tgName, tgNil, tgCons, tgTup, tiSeq, tiStr, tiRg1, tiRg2, tiRg3, tiEnum, onLst, isLst, seqOf_list, seqOf_tuple, addD, subD, divD, modD, powD, intD, negD, mulD, cmpD, i2D, lenD, ixD, List.getElem?_cons_succ, List.getElem?_cons_zero, List.set_cons_succ, List.set_cons_zero, opt_some, opt_none, opt_ite, if_true, if_false, Bool.false_eq_true, List.map_cons, List.map_nil, List.cons_append, List.nil_append, List.append_nil, List.replicate_succ, List.replicate_zero, List.length_cons, List.length_nil, rsv, ownIx, ixOf, wb, Option.getD_some, back_nil, back_zero, eqDD_int, neDD_int, eqDD_bool, neDD_bool, eqDD_str, neDD_str, ltD, leD, gtD, geD, List.nodup_nil, nodup1, at0, at1, at2, at3, at4, ixN5_1, ixN5_2, ixN5_3, Nat.reduceAdd, true_and, and_true, eq_self, List.length_singleton, slD, signsD, wipeD, restD, Sl.keep, rgD, subD, maxLD, minLD, Bool.not_true, Bool.not_false]
      refine stir _ _ _ b5 (by omega) fun z => ?_
      simp only [tsSeq, tsAsg, tsNext, tsRet, tsRetN, tsExpr, tsIf, tsFor, tsWhile, tsNever, tsAsgG, tsSetIx, tfV, tfLst, tfMove, tfList, tfLRg, tfLc, tfCall, tdFz, tdVar, tdC, tdBin, tdUn, tdTest, tdChain, tdAnd, tdOr, tdNot, tdAndV, tdOrV, tdNotV, tdIf, tdNil, tdCons, tdTup, tdLst, tdFn, tdIxO, tdLenO, tdMeth, tdSl, tdRev, toNo, toSome, tdIsi, tdIsi2, tdLenSet, tdIndex, tdYes, taNil, taCons, taOwn, tgName, tgNil, tgCons, tgTup, tiSeq, tiStr, tiRg1, tiRg2, tiRg3, tiEnum, onLst, isLst, seqOf_list, seqOf_tuple, addD, subD, divD, modD, powD, intD, negD, mulD, cmpD, i2D, lenD, ixD, List.getElem?_cons_succ, List.getElem?_cons_zero, List.set_cons_succ, List.set_cons_zero, opt_some, opt_none, opt_ite, if_true, if_false, Bool.false_eq_true, List.map_cons, List.map_nil, List.cons_append, List.nil_append, List.append_nil, List.replicate_succ, List.replicate_zero, List.length_cons, List.length_nil, rsv, ownIx, ixOf, wb, Option.getD_some, back_nil, back_zero, eqDD_int, neDD_int, eqDD_bool, neDD_bool, eqDD_str, neDD_str, ltD, leD, gtD, geD, List.nodup_nil, nodup1, at0, at1, at2, at3, at4, ixN5_1, ixN5_2, ixN5_3, Nat.reduceAdd, true_and, and_true, eq_self, List.length_singleton, slD, signsD, wipeD, restD, Sl.keep, rgD, subD, maxLD, minLD, Bool.not_true, Bool.not_false]
      exact ⟨m0, fin _ pos st _ b1 b2 (by omega) (by omega) (md _).1 (md _).2⟩
    · have hlt : pos < ns.length := by omega
      obtain ⟨x, hx⟩ : ∃ x, ns[pos]? = some x := ⟨ns[pos], by simp [hlt]⟩
      have ha : atI (ns.map PyData.int) (pos : Int) = some (.int x) := atI_nat (by rw [List.getElem?_map, hx]; rfl)
      have e1 : ((pos : Int) + 1) = ((pos + 1 : Nat) : Int) := by omega
      simp only [decide_eq_false hp, ha, tsSeq, tsAsg, tsNext, tsRet, tsRetN, tsExpr, tsIf, tsFor, tsWhile, tsNever, tsAsgG, tsSetIx, tfV, tfLst, tfMove, tfList, tfLRg, tfLc, tfCall, tdFz, tdVar, tdC, tdBin, tdUn, tdTest, tdChain, tdAnd, tdOr, tdNot, tdAndV, tdOrV, tdNotV, tdIf, tdNil, tdCons, tdTup, tdLst, tdFn, tdIxO, tdLenO, tdMeth, tdSl, tdRev, toNo, toSome, tdIsi, tdIsi2, tdLenSet, tdIndex, tdYes, taNil, taCons, taOwn, tgName, tgNil, tgCons, tgTup, tiSeq, tiStr, tiRg1, tiRg2, tiRg3, tiEnum, onLst, isLst, seqOf_list, seqOf_tuple, addD, subD, divD, modD, powD, intD, negD, mulD, cmpD, i2D, lenD, ixD, List.getElem?_cons_succ, List.getElem?_cons_zero, List.set_cons_succ, List.set_cons_zero, opt_some, opt_none, opt_ite, if_true, if_false, Bool.false_eq_true, List.map_cons, List.map_nil, List.cons_append, List.nil_append, List.append_nil, List.replicate_succ, List.replicate_zero, List.length_cons, List.length_nil, rsv, ownIx, ixOf, wb, Option.getD_some, back_nil, back_zero, eqDD_int, neDD_int, eqDD_bool, neDD_bool, eqDD_str, neDD_str, ltD, leD, gtD, geD, List.nodup_nil, nodup1, at0, at1, at2, at3, at4, ixN5_1, ixN5_2, ixN5_3, Nat.reduceAdd, true_and, and_true, eq_self, List.length_singleton, slD, signsD, wipeD, restD, Sl.keep, rgD, subD, maxLD, minLD, Bool.not_true, Bool.not_false]
      refine ⟨e10, ?_⟩
      by_cases hs : x < 10 ^ Int.toNat 18
      · simp only [decide_eq_true hs, tsSeq, tsAsg, tsNext, tsRet, tsRetN, tsExpr, tsIf, tsFor, tsWhile, tsNever, tsAsgG, tsSetIx, tfV, tfLst, tfMove, tfList, tfLRg, tfLc, tfCall, tdFz, tdVar, tdC, tdBin, tdUn, tdTest, tdChain, tdAnd, tdOr, tdNot, tdAndV, tdOrV, tdNotV, tdIf, tdNil, tdCons, tdTup, tdLst, tdFn, tdIxO, tdLenO, tdMeth, tdSl, tdRev, toNo, toSome, tdIsi, tdIsi2, tdLenSet, tdIndex, tdYes, taNil, taCons, taOwn, tgName, tgNil, tgCons, tgTup, tiSeq, tiStr, tiRg1, tiRg2, tiRg3, tiEnum, onLst, isLst, seqOf_list, seqOf_tuple, addD, subD, divD, modD, powD, intD, negD, mulD, cmpD, i2D, lenD, ixD, List.getElem?_cons_succ, List.getElem?_cons_zero, List.set_cons_succ, List.set_cons_zero, opt_some, opt_none, opt_ite, if_true, if_false, Bool.false_eq_true, List.map_cons, List.map_nil, List.cons_append, List.nil_append, List.append_nil, List.replicate_succ, List.replicate_zero, List.length_cons, List.length_nil, rsv, ownIx, ixOf, wb, Option.getD_some, back_nil, back_zero, eqDD_int, neDD_int, eqDD_bool, neDD_bool, eqDD_str, neDD_str, ltD, leD, gtD, geD, List.nodup_nil, nodup1, at0, at1, at2, at3, at4, ixN5_1, ixN5_2, ixN5_3, Nat.reduceAdd, true_and, and_true, eq_self, List.length_singleton, slD, signsD, wipeD, restD, Sl.keep, rgD, subD, maxLD, minLD, Bool.not_true, Bool.not_false]
        refine ⟨by decide, stir _ _ _ (Int.emod_nonneg _ (by decide)) (Int.lt_trans (Int.emod_lt_of_pos _ (by decide)) (by decide)) fun z => ?_⟩
        simp only [tsSeq, tsAsg, tsNext, tsRet, tsRetN, tsExpr, tsIf, tsFor, tsWhile, tsNever, tsAsgG, tsSetIx, tfV, tfLst, tfMove, tfList, tfLRg, tfLc, tfCall, tdFz, tdVar, tdC, tdBin, tdUn, tdTest, tdChain, tdAnd, tdOr, tdNot, tdAndV, tdOrV, tdNotV, tdIf, tdNil, tdCons, tdTup, tdLst, tdFn, tdIxO, tdLenO, tdMeth, tdSl, tdRev, toNo, toSome, tdIsi, tdIsi2, tdLenSet, tdIndex, tdYes, taNil, taCons, taOwn, tgName, tgNil, tgCons, tgTup, tiSeq, tiStr, tiRg1, tiRg2, tiRg3, tiEnum, onLst, isLst, seqOf_list, seqOf_tuple, addD, subD, divD, modD, powD, intD, negD, mulD, cmpD, i2D, lenD, ixD, List.getElem?_cons_succ, List.getElem?_cons_zero, List.set_cons_succ, List.set_cons_zero, opt_some, opt_none, opt_ite, if_true, if_false, Bool.false_eq_true, List.map_cons, List.map_nil, List.cons_append, List.nil_append, List.append_nil, List.replicate_succ, List.replicate_zero, List.length_cons, List.length_nil, rsv, ownIx, ixOf, wb, Option.getD_some, back_nil, back_zero, eqDD_int, neDD_int, eqDD_bool, neDD_bool, eqDD_str, neDD_str, ltD, leD, gtD, geD, List.nodup_nil, nodup1, at0, at1, at2, at3, at4, ixN5_1, ixN5_2, ixN5_3, Nat.reduceAdd, true_and, and_true, eq_self, List.length_singleton, slD, signsD, wipeD, restD, Sl.keep, rgD, subD, maxLD, minLD, Bool.not_true, Bool.not_false]
        rw [e1]
        exact ⟨m0, fin _ (pos + 1) st _ hlt b2 (by omega) (by omega) (md _).1 (md _).2⟩
      · simp only [decide_eq_false hs, tsSeq, tsAsg, tsNext, tsRet, tsRetN, tsExpr, tsIf, tsFor, tsWhile, tsNever, tsAsgG, tsSetIx, tfV, tfLst, tfMove, tfList, tfLRg, tfLc, tfCall, tdFz, tdVar, tdC, tdBin, tdUn, tdTest, tdChain, tdAnd, tdOr, tdNot, tdAndV, tdOrV, tdNotV, tdIf, tdNil, tdCons, tdTup, tdLst, tdFn, tdIxO, tdLenO, tdMeth, tdSl, tdRev, toNo, toSome, tdIsi, tdIsi2, tdLenSet, tdIndex, tdYes, taNil, taCons, taOwn, tgName, tgNil, tgCons, tgTup, tiSeq, tiStr, tiRg1, tiRg2, tiRg3, tiEnum, onLst, isLst, seqOf_list, seqOf_tuple, addD, subD, divD, modD, powD, intD, negD, mulD, cmpD, i2D, lenD, ixD, List.getElem?_cons_succ, List.getElem?_cons_zero, List.set_cons_succ, List.set_cons_zero, opt_some, opt_none, opt_ite, if_true, if_false, Bool.false_eq_true, List.map_cons, List.map_nil, List.cons_append, List.nil_append, List.append_nil, List.replicate_succ, List.replicate_zero, List.length_cons, List.length_nil, rsv, ownIx, ixOf, wb, Option.getD_some, back_nil, back_zero, eqDD_int, neDD_int, eqDD_bool, neDD_bool, eqDD_str, neDD_str, ltD, leD, gtD, geD, List.nodup_nil, nodup1, at0, at1, at2, at3, at4, ixN5_1, ixN5_2, ixN5_3, Nat.reduceAdd, true_and, and_true, eq_self, List.length_singleton, slD, signsD, wipeD, restD, Sl.keep, rgD, subD, maxLD, minLD, Bool.not_true, Bool.not_false]
        have h0 : 0 ≤ x - 10 ^ Int.toNat 18 := by omega
        rw [e1]
        exact ⟨e10, m0, cd.2 _, fin _ (pos + 1) _ _ hlt (Int.ediv_nonneg h0 (by omega)) (by omega) (by omega) (md _).1 (md _).2⟩
  · simp only [decide_eq_false h2, tsSeq, tsAsg, tsNext, tsRet, tsRetN, tsExpr, tsIf, tsFor, tsWhile, tsNever, tsAsgG, tsSetIx, tfV, tfLst, tfMove, tfList, tfLRg, tfLc, tfCall, tdFz, tdVar, tdC, tdBin, tdUn, tdTest, tdChain, tdAnd, tdOr, tdNot, tdAndV, tdOrV, tdNotV, tdIf, tdNil, tdCons, tdTup, tdLst, tdFn, tdIxO, tdLenO, tdMeth, tdSl, tdRev, toNo, toSome, tdIsi, tdIsi2, tdLenSet, tdIndex, tdYes, taNil, taCons, taOwn, tgName, tgNil, tgCons, tgTup, tiSeq, tiStr, tiRg1, tiRg2, tiRg3, tiEnum, onLst, isLst, seqOf_list, seqOf_tuple, addD, subD, divD, modD, powD, intD, negD, mulD, cmpD, i2D, lenD, ixD, List.getElem?_cons_succ, List.getElem?_cons_zero, List.set_cons_succ, List.set_cons_zero, opt_some, opt_none, opt_ite, if_true, if_false, Bool.false_eq_true, List.map_cons, List.map_nil, List.cons_append, List.nil_append, List.append_nil, List.replicate_succ, List.replicate_zero, List.length_cons, List.length_nil, rsv, ownIx, ixOf, wb, Option.getD_some, back_nil, back_zero, eqDD_int, neDD_int, eqDD_bool, neDD_bool, eqDD_str, neDD_str, ltD, leD, gtD, geD, List.nodup_nil, nodup1, at0, at1, at2, at3, at4, ixN5_1, ixN5_2, ixN5_3, Nat.reduceAdd, true_and, and_true, eq_self, List.length_singleton, slD, signsD, wipeD, restD, Sl.keep, rgD, subD, maxLD, minLD, Bool.not_true, Bool.not_false]
    exact ⟨m0, cd.2 _, fin _ pos _ _ b1 (Int.ediv_nonneg b2 (by omega)) (by omega) (by omega) (md _).1 (md _).2⟩

theorem sc__law_draw : FnScope ["bag", "many", "cell", "found"] ["bag", "many"] (defScope (top 20)) := ⟨rfl, rfl, rfl, by decide +kernel, rfl, by decide +kernel, by decide +kernel⟩
theorem has__law_draw {P : Program} {w : World} {K : Fg} {mg : Str → Option Value} {base : Heap} {f : Addr} {fd : FuncData} (T : Txt mg) (F : Fun K "_law_draw" "_law_draw" (top 20) f fd) (hm : mg "_law_draw" = some (.ref f)) (hb : Binds K fd ["bag", "many"] []) (h__law_stir : Has P w K mg base 1 "_law_stir" ["number", "place"] [] (sp__law_stir)) : Has P w K mg base 2 "_law_draw" ["bag", "many"] [0] (sp__law_draw) :=
  ⟨⟨f, fd, fnD [0] (sp__law_draw) (t__law_draw) F sc__law_draw (fun args R E h => len__law_draw h) (fun cdv A outer s H E fr W hr hfr tk => (ss_cons (s_if (pb_cmp (op_eqDD hr.units) okD (pd_var (i := 1) rfl (by first | exact .inl rfl | exact .inr (.inl rfl) | exact .inr (.inr rfl))) pd_int (nobehind _ (by decide) (by decide))) (ss_one (s_ret (pf_val pd_int))) ss_nil)
  (ss_cons (s_setIx (i := 0) rfl (by first | exact .inl rfl | exact .inr (.inl rfl) | exact .inr (.inr rfl)) (pd_op op_addD okD (pd_ixO (i := 0) rfl (by first | exact .inl rfl | exact .inr (.inl rfl) | exact .inr (.inr rfl)) pd_int (fun _ _ => rfl)) pd_int) pd_int)
  (ss_cons (s_if (PDw.pb (pw_and (pb_cmp (op_ltD) okD (pd_ixO (i := 0) rfl (by first | exact .inl rfl | exact .inr (.inl rfl) | exact .inr (.inr rfl)) pd_int (fun _ _ => rfl)) pd_int (nobehind _ (by decide) (by decide))) (pw_and1 (pb_cmp (op_eqDD hr.units) okD (pd_ixO (i := 0) rfl (by first | exact .inl rfl | exact .inr (.inl rfl) | exact .inr (.inr rfl)) pd_int (fun _ _ => rfl)) (pd_callB call_lenD okL rfl T.b_len bt_len (pl_cons (pd_ixO (i := 0) rfl (by first | exact .inl rfl | exact .inr (.inl rfl) | exact .inr (.inr rfl)) pd_int (fun _ _ => rfl)) pl_nil)) (nobehind _ (by decide) (by decide)))))) (ss_one (s_ret (pf_val (pd_op op_modD okD (pd_fz (pf_callH h__law_stir (hr.mono (by decide)) rfl tk (a_cons (pd_ixO (i := 0) rfl (by first | exact .inl rfl | exact .inr (.inl rfl) | exact .inr (.inr rfl)) pd_int (fun _ _ => rfl)) (a_cons (pd_ixO (i := 0) rfl (by first | exact .inl rfl | exact .inr (.inl rfl) | exact .inr (.inr rfl)) pd_int (fun _ _ => rfl)) a_nil)))) (pd_var (i := 1) rfl (by first | exact .inl rfl | exact .inr (.inl rfl) | exact .inr (.inr rfl))))))) ss_nil)
  (ss_cons (s_if (pb_cmp (op_ltD) okD (pd_ixO (i := 0) rfl (by first | exact .inl rfl | exact .inr (.inl rfl) | exact .inr (.inr rfl)) pd_int (fun _ _ => rfl)) pd_int (nobehind _ (by decide) (by decide))) (ss_cons (s_asg (i := 2) sc__law_draw.nd rfl (by first | exact .inl rfl | exact .inr rfl) (by first | exact .inl rfl | exact .inr rfl) (by rw [hfr]; decide) (pf_val (pd_ix ix_D okD (pd_ixO (i := 0) rfl (by first | exact .inl rfl | exact .inr (.inl rfl) | exact .inr (.inr rfl)) pd_int (fun _ _ => rfl)) (pd_ixO (i := 0) rfl (by first | exact .inl rfl | exact .inr (.inl rfl) | exact .inr (.inr rfl)) pd_int (fun _ _ => rfl)) (fun _ _ => rfl))))
  (ss_cons (s_setIx (i := 0) rfl (by first | exact .inl rfl | exact .inr (.inl rfl) | exact .inr (.inr rfl)) (pd_op op_addD okD (pd_ixO (i := 0) rfl (by first | exact .inl rfl | exact .inr (.inl rfl) | exact .inr (.inr rfl)) pd_int (fun _ _ => rfl)) pd_int) pd_int)
  (ss_cons (s_if (pb_cmp (op_ltD) okD (pd_var (i := 2) rfl (by first | exact .inl rfl | exact .inr (.inl rfl) | exact .inr (.inr rfl))) (pd_op op_powD okD pd_int pd_int) (nobehind _ (by decide) (by decide))) (ss_one (s_ret (pf_val (pd_op op_modD okD (pd_fz (pf_callH h__law_stir (hr.mono (by decide)) rfl tk (a_cons (pd_op op_modD okD (pd_var (i := 2) rfl (by first | exact .inl rfl | exact .inr (.inl rfl) | exact .inr (.inr rfl))) pd_int) (a_cons (pd_ixO (i := 0) rfl (by first | exact .inl rfl | exact .inr (.inl rfl) | exact .inr (.inr rfl)) pd_int (fun _ _ => rfl)) a_nil)))) (pd_var (i := 1) rfl (by first | exact .inl rfl | exact .inr (.inl rfl) | exact .inr (.inr rfl))))))) ss_nil)
  (ss_one (s_setIx (i := 0) rfl (by first | exact .inl rfl | exact .inr (.inl rfl) | exact .inr (.inr rfl)) (pd_op op_subD okD (pd_var (i := 2) rfl (by first | exact .inl rfl | exact .inr (.inl rfl) | exact .inr (.inr rfl))) (pd_op op_powD okD pd_int pd_int)) pd_int))))) ss_nil)
  (ss_cons (s_asg (i := 3) sc__law_draw.nd rfl (by first | exact .inl rfl | exact .inr rfl) (by first | exact .inl rfl | exact .inr rfl) (by rw [hfr]; decide) (pf_val (pd_op op_modD okD (pd_ixO (i := 0) rfl (by first | exact .inl rfl | exact .inr (.inl rfl) | exact .inr (.inr rfl)) pd_int (fun _ _ => rfl)) (pd_var (i := 1) rfl (by first | exact .inl rfl | exact .inr (.inl rfl) | exact .inr (.inr rfl))))))
  (ss_cons (s_setIx (i := 0) rfl (by first | exact .inl rfl | exact .inr (.inl rfl) | exact .inr (.inr rfl)) (pd_op op_divD okD (pd_ixO (i := 0) rfl (by first | exact .inl rfl | exact .inr (.inl rfl) | exact .inr (.inr rfl)) pd_int (fun _ _ => rfl)) (pd_var (i := 1) rfl (by first | exact .inl rfl | exact .inr (.inl rfl) | exact .inr (.inr rfl)))) pd_int)
  (ss_one (s_ret (pf_move (i := 3) rfl (by first | exact .inl rfl | exact .inr (.inl rfl) | exact .inr (.inr rfl)))))))))))) (fun args R E hp h => body__law_draw h), hm, F.kp, hb⟩, mo__law_draw⟩

def sp__law_mixed : SpD := fun args R E => ∃ (c : Int) (b xs : List D), args = [.lst b, .val (.list xs)] ∧ Bag c b ∧ c + xs.length < 2 ^ 90 ∧ xs.length < 2 ^ 20 ∧ ∀ b' ys, Bag (c + xs.length) b' → ys.Perm xs → R (.lst ys) [.lst b', .val (.list xs)]
theorem mo__law_mixed : SpMono sp__law_mixed := fun args R R' E E' h1 h2 ⟨c, b, xs, e, a1, a2, a3, k⟩ => ⟨c, b, xs, e, a1, a2, a3, fun b' z x y => h1 _ _ (k b' z x y)⟩
theorem len__law_mixed {args R E} (h : sp__law_mixed args R E) : args.length = 2 := by obtain ⟨c, b, m, rfl, _⟩ := h; rfl
theorem perm_map {α : Type} {f : α → D} : ∀ {ys zs : List D}, ys.Perm zs → ∀ l : List α, zs = l.map f → ∃ l' : List α, l'.Perm l ∧ ys = l'.map f := by
  intro ys zs h
  induction h with
  | nil =>
    intro l e
    cases l with
    | nil => exact ⟨[], .nil, rfl⟩
    | cons _ _ => cases e
  | cons x _ ih =>
    intro l e
    cases l with
    | nil => cases e
    | cons a l =>
      rw [List.map_cons] at e
      obtain ⟨e1, e2⟩ := List.cons.inj e
      obtain ⟨l', h1, h2⟩ := ih l e2
      exact ⟨a :: l', h1.cons a, by rw [List.map_cons, ← e1, ← h2]⟩
  | swap x y t =>
    intro l e
    match l, e with
    | a :: b :: l, e =>
      simp only [List.map_cons, List.cons.injEq] at e
      obtain ⟨rfl, rfl, rfl⟩ := e
      exact ⟨b :: a :: l, .swap _ _ _, rfl⟩
  | trans _ _ ih1 ih2 =>
    intro l e
    obtain ⟨l1, h1, e1⟩ := ih2 l e
    obtain ⟨l2, h2, e2⟩ := ih1 l1 e1
    exact ⟨l2, h2.trans h1, e2⟩
theorem perm_erase {α : Type} {y : α} : ∀ {l : List α} {j : Nat}, l[j]? = some y → (y :: l.eraseIdx j).Perm l
  | [], _, h => by simp at h
  | x :: l, 0, h => by simp at h; subst h; exact .refl _
  | x :: l, j + 1, h => by
    rw [List.eraseIdx_cons_succ]
    exact (List.Perm.swap _ _ _).trans ((perm_erase (by simpa using h)).cons x)

def t__law_mixed (W : WD) : TDs :=
  (tsSeq (tsAsg (tfList (tdVar 1)) 2)
  (tsRet (tfLc (tiRg1 (tdCons (tdFn lenD (tdCons (tdVar 1) tdNil)) tdNil)) (tgName 3) tdYes (tdMeth 2 gPopAt (tdCons (tdFz (tfCall [0] (sp__law_draw) W0 (taOwn 0 (taCons (tdLenO 2) taNil)))) tdNil)) [3])))

theorem body__law_mixed {args : List Sl} {R : Sl → List Sl → Prop} {E : Exn → List Sl → Prop} (h : sp__law_mixed args R E) :
    t__law_mixed (fun ex ρ => E ex (back [0] args ρ)) ⟨fun ρ => R (.val .none) (back [0] args ρ), fun s ρ => R s (back [0] args ρ)⟩ (args ++ List.replicate (4 - args.length) .no) := by
  obtain ⟨c, b, xs, rfl, hb, hc, hl, k⟩ := h
  simp only [t__law_mixed, tsSeq, tsAsg, tsNext, tsRet, tsRetN, tsExpr, tsIf, tsFor, tsWhile, tsNever, tsAsgG, tsSetIx, tfV, tfLst, tfMove, tfList, tfLRg, tfLc, tfCall, tdFz, tdVar, tdC, tdBin, tdUn, tdTest, tdChain, tdAnd, tdOr, tdNot, tdAndV, tdOrV, tdNotV, tdIf, tdNil, tdCons, tdTup, tdLst, tdFn, tdIxO, tdLenO, tdMeth, tdSl, tdRev, toNo, toSome, tdIsi, tdIsi2, tdLenSet, tdIndex, tdYes, taNil, taCons, taOwn, tgName, tgNil, tgCons, tgTup, tiSeq, tiStr, tiRg1, tiRg2, tiRg3, tiEnum, onLst, isLst, seqOf_list, seqOf_tuple, addD, subD, divD, modD, powD, intD, negD, mulD, cmpD, i2D, lenD, ixD, List.getElem?_cons_succ, List.getElem?_cons_zero, List.set_cons_succ, List.set_cons_zero, opt_some, opt_none, opt_ite, if_true, if_false, Bool.false_eq_true, List.map_cons, List.map_nil, List.cons_append, List.nil_append, List.append_nil, List.replicate_succ, List.replicate_zero, List.length_cons, List.length_nil, rsv, ownIx, ixOf, wb, Option.getD_some, back_nil, back_zero, eqDD_int, neDD_int, eqDD_bool, neDD_bool, eqDD_str, neDD_str, ltD, leD, gtD, geD, List.nodup_nil, nodup1, at0, at1, at2, at3, at4, ixN5_1, ixN5_2, ixN5_3, Nat.reduceAdd, true_and, and_true, eq_self, List.length_singleton, slD, signsD, wipeD, restD, Sl.keep, rgD, subD, maxLD, minLD, Bool.not_true, Bool.not_false]
  refine ⟨by omega, by omega, ?_⟩
  refine lc_ind (fun i : Nat => PyData.int (0 + (i : Int))) (fun rest acc ρ => ∃ b' left, ρ = [.lst b', .val (.list xs), .lst left, .no] ∧ Bag (c + acc.length) b' ∧ (acc ++ left).Perm xs ∧ left.length = rest.length) ?_ ?_ _ _ _ ⟨b, xs, rfl, by simpa using hb, .refl _, by simp⟩
  · rintro i rest acc ρ ih ⟨b', left, rfl, hb', hp, hn⟩
    rw [List.length_cons] at hn
    have hlen := hp.length_eq
    rw [List.length_append] at hlen
    simp only [tsSeq, tsAsg, tsNext, tsRet, tsRetN, tsExpr, tsIf, tsFor, tsWhile, tsNever, tsAsgG, tsSetIx, tfV, tfLst, tfMove, tfList, tfLRg, tfLc, tfCall, tdFz, tdVar, tdC, tdBin, tdUn, tdTest, tdChain, tdAnd, tdOr, tdNot, tdAndV, tdOrV, tdNotV, tdIf, tdNil, tdCons, tdTup, tdLst, tdFn, tdIxO, tdLenO, tdMeth, tdSl, tdRev, toNo, toSome, tdIsi, tdIsi2, tdLenSet, tdIndex, tdYes, taNil, taCons, taOwn, tgName, tgNil, tgCons, tgTup, tiSeq, tiStr, tiRg1, tiRg2, tiRg3, tiEnum, onLst, isLst, seqOf_list, seqOf_tuple, addD, subD, divD, modD, powD, intD, negD, mulD, cmpD, i2D, lenD, ixD, List.getElem?_cons_succ, List.getElem?_cons_zero, List.set_cons_succ, List.set_cons_zero, opt_some, opt_none, opt_ite, if_true, if_false, Bool.false_eq_true, List.map_cons, List.map_nil, List.cons_append, List.nil_append, List.append_nil, List.replicate_succ, List.replicate_zero, List.length_cons, List.length_nil, rsv, ownIx, ixOf, wb, Option.getD_some, back_nil, back_zero, eqDD_int, neDD_int, eqDD_bool, neDD_bool, eqDD_str, neDD_str, ltD, leD, gtD, geD, List.nodup_nil, nodup1, at0, at1, at2, at3, at4, ixN5_1, ixN5_2, ixN5_3, Nat.reduceAdd, true_and, and_true, eq_self, List.length_singleton, slD, signsD, wipeD, restD, Sl.keep, rgD, subD, maxLD, minLD, Bool.not_true, Bool.not_false]
    refine ⟨_, b', _, rfl, hb', by omega, by omega, by omega, fun b2 z hb2 z0 z1 => ?_⟩
    simp only [gPopAt, tsSeq, tsAsg, tsNext, tsRet, tsRetN, tsExpr, tsIf, tsFor, tsWhile, tsNever, tsAsgG, tsSetIx, tfV, tfLst, tfMove, tfList, tfLRg, tfLc, tfCall, tdFz, tdVar, tdC, tdBin, tdUn, tdTest, tdChain, tdAnd, tdOr, tdNot, tdAndV, tdOrV, tdNotV, tdIf, tdNil, tdCons, tdTup, tdLst, tdFn, tdIxO, tdLenO, tdMeth, tdSl, tdRev, toNo, toSome, tdIsi, tdIsi2, tdLenSet, tdIndex, tdYes, taNil, taCons, taOwn, tgName, tgNil, tgCons, tgTup, tiSeq, tiStr, tiRg1, tiRg2, tiRg3, tiEnum, onLst, isLst, seqOf_list, seqOf_tuple, addD, subD, divD, modD, powD, intD, negD, mulD, cmpD, i2D, lenD, ixD, List.getElem?_cons_succ, List.getElem?_cons_zero, List.set_cons_succ, List.set_cons_zero, opt_some, opt_none, opt_ite, if_true, if_false, Bool.false_eq_true, List.map_cons, List.map_nil, List.cons_append, List.nil_append, List.append_nil, List.replicate_succ, List.replicate_zero, List.length_cons, List.length_nil, rsv, ownIx, ixOf, wb, Option.getD_some, back_nil, back_zero, eqDD_int, neDD_int, eqDD_bool, neDD_bool, eqDD_str, neDD_str, ltD, leD, gtD, geD, List.nodup_nil, nodup1, at0, at1, at2, at3, at4, ixN5_1, ixN5_2, ixN5_3, Nat.reduceAdd, true_and, and_true, eq_self, List.length_singleton, slD, signsD, wipeD, restD, Sl.keep, rgD, subD, maxLD, minLD, Bool.not_true, Bool.not_false]
    obtain ⟨j, rfl⟩ : ∃ j : Nat, z = j := ⟨z.toNat, by omega⟩
    have hj : j < left.length := by omega
    have e1 : ixN left.length (j : Int) = some j := by
      unfold ixN
      rw [if_pos (by omega), if_pos (by omega)]
      simp
    have e2 : left[j]? = some left[j] := by simp [hj]
    refine ⟨⟨by omega, by omega⟩, ?_⟩
    rw [e1, Option.bind_some, e2, Option.map_some]
    simp only [tsSeq, tsAsg, tsNext, tsRet, tsRetN, tsExpr, tsIf, tsFor, tsWhile, tsNever, tsAsgG, tsSetIx, tfV, tfLst, tfMove, tfList, tfLRg, tfLc, tfCall, tdFz, tdVar, tdC, tdBin, tdUn, tdTest, tdChain, tdAnd, tdOr, tdNot, tdAndV, tdOrV, tdNotV, tdIf, tdNil, tdCons, tdTup, tdLst, tdFn, tdIxO, tdLenO, tdMeth, tdSl, tdRev, toNo, toSome, tdIsi, tdIsi2, tdLenSet, tdIndex, tdYes, taNil, taCons, taOwn, tgName, tgNil, tgCons, tgTup, tiSeq, tiStr, tiRg1, tiRg2, tiRg3, tiEnum, onLst, isLst, seqOf_list, seqOf_tuple, addD, subD, divD, modD, powD, intD, negD, mulD, cmpD, i2D, lenD, ixD, List.getElem?_cons_succ, List.getElem?_cons_zero, List.set_cons_succ, List.set_cons_zero, opt_some, opt_none, opt_ite, if_true, if_false, Bool.false_eq_true, List.map_cons, List.map_nil, List.cons_append, List.nil_append, List.append_nil, List.replicate_succ, List.replicate_zero, List.length_cons, List.length_nil, rsv, ownIx, ixOf, wb, Option.getD_some, back_nil, back_zero, eqDD_int, neDD_int, eqDD_bool, neDD_bool, eqDD_str, neDD_str, ltD, leD, gtD, geD, List.nodup_nil, nodup1, at0, at1, at2, at3, at4, ixN5_1, ixN5_2, ixN5_3, Nat.reduceAdd, true_and, and_true, eq_self, List.length_singleton, slD, signsD, wipeD, restD, Sl.keep, rgD, subD, maxLD, minLD, Bool.not_true, Bool.not_false]
    refine ⟨by have := sizeLine_eq; omega, ih _ _ ⟨b2, _, rfl, ?_, ?_, ?_⟩⟩
    · rw [List.length_append, List.length_singleton]
      exact hb2.le (by omega)
    · refine List.Perm.trans ?_ hp
      rw [List.append_assoc, List.singleton_append]
      exact (perm_erase e2).append_left acc
    · rw [List.length_eraseIdx_of_lt hj]; omega
  · rintro acc ρ ⟨b', left, rfl, hb', hp, hn⟩
    have : left = [] := List.eq_nil_of_length_eq_zero hn
    subst this
    rw [List.append_nil] at hp
    simp only [tsSeq, tsAsg, tsNext, tsRet, tsRetN, tsExpr, tsIf, tsFor, tsWhile, tsNever, tsAsgG, tsSetIx, tfV, tfLst, tfMove, tfList, tfLRg, tfLc, tfCall, tdFz, tdVar, tdC, tdBin, tdUn, tdTest, tdChain, tdAnd, tdOr, tdNot, tdAndV, tdOrV, tdNotV, tdIf, tdNil, tdCons, tdTup, tdLst, tdFn, tdIxO, tdLenO, tdMeth, tdSl, tdRev, toNo, toSome, tdIsi, tdIsi2, tdLenSet, tdIndex, tdYes, taNil, taCons, taOwn, tgName, tgNil, tgCons, tgTup, tiSeq, tiStr, tiRg1, tiRg2, tiRg3, tiEnum, onLst, isLst, seqOf_list, seqOf_tuple, addD, subD, divD, modD, powD, intD, negD, mulD, cmpD, i2D, lenD, ixD, List.getElem?_cons_succ, List.getElem?_cons_zero, List.set_cons_succ, List.set_cons_zero, opt_some, opt_none, opt_ite, if_true, if_false, Bool.false_eq_true, List.map_cons, List.map_nil, List.cons_append, List.nil_append, List.append_nil, List.replicate_succ, List.replicate_zero, List.length_cons, List.length_nil, rsv, ownIx, ixOf, wb, Option.getD_some, back_nil, back_zero, eqDD_int, neDD_int, eqDD_bool, neDD_bool, eqDD_str, neDD_str, ltD, leD, gtD, geD, List.nodup_nil, nodup1, at0, at1, at2, at3, at4, ixN5_1, ixN5_2, ixN5_3, Nat.reduceAdd, true_and, and_true, eq_self, List.length_singleton, slD, signsD, wipeD, restD, Sl.keep, rgD, subD, maxLD, minLD, Bool.not_true, Bool.not_false]
    exact k _ _ (hb'.le (by have := hp.length_eq; omega)) hp

theorem sc__law_mixed : FnScope ["bag", "row", "left", "k"] ["bag", "row"] (defScope (top 21)) := ⟨rfl, rfl, rfl, by decide +kernel, rfl, by decide +kernel, by decide +kernel⟩
theorem has__law_mixed {P : Program} {w : World} {K : Fg} {mg : Str → Option Value} {base : Heap} {f : Addr} {fd : FuncData} (T : Txt mg) (F : Fun K "_law_mixed" "_law_mixed" (top 21) f fd) (hm : mg "_law_mixed" = some (.ref f)) (hb : Binds K fd ["bag", "row"] []) (h__law_draw : Has P w K mg base 2 "_law_draw" ["bag", "many"] [0] (sp__law_draw)) : Has P w K mg base 3 "_law_mixed" ["bag", "row"] [0] (sp__law_mixed) :=
  ⟨⟨f, fd, fnD [0] (sp__law_mixed) (t__law_mixed) F sc__law_mixed (fun args R E h => len__law_mixed h) (fun cdv A outer s H E fr W hr hfr tk => (ss_cons (s_asg (i := 2) sc__law_mixed.nd rfl (by first | exact .inl rfl | exact .inr rfl) (by first | exact .inl rfl | exact .inr rfl) (by rw [hfr]; decide) (pf_list (pd_var (i := 1) rfl (by first | exact .inl rfl | exact .inr (.inl rfl) | exact .inr (.inr rfl))) rfl T.b_list))
  (ss_one (s_ret (pf_lc rfl sc__law_mixed.nd (pi_rg1 rfl T.b_range (pl_cons (pd_callB call_lenD okL rfl T.b_len bt_len (pl_cons (pd_var (i := 1) rfl (by first | exact .inl rfl | exact .inr (.inl rfl) | exact .inr (.inr rfl))) pl_nil)) pl_nil)) (own := [(("k" : Str), 3)]) (blkOk (by kernel_rfl)) (by rw [hfr]; decide) (by decide) (fun _ _ _ _ _ fr' hfr' => (t_name (i := 3) sc__law_mixed.nd rfl (by first | exact .inl rfl | exact .inr rfl) (by first | exact .inl rfl | exact .inr rfl) (by rw [hfr', hfr]; decide))) (fun _ _ _ _ _ fr' hfr' => (pd_meth (i := 2) PySem.F.slot_list_pop PySem.F.type_list_pop mt_popAt ok_popAt rfl (by first | exact .inl rfl | exact .inr (.inl rfl) | exact .inr (.inr rfl)) (pl_cons (pd_fz (pf_callH h__law_draw (hr.mono (by decide)) rfl takesW0 (a_own (i := 0) rfl (by first | exact .inl rfl | exact .inr (.inl rfl) | exact .inr (.inr rfl)) (a_cons (pd_lenO (i := 2) rfl (by first | exact .inl rfl | exact .inr (.inl rfl) | exact .inr (.inr rfl)) rfl T.b_len) a_nil)))) pl_nil)))))))) (fun args R E hp h => body__law_mixed h), hm, F.kp, hb⟩, mo__law_mixed⟩

/-- a name as the document wants it -/
def nameB (x : Str) : Bool := decide (1 ≤ x.length) && decide (x.length ≤ 8) && x.cps.toList.all fun c => decide (97 ≤ c) && decide (c ≤ 122)
def namesB (xs : List Str) : Bool := decide xs.Nodup && xs.all nameB
theorem let_at : ∀ j : Nat, j < 26 → atI (("abcdefghijklmnopqrstuvwxyz" : Str).cps.toList) (j : Int) = some (97 + j) := by
  intro j hj
  have h : ∀ j ∈ List.range 26, (("abcdefghijklmnopqrstuvwxyz" : Str).cps.toList)[j]? = some (97 + j) := by decide +kernel
  exact atI_nat (h j (List.mem_range.mpr hj))
theorem let_len : ("abcdefghijklmnopqrstuvwxyz" : Str).length ≤ sizeLine := by decide
def T1 : List Str := (List.range 38).map (fun x => repS ⟨#[97 + x % 26]⟩ (1 + (0 + (x : Int)) / 26)) ++ [("zyxwvuts" : Str), ("abcdefgh" : Str)]
def T2 (a : Int) : List Str := ("abcdefghijklmnopqrstuvwxyz" : Str).cps.toList.map fun c => cutS "mnopqrm" none (some a) ++ ⟨#[c]⟩ ++ cutS "mnopqrm" (some a) none
def T3 : List Str := (List.range 8).map (fun k : Nat => cutS "abcdefgh" (some (0 + (k : Int))) none ++ cutS "abcdefgh" none (some (0 + (k : Int)))) ++ (List.range 7).map fun k : Nat => cutS "abcdefgh" none (some (1 + (k : Int)))
theorem t1_ok : namesB T1 = true := by decide +kernel
theorem t2_ok : ∀ a ∈ List.range 8, namesB (T2 (a : Nat)) = true := by decide +kernel
theorem t3_ok : namesB T3 = true := by decide +kernel
theorem namesB_perm {xs ys : List Str} (h : ys.Perm xs) (k : namesB xs = true) : namesB ys = true := by
  unfold namesB at k ⊢
  rw [Bool.and_eq_true, decide_eq_true_eq, List.all_eq_true] at k ⊢
  exact ⟨(h.nodup_iff).mpr k.1, fun x hx => k.2 x (h.mem_iff.mp hx)⟩
theorem namesB_take {xs : List Str} (n : Nat) (k : namesB xs = true) : namesB (xs.take n) = true := by
  unfold namesB at k ⊢
  rw [Bool.and_eq_true, decide_eq_true_eq, List.all_eq_true] at k ⊢
  exact ⟨k.1.sublist (List.take_sublist n xs), fun x hx => k.2 x (List.mem_of_mem_take hx)⟩
theorem cutL_take (xs : List D) (n : Nat) : cutL xs none (some (n : Int)) = xs.take n := by
  unfold cutL
  rw [HT.sIx_none, List.drop_zero, HT.sIx_nat, Nat.sub_zero]
  by_cases h : n ≤ xs.length
  · rw [Nat.min_eq_left h]
  · rw [Nat.min_eq_right (by omega), List.take_of_length_le (Nat.le_refl _), List.take_of_length_le (by omega)]
theorem cut7 (z : Str) (lo hi : Option Int) (h : z.length ≤ 8) : (cutS z lo hi).length ≤ 8 := Nat.le_trans (cutS_length z lo hi) h
def sp__law_names : SpD := fun args R E => ∃ (c : Int) (b : List D) (m : Nat), args = [.lst b, .val (.int m)] ∧ Bag c b ∧ c + 100 < 2 ^ 90 ∧ 1 ≤ m ∧ m ≤ 40 ∧ ∀ b' xs, Bag (c + 50) b' → namesB xs = true → xs.length = m → R (.val (.list (xs.map PyData.str))) [.lst b', .val (.int m)]
theorem mo__law_names : SpMono sp__law_names := fun args R R' E E' h1 h2 ⟨c, b, m, e, a1, a2, a3, a4, k⟩ => ⟨c, b, m, e, a1, a2, a3, a4, fun b' xs x y z => h1 _ _ (k b' xs x y z)⟩
theorem len__law_names {args R E} (h : sp__law_names args R E) : args.length = 2 := by obtain ⟨c, b, m, rfl, _⟩ := h; rfl

def t__law_names (W : WD) : TDs :=
  (tsSeq (tsAsg (tfV (tdC (.str "abcdefghijklmnopqrstuvwxyz"))) 2)
  (tsSeq (tsAsg (tfV (tdBin addD (tdFz (tfLc (tiRg1 (tdCons (tdC (.int 38)) tdNil)) (tgName 4) tdYes (tdBin mulD (tdBin ixD (tdVar 2) (tdBin modD (tdVar 4) (tdC (.int 26)))) (tdBin addD (tdC (.int 1)) (tdBin divD (tdVar 4) (tdC (.int 26))))) [4])) (tdLst (tdCons (tdC (.str "zyxwvuts")) (tdCons (tdC (.str "abcdefgh")) tdNil))))) 3)
  (tsSeq (tsIf (tdAnd (tdTest (tdBin ltD (tdVar 1) (tdC (.int 27)))) (tdTest (tdBin eqDD (tdFz (tfCall [0] (sp__law_draw) W (taOwn 0 (taCons (tdC (.int 2)) taNil)))) (tdC (.int 0))))) (tsSeq (tsAsg (tfCall [0] (sp__law_draw) W (taOwn 0 (taCons (tdC (.int 8)) taNil))) 5)
  (tsSeq (tsAsg (tfLc (tiStr (tdVar 2)) (tgName 6) tdYes (tdBin addD (tdBin addD (tdSl (tdC (.str "mnopqrm")) toNo (toSome (tdVar 5))) (tdVar 6)) (tdSl (tdC (.str "mnopqrm")) (toSome (tdVar 5)) toNo)) [6]) 3)
  (tsIf (tdAnd (tdTest (tdBin ltD (tdVar 1) (tdC (.int 16)))) (tdTest (tdBin eqDD (tdFz (tfCall [0] (sp__law_draw) W (taOwn 0 (taCons (tdC (.int 2)) taNil)))) (tdC (.int 0))))) (tsAsg (tfV (tdBin addD (tdFz (tfLc (tiRg1 (tdCons (tdC (.int 8)) tdNil)) (tgName 4) tdYes (tdBin addD (tdSl (tdC (.str "abcdefgh")) (toSome (tdVar 4)) toNo) (tdSl (tdC (.str "abcdefgh")) toNo (toSome (tdVar 4)))) [4])) (tdFz (tfLc (tiRg2 (tdCons (tdC (.int 1)) (tdCons (tdC (.int 8)) tdNil))) (tgName 4) tdYes (tdSl (tdC (.str "abcdefgh")) toNo (toSome (tdVar 4))) [4])))) 3) tsNext))) tsNext)
  (tsRet (tfV (tdSl (tdFz (tfCall [0] (sp__law_mixed) W (taOwn 0 (taCons (tdVar 3) taNil)))) toNo (toSome (tdVar 1))))))))

theorem body__law_names {args : List Sl} {R : Sl → List Sl → Prop} {E : Exn → List Sl → Prop} (h : sp__law_names args R E) :
    t__law_names (fun ex ρ => E ex (back [0] args ρ)) ⟨fun ρ => R (.val .none) (back [0] args ρ), fun s ρ => R s (back [0] args ρ)⟩ (args ++ List.replicate (7 - args.length) .no) := by
  obtain ⟨c, b, m, rfl, hb, hc, m0, m1, k⟩ := h
  have sz := sizeLine_eq
  have fin : ∀ (L : List Str) (b2 ys : List D), namesB L = true → m ≤ L.length → L.length ≤ 40 → Bag (c + 3 + L.length) b2 → ys.Perm (L.map PyData.str) → R (.val (.list (cutL ys none (some (m : Int))))) [.lst b2, .val (.int m)] := fun L b2 ys h1 h2 h3 h4 h5 => by
    obtain ⟨l', p1, rfl⟩ := perm_map h5 L rfl
    rw [cutL_take, ← List.map_take]
    refine k b2 _ (h4.le (by omega)) (namesB_take m (namesB_perm p1 h1)) ?_
    rw [List.length_take, p1.length_eq]
    omega
  unfold t__law_names
  refine seq_step fun N hN => ?_
  simp only [tsSeq, tsAsg, tsNext, tsRet, tsRetN, tsExpr, tsIf, tsFor, tsWhile, tsNever, tsAsgG, tsSetIx, tfV, tfLst, tfMove, tfList, tfLRg, tfLc, tfCall, tdFz, tdVar, tdC, tdBin, tdUn, tdTest, tdChain, tdAnd, tdOr, tdNot, tdAndV, tdOrV, tdNotV, tdIf, tdNil, tdCons, tdTup, tdLst, tdFn, tdIxO, tdLenO, tdMeth, tdSl, tdRev, toNo, toSome, tdIsi, tdIsi2, tdLenSet, tdIndex, tdYes, taNil, taCons, taOwn, tgName, tgNil, tgCons, tgTup, tiSeq, tiStr, tiRg1, tiRg2, tiRg3, tiEnum, onLst, isLst, seqOf_list, seqOf_tuple, addD, subD, divD, modD, powD, intD, negD, mulD, cmpD, i2D, lenD, ixD, List.getElem?_cons_succ, List.getElem?_cons_zero, List.set_cons_succ, List.set_cons_zero, opt_some, opt_none, opt_ite, if_true, if_false, Bool.false_eq_true, List.map_cons, List.map_nil, List.cons_append, List.nil_append, List.append_nil, List.replicate_succ, List.replicate_zero, List.length_cons, List.length_nil, rsv, ownIx, ixOf, wb, Option.getD_some, back_nil, back_zero, eqDD_int, neDD_int, eqDD_bool, neDD_bool, eqDD_str, neDD_str, ltD, leD, gtD, geD, List.nodup_nil, nodup1, at0, at1, at2, at3, at4, ixN5_1, ixN5_2, ixN5_3, Nat.reduceAdd, true_and, and_true, eq_self, List.length_singleton, slD, signsD, wipeD, restD, Sl.keep, rgD, subD, maxLD, minLD, Bool.not_true, Bool.not_false]
  subst hN
  refine seq_step fun N hN => ?_
  simp only [tsSeq, tsAsg, tsNext, tsRet, tsRetN, tsExpr, tsIf, tsFor, tsWhile, tsNever, tsAsgG, tsSetIx, tfV, tfLst, tfMove, tfList, tfLRg, tfLc, tfCall, tdFz, tdVar, tdC, tdBin, tdUn, tdTest, tdChain, tdAnd, tdOr, tdNot, tdAndV, tdOrV, tdNotV, tdIf, tdNil, tdCons, tdTup, tdLst, tdFn, tdIxO, tdLenO, tdMeth, tdSl, tdRev, toNo, toSome, tdIsi, tdIsi2, tdLenSet, tdIndex, tdYes, taNil, taCons, taOwn, tgName, tgNil, tgCons, tgTup, tiSeq, tiStr, tiRg1, tiRg2, tiRg3, tiEnum, onLst, isLst, seqOf_list, seqOf_tuple, addD, subD, divD, modD, powD, intD, negD, mulD, cmpD, i2D, lenD, ixD, List.getElem?_cons_succ, List.getElem?_cons_zero, List.set_cons_succ, List.set_cons_zero, opt_some, opt_none, opt_ite, if_true, if_false, Bool.false_eq_true, List.map_cons, List.map_nil, List.cons_append, List.nil_append, List.append_nil, List.replicate_succ, List.replicate_zero, List.length_cons, List.length_nil, rsv, ownIx, ixOf, wb, Option.getD_some, back_nil, back_zero, eqDD_int, neDD_int, eqDD_bool, neDD_bool, eqDD_str, neDD_str, ltD, leD, gtD, geD, List.nodup_nil, nodup1, at0, at1, at2, at3, at4, ixN5_1, ixN5_2, ixN5_3, Nat.reduceAdd, true_and, and_true, eq_self, List.length_singleton, slD, signsD, wipeD, restD, Sl.keep, rgD, subD, maxLD, minLD, Bool.not_true, Bool.not_false]
  refine ⟨by decide, by decide, ?_⟩
  refine lc_map (fun i : Nat => PyData.int (0 + (i : Int))) (fun x => .str (repS ⟨#[97 + x % 26]⟩ (1 + (0 + (x : Int)) / 26))) (List.range 38) [] (by rw [List.length_range]; show 0 + 38 ≤ sizeLine; decide) (fun x hx A hA => ?_) ?_
  · have hx : x < 38 := List.mem_range.mp hx
    have e1 : ((0 : Int) + (x : Int)) % 26 = ((x % 26 : Nat) : Int) := by omega
    simp only [tsSeq, tsAsg, tsNext, tsRet, tsRetN, tsExpr, tsIf, tsFor, tsWhile, tsNever, tsAsgG, tsSetIx, tfV, tfLst, tfMove, tfList, tfLRg, tfLc, tfCall, tdFz, tdVar, tdC, tdBin, tdUn, tdTest, tdChain, tdAnd, tdOr, tdNot, tdAndV, tdOrV, tdNotV, tdIf, tdNil, tdCons, tdTup, tdLst, tdFn, tdIxO, tdLenO, tdMeth, tdSl, tdRev, toNo, toSome, tdIsi, tdIsi2, tdLenSet, tdIndex, tdYes, taNil, taCons, taOwn, tgName, tgNil, tgCons, tgTup, tiSeq, tiStr, tiRg1, tiRg2, tiRg3, tiEnum, onLst, isLst, seqOf_list, seqOf_tuple, addD, subD, divD, modD, powD, intD, negD, mulD, cmpD, i2D, lenD, ixD, List.getElem?_cons_succ, List.getElem?_cons_zero, List.set_cons_succ, List.set_cons_zero, opt_some, opt_none, opt_ite, if_true, if_false, Bool.false_eq_true, List.map_cons, List.map_nil, List.cons_append, List.nil_append, List.append_nil, List.replicate_succ, List.replicate_zero, List.length_cons, List.length_nil, rsv, ownIx, ixOf, wb, Option.getD_some, back_nil, back_zero, eqDD_int, neDD_int, eqDD_bool, neDD_bool, eqDD_str, neDD_str, ltD, leD, gtD, geD, List.nodup_nil, nodup1, at0, at1, at2, at3, at4, ixN5_1, ixN5_2, ixN5_3, Nat.reduceAdd, true_and, and_true, eq_self, List.length_singleton, slD, signsD, wipeD, restD, Sl.keep, rgD, subD, maxLD, minLD, Bool.not_true, Bool.not_false]
    refine ⟨by decide, let_len, ?_⟩
    rw [e1, let_at _ (Nat.mod_lt _ (by decide))]
    simp only [Option.map_some, tsSeq, tsAsg, tsNext, tsRet, tsRetN, tsExpr, tsIf, tsFor, tsWhile, tsNever, tsAsgG, tsSetIx, tfV, tfLst, tfMove, tfList, tfLRg, tfLc, tfCall, tdFz, tdVar, tdC, tdBin, tdUn, tdTest, tdChain, tdAnd, tdOr, tdNot, tdAndV, tdOrV, tdNotV, tdIf, tdNil, tdCons, tdTup, tdLst, tdFn, tdIxO, tdLenO, tdMeth, tdSl, tdRev, toNo, toSome, tdIsi, tdIsi2, tdLenSet, tdIndex, tdYes, taNil, taCons, taOwn, tgName, tgNil, tgCons, tgTup, tiSeq, tiStr, tiRg1, tiRg2, tiRg3, tiEnum, onLst, isLst, seqOf_list, seqOf_tuple, addD, subD, divD, modD, powD, intD, negD, mulD, cmpD, i2D, lenD, ixD, List.getElem?_cons_succ, List.getElem?_cons_zero, List.set_cons_succ, List.set_cons_zero, opt_some, opt_none, opt_ite, if_true, if_false, Bool.false_eq_true, List.map_cons, List.map_nil, List.cons_append, List.nil_append, List.append_nil, List.replicate_succ, List.replicate_zero, List.length_cons, List.length_nil, rsv, ownIx, ixOf, wb, Option.getD_some, back_nil, back_zero, eqDD_int, neDD_int, eqDD_bool, neDD_bool, eqDD_str, neDD_str, ltD, leD, gtD, geD, List.nodup_nil, nodup1, at0, at1, at2, at3, at4, ixN5_1, ixN5_2, ixN5_3, Nat.reduceAdd, true_and, and_true, eq_self, List.length_singleton, slD, signsD, wipeD, restD, Sl.keep, rgD, subD, maxLD, minLD, Bool.not_true, Bool.not_false]
    refine ⟨cdiv (by decide) (by decide), ⟨by omega, by omega, ?_⟩, hA _ rfl⟩
    show 1 * (1 + (0 + (x : Int)) / 26).toNat ≤ sizeLine
    omega
  simp only [List.length_map, List.length_range, tsSeq, tsAsg, tsNext, tsRet, tsRetN, tsExpr, tsIf, tsFor, tsWhile, tsNever, tsAsgG, tsSetIx, tfV, tfLst, tfMove, tfList, tfLRg, tfLc, tfCall, tdFz, tdVar, tdC, tdBin, tdUn, tdTest, tdChain, tdAnd, tdOr, tdNot, tdAndV, tdOrV, tdNotV, tdIf, tdNil, tdCons, tdTup, tdLst, tdFn, tdIxO, tdLenO, tdMeth, tdSl, tdRev, toNo, toSome, tdIsi, tdIsi2, tdLenSet, tdIndex, tdYes, taNil, taCons, taOwn, tgName, tgNil, tgCons, tgTup, tiSeq, tiStr, tiRg1, tiRg2, tiRg3, tiEnum, onLst, isLst, seqOf_list, seqOf_tuple, addD, subD, divD, modD, powD, intD, negD, mulD, cmpD, i2D, lenD, ixD, List.getElem?_cons_succ, List.getElem?_cons_zero, List.set_cons_succ, List.set_cons_zero, opt_some, opt_none, opt_ite, if_true, if_false, Bool.false_eq_true, List.map_cons, List.map_nil, List.cons_append, List.nil_append, List.append_nil, List.replicate_succ, List.replicate_zero, List.length_cons, List.length_nil, rsv, ownIx, ixOf, wb, Option.getD_some, back_nil, back_zero, eqDD_int, neDD_int, eqDD_bool, neDD_bool, eqDD_str, neDD_str, ltD, leD, gtD, geD, List.nodup_nil, nodup1, at0, at1, at2, at3, at4, ixN5_1, ixN5_2, ixN5_3, Nat.reduceAdd, true_and, and_true, eq_self, List.length_singleton, slD, signsD, wipeD, restD, Sl.keep, rgD, subD, maxLD, minLD, Bool.not_true, Bool.not_false]
  refine ⟨by decide, by show 38 + 2 ≤ sizeLine; decide, ?_⟩
  have eT1 : List.map (fun x : Nat => PyData.str (repS ⟨#[97 + x % 26]⟩ (1 + (0 + (x : Int)) / 26))) (List.range 38) ++ [PyData.str "zyxwvuts", PyData.str "abcdefgh"] = T1.map PyData.str := by
    unfold T1
    rw [List.map_append, List.map_map]; rfl
  rw [eT1]
  subst hN
  -- what comes last
  have last : ∀ (L : List Str) (b2 : List D) (s3 s4 s5 s6 : Sl), (s3 = .val (.list (L.map PyData.str)) ∨ s3 = .lst (L.map PyData.str)) → namesB L = true → m ≤ L.length → L.length ≤ 40 → Bag (c + 3) b2 →
      (tsRet (tfV (tdSl (tdFz (tfCall [0] (sp__law_mixed) (fun ex ρ => E ex (back [0] [Sl.lst b, Sl.val (PyData.int ↑m)] ρ)) (taOwn 0 (taCons (tdVar 3) taNil)))) toNo (toSome (tdVar 1))))) ⟨fun ρ => R (.val .none) (back [0] [Sl.lst b, Sl.val (PyData.int ↑m)] ρ), fun s ρ => R s (back [0] [Sl.lst b, Sl.val (PyData.int ↑m)] ρ)⟩ [.lst b2, .val (.int m), .val (.str "abcdefghijklmnopqrstuvwxyz"), s3, s4, s5, s6] := fun L b2 s3 s4 s5 s6 h3 h1 h2 h4 h5 => by
    rcases h3 with rfl | rfl
    · simp only [tsSeq, tsAsg, tsNext, tsRet, tsRetN, tsExpr, tsIf, tsFor, tsWhile, tsNever, tsAsgG, tsSetIx, tfV, tfLst, tfMove, tfList, tfLRg, tfLc, tfCall, tdFz, tdVar, tdC, tdBin, tdUn, tdTest, tdChain, tdAnd, tdOr, tdNot, tdAndV, tdOrV, tdNotV, tdIf, tdNil, tdCons, tdTup, tdLst, tdFn, tdIxO, tdLenO, tdMeth, tdSl, tdRev, toNo, toSome, tdIsi, tdIsi2, tdLenSet, tdIndex, tdYes, taNil, taCons, taOwn, tgName, tgNil, tgCons, tgTup, tiSeq, tiStr, tiRg1, tiRg2, tiRg3, tiEnum, onLst, isLst, seqOf_list, seqOf_tuple, addD, subD, divD, modD, powD, intD, negD, mulD, cmpD, i2D, lenD, ixD, List.getElem?_cons_succ, List.getElem?_cons_zero, List.set_cons_succ, List.set_cons_zero, opt_some, opt_none, opt_ite, if_true, if_false, Bool.false_eq_true, List.map_cons, List.map_nil, List.cons_append, List.nil_append, List.append_nil, List.replicate_succ, List.replicate_zero, List.length_cons, List.length_nil, rsv, ownIx, ixOf, wb, Option.getD_some, back_nil, back_zero, eqDD_int, neDD_int, eqDD_bool, neDD_bool, eqDD_str, neDD_str, ltD, leD, gtD, geD, List.nodup_nil, nodup1, at0, at1, at2, at3, at4, ixN5_1, ixN5_2, ixN5_3, Nat.reduceAdd, true_and, and_true, eq_self, List.length_singleton, slD, signsD, wipeD, restD, Sl.keep, rgD, subD, maxLD, minLD, Bool.not_true, Bool.not_false]
      refine ⟨_, _, _, rfl, h5, by rw [List.length_map]; omega, by rw [List.length_map]; omega, fun b3 ys hb3 hp => ?_⟩
      simp only [tsSeq, tsAsg, tsNext, tsRet, tsRetN, tsExpr, tsIf, tsFor, tsWhile, tsNever, tsAsgG, tsSetIx, tfV, tfLst, tfMove, tfList, tfLRg, tfLc, tfCall, tdFz, tdVar, tdC, tdBin, tdUn, tdTest, tdChain, tdAnd, tdOr, tdNot, tdAndV, tdOrV, tdNotV, tdIf, tdNil, tdCons, tdTup, tdLst, tdFn, tdIxO, tdLenO, tdMeth, tdSl, tdRev, toNo, toSome, tdIsi, tdIsi2, tdLenSet, tdIndex, tdYes, taNil, taCons, taOwn, tgName, tgNil, tgCons, tgTup, tiSeq, tiStr, tiRg1, tiRg2, tiRg3, tiEnum, onLst, isLst, seqOf_list, seqOf_tuple, addD, subD, divD, modD, powD, intD, negD, mulD, cmpD, i2D, lenD, ixD, List.getElem?_cons_succ, List.getElem?_cons_zero, List.set_cons_succ, List.set_cons_zero, opt_some, opt_none, opt_ite, if_true, if_false, Bool.false_eq_true, List.map_cons, List.map_nil, List.cons_append, List.nil_append, List.append_nil, List.replicate_succ, List.replicate_zero, List.length_cons, List.length_nil, rsv, ownIx, ixOf, wb, Option.getD_some, back_nil, back_zero, eqDD_int, neDD_int, eqDD_bool, neDD_bool, eqDD_str, neDD_str, ltD, leD, gtD, geD, List.nodup_nil, nodup1, at0, at1, at2, at3, at4, ixN5_1, ixN5_2, ixN5_3, Nat.reduceAdd, true_and, and_true, eq_self, List.length_singleton, slD, signsD, wipeD, restD, Sl.keep, rgD, subD, maxLD, minLD, Bool.not_true, Bool.not_false]
      exact fin L b3 ys h1 h2 h4 (by rw [List.length_map] at hb3; exact hb3) hp
    · simp only [tsSeq, tsAsg, tsNext, tsRet, tsRetN, tsExpr, tsIf, tsFor, tsWhile, tsNever, tsAsgG, tsSetIx, tfV, tfLst, tfMove, tfList, tfLRg, tfLc, tfCall, tdFz, tdVar, tdC, tdBin, tdUn, tdTest, tdChain, tdAnd, tdOr, tdNot, tdAndV, tdOrV, tdNotV, tdIf, tdNil, tdCons, tdTup, tdLst, tdFn, tdIxO, tdLenO, tdMeth, tdSl, tdRev, toNo, toSome, tdIsi, tdIsi2, tdLenSet, tdIndex, tdYes, taNil, taCons, taOwn, tgName, tgNil, tgCons, tgTup, tiSeq, tiStr, tiRg1, tiRg2, tiRg3, tiEnum, onLst, isLst, seqOf_list, seqOf_tuple, addD, subD, divD, modD, powD, intD, negD, mulD, cmpD, i2D, lenD, ixD, List.getElem?_cons_succ, List.getElem?_cons_zero, List.set_cons_succ, List.set_cons_zero, opt_some, opt_none, opt_ite, if_true, if_false, Bool.false_eq_true, List.map_cons, List.map_nil, List.cons_append, List.nil_append, List.append_nil, List.replicate_succ, List.replicate_zero, List.length_cons, List.length_nil, rsv, ownIx, ixOf, wb, Option.getD_some, back_nil, back_zero, eqDD_int, neDD_int, eqDD_bool, neDD_bool, eqDD_str, neDD_str, ltD, leD, gtD, geD, List.nodup_nil, nodup1, at0, at1, at2, at3, at4, ixN5_1, ixN5_2, ixN5_3, Nat.reduceAdd, true_and, and_true, eq_self, List.length_singleton, slD, signsD, wipeD, restD, Sl.keep, rgD, subD, maxLD, minLD, Bool.not_true, Bool.not_false]
      refine ⟨_, _, _, rfl, h5, by rw [List.length_map]; omega, by rw [List.length_map]; omega, fun b3 ys hb3 hp => ?_⟩
      simp only [tsSeq, tsAsg, tsNext, tsRet, tsRetN, tsExpr, tsIf, tsFor, tsWhile, tsNever, tsAsgG, tsSetIx, tfV, tfLst, tfMove, tfList, tfLRg, tfLc, tfCall, tdFz, tdVar, tdC, tdBin, tdUn, tdTest, tdChain, tdAnd, tdOr, tdNot, tdAndV, tdOrV, tdNotV, tdIf, tdNil, tdCons, tdTup, tdLst, tdFn, tdIxO, tdLenO, tdMeth, tdSl, tdRev, toNo, toSome, tdIsi, tdIsi2, tdLenSet, tdIndex, tdYes, taNil, taCons, taOwn, tgName, tgNil, tgCons, tgTup, tiSeq, tiStr, tiRg1, tiRg2, tiRg3, tiEnum, onLst, isLst, seqOf_list, seqOf_tuple, addD, subD, divD, modD, powD, intD, negD, mulD, cmpD, i2D, lenD, ixD, List.getElem?_cons_succ, List.getElem?_cons_zero, List.set_cons_succ, List.set_cons_zero, opt_some, opt_none, opt_ite, if_true, if_false, Bool.false_eq_true, List.map_cons, List.map_nil, List.cons_append, List.nil_append, List.append_nil, List.replicate_succ, List.replicate_zero, List.length_cons, List.length_nil, rsv, ownIx, ixOf, wb, Option.getD_some, back_nil, back_zero, eqDD_int, neDD_int, eqDD_bool, neDD_bool, eqDD_str, neDD_str, ltD, leD, gtD, geD, List.nodup_nil, nodup1, at0, at1, at2, at3, at4, ixN5_1, ixN5_2, ixN5_3, Nat.reduceAdd, true_and, and_true, eq_self, List.length_singleton, slD, signsD, wipeD, restD, Sl.keep, rgD, subD, maxLD, minLD, Bool.not_true, Bool.not_false]
      exact fin L b3 ys h1 h2 h4 (by rw [List.length_map] at hb3; exact hb3) hp
  refine seq_step fun N hN => ?_
  simp only [tsSeq, tsAsg, tsNext, tsRet, tsRetN, tsExpr, tsIf, tsFor, tsWhile, tsNever, tsAsgG, tsSetIx, tfV, tfLst, tfMove, tfList, tfLRg, tfLc, tfCall, tdFz, tdVar, tdC, tdBin, tdUn, tdTest, tdChain, tdAnd, tdOr, tdNot, tdAndV, tdOrV, tdNotV, tdIf, tdNil, tdCons, tdTup, tdLst, tdFn, tdIxO, tdLenO, tdMeth, tdSl, tdRev, toNo, toSome, tdIsi, tdIsi2, tdLenSet, tdIndex, tdYes, taNil, taCons, taOwn, tgName, tgNil, tgCons, tgTup, tiSeq, tiStr, tiRg1, tiRg2, tiRg3, tiEnum, onLst, isLst, seqOf_list, seqOf_tuple, addD, subD, divD, modD, powD, intD, negD, mulD, cmpD, i2D, lenD, ixD, List.getElem?_cons_succ, List.getElem?_cons_zero, List.set_cons_succ, List.set_cons_zero, opt_some, opt_none, opt_ite, if_true, if_false, Bool.false_eq_true, List.map_cons, List.map_nil, List.cons_append, List.nil_append, List.append_nil, List.replicate_succ, List.replicate_zero, List.length_cons, List.length_nil, rsv, ownIx, ixOf, wb, Option.getD_some, back_nil, back_zero, eqDD_int, neDD_int, eqDD_bool, neDD_bool, eqDD_str, neDD_str, ltD, leD, gtD, geD, List.nodup_nil, nodup1, at0, at1, at2, at3, at4, ixN5_1, ixN5_2, ixN5_3, Nat.reduceAdd, true_and, and_true, eq_self, List.length_singleton, slD, signsD, wipeD, restD, Sl.keep, rgD, subD, maxLD, minLD, Bool.not_true, Bool.not_false]
  by_cases h27 : (m : Int) < 27
  · simp only [decide_eq_true h27, tsSeq, tsAsg, tsNext, tsRet, tsRetN, tsExpr, tsIf, tsFor, tsWhile, tsNever, tsAsgG, tsSetIx, tfV, tfLst, tfMove, tfList, tfLRg, tfLc, tfCall, tdFz, tdVar, tdC, tdBin, tdUn, tdTest, tdChain, tdAnd, tdOr, tdNot, tdAndV, tdOrV, tdNotV, tdIf, tdNil, tdCons, tdTup, tdLst, tdFn, tdIxO, tdLenO, tdMeth, tdSl, tdRev, toNo, toSome, tdIsi, tdIsi2, tdLenSet, tdIndex, tdYes, taNil, taCons, taOwn, tgName, tgNil, tgCons, tgTup, tiSeq, tiStr, tiRg1, tiRg2, tiRg3, tiEnum, onLst, isLst, seqOf_list, seqOf_tuple, addD, subD, divD, modD, powD, intD, negD, mulD, cmpD, i2D, lenD, ixD, List.getElem?_cons_succ, List.getElem?_cons_zero, List.set_cons_succ, List.set_cons_zero, opt_some, opt_none, opt_ite, if_true, if_false, Bool.false_eq_true, List.map_cons, List.map_nil, List.cons_append, List.nil_append, List.append_nil, List.replicate_succ, List.replicate_zero, List.length_cons, List.length_nil, rsv, ownIx, ixOf, wb, Option.getD_some, back_nil, back_zero, eqDD_int, neDD_int, eqDD_bool, neDD_bool, eqDD_str, neDD_str, ltD, leD, gtD, geD, List.nodup_nil, nodup1, at0, at1, at2, at3, at4, ixN5_1, ixN5_2, ixN5_3, Nat.reduceAdd, true_and, and_true, eq_self, List.length_singleton, slD, signsD, wipeD, restD, Sl.keep, rgD, subD, maxLD, minLD, Bool.not_true, Bool.not_false]
    refine ⟨c, b, 2, rfl, hb, by omega, by decide, by decide, fun b1 z hb1 z0 z1 => ?_⟩
    simp only [tsSeq, tsAsg, tsNext, tsRet, tsRetN, tsExpr, tsIf, tsFor, tsWhile, tsNever, tsAsgG, tsSetIx, tfV, tfLst, tfMove, tfList, tfLRg, tfLc, tfCall, tdFz, tdVar, tdC, tdBin, tdUn, tdTest, tdChain, tdAnd, tdOr, tdNot, tdAndV, tdOrV, tdNotV, tdIf, tdNil, tdCons, tdTup, tdLst, tdFn, tdIxO, tdLenO, tdMeth, tdSl, tdRev, toNo, toSome, tdIsi, tdIsi2, tdLenSet, tdIndex, tdYes, taNil, taCons, taOwn, tgName, tgNil, tgCons, tgTup, tiSeq, tiStr, tiRg1, tiRg2, tiRg3, tiEnum, onLst, isLst, seqOf_list, seqOf_tuple, addD, subD, divD, modD, powD, intD, negD, mulD, cmpD, i2D, lenD, ixD, List.getElem?_cons_succ, List.getElem?_cons_zero, List.set_cons_succ, List.set_cons_zero, opt_some, opt_none, opt_ite, if_true, if_false, Bool.false_eq_true, List.map_cons, List.map_nil, List.cons_append, List.nil_append, List.append_nil, List.replicate_succ, List.replicate_zero, List.length_cons, List.length_nil, rsv, ownIx, ixOf, wb, Option.getD_some, back_nil, back_zero, eqDD_int, neDD_int, eqDD_bool, neDD_bool, eqDD_str, neDD_str, ltD, leD, gtD, geD, List.nodup_nil, nodup1, at0, at1, at2, at3, at4, ixN5_1, ixN5_2, ixN5_3, Nat.reduceAdd, true_and, and_true, eq_self, List.length_singleton, slD, signsD, wipeD, restD, Sl.keep, rgD, subD, maxLD, minLD, Bool.not_true, Bool.not_false]
    by_cases hz : z = 0
    · simp only [decide_eq_true hz, tsSeq, tsAsg, tsNext, tsRet, tsRetN, tsExpr, tsIf, tsFor, tsWhile, tsNever, tsAsgG, tsSetIx, tfV, tfLst, tfMove, tfList, tfLRg, tfLc, tfCall, tdFz, tdVar, tdC, tdBin, tdUn, tdTest, tdChain, tdAnd, tdOr, tdNot, tdAndV, tdOrV, tdNotV, tdIf, tdNil, tdCons, tdTup, tdLst, tdFn, tdIxO, tdLenO, tdMeth, tdSl, tdRev, toNo, toSome, tdIsi, tdIsi2, tdLenSet, tdIndex, tdYes, taNil, taCons, taOwn, tgName, tgNil, tgCons, tgTup, tiSeq, tiStr, tiRg1, tiRg2, tiRg3, tiEnum, onLst, isLst, seqOf_list, seqOf_tuple, addD, subD, divD, modD, powD, intD, negD, mulD, cmpD, i2D, lenD, ixD, List.getElem?_cons_succ, List.getElem?_cons_zero, List.set_cons_succ, List.set_cons_zero, opt_some, opt_none, opt_ite, if_true, if_false, Bool.false_eq_true, List.map_cons, List.map_nil, List.cons_append, List.nil_append, List.append_nil, List.replicate_succ, List.replicate_zero, List.length_cons, List.length_nil, rsv, ownIx, ixOf, wb, Option.getD_some, back_nil, back_zero, eqDD_int, neDD_int, eqDD_bool, neDD_bool, eqDD_str, neDD_str, ltD, leD, gtD, geD, List.nodup_nil, nodup1, at0, at1, at2, at3, at4, ixN5_1, ixN5_2, ixN5_3, Nat.reduceAdd, true_and, and_true, eq_self, List.length_singleton, slD, signsD, wipeD, restD, Sl.keep, rgD, subD, maxLD, minLD, Bool.not_true, Bool.not_false]
      refine ⟨c + 1, b1, 8, rfl, hb1, by omega, by decide, by decide, fun b2 a hb2 a0 a1 => ?_⟩
      simp only [tsSeq, tsAsg, tsNext, tsRet, tsRetN, tsExpr, tsIf, tsFor, tsWhile, tsNever, tsAsgG, tsSetIx, tfV, tfLst, tfMove, tfList, tfLRg, tfLc, tfCall, tdFz, tdVar, tdC, tdBin, tdUn, tdTest, tdChain, tdAnd, tdOr, tdNot, tdAndV, tdOrV, tdNotV, tdIf, tdNil, tdCons, tdTup, tdLst, tdFn, tdIxO, tdLenO, tdMeth, tdSl, tdRev, toNo, toSome, tdIsi, tdIsi2, tdLenSet, tdIndex, tdYes, taNil, taCons, taOwn, tgName, tgNil, tgCons, tgTup, tiSeq, tiStr, tiRg1, tiRg2, tiRg3, tiEnum, onLst, isLst, seqOf_list, seqOf_tuple, addD, subD, divD, modD, powD, intD, negD, mulD, cmpD, i2D, lenD, ixD, List.getElem?_cons_succ, List.getElem?_cons_zero, List.set_cons_succ, List.set_cons_zero, opt_some, opt_none, opt_ite, if_true, if_false, Bool.false_eq_true, List.map_cons, List.map_nil, List.cons_append, List.nil_append, List.append_nil, List.replicate_succ, List.replicate_zero, List.length_cons, List.length_nil, rsv, ownIx, ixOf, wb, Option.getD_some, back_nil, back_zero, eqDD_int, neDD_int, eqDD_bool, neDD_bool, eqDD_str, neDD_str, ltD, leD, gtD, geD, List.nodup_nil, nodup1, at0, at1, at2, at3, at4, ixN5_1, ixN5_2, ixN5_3, Nat.reduceAdd, true_and, and_true, eq_self, List.length_singleton, slD, signsD, wipeD, restD, Sl.keep, rgD, subD, maxLD, minLD, Bool.not_true, Bool.not_false]
      obtain ⟨a, rfl⟩ : ∃ n : Nat, a = n := ⟨a.toNat, by omega⟩
      have ha : a < 8 := by omega
      have m7 : ("mnopqrm" : Str).length ≤ 8 := by decide
      refine lc_map (fun c : Nat => PyData.str ⟨#[c]⟩) (fun x => .str (cutS "mnopqrm" none (some (a : Int)) ++ ⟨#[x]⟩ ++ cutS "mnopqrm" (some (a : Int)) none)) _ [] (by show 0 + 26 ≤ sizeLine; decide) (fun x hx A hA => ?_) ?_
      · have c1 := cut7 "mnopqrm" none (some (a : Int)) m7
        have c2 := cut7 "mnopqrm" (some (a : Int)) none m7
        have c3 : (⟨#[x]⟩ : Str).length = 1 := rfl
        have c4 := strLen_append (cutS "mnopqrm" none (some (a : Int))) ⟨#[x]⟩
        simp only [tsSeq, tsAsg, tsNext, tsRet, tsRetN, tsExpr, tsIf, tsFor, tsWhile, tsNever, tsAsgG, tsSetIx, tfV, tfLst, tfMove, tfList, tfLRg, tfLc, tfCall, tdFz, tdVar, tdC, tdBin, tdUn, tdTest, tdChain, tdAnd, tdOr, tdNot, tdAndV, tdOrV, tdNotV, tdIf, tdNil, tdCons, tdTup, tdLst, tdFn, tdIxO, tdLenO, tdMeth, tdSl, tdRev, toNo, toSome, tdIsi, tdIsi2, tdLenSet, tdIndex, tdYes, taNil, taCons, taOwn, tgName, tgNil, tgCons, tgTup, tiSeq, tiStr, tiRg1, tiRg2, tiRg3, tiEnum, onLst, isLst, seqOf_list, seqOf_tuple, addD, subD, divD, modD, powD, intD, negD, mulD, cmpD, i2D, lenD, ixD, List.getElem?_cons_succ, List.getElem?_cons_zero, List.set_cons_succ, List.set_cons_zero, opt_some, opt_none, opt_ite, if_true, if_false, Bool.false_eq_true, List.map_cons, List.map_nil, List.cons_append, List.nil_append, List.append_nil, List.replicate_succ, List.replicate_zero, List.length_cons, List.length_nil, rsv, ownIx, ixOf, wb, Option.getD_some, back_nil, back_zero, eqDD_int, neDD_int, eqDD_bool, neDD_bool, eqDD_str, neDD_str, ltD, leD, gtD, geD, List.nodup_nil, nodup1, at0, at1, at2, at3, at4, ixN5_1, ixN5_2, ixN5_3, Nat.reduceAdd, true_and, and_true, eq_self, List.length_singleton, slD, signsD, wipeD, restD, Sl.keep, rgD, subD, maxLD, minLD, Bool.not_true, Bool.not_false]
        exact ⟨by decide, by omega, by decide, by omega, hA _ rfl⟩
      have eT2 : List.map (fun x : Nat => PyData.str (cutS "mnopqrm" none (some (a : Int)) ++ ⟨#[x]⟩ ++ cutS "mnopqrm" (some (a : Int)) none)) ("abcdefghijklmnopqrstuvwxyz" : Str).cps.toList = (T2 a).map PyData.str := by
        unfold T2
        rw [List.map_map]; rfl
      rw [eT2]
      have lT2 : (T2 a).length = 26 := by unfold T2; rw [List.length_map]; rfl
      have oT2 : namesB (T2 a) = true := t2_ok a (List.mem_range.mpr ha)
      simp only [tsSeq, tsAsg, tsNext, tsRet, tsRetN, tsExpr, tsIf, tsFor, tsWhile, tsNever, tsAsgG, tsSetIx, tfV, tfLst, tfMove, tfList, tfLRg, tfLc, tfCall, tdFz, tdVar, tdC, tdBin, tdUn, tdTest, tdChain, tdAnd, tdOr, tdNot, tdAndV, tdOrV, tdNotV, tdIf, tdNil, tdCons, tdTup, tdLst, tdFn, tdIxO, tdLenO, tdMeth, tdSl, tdRev, toNo, toSome, tdIsi, tdIsi2, tdLenSet, tdIndex, tdYes, taNil, taCons, taOwn, tgName, tgNil, tgCons, tgTup, tiSeq, tiStr, tiRg1, tiRg2, tiRg3, tiEnum, onLst, isLst, seqOf_list, seqOf_tuple, addD, subD, divD, modD, powD, intD, negD, mulD, cmpD, i2D, lenD, ixD, List.getElem?_cons_succ, List.getElem?_cons_zero, List.set_cons_succ, List.set_cons_zero, opt_some, opt_none, opt_ite, if_true, if_false, Bool.false_eq_true, List.map_cons, List.map_nil, List.cons_append, List.nil_append, List.append_nil, List.replicate_succ, List.replicate_zero, List.length_cons, List.length_nil, rsv, ownIx, ixOf, wb, Option.getD_some, back_nil, back_zero, eqDD_int, neDD_int, eqDD_bool, neDD_bool, eqDD_str, neDD_str, ltD, leD, gtD, geD, List.nodup_nil, nodup1, at0, at1, at2, at3, at4, ixN5_1, ixN5_2, ixN5_3, Nat.reduceAdd, true_and, and_true, eq_self, List.length_singleton, slD, signsD, wipeD, restD, Sl.keep, rgD, subD, maxLD, minLD, Bool.not_true, Bool.not_false]
      by_cases h16 : (m : Int) < 16
      · simp only [decide_eq_true h16, tsSeq, tsAsg, tsNext, tsRet, tsRetN, tsExpr, tsIf, tsFor, tsWhile, tsNever, tsAsgG, tsSetIx, tfV, tfLst, tfMove, tfList, tfLRg, tfLc, tfCall, tdFz, tdVar, tdC, tdBin, tdUn, tdTest, tdChain, tdAnd, tdOr, tdNot, tdAndV, tdOrV, tdNotV, tdIf, tdNil, tdCons, tdTup, tdLst, tdFn, tdIxO, tdLenO, tdMeth, tdSl, tdRev, toNo, toSome, tdIsi, tdIsi2, tdLenSet, tdIndex, tdYes, taNil, taCons, taOwn, tgName, tgNil, tgCons, tgTup, tiSeq, tiStr, tiRg1, tiRg2, tiRg3, tiEnum, onLst, isLst, seqOf_list, seqOf_tuple, addD, subD, divD, modD, powD, intD, negD, mulD, cmpD, i2D, lenD, ixD, List.getElem?_cons_succ, List.getElem?_cons_zero, List.set_cons_succ, List.set_cons_zero, opt_some, opt_none, opt_ite, if_true, if_false, Bool.false_eq_true, List.map_cons, List.map_nil, List.cons_append, List.nil_append, List.append_nil, List.replicate_succ, List.replicate_zero, List.length_cons, List.length_nil, rsv, ownIx, ixOf, wb, Option.getD_some, back_nil, back_zero, eqDD_int, neDD_int, eqDD_bool, neDD_bool, eqDD_str, neDD_str, ltD, leD, gtD, geD, List.nodup_nil, nodup1, at0, at1, at2, at3, at4, ixN5_1, ixN5_2, ixN5_3, Nat.reduceAdd, true_and, and_true, eq_self, List.length_singleton, slD, signsD, wipeD, restD, Sl.keep, rgD, subD, maxLD, minLD, Bool.not_true, Bool.not_false]
        refine ⟨c + 1 + 1, b2, 2, rfl, hb2, by omega, by decide, by decide, fun b3 y hb3 y0 y1 => ?_⟩
        simp only [tsSeq, tsAsg, tsNext, tsRet, tsRetN, tsExpr, tsIf, tsFor, tsWhile, tsNever, tsAsgG, tsSetIx, tfV, tfLst, tfMove, tfList, tfLRg, tfLc, tfCall, tdFz, tdVar, tdC, tdBin, tdUn, tdTest, tdChain, tdAnd, tdOr, tdNot, tdAndV, tdOrV, tdNotV, tdIf, tdNil, tdCons, tdTup, tdLst, tdFn, tdIxO, tdLenO, tdMeth, tdSl, tdRev, toNo, toSome, tdIsi, tdIsi2, tdLenSet, tdIndex, tdYes, taNil, taCons, taOwn, tgName, tgNil, tgCons, tgTup, tiSeq, tiStr, tiRg1, tiRg2, tiRg3, tiEnum, onLst, isLst, seqOf_list, seqOf_tuple, addD, subD, divD, modD, powD, intD, negD, mulD, cmpD, i2D, lenD, ixD, List.getElem?_cons_succ, List.getElem?_cons_zero, List.set_cons_succ, List.set_cons_zero, opt_some, opt_none, opt_ite, if_true, if_false, Bool.false_eq_true, List.map_cons, List.map_nil, List.cons_append, List.nil_append, List.append_nil, List.replicate_succ, List.replicate_zero, List.length_cons, List.length_nil, rsv, ownIx, ixOf, wb, Option.getD_some, back_nil, back_zero, eqDD_int, neDD_int, eqDD_bool, neDD_bool, eqDD_str, neDD_str, ltD, leD, gtD, geD, List.nodup_nil, nodup1, at0, at1, at2, at3, at4, ixN5_1, ixN5_2, ixN5_3, Nat.reduceAdd, true_and, and_true, eq_self, List.length_singleton, slD, signsD, wipeD, restD, Sl.keep, rgD, subD, maxLD, minLD, Bool.not_true, Bool.not_false]
        by_cases hy : y = 0
        · simp only [decide_eq_true hy, tsSeq, tsAsg, tsNext, tsRet, tsRetN, tsExpr, tsIf, tsFor, tsWhile, tsNever, tsAsgG, tsSetIx, tfV, tfLst, tfMove, tfList, tfLRg, tfLc, tfCall, tdFz, tdVar, tdC, tdBin, tdUn, tdTest, tdChain, tdAnd, tdOr, tdNot, tdAndV, tdOrV, tdNotV, tdIf, tdNil, tdCons, tdTup, tdLst, tdFn, tdIxO, tdLenO, tdMeth, tdSl, tdRev, toNo, toSome, tdIsi, tdIsi2, tdLenSet, tdIndex, tdYes, taNil, taCons, taOwn, tgName, tgNil, tgCons, tgTup, tiSeq, tiStr, tiRg1, tiRg2, tiRg3, tiEnum, onLst, isLst, seqOf_list, seqOf_tuple, addD, subD, divD, modD, powD, intD, negD, mulD, cmpD, i2D, lenD, ixD, List.getElem?_cons_succ, List.getElem?_cons_zero, List.set_cons_succ, List.set_cons_zero, opt_some, opt_none, opt_ite, if_true, if_false, Bool.false_eq_true, List.map_cons, List.map_nil, List.cons_append, List.nil_append, List.append_nil, List.replicate_succ, List.replicate_zero, List.length_cons, List.length_nil, rsv, ownIx, ixOf, wb, Option.getD_some, back_nil, back_zero, eqDD_int, neDD_int, eqDD_bool, neDD_bool, eqDD_str, neDD_str, ltD, leD, gtD, geD, List.nodup_nil, nodup1, at0, at1, at2, at3, at4, ixN5_1, ixN5_2, ixN5_3, Nat.reduceAdd, true_and, and_true, eq_self, List.length_singleton, slD, signsD, wipeD, restD, Sl.keep, rgD, subD, maxLD, minLD, Bool.not_true, Bool.not_false]
          have m8 : ("abcdefgh" : Str).length ≤ 8 := by decide
          refine ⟨by decide, by decide, ?_⟩
          refine lc_map (fun i : Nat => PyData.int (0 + (i : Int))) (fun k => .str (cutS "abcdefgh" (some (0 + (k : Int))) none ++ cutS "abcdefgh" none (some (0 + (k : Int))))) _ [] (by show 0 + 8 ≤ sizeLine; decide) (fun x hx A hA => ?_) ?_
          · have c1 := cut7 "abcdefgh" (some (0 + (x : Int))) none m8
            have c2 := cut7 "abcdefgh" none (some (0 + (x : Int))) m8
            simp only [tsSeq, tsAsg, tsNext, tsRet, tsRetN, tsExpr, tsIf, tsFor, tsWhile, tsNever, tsAsgG, tsSetIx, tfV, tfLst, tfMove, tfList, tfLRg, tfLc, tfCall, tdFz, tdVar, tdC, tdBin, tdUn, tdTest, tdChain, tdAnd, tdOr, tdNot, tdAndV, tdOrV, tdNotV, tdIf, tdNil, tdCons, tdTup, tdLst, tdFn, tdIxO, tdLenO, tdMeth, tdSl, tdRev, toNo, toSome, tdIsi, tdIsi2, tdLenSet, tdIndex, tdYes, taNil, taCons, taOwn, tgName, tgNil, tgCons, tgTup, tiSeq, tiStr, tiRg1, tiRg2, tiRg3, tiEnum, onLst, isLst, seqOf_list, seqOf_tuple, addD, subD, divD, modD, powD, intD, negD, mulD, cmpD, i2D, lenD, ixD, List.getElem?_cons_succ, List.getElem?_cons_zero, List.set_cons_succ, List.set_cons_zero, opt_some, opt_none, opt_ite, if_true, if_false, Bool.false_eq_true, List.map_cons, List.map_nil, List.cons_append, List.nil_append, List.append_nil, List.replicate_succ, List.replicate_zero, List.length_cons, List.length_nil, rsv, ownIx, ixOf, wb, Option.getD_some, back_nil, back_zero, eqDD_int, neDD_int, eqDD_bool, neDD_bool, eqDD_str, neDD_str, ltD, leD, gtD, geD, List.nodup_nil, nodup1, at0, at1, at2, at3, at4, ixN5_1, ixN5_2, ixN5_3, Nat.reduceAdd, true_and, and_true, eq_self, List.length_singleton, slD, signsD, wipeD, restD, Sl.keep, rgD, subD, maxLD, minLD, Bool.not_true, Bool.not_false]
            exact ⟨by decide, by decide, by omega, hA _ rfl⟩
          simp only [tsSeq, tsAsg, tsNext, tsRet, tsRetN, tsExpr, tsIf, tsFor, tsWhile, tsNever, tsAsgG, tsSetIx, tfV, tfLst, tfMove, tfList, tfLRg, tfLc, tfCall, tdFz, tdVar, tdC, tdBin, tdUn, tdTest, tdChain, tdAnd, tdOr, tdNot, tdAndV, tdOrV, tdNotV, tdIf, tdNil, tdCons, tdTup, tdLst, tdFn, tdIxO, tdLenO, tdMeth, tdSl, tdRev, toNo, toSome, tdIsi, tdIsi2, tdLenSet, tdIndex, tdYes, taNil, taCons, taOwn, tgName, tgNil, tgCons, tgTup, tiSeq, tiStr, tiRg1, tiRg2, tiRg3, tiEnum, onLst, isLst, seqOf_list, seqOf_tuple, addD, subD, divD, modD, powD, intD, negD, mulD, cmpD, i2D, lenD, ixD, List.getElem?_cons_succ, List.getElem?_cons_zero, List.set_cons_succ, List.set_cons_zero, opt_some, opt_none, opt_ite, if_true, if_false, Bool.false_eq_true, List.map_cons, List.map_nil, List.cons_append, List.nil_append, List.append_nil, List.replicate_succ, List.replicate_zero, List.length_cons, List.length_nil, rsv, ownIx, ixOf, wb, Option.getD_some, back_nil, back_zero, eqDD_int, neDD_int, eqDD_bool, neDD_bool, eqDD_str, neDD_str, ltD, leD, gtD, geD, List.nodup_nil, nodup1, at0, at1, at2, at3, at4, ixN5_1, ixN5_2, ixN5_3, Nat.reduceAdd, true_and, and_true, eq_self, List.length_singleton, slD, signsD, wipeD, restD, Sl.keep, rgD, subD, maxLD, minLD, Bool.not_true, Bool.not_false]
          refine ⟨by decide, ?_⟩
          refine lc_map (fun i : Nat => PyData.int (1 + (i : Int))) (fun k => .str (cutS "abcdefgh" none (some (1 + (k : Int))))) _ [] (by show 0 + 7 ≤ sizeLine; decide) (fun x hx A hA => ?_) ?_
          · simp only [tsSeq, tsAsg, tsNext, tsRet, tsRetN, tsExpr, tsIf, tsFor, tsWhile, tsNever, tsAsgG, tsSetIx, tfV, tfLst, tfMove, tfList, tfLRg, tfLc, tfCall, tdFz, tdVar, tdC, tdBin, tdUn, tdTest, tdChain, tdAnd, tdOr, tdNot, tdAndV, tdOrV, tdNotV, tdIf, tdNil, tdCons, tdTup, tdLst, tdFn, tdIxO, tdLenO, tdMeth, tdSl, tdRev, toNo, toSome, tdIsi, tdIsi2, tdLenSet, tdIndex, tdYes, taNil, taCons, taOwn, tgName, tgNil, tgCons, tgTup, tiSeq, tiStr, tiRg1, tiRg2, tiRg3, tiEnum, onLst, isLst, seqOf_list, seqOf_tuple, addD, subD, divD, modD, powD, intD, negD, mulD, cmpD, i2D, lenD, ixD, List.getElem?_cons_succ, List.getElem?_cons_zero, List.set_cons_succ, List.set_cons_zero, opt_some, opt_none, opt_ite, if_true, if_false, Bool.false_eq_true, List.map_cons, List.map_nil, List.cons_append, List.nil_append, List.append_nil, List.replicate_succ, List.replicate_zero, List.length_cons, List.length_nil, rsv, ownIx, ixOf, wb, Option.getD_some, back_nil, back_zero, eqDD_int, neDD_int, eqDD_bool, neDD_bool, eqDD_str, neDD_str, ltD, leD, gtD, geD, List.nodup_nil, nodup1, at0, at1, at2, at3, at4, ixN5_1, ixN5_2, ixN5_3, Nat.reduceAdd, true_and, and_true, eq_self, List.length_singleton, slD, signsD, wipeD, restD, Sl.keep, rgD, subD, maxLD, minLD, Bool.not_true, Bool.not_false]
            exact ⟨by decide, hA _ rfl⟩
          simp only [tsSeq, tsAsg, tsNext, tsRet, tsRetN, tsExpr, tsIf, tsFor, tsWhile, tsNever, tsAsgG, tsSetIx, tfV, tfLst, tfMove, tfList, tfLRg, tfLc, tfCall, tdFz, tdVar, tdC, tdBin, tdUn, tdTest, tdChain, tdAnd, tdOr, tdNot, tdAndV, tdOrV, tdNotV, tdIf, tdNil, tdCons, tdTup, tdLst, tdFn, tdIxO, tdLenO, tdMeth, tdSl, tdRev, toNo, toSome, tdIsi, tdIsi2, tdLenSet, tdIndex, tdYes, taNil, taCons, taOwn, tgName, tgNil, tgCons, tgTup, tiSeq, tiStr, tiRg1, tiRg2, tiRg3, tiEnum, onLst, isLst, seqOf_list, seqOf_tuple, addD, subD, divD, modD, powD, intD, negD, mulD, cmpD, i2D, lenD, ixD, List.getElem?_cons_succ, List.getElem?_cons_zero, List.set_cons_succ, List.set_cons_zero, opt_some, opt_none, opt_ite, if_true, if_false, Bool.false_eq_true, List.map_cons, List.map_nil, List.cons_append, List.nil_append, List.append_nil, List.replicate_succ, List.replicate_zero, List.length_cons, List.length_nil, rsv, ownIx, ixOf, wb, Option.getD_some, back_nil, back_zero, eqDD_int, neDD_int, eqDD_bool, neDD_bool, eqDD_str, neDD_str, ltD, leD, gtD, geD, List.nodup_nil, nodup1, at0, at1, at2, at3, at4, ixN5_1, ixN5_2, ixN5_3, Nat.reduceAdd, true_and, and_true, eq_self, List.length_singleton, slD, signsD, wipeD, restD, Sl.keep, rgD, subD, maxLD, minLD, Bool.not_true, Bool.not_false]
          refine ⟨by decide, ?_⟩
          have eT3 : List.map (fun k : Nat => PyData.str (cutS "abcdefgh" (some (0 + (k : Int))) none ++ cutS "abcdefgh" none (some (0 + (k : Int))))) (List.range (Int.toNat 8)) ++ List.map (fun k : Nat => PyData.str (cutS "abcdefgh" none (some (1 + (k : Int))))) (List.range (Int.toNat (8 - 1))) = T3.map PyData.str := by
            unfold T3
            rw [List.map_append, List.map_map, List.map_map]; rfl
          rw [eT3]
          subst hN
          exact last T3 b3 _ _ _ _ (.inl rfl) t3_ok (by show m ≤ 15; omega) (by show 15 ≤ 40; omega) (hb3.le (by omega))
        · simp only [decide_eq_false hy, tsSeq, tsAsg, tsNext, tsRet, tsRetN, tsExpr, tsIf, tsFor, tsWhile, tsNever, tsAsgG, tsSetIx, tfV, tfLst, tfMove, tfList, tfLRg, tfLc, tfCall, tdFz, tdVar, tdC, tdBin, tdUn, tdTest, tdChain, tdAnd, tdOr, tdNot, tdAndV, tdOrV, tdNotV, tdIf, tdNil, tdCons, tdTup, tdLst, tdFn, tdIxO, tdLenO, tdMeth, tdSl, tdRev, toNo, toSome, tdIsi, tdIsi2, tdLenSet, tdIndex, tdYes, taNil, taCons, taOwn, tgName, tgNil, tgCons, tgTup, tiSeq, tiStr, tiRg1, tiRg2, tiRg3, tiEnum, onLst, isLst, seqOf_list, seqOf_tuple, addD, subD, divD, modD, powD, intD, negD, mulD, cmpD, i2D, lenD, ixD, List.getElem?_cons_succ, List.getElem?_cons_zero, List.set_cons_succ, List.set_cons_zero, opt_some, opt_none, opt_ite, if_true, if_false, Bool.false_eq_true, List.map_cons, List.map_nil, List.cons_append, List.nil_append, List.append_nil, List.replicate_succ, List.replicate_zero, List.length_cons, List.length_nil, rsv, ownIx, ixOf, wb, Option.getD_some, back_nil, back_zero, eqDD_int, neDD_int, eqDD_bool, neDD_bool, eqDD_str, neDD_str, ltD, leD, gtD, geD, List.nodup_nil, nodup1, at0, at1, at2, at3, at4, ixN5_1, ixN5_2, ixN5_3, Nat.reduceAdd, true_and, and_true, eq_self, List.length_singleton, slD, signsD, wipeD, restD, Sl.keep, rgD, subD, maxLD, minLD, Bool.not_true, Bool.not_false]
          subst hN
          exact last (T2 a) b3 _ _ _ _ (.inr rfl) oT2 (by omega) (by omega) (hb3.le (by omega))
      · simp only [decide_eq_false h16, tsSeq, tsAsg, tsNext, tsRet, tsRetN, tsExpr, tsIf, tsFor, tsWhile, tsNever, tsAsgG, tsSetIx, tfV, tfLst, tfMove, tfList, tfLRg, tfLc, tfCall, tdFz, tdVar, tdC, tdBin, tdUn, tdTest, tdChain, tdAnd, tdOr, tdNot, tdAndV, tdOrV, tdNotV, tdIf, tdNil, tdCons, tdTup, tdLst, tdFn, tdIxO, tdLenO, tdMeth, tdSl, tdRev, toNo, toSome, tdIsi, tdIsi2, tdLenSet, tdIndex, tdYes, taNil, taCons, taOwn, tgName, tgNil, tgCons, tgTup, tiSeq, tiStr, tiRg1, tiRg2, tiRg3, tiEnum, onLst, isLst, seqOf_list, seqOf_tuple, addD, subD, divD, modD, powD, intD, negD, mulD, cmpD, i2D, lenD, ixD, List.getElem?_cons_succ, List.getElem?_cons_zero, List.set_cons_succ, List.set_cons_zero, opt_some, opt_none, opt_ite, if_true, if_false, Bool.false_eq_true, List.map_cons, List.map_nil, List.cons_append, List.nil_append, List.append_nil, List.replicate_succ, List.replicate_zero, List.length_cons, List.length_nil, rsv, ownIx, ixOf, wb, Option.getD_some, back_nil, back_zero, eqDD_int, neDD_int, eqDD_bool, neDD_bool, eqDD_str, neDD_str, ltD, leD, gtD, geD, List.nodup_nil, nodup1, at0, at1, at2, at3, at4, ixN5_1, ixN5_2, ixN5_3, Nat.reduceAdd, true_and, and_true, eq_self, List.length_singleton, slD, signsD, wipeD, restD, Sl.keep, rgD, subD, maxLD, minLD, Bool.not_true, Bool.not_false]
        subst hN
        exact last (T2 a) b2 _ _ _ _ (.inr rfl) oT2 (by omega) (by omega) (hb2.le (by omega))
    · simp only [decide_eq_false hz, tsSeq, tsAsg, tsNext, tsRet, tsRetN, tsExpr, tsIf, tsFor, tsWhile, tsNever, tsAsgG, tsSetIx, tfV, tfLst, tfMove, tfList, tfLRg, tfLc, tfCall, tdFz, tdVar, tdC, tdBin, tdUn, tdTest, tdChain, tdAnd, tdOr, tdNot, tdAndV, tdOrV, tdNotV, tdIf, tdNil, tdCons, tdTup, tdLst, tdFn, tdIxO, tdLenO, tdMeth, tdSl, tdRev, toNo, toSome, tdIsi, tdIsi2, tdLenSet, tdIndex, tdYes, taNil, taCons, taOwn, tgName, tgNil, tgCons, tgTup, tiSeq, tiStr, tiRg1, tiRg2, tiRg3, tiEnum, onLst, isLst, seqOf_list, seqOf_tuple, addD, subD, divD, modD, powD, intD, negD, mulD, cmpD, i2D, lenD, ixD, List.getElem?_cons_succ, List.getElem?_cons_zero, List.set_cons_succ, List.set_cons_zero, opt_some, opt_none, opt_ite, if_true, if_false, Bool.false_eq_true, List.map_cons, List.map_nil, List.cons_append, List.nil_append, List.append_nil, List.replicate_succ, List.replicate_zero, List.length_cons, List.length_nil, rsv, ownIx, ixOf, wb, Option.getD_some, back_nil, back_zero, eqDD_int, neDD_int, eqDD_bool, neDD_bool, eqDD_str, neDD_str, ltD, leD, gtD, geD, List.nodup_nil, nodup1, at0, at1, at2, at3, at4, ixN5_1, ixN5_2, ixN5_3, Nat.reduceAdd, true_and, and_true, eq_self, List.length_singleton, slD, signsD, wipeD, restD, Sl.keep, rgD, subD, maxLD, minLD, Bool.not_true, Bool.not_false]
      subst hN
      exact last T1 b1 _ _ _ _ (.inl rfl) t1_ok (by show m ≤ 40; omega) (by show 40 ≤ 40; omega) (hb1.le (by omega))
  · simp only [decide_eq_false h27, tsSeq, tsAsg, tsNext, tsRet, tsRetN, tsExpr, tsIf, tsFor, tsWhile, tsNever, tsAsgG, tsSetIx, tfV, tfLst, tfMove, tfList, tfLRg, tfLc, tfCall, tdFz, tdVar, tdC, tdBin, tdUn, tdTest, tdChain, tdAnd, tdOr, tdNot, tdAndV, tdOrV, tdNotV, tdIf, tdNil, tdCons, tdTup, tdLst, tdFn, tdIxO, tdLenO, tdMeth, tdSl, tdRev, toNo, toSome, tdIsi, tdIsi2, tdLenSet, tdIndex, tdYes, taNil, taCons, taOwn, tgName, tgNil, tgCons, tgTup, tiSeq, tiStr, tiRg1, tiRg2, tiRg3, tiEnum, onLst, isLst, seqOf_list, seqOf_tuple, addD, subD, divD, modD, powD, intD, negD, mulD, cmpD, i2D, lenD, ixD, List.getElem?_cons_succ, List.getElem?_cons_zero, List.set_cons_succ, List.set_cons_zero, opt_some, opt_none, opt_ite, if_true, if_false, Bool.false_eq_true, List.map_cons, List.map_nil, List.cons_append, List.nil_append, List.append_nil, List.replicate_succ, List.replicate_zero, List.length_cons, List.length_nil, rsv, ownIx, ixOf, wb, Option.getD_some, back_nil, back_zero, eqDD_int, neDD_int, eqDD_bool, neDD_bool, eqDD_str, neDD_str, ltD, leD, gtD, geD, List.nodup_nil, nodup1, at0, at1, at2, at3, at4, ixN5_1, ixN5_2, ixN5_3, Nat.reduceAdd, true_and, and_true, eq_self, List.length_singleton, slD, signsD, wipeD, restD, Sl.keep, rgD, subD, maxLD, minLD, Bool.not_true, Bool.not_false]
    subst hN
    exact last T1 b _ _ _ _ (.inl rfl) t1_ok (by show m ≤ 40; omega) (by show 40 ≤ 40; omega) (hb.le (by omega))

theorem sc__law_names : FnScope ["bag", "many", "letters", "some", "k", "at", "letter"] ["bag", "many"] (defScope (top 22)) := ⟨rfl, rfl, rfl, by decide +kernel, rfl, by decide +kernel, by decide +kernel⟩
theorem has__law_names {P : Program} {w : World} {K : Fg} {mg : Str → Option Value} {base : Heap} {f : Addr} {fd : FuncData} (T : Txt mg) (F : Fun K "_law_names" "_law_names" (top 22) f fd) (hm : mg "_law_names" = some (.ref f)) (hb : Binds K fd ["bag", "many"] []) (h__law_draw : Has P w K mg base 2 "_law_draw" ["bag", "many"] [0] (sp__law_draw)) (h__law_mixed : Has P w K mg base 3 "_law_mixed" ["bag", "row"] [0] (sp__law_mixed)) : Has P w K mg base 4 "_law_names" ["bag", "many"] [0] (sp__law_names) :=
  ⟨⟨f, fd, fnD [0] (sp__law_names) (t__law_names) F sc__law_names (fun args R E h => len__law_names h) (fun cdv A outer s H E fr W hr hfr tk => (ss_cons (s_asg (i := 2) sc__law_names.nd rfl (by first | exact .inl rfl | exact .inr rfl) (by first | exact .inl rfl | exact .inr rfl) (by rw [hfr]; decide) (pf_val pd_str))
  (ss_cons (s_asg (i := 3) sc__law_names.nd rfl (by first | exact .inl rfl | exact .inr rfl) (by first | exact .inl rfl | exact .inr rfl) (by rw [hfr]; decide) (pf_val (pd_op op_addD okD (pd_fz (pf_lc rfl sc__law_names.nd (pi_rg1 rfl T.b_range (pl_cons pd_int pl_nil)) (own := [(("k" : Str), 4)]) (blkOk (by kernel_rfl)) (by rw [hfr]; decide) (by decide) (fun _ _ _ _ _ fr' hfr' => (t_name (i := 4) sc__law_names.nd rfl (by first | exact .inl rfl | exact .inr rfl) (by first | exact .inl rfl | exact .inr rfl) (by rw [hfr', hfr]; decide))) (fun _ _ _ _ _ fr' hfr' => (pd_op op_mulD okD (pd_ix ix_D okD (pd_var (i := 2) rfl (by first | exact .inl rfl | exact .inr (.inl rfl) | exact .inr (.inr rfl))) (pd_op op_modD okD (pd_var (i := 4) rfl (by first | exact .inl rfl | exact .inr (.inl rfl) | exact .inr (.inr rfl))) pd_int) (fun _ _ => rfl)) (pd_op op_addD okD pd_int (pd_op op_divD okD (pd_var (i := 4) rfl (by first | exact .inl rfl | exact .inr (.inl rfl) | exact .inr (.inr rfl))) pd_int)))))) (pd_lst (pl_cons pd_str (pl_cons pd_str pl_nil))))))
  (ss_cons (s_if (PDw.pb (pw_and (pb_cmp (op_ltD) okD (pd_var (i := 1) rfl (by first | exact .inl rfl | exact .inr (.inl rfl) | exact .inr (.inr rfl))) pd_int (nobehind _ (by decide) (by decide))) (pw_and1 (pb_cmp (op_eqDD hr.units) okD (pd_fz (pf_callH h__law_draw (hr.mono (by decide)) rfl tk (a_own (i := 0) rfl (by first | exact .inl rfl | exact .inr (.inl rfl) | exact .inr (.inr rfl)) (a_cons pd_int a_nil)))) pd_int (nobehind _ (by decide) (by decide)))))) (ss_cons (s_asg (i := 5) sc__law_names.nd rfl (by first | exact .inl rfl | exact .inr rfl) (by first | exact .inl rfl | exact .inr rfl) (by rw [hfr]; decide) (pf_callH h__law_draw (hr.mono (by decide)) rfl tk (a_own (i := 0) rfl (by first | exact .inl rfl | exact .inr (.inl rfl) | exact .inr (.inr rfl)) (a_cons pd_int a_nil))))
  (ss_cons (s_lc (i := 3) rfl sc__law_names.nd rfl rfl (by rw [hfr]; decide) (pi_strD (pd_var (i := 2) rfl (by first | exact .inl rfl | exact .inr (.inl rfl) | exact .inr (.inr rfl)))) (own := [(("letter" : Str), 6)]) (blkOk (by kernel_rfl)) (by rw [hfr]; decide) (by decide) (fun _ _ _ _ _ fr' hfr' => (t_name (i := 6) sc__law_names.nd rfl (by first | exact .inl rfl | exact .inr rfl) (by first | exact .inl rfl | exact .inr rfl) (by rw [hfr', hfr]; decide))) (fun _ _ _ _ _ fr' hfr' => (pd_op op_addD okD (pd_op op_addD okD (pd_sl pd_str pdo_none (pdo_some (pd_var (i := 5) rfl (by first | exact .inl rfl | exact .inr (.inl rfl) | exact .inr (.inr rfl))))) (pd_var (i := 6) rfl (by first | exact .inl rfl | exact .inr (.inl rfl) | exact .inr (.inr rfl)))) (pd_sl pd_str (pdo_some (pd_var (i := 5) rfl (by first | exact .inl rfl | exact .inr (.inl rfl) | exact .inr (.inr rfl)))) pdo_none))) (sw_true rfl rfl rfl (by decide +kernel)))
  (ss_one (s_if (PDw.pb (pw_and (pb_cmp (op_ltD) okD (pd_var (i := 1) rfl (by first | exact .inl rfl | exact .inr (.inl rfl) | exact .inr (.inr rfl))) pd_int (nobehind _ (by decide) (by decide))) (pw_and1 (pb_cmp (op_eqDD hr.units) okD (pd_fz (pf_callH h__law_draw (hr.mono (by decide)) rfl tk (a_own (i := 0) rfl (by first | exact .inl rfl | exact .inr (.inl rfl) | exact .inr (.inr rfl)) (a_cons pd_int a_nil)))) pd_int (nobehind _ (by decide) (by decide)))))) (ss_one (s_asg (i := 3) sc__law_names.nd rfl (by first | exact .inl rfl | exact .inr rfl) (by first | exact .inl rfl | exact .inr rfl) (by rw [hfr]; decide) (pf_val (pd_op op_addD okD (pd_fz (pf_lc rfl sc__law_names.nd (pi_rg1 rfl T.b_range (pl_cons pd_int pl_nil)) (own := [(("k" : Str), 4)]) (blkOk (by kernel_rfl)) (by rw [hfr]; decide) (by decide) (fun _ _ _ _ _ fr' hfr' => (t_name (i := 4) sc__law_names.nd rfl (by first | exact .inl rfl | exact .inr rfl) (by first | exact .inl rfl | exact .inr rfl) (by rw [hfr', hfr]; decide))) (fun _ _ _ _ _ fr' hfr' => (pd_op op_addD okD (pd_sl pd_str (pdo_some (pd_var (i := 4) rfl (by first | exact .inl rfl | exact .inr (.inl rfl) | exact .inr (.inr rfl)))) pdo_none) (pd_sl pd_str pdo_none (pdo_some (pd_var (i := 4) rfl (by first | exact .inl rfl | exact .inr (.inl rfl) | exact .inr (.inr rfl))))))))) (pd_fz (pf_lc rfl sc__law_names.nd (pi_rg2 rfl T.b_range (pl_cons pd_int (pl_cons pd_int pl_nil))) (own := [(("k" : Str), 4)]) (blkOk (by kernel_rfl)) (by rw [hfr]; decide) (by decide) (fun _ _ _ _ _ fr' hfr' => (t_name (i := 4) sc__law_names.nd rfl (by first | exact .inl rfl | exact .inr rfl) (by first | exact .inl rfl | exact .inr rfl) (by rw [hfr', hfr]; decide))) (fun _ _ _ _ _ fr' hfr' => (pd_sl pd_str pdo_none (pdo_some (pd_var (i := 4) rfl (by first | exact .inl rfl | exact .inr (.inl rfl) | exact .inr (.inr rfl)))))))))))) ss_nil)))) ss_nil)
  (ss_one (s_ret (pf_val (pd_sl (pd_fz (pf_callH h__law_mixed (hr.mono (by decide)) rfl tk (a_own (i := 0) rfl (by first | exact .inl rfl | exact .inr (.inl rfl) | exact .inr (.inr rfl)) (a_cons (pd_var (i := 3) rfl (by first | exact .inl rfl | exact .inr (.inl rfl) | exact .inr (.inr rfl))) a_nil)))) pdo_none (pdo_some (pd_var (i := 1) rfl (by first | exact .inl rfl | exact .inr (.inl rfl) | exact .inr (.inr rfl)))))))))))) (fun args R E hp h => body__law_names h), hm, F.kp, hb⟩, mo__law_names⟩

abbrev Card := Str × Int
def cardD (c : Card) : D := .tuple [.str c.1, .int c.2]
def deckD (cs : List Card) : D := .tuple (cs.map cardD)
/-- a deck as the law draws it -/
def DeckOk (cs : List Card) : Prop := namesB (cs.map (·.1)) = true ∧ ∀ c ∈ cs, 0 ≤ c.2 ∧ c.2 < 2 ^ 100
theorem enum_map {α : Type} (f : α → D) (xs : List α) : enumD (xs.map f) = xs.zipIdx.map fun q => .tuple [.int (q.2 : Nat), f q.1] := by
  unfold enumD
  have : ∀ (xs : List α) (n : Nat), (xs.map f).zipIdx n = (xs.zipIdx n).map fun q => (f q.1, q.2) := by
    intro xs
    induction xs with
    | nil => intro n; rfl
    | cons x xs ih => intro n; simp only [List.map_cons, List.zipIdx_cons, ih]
  rw [this, List.map_map]; rfl
theorem zipIdx_fst {α : Type} (xs : List α) : ∀ n, (xs.zipIdx n).map (·.1) = xs := by
  induction xs with
  | nil => intro n; rfl
  | cons x xs ih => intro n; rw [List.zipIdx_cons, List.map_cons, ih]
theorem zipIdx_lt {α : Type} (xs : List α) : ∀ n q, q ∈ xs.zipIdx n → q.2 < n + xs.length := by
  induction xs with
  | nil => intro n q h; simp at h
  | cons x xs ih =>
    intro n q h
    rw [List.zipIdx_cons] at h
    rw [List.length_cons]
    rcases List.mem_cons.mp h with rfl | h
    · show n < _; omega
    · have := ih (n + 1) q h; omega
theorem pickI (l : List Int) (k : Int) (h0 : 0 ≤ k) (h1 : k < l.length) : ∃ x, x ∈ l ∧ atI (l.map PyData.int) k = some (.int x) := by
  obtain ⟨n, rfl⟩ : ∃ n : Nat, k = n := ⟨k.toNat, by omega⟩
  have hn : n < l.length := by omega
  exact ⟨l[n], List.getElem_mem hn, atI_nat (by simp [hn])⟩
def sp__law_deck : SpD := fun args R E => ∃ (c : Int) (b : List D) (m : Nat), args = [.lst b, .val (.int m)] ∧ Bag c b ∧ c + 1000 < 2 ^ 90 ∧ 1 ≤ m ∧ m ≤ 40 ∧ ∀ b' cs, Bag (c + 300) b' → DeckOk cs → 1 ≤ cs.length → cs.length ≤ m → R (.val (deckD cs)) [.lst b', .val (.int m)]
theorem mo__law_deck : SpMono sp__law_deck := fun args R R' E E' h1 h2 ⟨c, b, m, e, a1, a2, a3, a4, k⟩ => ⟨c, b, m, e, a1, a2, a3, a4, fun b' xs x y z w => h1 _ _ (k b' xs x y z w)⟩
theorem len__law_deck {args R E} (h : sp__law_deck args R E) : args.length = 2 := by obtain ⟨c, b, m, rfl, _⟩ := h; rfl

def t__law_deck (W : WD) : TDs :=
  (tsSeq (tsAsg (tfV (tdBin addD (tdC (.int 1)) (tdFz (tfCall [0] (sp__law_draw) W (taOwn 0 (taCons (tdVar 1) taNil)))))) 2)
  (tsSeq (tsAsg (tfCall [0] (sp__law_draw) W (taOwn 0 (taCons (tdC (.int 7)) taNil))) 3)
  (tsSeq (tsAsg (tfV (tdLst (tdCons (tdFz (tfCall [0] (sp__law_draw) W (taOwn 0 (taCons (tdVar 2) taNil)))) (tdCons (tdFz (tfCall [0] (sp__law_draw) W (taOwn 0 (taCons (tdVar 2) taNil)))) tdNil)))) 4)
  (tsSeq (tsAsg (tfLst tdNil) 5)
  (tsSeq (tsFor (tiEnum (tdCons (tdFz (tfCall [0] (sp__law_names) W (taOwn 0 (taCons (tdVar 2) taNil)))) tdNil)) (tgTup 2 (tgCons (tgName 6) (tgCons (tgName 7) tgNil))) (tsSeq (tsAsg (tfV (tdLst (tdCons (tdFz (tfCall [0] (sp__law_draw) W (taOwn 0 (taCons (tdBin addD (tdVar 2) (tdC (.int 2))) taNil)))) (tdCons (tdFn maxLD (tdCons (tdC (.int 0)) (tdCons (tdBin addD (tdBin subD (tdVar 6) (tdC (.int 1))) (tdFz (tfCall [0] (sp__law_draw) W (taOwn 0 (taCons (tdC (.int 4)) taNil))))) tdNil))) (tdCons (tdBin ixD (tdVar 4) (tdFz (tfCall [0] (sp__law_draw) W (taOwn 0 (taCons (tdC (.int 2)) taNil))))) tdNil))))) 8)
  (tsSeq (tsAsg (tfV (tdBin addD (tdVar 8) (tdLst (tdCons (tdBin addD (tdBin powD (tdC (.int 10)) (tdC (.int 29))) (tdFz (tfCall [0] (sp__law_draw) W (taOwn 0 (taCons (tdC (.int 9)) taNil))))) (tdCons (tdVar 6) (tdCons (tdBin subD (tdBin subD (tdVar 2) (tdC (.int 1))) (tdVar 6)) (tdCons (tdBin addD (tdC (.int 1)) (tdFz (tfCall [0] (sp__law_draw) W (taOwn 0 (taCons (tdVar 2) taNil))))) tdNil))))))) 8)
  (tsExpr (tdMeth 5 gAppend (tdCons (tdTup (tdCons (tdVar 7) (tdCons (tdBin ixD (tdVar 8) (tdVar 3)) tdNil))) tdNil))))))
  (tsRet (tfV (tdFn tupleD (tdCons (tdVar 5) tdNil)))))))))

theorem body__law_deck {args : List Sl} {R : Sl → List Sl → Prop} {E : Exn → List Sl → Prop} (h : sp__law_deck args R E) :
    t__law_deck (fun ex ρ => E ex (back [0] args ρ)) ⟨fun ρ => R (.val .none) (back [0] args ρ), fun s ρ => R s (back [0] args ρ)⟩ (args ++ List.replicate (9 - args.length) .no) := by
  obtain ⟨c, b, m, rfl, hb, hc, m0, m1, k⟩ := h
  have sz := sizeLine_eq
  unfold t__law_deck
  refine seq_step fun N hN => ?_
  simp only [tsSeq, tsAsg, tsNext, tsRet, tsRetN, tsExpr, tsIf, tsFor, tsWhile, tsNever, tsAsgG, tsSetIx, tfV, tfLst, tfMove, tfList, tfLRg, tfLc, tfCall, tdFz, tdVar, tdC, tdBin, tdUn, tdTest, tdChain, tdAnd, tdOr, tdNot, tdAndV, tdOrV, tdNotV, tdIf, tdNil, tdCons, tdTup, tdLst, tdFn, tdIxO, tdLenO, tdMeth, tdSl, tdRev, toNo, toSome, tdIsi, tdIsi2, tdLenSet, tdIndex, tdYes, taNil, taCons, taOwn, tgName, tgNil, tgCons, tgTup, tiSeq, tiStr, tiRg1, tiRg2, tiRg3, tiEnum, onLst, isLst, seqOf_list, seqOf_tuple, addD, subD, divD, modD, powD, intD, negD, mulD, cmpD, i2D, lenD, ixD, List.getElem?_cons_succ, List.getElem?_cons_zero, List.set_cons_succ, List.set_cons_zero, opt_some, opt_none, opt_ite, if_true, if_false, Bool.false_eq_true, List.map_cons, List.map_nil, List.cons_append, List.nil_append, List.append_nil, List.replicate_succ, List.replicate_zero, List.length_cons, List.length_nil, rsv, ownIx, ixOf, wb, Option.getD_some, back_nil, back_zero, eqDD_int, neDD_int, eqDD_bool, neDD_bool, eqDD_str, neDD_str, ltD, leD, gtD, geD, List.nodup_nil, nodup1, at0, at1, at2, at3, at4, ixN5_1, ixN5_2, ixN5_3, Nat.reduceAdd, true_and, and_true, eq_self, List.length_singleton, slD, signsD, wipeD, restD, Sl.keep, rgD, subD, maxLD, minLD, Bool.not_true, Bool.not_false]
  refine ⟨c, b, m, rfl, hb, by omega, by omega, by omega, fun b1 z hb1 z0 z1 => ?_⟩
  simp only [tsSeq, tsAsg, tsNext, tsRet, tsRetN, tsExpr, tsIf, tsFor, tsWhile, tsNever, tsAsgG, tsSetIx, tfV, tfLst, tfMove, tfList, tfLRg, tfLc, tfCall, tdFz, tdVar, tdC, tdBin, tdUn, tdTest, tdChain, tdAnd, tdOr, tdNot, tdAndV, tdOrV, tdNotV, tdIf, tdNil, tdCons, tdTup, tdLst, tdFn, tdIxO, tdLenO, tdMeth, tdSl, tdRev, toNo, toSome, tdIsi, tdIsi2, tdLenSet, tdIndex, tdYes, taNil, taCons, taOwn, tgName, tgNil, tgCons, tgTup, tiSeq, tiStr, tiRg1, tiRg2, tiRg3, tiEnum, onLst, isLst, seqOf_list, seqOf_tuple, addD, subD, divD, modD, powD, intD, negD, mulD, cmpD, i2D, lenD, ixD, List.getElem?_cons_succ, List.getElem?_cons_zero, List.set_cons_succ, List.set_cons_zero, opt_some, opt_none, opt_ite, if_true, if_false, Bool.false_eq_true, List.map_cons, List.map_nil, List.cons_append, List.nil_append, List.append_nil, List.replicate_succ, List.replicate_zero, List.length_cons, List.length_nil, rsv, ownIx, ixOf, wb, Option.getD_some, back_nil, back_zero, eqDD_int, neDD_int, eqDD_bool, neDD_bool, eqDD_str, neDD_str, ltD, leD, gtD, geD, List.nodup_nil, nodup1, at0, at1, at2, at3, at4, ixN5_1, ixN5_2, ixN5_3, Nat.reduceAdd, true_and, and_true, eq_self, List.length_singleton, slD, signsD, wipeD, restD, Sl.keep, rgD, subD, maxLD, minLD, Bool.not_true, Bool.not_false]
  obtain ⟨n, hn⟩ : ∃ n : Nat, 1 + z = n := ⟨(1 + z).toNat, by omega⟩
  rw [hn]
  have n1 : 1 ≤ n := by omega
  have nm : n ≤ m := by omega
  subst hN
  refine seq_step fun N hN => ?_
  simp only [tsSeq, tsAsg, tsNext, tsRet, tsRetN, tsExpr, tsIf, tsFor, tsWhile, tsNever, tsAsgG, tsSetIx, tfV, tfLst, tfMove, tfList, tfLRg, tfLc, tfCall, tdFz, tdVar, tdC, tdBin, tdUn, tdTest, tdChain, tdAnd, tdOr, tdNot, tdAndV, tdOrV, tdNotV, tdIf, tdNil, tdCons, tdTup, tdLst, tdFn, tdIxO, tdLenO, tdMeth, tdSl, tdRev, toNo, toSome, tdIsi, tdIsi2, tdLenSet, tdIndex, tdYes, taNil, taCons, taOwn, tgName, tgNil, tgCons, tgTup, tiSeq, tiStr, tiRg1, tiRg2, tiRg3, tiEnum, onLst, isLst, seqOf_list, seqOf_tuple, addD, subD, divD, modD, powD, intD, negD, mulD, cmpD, i2D, lenD, ixD, List.getElem?_cons_succ, List.getElem?_cons_zero, List.set_cons_succ, List.set_cons_zero, opt_some, opt_none, opt_ite, if_true, if_false, Bool.false_eq_true, List.map_cons, List.map_nil, List.cons_append, List.nil_append, List.append_nil, List.replicate_succ, List.replicate_zero, List.length_cons, List.length_nil, rsv, ownIx, ixOf, wb, Option.getD_some, back_nil, back_zero, eqDD_int, neDD_int, eqDD_bool, neDD_bool, eqDD_str, neDD_str, ltD, leD, gtD, geD, List.nodup_nil, nodup1, at0, at1, at2, at3, at4, ixN5_1, ixN5_2, ixN5_3, Nat.reduceAdd, true_and, and_true, eq_self, List.length_singleton, slD, signsD, wipeD, restD, Sl.keep, rgD, subD, maxLD, minLD, Bool.not_true, Bool.not_false]
  refine ⟨_, b1, 7, rfl, hb1, by omega, by decide, by decide, fun b2 kd hb2 k0 k1 => ?_⟩
  simp only [tsSeq, tsAsg, tsNext, tsRet, tsRetN, tsExpr, tsIf, tsFor, tsWhile, tsNever, tsAsgG, tsSetIx, tfV, tfLst, tfMove, tfList, tfLRg, tfLc, tfCall, tdFz, tdVar, tdC, tdBin, tdUn, tdTest, tdChain, tdAnd, tdOr, tdNot, tdAndV, tdOrV, tdNotV, tdIf, tdNil, tdCons, tdTup, tdLst, tdFn, tdIxO, tdLenO, tdMeth, tdSl, tdRev, toNo, toSome, tdIsi, tdIsi2, tdLenSet, tdIndex, tdYes, taNil, taCons, taOwn, tgName, tgNil, tgCons, tgTup, tiSeq, tiStr, tiRg1, tiRg2, tiRg3, tiEnum, onLst, isLst, seqOf_list, seqOf_tuple, addD, subD, divD, modD, powD, intD, negD, mulD, cmpD, i2D, lenD, ixD, List.getElem?_cons_succ, List.getElem?_cons_zero, List.set_cons_succ, List.set_cons_zero, opt_some, opt_none, opt_ite, if_true, if_false, Bool.false_eq_true, List.map_cons, List.map_nil, List.cons_append, List.nil_append, List.append_nil, List.replicate_succ, List.replicate_zero, List.length_cons, List.length_nil, rsv, ownIx, ixOf, wb, Option.getD_some, back_nil, back_zero, eqDD_int, neDD_int, eqDD_bool, neDD_bool, eqDD_str, neDD_str, ltD, leD, gtD, geD, List.nodup_nil, nodup1, at0, at1, at2, at3, at4, ixN5_1, ixN5_2, ixN5_3, Nat.reduceAdd, true_and, and_true, eq_self, List.length_singleton, slD, signsD, wipeD, restD, Sl.keep, rgD, subD, maxLD, minLD, Bool.not_true, Bool.not_false]
  subst hN
  refine seq_step fun N hN => ?_
  simp only [tsSeq, tsAsg, tsNext, tsRet, tsRetN, tsExpr, tsIf, tsFor, tsWhile, tsNever, tsAsgG, tsSetIx, tfV, tfLst, tfMove, tfList, tfLRg, tfLc, tfCall, tdFz, tdVar, tdC, tdBin, tdUn, tdTest, tdChain, tdAnd, tdOr, tdNot, tdAndV, tdOrV, tdNotV, tdIf, tdNil, tdCons, tdTup, tdLst, tdFn, tdIxO, tdLenO, tdMeth, tdSl, tdRev, toNo, toSome, tdIsi, tdIsi2, tdLenSet, tdIndex, tdYes, taNil, taCons, taOwn, tgName, tgNil, tgCons, tgTup, tiSeq, tiStr, tiRg1, tiRg2, tiRg3, tiEnum, onLst, isLst, seqOf_list, seqOf_tuple, addD, subD, divD, modD, powD, intD, negD, mulD, cmpD, i2D, lenD, ixD, List.getElem?_cons_succ, List.getElem?_cons_zero, List.set_cons_succ, List.set_cons_zero, opt_some, opt_none, opt_ite, if_true, if_false, Bool.false_eq_true, List.map_cons, List.map_nil, List.cons_append, List.nil_append, List.append_nil, List.replicate_succ, List.replicate_zero, List.length_cons, List.length_nil, rsv, ownIx, ixOf, wb, Option.getD_some, back_nil, back_zero, eqDD_int, neDD_int, eqDD_bool, neDD_bool, eqDD_str, neDD_str, ltD, leD, gtD, geD, List.nodup_nil, nodup1, at0, at1, at2, at3, at4, ixN5_1, ixN5_2, ixN5_3, Nat.reduceAdd, true_and, and_true, eq_self, List.length_singleton, slD, signsD, wipeD, restD, Sl.keep, rgD, subD, maxLD, minLD, Bool.not_true, Bool.not_false]
  refine ⟨_, b2, n, rfl, hb2, by omega, by omega, by omega, fun b3 w0 hb3 w00 w01 => ?_⟩
  simp only [tsSeq, tsAsg, tsNext, tsRet, tsRetN, tsExpr, tsIf, tsFor, tsWhile, tsNever, tsAsgG, tsSetIx, tfV, tfLst, tfMove, tfList, tfLRg, tfLc, tfCall, tdFz, tdVar, tdC, tdBin, tdUn, tdTest, tdChain, tdAnd, tdOr, tdNot, tdAndV, tdOrV, tdNotV, tdIf, tdNil, tdCons, tdTup, tdLst, tdFn, tdIxO, tdLenO, tdMeth, tdSl, tdRev, toNo, toSome, tdIsi, tdIsi2, tdLenSet, tdIndex, tdYes, taNil, taCons, taOwn, tgName, tgNil, tgCons, tgTup, tiSeq, tiStr, tiRg1, tiRg2, tiRg3, tiEnum, onLst, isLst, seqOf_list, seqOf_tuple, addD, subD, divD, modD, powD, intD, negD, mulD, cmpD, i2D, lenD, ixD, List.getElem?_cons_succ, List.getElem?_cons_zero, List.set_cons_succ, List.set_cons_zero, opt_some, opt_none, opt_ite, if_true, if_false, Bool.false_eq_true, List.map_cons, List.map_nil, List.cons_append, List.nil_append, List.append_nil, List.replicate_succ, List.replicate_zero, List.length_cons, List.length_nil, rsv, ownIx, ixOf, wb, Option.getD_some, back_nil, back_zero, eqDD_int, neDD_int, eqDD_bool, neDD_bool, eqDD_str, neDD_str, ltD, leD, gtD, geD, List.nodup_nil, nodup1, at0, at1, at2, at3, at4, ixN5_1, ixN5_2, ixN5_3, Nat.reduceAdd, true_and, and_true, eq_self, List.length_singleton, slD, signsD, wipeD, restD, Sl.keep, rgD, subD, maxLD, minLD, Bool.not_true, Bool.not_false]
  refine ⟨_, b3, n, rfl, hb3, by omega, by omega, by omega, fun b4 w1 hb4 w10 w11 => ?_⟩
  simp only [tsSeq, tsAsg, tsNext, tsRet, tsRetN, tsExpr, tsIf, tsFor, tsWhile, tsNever, tsAsgG, tsSetIx, tfV, tfLst, tfMove, tfList, tfLRg, tfLc, tfCall, tdFz, tdVar, tdC, tdBin, tdUn, tdTest, tdChain, tdAnd, tdOr, tdNot, tdAndV, tdOrV, tdNotV, tdIf, tdNil, tdCons, tdTup, tdLst, tdFn, tdIxO, tdLenO, tdMeth, tdSl, tdRev, toNo, toSome, tdIsi, tdIsi2, tdLenSet, tdIndex, tdYes, taNil, taCons, taOwn, tgName, tgNil, tgCons, tgTup, tiSeq, tiStr, tiRg1, tiRg2, tiRg3, tiEnum, onLst, isLst, seqOf_list, seqOf_tuple, addD, subD, divD, modD, powD, intD, negD, mulD, cmpD, i2D, lenD, ixD, List.getElem?_cons_succ, List.getElem?_cons_zero, List.set_cons_succ, List.set_cons_zero, opt_some, opt_none, opt_ite, if_true, if_false, Bool.false_eq_true, List.map_cons, List.map_nil, List.cons_append, List.nil_append, List.append_nil, List.replicate_succ, List.replicate_zero, List.length_cons, List.length_nil, rsv, ownIx, ixOf, wb, Option.getD_some, back_nil, back_zero, eqDD_int, neDD_int, eqDD_bool, neDD_bool, eqDD_str, neDD_str, ltD, leD, gtD, geD, List.nodup_nil, nodup1, at0, at1, at2, at3, at4, ixN5_1, ixN5_2, ixN5_3, Nat.reduceAdd, true_and, and_true, eq_self, List.length_singleton, slD, signsD, wipeD, restD, Sl.keep, rgD, subD, maxLD, minLD, Bool.not_true, Bool.not_false]
  refine ⟨by decide, ?_⟩
  subst hN
  refine seq_step fun N hN => ?_
  simp only [tsSeq, tsAsg, tsNext, tsRet, tsRetN, tsExpr, tsIf, tsFor, tsWhile, tsNever, tsAsgG, tsSetIx, tfV, tfLst, tfMove, tfList, tfLRg, tfLc, tfCall, tdFz, tdVar, tdC, tdBin, tdUn, tdTest, tdChain, tdAnd, tdOr, tdNot, tdAndV, tdOrV, tdNotV, tdIf, tdNil, tdCons, tdTup, tdLst, tdFn, tdIxO, tdLenO, tdMeth, tdSl, tdRev, toNo, toSome, tdIsi, tdIsi2, tdLenSet, tdIndex, tdYes, taNil, taCons, taOwn, tgName, tgNil, tgCons, tgTup, tiSeq, tiStr, tiRg1, tiRg2, tiRg3, tiEnum, onLst, isLst, seqOf_list, seqOf_tuple, addD, subD, divD, modD, powD, intD, negD, mulD, cmpD, i2D, lenD, ixD, List.getElem?_cons_succ, List.getElem?_cons_zero, List.set_cons_succ, List.set_cons_zero, opt_some, opt_none, opt_ite, if_true, if_false, Bool.false_eq_true, List.map_cons, List.map_nil, List.cons_append, List.nil_append, List.append_nil, List.replicate_succ, List.replicate_zero, List.length_cons, List.length_nil, rsv, ownIx, ixOf, wb, Option.getD_some, back_nil, back_zero, eqDD_int, neDD_int, eqDD_bool, neDD_bool, eqDD_str, neDD_str, ltD, leD, gtD, geD, List.nodup_nil, nodup1, at0, at1, at2, at3, at4, ixN5_1, ixN5_2, ixN5_3, Nat.reduceAdd, true_and, and_true, eq_self, List.length_singleton, slD, signsD, wipeD, restD, Sl.keep, rgD, subD, maxLD, minLD, Bool.not_true, Bool.not_false]
  refine ⟨by decide, ?_⟩
  subst hN
  refine seq_step fun N hN => ?_
  refine for_step fun g' b' hg hb' => ?_
  simp only [tsSeq, tsAsg, tsNext, tsRet, tsRetN, tsExpr, tsIf, tsFor, tsWhile, tsNever, tsAsgG, tsSetIx, tfV, tfLst, tfMove, tfList, tfLRg, tfLc, tfCall, tdFz, tdVar, tdC, tdBin, tdUn, tdTest, tdChain, tdAnd, tdOr, tdNot, tdAndV, tdOrV, tdNotV, tdIf, tdNil, tdCons, tdTup, tdLst, tdFn, tdIxO, tdLenO, tdMeth, tdSl, tdRev, toNo, toSome, tdIsi, tdIsi2, tdLenSet, tdIndex, tdYes, taNil, taCons, taOwn, tgName, tgNil, tgCons, tgTup, tiSeq, tiStr, tiRg1, tiRg2, tiRg3, tiEnum, onLst, isLst, seqOf_list, seqOf_tuple, addD, subD, divD, modD, powD, intD, negD, mulD, cmpD, i2D, lenD, ixD, List.getElem?_cons_succ, List.getElem?_cons_zero, List.set_cons_succ, List.set_cons_zero, opt_some, opt_none, opt_ite, if_true, if_false, Bool.false_eq_true, List.map_cons, List.map_nil, List.cons_append, List.nil_append, List.append_nil, List.replicate_succ, List.replicate_zero, List.length_cons, List.length_nil, rsv, ownIx, ixOf, wb, Option.getD_some, back_nil, back_zero, eqDD_int, neDD_int, eqDD_bool, neDD_bool, eqDD_str, neDD_str, ltD, leD, gtD, geD, List.nodup_nil, nodup1, at0, at1, at2, at3, at4, ixN5_1, ixN5_2, ixN5_3, Nat.reduceAdd, true_and, and_true, eq_self, List.length_singleton, slD, signsD, wipeD, restD, Sl.keep, rgD, subD, maxLD, minLD, Bool.not_true, Bool.not_false]
  refine ⟨_, b4, n, rfl, hb4, by omega, n1, by omega, fun b5 xs hb5 xok xl => ?_⟩
  simp only [tsSeq, tsAsg, tsNext, tsRet, tsRetN, tsExpr, tsIf, tsFor, tsWhile, tsNever, tsAsgG, tsSetIx, tfV, tfLst, tfMove, tfList, tfLRg, tfLc, tfCall, tdFz, tdVar, tdC, tdBin, tdUn, tdTest, tdChain, tdAnd, tdOr, tdNot, tdAndV, tdOrV, tdNotV, tdIf, tdNil, tdCons, tdTup, tdLst, tdFn, tdIxO, tdLenO, tdMeth, tdSl, tdRev, toNo, toSome, tdIsi, tdIsi2, tdLenSet, tdIndex, tdYes, taNil, taCons, taOwn, tgName, tgNil, tgCons, tgTup, tiSeq, tiStr, tiRg1, tiRg2, tiRg3, tiEnum, onLst, isLst, seqOf_list, seqOf_tuple, addD, subD, divD, modD, powD, intD, negD, mulD, cmpD, i2D, lenD, ixD, List.getElem?_cons_succ, List.getElem?_cons_zero, List.set_cons_succ, List.set_cons_zero, opt_some, opt_none, opt_ite, if_true, if_false, Bool.false_eq_true, List.map_cons, List.map_nil, List.cons_append, List.nil_append, List.append_nil, List.replicate_succ, List.replicate_zero, List.length_cons, List.length_nil, rsv, ownIx, ixOf, wb, Option.getD_some, back_nil, back_zero, eqDD_int, neDD_int, eqDD_bool, neDD_bool, eqDD_str, neDD_str, ltD, leD, gtD, geD, List.nodup_nil, nodup1, at0, at1, at2, at3, at4, ixN5_1, ixN5_2, ixN5_3, Nat.reduceAdd, true_and, and_true, eq_self, List.length_singleton, slD, signsD, wipeD, restD, Sl.keep, rgD, subD, maxLD, minLD, Bool.not_true, Bool.not_false]
  rw [enum_map]
  have hc5 : (c + 1 + 1 + 1 + 1 + 50 : Int) = c + 54 := by omega
  rw [hc5] at hb5
  refine loop_ind (fun q : Str × Nat => PyData.tuple [.int (q.2 : Nat), .str q.1]) (fun rest ρ => ∃ (b6 : List D) (cs : List Card) (s6 s7 s8 : Sl), ρ = [.lst b6, .val (.int m), .val (.int n), .val (.int kd), .val (.list [.int w0, .int w1]), .lst (cs.map cardD), s6, s7, s8] ∧ Bag (c + 54 + 5 * cs.length) b6 ∧ cs.map (·.1) ++ rest.map (·.1) = xs ∧ (∀ x ∈ cs, 0 ≤ x.2 ∧ x.2 < 2 ^ 100) ∧ ∀ q ∈ rest, q.2 < n) ?_ ?_ _ _
    ⟨b5, [], _, _, _, rfl, by simpa using hb5, by rw [zipIdx_fst]; rfl, by simp, fun q hq => by have := zipIdx_lt xs 0 q hq; omega⟩
  · rintro q rest ρ ih ⟨b6, cs, s6, s7, s8, rfl, hb6, hx, hd, hq⟩
    have hl : cs.length + 1 ≤ n := by
      have := congrArg List.length hx
      rw [List.length_append, List.length_map, List.length_map, List.length_cons] at this
      omega
    have hqn := hq q List.mem_cons_self
    subst hg
    simp only [tsSeq, tsAsg, tsNext, tsRet, tsRetN, tsExpr, tsIf, tsFor, tsWhile, tsNever, tsAsgG, tsSetIx, tfV, tfLst, tfMove, tfList, tfLRg, tfLc, tfCall, tdFz, tdVar, tdC, tdBin, tdUn, tdTest, tdChain, tdAnd, tdOr, tdNot, tdAndV, tdOrV, tdNotV, tdIf, tdNil, tdCons, tdTup, tdLst, tdFn, tdIxO, tdLenO, tdMeth, tdSl, tdRev, toNo, toSome, tdIsi, tdIsi2, tdLenSet, tdIndex, tdYes, taNil, taCons, taOwn, tgName, tgNil, tgCons, tgTup, tiSeq, tiStr, tiRg1, tiRg2, tiRg3, tiEnum, onLst, isLst, seqOf_list, seqOf_tuple, addD, subD, divD, modD, powD, intD, negD, mulD, cmpD, i2D, lenD, ixD, List.getElem?_cons_succ, List.getElem?_cons_zero, List.set_cons_succ, List.set_cons_zero, opt_some, opt_none, opt_ite, if_true, if_false, Bool.false_eq_true, List.map_cons, List.map_nil, List.cons_append, List.nil_append, List.append_nil, List.replicate_succ, List.replicate_zero, List.length_cons, List.length_nil, rsv, ownIx, ixOf, wb, Option.getD_some, back_nil, back_zero, eqDD_int, neDD_int, eqDD_bool, neDD_bool, eqDD_str, neDD_str, ltD, leD, gtD, geD, List.nodup_nil, nodup1, at0, at1, at2, at3, at4, ixN5_1, ixN5_2, ixN5_3, Nat.reduceAdd, true_and, and_true, eq_self, List.length_singleton, slD, signsD, wipeD, restD, Sl.keep, rgD, subD, maxLD, minLD, Bool.not_true, Bool.not_false]
    subst hb'
    refine seq_step fun N2 hN2 => ?_
    simp only [tsSeq, tsAsg, tsNext, tsRet, tsRetN, tsExpr, tsIf, tsFor, tsWhile, tsNever, tsAsgG, tsSetIx, tfV, tfLst, tfMove, tfList, tfLRg, tfLc, tfCall, tdFz, tdVar, tdC, tdBin, tdUn, tdTest, tdChain, tdAnd, tdOr, tdNot, tdAndV, tdOrV, tdNotV, tdIf, tdNil, tdCons, tdTup, tdLst, tdFn, tdIxO, tdLenO, tdMeth, tdSl, tdRev, toNo, toSome, tdIsi, tdIsi2, tdLenSet, tdIndex, tdYes, taNil, taCons, taOwn, tgName, tgNil, tgCons, tgTup, tiSeq, tiStr, tiRg1, tiRg2, tiRg3, tiEnum, onLst, isLst, seqOf_list, seqOf_tuple, addD, subD, divD, modD, powD, intD, negD, mulD, cmpD, i2D, lenD, ixD, List.getElem?_cons_succ, List.getElem?_cons_zero, List.set_cons_succ, List.set_cons_zero, opt_some, opt_none, opt_ite, if_true, if_false, Bool.false_eq_true, List.map_cons, List.map_nil, List.cons_append, List.nil_append, List.append_nil, List.replicate_succ, List.replicate_zero, List.length_cons, List.length_nil, rsv, ownIx, ixOf, wb, Option.getD_some, back_nil, back_zero, eqDD_int, neDD_int, eqDD_bool, neDD_bool, eqDD_str, neDD_str, ltD, leD, gtD, geD, List.nodup_nil, nodup1, at0, at1, at2, at3, at4, ixN5_1, ixN5_2, ixN5_3, Nat.reduceAdd, true_and, and_true, eq_self, List.length_singleton, slD, signsD, wipeD, restD, Sl.keep, rgD, subD, maxLD, minLD, Bool.not_true, Bool.not_false]
    refine ⟨_, b6, _, rfl, hb6, by omega, by omega, by omega, fun b7 x0 hb7 x00 x01 => ?_⟩
    simp only [tsSeq, tsAsg, tsNext, tsRet, tsRetN, tsExpr, tsIf, tsFor, tsWhile, tsNever, tsAsgG, tsSetIx, tfV, tfLst, tfMove, tfList, tfLRg, tfLc, tfCall, tdFz, tdVar, tdC, tdBin, tdUn, tdTest, tdChain, tdAnd, tdOr, tdNot, tdAndV, tdOrV, tdNotV, tdIf, tdNil, tdCons, tdTup, tdLst, tdFn, tdIxO, tdLenO, tdMeth, tdSl, tdRev, toNo, toSome, tdIsi, tdIsi2, tdLenSet, tdIndex, tdYes, taNil, taCons, taOwn, tgName, tgNil, tgCons, tgTup, tiSeq, tiStr, tiRg1, tiRg2, tiRg3, tiEnum, onLst, isLst, seqOf_list, seqOf_tuple, addD, subD, divD, modD, powD, intD, negD, mulD, cmpD, i2D, lenD, ixD, List.getElem?_cons_succ, List.getElem?_cons_zero, List.set_cons_succ, List.set_cons_zero, opt_some, opt_none, opt_ite, if_true, if_false, Bool.false_eq_true, List.map_cons, List.map_nil, List.cons_append, List.nil_append, List.append_nil, List.replicate_succ, List.replicate_zero, List.length_cons, List.length_nil, rsv, ownIx, ixOf, wb, Option.getD_some, back_nil, back_zero, eqDD_int, neDD_int, eqDD_bool, neDD_bool, eqDD_str, neDD_str, ltD, leD, gtD, geD, List.nodup_nil, nodup1, at0, at1, at2, at3, at4, ixN5_1, ixN5_2, ixN5_3, Nat.reduceAdd, true_and, and_true, eq_self, List.length_singleton, slD, signsD, wipeD, restD, Sl.keep, rgD, subD, maxLD, minLD, Bool.not_true, Bool.not_false]
    refine ⟨_, b7, _, rfl, hb7, by omega, by decide, by decide, fun b8 x1 hb8 x10 x11 => ?_⟩
    simp only [tsSeq, tsAsg, tsNext, tsRet, tsRetN, tsExpr, tsIf, tsFor, tsWhile, tsNever, tsAsgG, tsSetIx, tfV, tfLst, tfMove, tfList, tfLRg, tfLc, tfCall, tdFz, tdVar, tdC, tdBin, tdUn, tdTest, tdChain, tdAnd, tdOr, tdNot, tdAndV, tdOrV, tdNotV, tdIf, tdNil, tdCons, tdTup, tdLst, tdFn, tdIxO, tdLenO, tdMeth, tdSl, tdRev, toNo, toSome, tdIsi, tdIsi2, tdLenSet, tdIndex, tdYes, taNil, taCons, taOwn, tgName, tgNil, tgCons, tgTup, tiSeq, tiStr, tiRg1, tiRg2, tiRg3, tiEnum, onLst, isLst, seqOf_list, seqOf_tuple, addD, subD, divD, modD, powD, intD, negD, mulD, cmpD, i2D, lenD, ixD, List.getElem?_cons_succ, List.getElem?_cons_zero, List.set_cons_succ, List.set_cons_zero, opt_some, opt_none, opt_ite, if_true, if_false, Bool.false_eq_true, List.map_cons, List.map_nil, List.cons_append, List.nil_append, List.append_nil, List.replicate_succ, List.replicate_zero, List.length_cons, List.length_nil, rsv, ownIx, ixOf, wb, Option.getD_some, back_nil, back_zero, eqDD_int, neDD_int, eqDD_bool, neDD_bool, eqDD_str, neDD_str, ltD, leD, gtD, geD, List.nodup_nil, nodup1, at0, at1, at2, at3, at4, ixN5_1, ixN5_2, ixN5_3, Nat.reduceAdd, true_and, and_true, eq_self, List.length_singleton, slD, signsD, wipeD, restD, Sl.keep, rgD, subD, maxLD, minLD, Bool.not_true, Bool.not_false]
    refine ⟨_, b8, _, rfl, hb8, by omega, by decide, by decide, fun b9 x2 hb9 x20 x21 => ?_⟩
    simp only [tsSeq, tsAsg, tsNext, tsRet, tsRetN, tsExpr, tsIf, tsFor, tsWhile, tsNever, tsAsgG, tsSetIx, tfV, tfLst, tfMove, tfList, tfLRg, tfLc, tfCall, tdFz, tdVar, tdC, tdBin, tdUn, tdTest, tdChain, tdAnd, tdOr, tdNot, tdAndV, tdOrV, tdNotV, tdIf, tdNil, tdCons, tdTup, tdLst, tdFn, tdIxO, tdLenO, tdMeth, tdSl, tdRev, toNo, toSome, tdIsi, tdIsi2, tdLenSet, tdIndex, tdYes, taNil, taCons, taOwn, tgName, tgNil, tgCons, tgTup, tiSeq, tiStr, tiRg1, tiRg2, tiRg3, tiEnum, onLst, isLst, seqOf_list, seqOf_tuple, addD, subD, divD, modD, powD, intD, negD, mulD, cmpD, i2D, lenD, ixD, List.getElem?_cons_succ, List.getElem?_cons_zero, List.set_cons_succ, List.set_cons_zero, opt_some, opt_none, opt_ite, if_true, if_false, Bool.false_eq_true, List.map_cons, List.map_nil, List.cons_append, List.nil_append, List.append_nil, List.replicate_succ, List.replicate_zero, List.length_cons, List.length_nil, rsv, ownIx, ixOf, wb, Option.getD_some, back_nil, back_zero, eqDD_int, neDD_int, eqDD_bool, neDD_bool, eqDD_str, neDD_str, ltD, leD, gtD, geD, List.nodup_nil, nodup1, at0, at1, at2, at3, at4, ixN5_1, ixN5_2, ixN5_3, Nat.reduceAdd, true_and, and_true, eq_self, List.length_singleton, slD, signsD, wipeD, restD, Sl.keep, rgD, subD, maxLD, minLD, Bool.not_true, Bool.not_false]
    obtain ⟨w, hw, ew⟩ := pickI [w0, w1] x2 x20 (by simpa using x21)
    have ew : atI [PyData.int w0, PyData.int w1] x2 = some (.int w) := ew
    rw [ew]
    simp only [tsSeq, tsAsg, tsNext, tsRet, tsRetN, tsExpr, tsIf, tsFor, tsWhile, tsNever, tsAsgG, tsSetIx, tfV, tfLst, tfMove, tfList, tfLRg, tfLc, tfCall, tdFz, tdVar, tdC, tdBin, tdUn, tdTest, tdChain, tdAnd, tdOr, tdNot, tdAndV, tdOrV, tdNotV, tdIf, tdNil, tdCons, tdTup, tdLst, tdFn, tdIxO, tdLenO, tdMeth, tdSl, tdRev, toNo, toSome, tdIsi, tdIsi2, tdLenSet, tdIndex, tdYes, taNil, taCons, taOwn, tgName, tgNil, tgCons, tgTup, tiSeq, tiStr, tiRg1, tiRg2, tiRg3, tiEnum, onLst, isLst, seqOf_list, seqOf_tuple, addD, subD, divD, modD, powD, intD, negD, mulD, cmpD, i2D, lenD, ixD, List.getElem?_cons_succ, List.getElem?_cons_zero, List.set_cons_succ, List.set_cons_zero, opt_some, opt_none, opt_ite, if_true, if_false, Bool.false_eq_true, List.map_cons, List.map_nil, List.cons_append, List.nil_append, List.append_nil, List.replicate_succ, List.replicate_zero, List.length_cons, List.length_nil, rsv, ownIx, ixOf, wb, Option.getD_some, back_nil, back_zero, eqDD_int, neDD_int, eqDD_bool, neDD_bool, eqDD_str, neDD_str, ltD, leD, gtD, geD, List.nodup_nil, nodup1, at0, at1, at2, at3, at4, ixN5_1, ixN5_2, ixN5_3, Nat.reduceAdd, true_and, and_true, eq_self, List.length_singleton, slD, signsD, wipeD, restD, Sl.keep, rgD, subD, maxLD, minLD, Bool.not_true, Bool.not_false]
    refine ⟨by decide, ?_⟩
    have hw2 : 0 ≤ w ∧ w < n := by
      simp only [List.mem_cons, List.mem_singleton, List.not_mem_nil, or_false] at hw
      rcases hw with rfl | rfl
      · exact ⟨w00, w01⟩
      · exact ⟨w10, w11⟩
    subst hN2
    refine seq_step fun N2 hN2 => ?_
    simp only [tsSeq, tsAsg, tsNext, tsRet, tsRetN, tsExpr, tsIf, tsFor, tsWhile, tsNever, tsAsgG, tsSetIx, tfV, tfLst, tfMove, tfList, tfLRg, tfLc, tfCall, tdFz, tdVar, tdC, tdBin, tdUn, tdTest, tdChain, tdAnd, tdOr, tdNot, tdAndV, tdOrV, tdNotV, tdIf, tdNil, tdCons, tdTup, tdLst, tdFn, tdIxO, tdLenO, tdMeth, tdSl, tdRev, toNo, toSome, tdIsi, tdIsi2, tdLenSet, tdIndex, tdYes, taNil, taCons, taOwn, tgName, tgNil, tgCons, tgTup, tiSeq, tiStr, tiRg1, tiRg2, tiRg3, tiEnum, onLst, isLst, seqOf_list, seqOf_tuple, addD, subD, divD, modD, powD, intD, negD, mulD, cmpD, i2D, lenD, ixD, List.getElem?_cons_succ, List.getElem?_cons_zero, List.set_cons_succ, List.set_cons_zero, opt_some, opt_none, opt_ite, if_true, if_false, Bool.false_eq_true, List.map_cons, List.map_nil, List.cons_append, List.nil_append, List.append_nil, List.replicate_succ, List.replicate_zero, List.length_cons, List.length_nil, rsv, ownIx, ixOf, wb, Option.getD_some, back_nil, back_zero, eqDD_int, neDD_int, eqDD_bool, neDD_bool, eqDD_str, neDD_str, ltD, leD, gtD, geD, List.nodup_nil, nodup1, at0, at1, at2, at3, at4, ixN5_1, ixN5_2, ixN5_3, Nat.reduceAdd, true_and, and_true, eq_self, List.length_singleton, slD, signsD, wipeD, restD, Sl.keep, rgD, subD, maxLD, minLD, Bool.not_true, Bool.not_false]
    have e29 : CPow 10 29 := by decide
    refine ⟨e29, _, b9, _, rfl, hb9, by omega, by decide, by decide, fun b10 x3 hb10 x30 x31 => ?_⟩
    simp only [tsSeq, tsAsg, tsNext, tsRet, tsRetN, tsExpr, tsIf, tsFor, tsWhile, tsNever, tsAsgG, tsSetIx, tfV, tfLst, tfMove, tfList, tfLRg, tfLc, tfCall, tdFz, tdVar, tdC, tdBin, tdUn, tdTest, tdChain, tdAnd, tdOr, tdNot, tdAndV, tdOrV, tdNotV, tdIf, tdNil, tdCons, tdTup, tdLst, tdFn, tdIxO, tdLenO, tdMeth, tdSl, tdRev, toNo, toSome, tdIsi, tdIsi2, tdLenSet, tdIndex, tdYes, taNil, taCons, taOwn, tgName, tgNil, tgCons, tgTup, tiSeq, tiStr, tiRg1, tiRg2, tiRg3, tiEnum, onLst, isLst, seqOf_list, seqOf_tuple, addD, subD, divD, modD, powD, intD, negD, mulD, cmpD, i2D, lenD, ixD, List.getElem?_cons_succ, List.getElem?_cons_zero, List.set_cons_succ, List.set_cons_zero, opt_some, opt_none, opt_ite, if_true, if_false, Bool.false_eq_true, List.map_cons, List.map_nil, List.cons_append, List.nil_append, List.append_nil, List.replicate_succ, List.replicate_zero, List.length_cons, List.length_nil, rsv, ownIx, ixOf, wb, Option.getD_some, back_nil, back_zero, eqDD_int, neDD_int, eqDD_bool, neDD_bool, eqDD_str, neDD_str, ltD, leD, gtD, geD, List.nodup_nil, nodup1, at0, at1, at2, at3, at4, ixN5_1, ixN5_2, ixN5_3, Nat.reduceAdd, true_and, and_true, eq_self, List.length_singleton, slD, signsD, wipeD, restD, Sl.keep, rgD, subD, maxLD, minLD, Bool.not_true, Bool.not_false]
    refine ⟨_, b10, _, rfl, hb10, by omega, by omega, by omega, fun b11 x4 hb11 x40 x41 => ?_⟩
    simp only [tsSeq, tsAsg, tsNext, tsRet, tsRetN, tsExpr, tsIf, tsFor, tsWhile, tsNever, tsAsgG, tsSetIx, tfV, tfLst, tfMove, tfList, tfLRg, tfLc, tfCall, tdFz, tdVar, tdC, tdBin, tdUn, tdTest, tdChain, tdAnd, tdOr, tdNot, tdAndV, tdOrV, tdNotV, tdIf, tdNil, tdCons, tdTup, tdLst, tdFn, tdIxO, tdLenO, tdMeth, tdSl, tdRev, toNo, toSome, tdIsi, tdIsi2, tdLenSet, tdIndex, tdYes, taNil, taCons, taOwn, tgName, tgNil, tgCons, tgTup, tiSeq, tiStr, tiRg1, tiRg2, tiRg3, tiEnum, onLst, isLst, seqOf_list, seqOf_tuple, addD, subD, divD, modD, powD, intD, negD, mulD, cmpD, i2D, lenD, ixD, List.getElem?_cons_succ, List.getElem?_cons_zero, List.set_cons_succ, List.set_cons_zero, opt_some, opt_none, opt_ite, if_true, if_false, Bool.false_eq_true, List.map_cons, List.map_nil, List.cons_append, List.nil_append, List.append_nil, List.replicate_succ, List.replicate_zero, List.length_cons, List.length_nil, rsv, ownIx, ixOf, wb, Option.getD_some, back_nil, back_zero, eqDD_int, neDD_int, eqDD_bool, neDD_bool, eqDD_str, neDD_str, ltD, leD, gtD, geD, List.nodup_nil, nodup1, at0, at1, at2, at3, at4, ixN5_1, ixN5_2, ixN5_3, Nat.reduceAdd, true_and, and_true, eq_self, List.length_singleton, slD, signsD, wipeD, restD, Sl.keep, rgD, subD, maxLD, minLD, Bool.not_true, Bool.not_false]
    refine ⟨by decide, by decide, ?_⟩
    subst hN2
    obtain ⟨v, hv, ev⟩ := pickI [x0, if (q.2 : Int) - 1 + x1 > 0 then (q.2 : Int) - 1 + x1 else 0, w, 10 ^ Int.toNat 29 + x3, (q.2 : Int), n - 1 - q.2, 1 + x4] kd k0 (by simpa using k1)
    simp only [List.map_cons, List.map_nil] at ev
    simp only [gAppend, ev, tsSeq, tsAsg, tsNext, tsRet, tsRetN, tsExpr, tsIf, tsFor, tsWhile, tsNever, tsAsgG, tsSetIx, tfV, tfLst, tfMove, tfList, tfLRg, tfLc, tfCall, tdFz, tdVar, tdC, tdBin, tdUn, tdTest, tdChain, tdAnd, tdOr, tdNot, tdAndV, tdOrV, tdNotV, tdIf, tdNil, tdCons, tdTup, tdLst, tdFn, tdIxO, tdLenO, tdMeth, tdSl, tdRev, toNo, toSome, tdIsi, tdIsi2, tdLenSet, tdIndex, tdYes, taNil, taCons, taOwn, tgName, tgNil, tgCons, tgTup, tiSeq, tiStr, tiRg1, tiRg2, tiRg3, tiEnum, onLst, isLst, seqOf_list, seqOf_tuple, addD, subD, divD, modD, powD, intD, negD, mulD, cmpD, i2D, lenD, ixD, List.getElem?_cons_succ, List.getElem?_cons_zero, List.set_cons_succ, List.set_cons_zero, opt_some, opt_none, opt_ite, if_true, if_false, Bool.false_eq_true, List.map_cons, List.map_nil, List.cons_append, List.nil_append, List.append_nil, List.replicate_succ, List.replicate_zero, List.length_cons, List.length_nil, rsv, ownIx, ixOf, wb, Option.getD_some, back_nil, back_zero, eqDD_int, neDD_int, eqDD_bool, neDD_bool, eqDD_str, neDD_str, ltD, leD, gtD, geD, List.nodup_nil, nodup1, at0, at1, at2, at3, at4, ixN5_1, ixN5_2, ixN5_3, Nat.reduceAdd, true_and, and_true, eq_self, List.length_singleton, slD, signsD, wipeD, restD, Sl.keep, rgD, subD, maxLD, minLD, Bool.not_true, Bool.not_false]
    have hv2 : 0 ≤ v ∧ v < 2 ^ 100 := by
      simp only [List.mem_cons, List.mem_singleton, List.not_mem_nil, or_false] at hv
      have e10 : (10 : Int) ^ Int.toNat 29 = 100000000000000000000000000000 := by decide
      rw [e10] at hv
      rcases hv with rfl | rfl | rfl | rfl | rfl | rfl | rfl
      · omega
      · split <;> omega
      · omega
      · omega
      · omega
      · omega
      · omega
    refine ⟨by decide, by rw [List.length_map]; omega, ?_⟩
    refine ih _ ⟨b11, cs ++ [(q.1, v)], _, _, _, by rw [List.map_append]; rfl, ?_, ?_, ?_, fun q' hq' => hq q' (List.mem_cons_of_mem _ hq')⟩
    · rw [List.length_append, List.length_singleton]
      exact hb11.le (by omega)
    · rw [List.map_append, List.append_assoc]
      rw [List.map_cons] at hx
      exact hx
    · intro y hy
      rcases List.mem_append.mp hy with hy | hy
      · exact hd y hy
      · rw [List.mem_singleton.mp hy]; exact hv2
  · rintro ρ ⟨b6, cs, s6, s7, s8, rfl, hb6, hx, hd, hq⟩
    rw [List.map_nil, List.append_nil] at hx
    have hcl : cs.length = n := by rw [← xl, ← hx, List.length_map]
    subst hN
    simp only [tupleD, tsSeq, tsAsg, tsNext, tsRet, tsRetN, tsExpr, tsIf, tsFor, tsWhile, tsNever, tsAsgG, tsSetIx, tfV, tfLst, tfMove, tfList, tfLRg, tfLc, tfCall, tdFz, tdVar, tdC, tdBin, tdUn, tdTest, tdChain, tdAnd, tdOr, tdNot, tdAndV, tdOrV, tdNotV, tdIf, tdNil, tdCons, tdTup, tdLst, tdFn, tdIxO, tdLenO, tdMeth, tdSl, tdRev, toNo, toSome, tdIsi, tdIsi2, tdLenSet, tdIndex, tdYes, taNil, taCons, taOwn, tgName, tgNil, tgCons, tgTup, tiSeq, tiStr, tiRg1, tiRg2, tiRg3, tiEnum, onLst, isLst, seqOf_list, seqOf_tuple, addD, subD, divD, modD, powD, intD, negD, mulD, cmpD, i2D, lenD, ixD, List.getElem?_cons_succ, List.getElem?_cons_zero, List.set_cons_succ, List.set_cons_zero, opt_some, opt_none, opt_ite, if_true, if_false, Bool.false_eq_true, List.map_cons, List.map_nil, List.cons_append, List.nil_append, List.append_nil, List.replicate_succ, List.replicate_zero, List.length_cons, List.length_nil, rsv, ownIx, ixOf, wb, Option.getD_some, back_nil, back_zero, eqDD_int, neDD_int, eqDD_bool, neDD_bool, eqDD_str, neDD_str, ltD, leD, gtD, geD, List.nodup_nil, nodup1, at0, at1, at2, at3, at4, ixN5_1, ixN5_2, ixN5_3, Nat.reduceAdd, true_and, and_true, eq_self, List.length_singleton, slD, signsD, wipeD, restD, Sl.keep, rgD, subD, maxLD, minLD, Bool.not_true, Bool.not_false]
    exact k b6 cs (hb6.le (by omega)) ⟨by rw [hx]; exact xok, hd⟩ (by omega) (by omega)

theorem sc__law_deck : FnScope ["bag", "most", "many", "kind", "two", "found", "place", "name", "some"] ["bag", "most"] (defScope (top 23)) := ⟨rfl, rfl, rfl, by decide +kernel, rfl, by decide +kernel, by decide +kernel⟩
theorem has__law_deck {P : Program} {w : World} {K : Fg} {mg : Str → Option Value} {base : Heap} {f : Addr} {fd : FuncData} (T : Txt mg) (F : Fun K "_law_deck" "_law_deck" (top 23) f fd) (hm : mg "_law_deck" = some (.ref f)) (hb : Binds K fd ["bag", "most"] []) (h__law_draw : Has P w K mg base 2 "_law_draw" ["bag", "many"] [0] (sp__law_draw)) (h__law_names : Has P w K mg base 4 "_law_names" ["bag", "many"] [0] (sp__law_names)) : Has P w K mg base 5 "_law_deck" ["bag", "most"] [0] (sp__law_deck) :=
  ⟨⟨f, fd, fnD [0] (sp__law_deck) (t__law_deck) F sc__law_deck (fun args R E h => len__law_deck h) (fun cdv A outer s H E fr W hr hfr tk => (ss_cons (s_asg (i := 2) sc__law_deck.nd rfl (by first | exact .inl rfl | exact .inr rfl) (by first | exact .inl rfl | exact .inr rfl) (by rw [hfr]; decide) (pf_val (pd_op op_addD okD pd_int (pd_fz (pf_callH h__law_draw (hr.mono (by decide)) rfl tk (a_own (i := 0) rfl (by first | exact .inl rfl | exact .inr (.inl rfl) | exact .inr (.inr rfl)) (a_cons (pd_var (i := 1) rfl (by first | exact .inl rfl | exact .inr (.inl rfl) | exact .inr (.inr rfl))) a_nil)))))))
  (ss_cons (s_asg (i := 3) sc__law_deck.nd rfl (by first | exact .inl rfl | exact .inr rfl) (by first | exact .inl rfl | exact .inr rfl) (by rw [hfr]; decide) (pf_callH h__law_draw (hr.mono (by decide)) rfl tk (a_own (i := 0) rfl (by first | exact .inl rfl | exact .inr (.inl rfl) | exact .inr (.inr rfl)) (a_cons pd_int a_nil))))
  (ss_cons (s_asg (i := 4) sc__law_deck.nd rfl (by first | exact .inl rfl | exact .inr rfl) (by first | exact .inl rfl | exact .inr rfl) (by rw [hfr]; decide) (pf_val (pd_lst (pl_cons (pd_fz (pf_callH h__law_draw (hr.mono (by decide)) rfl tk (a_own (i := 0) rfl (by first | exact .inl rfl | exact .inr (.inl rfl) | exact .inr (.inr rfl)) (a_cons (pd_var (i := 2) rfl (by first | exact .inl rfl | exact .inr (.inl rfl) | exact .inr (.inr rfl))) a_nil)))) (pl_cons (pd_fz (pf_callH h__law_draw (hr.mono (by decide)) rfl tk (a_own (i := 0) rfl (by first | exact .inl rfl | exact .inr (.inl rfl) | exact .inr (.inr rfl)) (a_cons (pd_var (i := 2) rfl (by first | exact .inl rfl | exact .inr (.inl rfl) | exact .inr (.inr rfl))) a_nil)))) pl_nil)))))
  (ss_cons (s_asg (i := 5) sc__law_deck.nd rfl (by first | exact .inl rfl | exact .inr rfl) (by first | exact .inl rfl | exact .inr rfl) (by rw [hfr]; decide) (pf_lst pl_nil))
  (ss_cons (s_for passB rfl (pi_enumD rfl T.b_enumerate (pl_cons (pd_fz (pf_callH h__law_names (hr.mono (by decide)) rfl tk (a_own (i := 0) rfl (by first | exact .inl rfl | exact .inr (.inl rfl) | exact .inr (.inr rfl)) (a_cons (pd_var (i := 2) rfl (by first | exact .inl rfl | exact .inr (.inl rfl) | exact .inr (.inr rfl))) a_nil)))) pl_nil)) (t_tup rfl (ts_cons (t_name (i := 6) sc__law_deck.nd rfl (by first | exact .inl rfl | exact .inr rfl) (by first | exact .inl rfl | exact .inr rfl) (by rw [hfr]; decide)) (ts_cons (t_name (i := 7) sc__law_deck.nd rfl (by first | exact .inl rfl | exact .inr rfl) (by first | exact .inl rfl | exact .inr rfl) (by rw [hfr]; decide)) ts_nil))) (ss_cons (s_asg (i := 8) sc__law_deck.nd rfl (by first | exact .inl rfl | exact .inr rfl) (by first | exact .inl rfl | exact .inr rfl) (by rw [hfr]; decide) (pf_val (pd_lst (pl_cons (pd_fz (pf_callH h__law_draw (hr.mono (by decide)) rfl tk (a_own (i := 0) rfl (by first | exact .inl rfl | exact .inr (.inl rfl) | exact .inr (.inr rfl)) (a_cons (pd_op op_addD okD (pd_var (i := 2) rfl (by first | exact .inl rfl | exact .inr (.inl rfl) | exact .inr (.inr rfl))) pd_int) a_nil)))) (pl_cons (pd_callB (call_maxD rfl) okL rfl T.b_max bt_max (pl_cons pd_int (pl_cons (pd_op op_addD okD (pd_op op_subD okD (pd_var (i := 6) rfl (by first | exact .inl rfl | exact .inr (.inl rfl) | exact .inr (.inr rfl))) pd_int) (pd_fz (pf_callH h__law_draw (hr.mono (by decide)) rfl tk (a_own (i := 0) rfl (by first | exact .inl rfl | exact .inr (.inl rfl) | exact .inr (.inr rfl)) (a_cons pd_int a_nil))))) pl_nil))) (pl_cons (pd_ix ix_D okD (pd_var (i := 4) rfl (by first | exact .inl rfl | exact .inr (.inl rfl) | exact .inr (.inr rfl))) (pd_fz (pf_callH h__law_draw (hr.mono (by decide)) rfl tk (a_own (i := 0) rfl (by first | exact .inl rfl | exact .inr (.inl rfl) | exact .inr (.inr rfl)) (a_cons pd_int a_nil)))) (fun _ _ => rfl)) pl_nil))))))
  (ss_cons (s_asg (i := 8) sc__law_deck.nd rfl (by first | exact .inl rfl | exact .inr rfl) (by first | exact .inl rfl | exact .inr rfl) (by rw [hfr]; decide) (pf_val (pd_op op_addD okD (pd_var (i := 8) rfl (by first | exact .inl rfl | exact .inr (.inl rfl) | exact .inr (.inr rfl))) (pd_lst (pl_cons (pd_op op_addD okD (pd_op op_powD okD pd_int pd_int) (pd_fz (pf_callH h__law_draw (hr.mono (by decide)) rfl tk (a_own (i := 0) rfl (by first | exact .inl rfl | exact .inr (.inl rfl) | exact .inr (.inr rfl)) (a_cons pd_int a_nil))))) (pl_cons (pd_var (i := 6) rfl (by first | exact .inl rfl | exact .inr (.inl rfl) | exact .inr (.inr rfl))) (pl_cons (pd_op op_subD okD (pd_op op_subD okD (pd_var (i := 2) rfl (by first | exact .inl rfl | exact .inr (.inl rfl) | exact .inr (.inr rfl))) pd_int) (pd_var (i := 6) rfl (by first | exact .inl rfl | exact .inr (.inl rfl) | exact .inr (.inr rfl)))) (pl_cons (pd_op op_addD okD pd_int (pd_fz (pf_callH h__law_draw (hr.mono (by decide)) rfl tk (a_own (i := 0) rfl (by first | exact .inl rfl | exact .inr (.inl rfl) | exact .inr (.inr rfl)) (a_cons (pd_var (i := 2) rfl (by first | exact .inl rfl | exact .inr (.inl rfl) | exact .inr (.inr rfl))) a_nil))))) pl_nil))))))))
  (ss_one (s_expr (pd_meth (i := 5) PySem.F.slot_list_append PySem.F.type_list_append mt_append ok_append rfl (by first | exact .inl rfl | exact .inr (.inl rfl) | exact .inr (.inr rfl)) (pl_cons (pd_tup (pl_cons (pd_var (i := 7) rfl (by first | exact .inl rfl | exact .inr (.inl rfl) | exact .inr (.inr rfl))) (pl_cons (pd_ix ix_D okD (pd_var (i := 8) rfl (by first | exact .inl rfl | exact .inr (.inl rfl) | exact .inr (.inr rfl))) (pd_var (i := 3) rfl (by first | exact .inl rfl | exact .inr (.inl rfl) | exact .inr (.inr rfl))) (fun _ _ => rfl)) pl_nil))) pl_nil)))))))
  (ss_one (s_ret (pf_val (pd_callTy call_tupleD okL rfl T.b_tuple bt_tuple (pl_cons (pd_var (i := 5) rfl (by first | exact .inl rfl | exact .inr (.inl rfl) | exact .inr (.inr rfl))) pl_nil))))))))))) (fun args R E hp h => body__law_deck h), hm, F.kp, hb⟩, mo__law_deck⟩

/-- a card slid -/
def slide : List Card → List Card
  | [] => []
  | c :: r => r.take c.2.toNat ++ c :: r.drop c.2.toNat
theorem cutL_gen (xs : List D) (lo hi : Option Int) : cutL xs lo hi = (xs.drop (HT.sIx xs.length 0 lo)).take (HT.sIx xs.length xs.length hi - HT.sIx xs.length 0 lo) := rfl
theorem cutL_nn (xs : List D) (i j : Nat) : cutL xs (some (i : Int)) (some (j : Int)) = (xs.drop i).take (j - i) := by
  rw [cutL_gen, HT.sIx_nat, HT.sIx_nat]
  by_cases hi : i ≤ xs.length
  · rw [Nat.min_eq_left hi]
    by_cases hj : j ≤ xs.length
    · rw [Nat.min_eq_left hj]
    · rw [Nat.min_eq_right (by omega), List.take_of_length_le (by rw [List.length_drop]; omega), List.take_of_length_le (by rw [List.length_drop]; omega)]
  · rw [Nat.min_eq_right (by omega : xs.length ≤ i), List.drop_eq_nil_of_le (Nat.le_refl _), List.drop_eq_nil_of_le (by omega : xs.length ≤ i)]
    simp
theorem cutL_n0 (xs : List D) (i : Nat) : cutL xs (some (i : Int)) none = xs.drop i := by
  rw [cutL_gen, HT.sIx_nat, HT.sIx_none]
  by_cases hi : i ≤ xs.length
  · rw [Nat.min_eq_left hi]
    exact List.take_of_length_le (by rw [List.length_drop]; omega)
  · rw [Nat.min_eq_right (by omega : xs.length ≤ i), List.drop_eq_nil_of_le (Nat.le_refl _), List.drop_eq_nil_of_le (by omega : xs.length ≤ i)]
    simp
def sp__law_slid : SpD := fun args R E => ∃ cs : List Card, args = [.val (deckD cs)] ∧ cs ≠ [] ∧ (∀ c ∈ cs, 0 ≤ c.2) ∧ cs.length ≤ 1000 ∧ R (.val (deckD (slide cs))) args
theorem mo__law_slid : SpMono sp__law_slid := fun args R R' E E' h1 h2 ⟨cs, e, a1, a2, a3, k⟩ => ⟨cs, e, a1, a2, a3, h1 _ _ k⟩
theorem len__law_slid {args R E} (h : sp__law_slid args R E) : args.length = 1 := by obtain ⟨cs, rfl, _⟩ := h; rfl

def t__law_slid (W : WD) : TDs :=
  (tsSeq (tsAsg (tfV (tdFn minLD (tdCons (tdBin ixD (tdBin ixD (tdVar 0) (tdC (.int 0))) (tdC (.int 1))) (tdCons (tdBin subD (tdFn lenD (tdCons (tdVar 0) tdNil)) (tdC (.int 1))) tdNil)))) 1)
  (tsRet (tfV (tdBin addD (tdBin addD (tdSl (tdVar 0) (toSome (tdC (.int 1))) (toSome (tdBin addD (tdVar 1) (tdC (.int 1))))) (tdSl (tdVar 0) toNo (toSome (tdC (.int 1))))) (tdSl (tdVar 0) (toSome (tdBin addD (tdVar 1) (tdC (.int 1)))) toNo)))))

theorem body__law_slid {args : List Sl} {R : Sl → List Sl → Prop} {E : Exn → List Sl → Prop} (h : sp__law_slid args R E) :
    t__law_slid (fun ex ρ => E ex (back [] args ρ)) ⟨fun ρ => R (.val .none) (back [] args ρ), fun s ρ => R s (back [] args ρ)⟩ (args ++ List.replicate (2 - args.length) .no) := by
  obtain ⟨cs, rfl, h0, hd, hl, k⟩ := h
  obtain ⟨c, r, rfl⟩ : ∃ c r, cs = c :: r := List.exists_cons_of_ne_nil h0
  have sz := sizeLine_eq
  rw [List.length_cons] at hl
  have hc := hd c List.mem_cons_self
  obtain ⟨n, hn⟩ : ∃ n : Nat, (if ((r.length + 1 : Nat) : Int) - 1 < c.2 then ((r.length + 1 : Nat) : Int) - 1 else c.2) = n := ⟨(if ((r.length + 1 : Nat) : Int) - 1 < c.2 then ((r.length + 1 : Nat) : Int) - 1 else c.2).toNat, by split <;> omega⟩
  have e1 : ((n : Int) + 1) = ((n + 1 : Nat) : Int) := by omega
  have e2 : (1 : Int) = ((1 : Nat) : Int) := rfl
  simp only [t__law_slid, deckD, List.map_cons, cardD, List.length_map, tsSeq, tsAsg, tsNext, tsRet, tsRetN, tsExpr, tsIf, tsFor, tsWhile, tsNever, tsAsgG, tsSetIx, tfV, tfLst, tfMove, tfList, tfLRg, tfLc, tfCall, tdFz, tdVar, tdC, tdBin, tdUn, tdTest, tdChain, tdAnd, tdOr, tdNot, tdAndV, tdOrV, tdNotV, tdIf, tdNil, tdCons, tdTup, tdLst, tdFn, tdIxO, tdLenO, tdMeth, tdSl, tdRev, toNo, toSome, tdIsi, tdIsi2, tdLenSet, tdIndex, tdYes, taNil, taCons, taOwn, tgName, tgNil, tgCons, tgTup, tiSeq, tiStr, tiRg1, tiRg2, tiRg3, tiEnum, onLst, isLst, seqOf_list, seqOf_tuple, addD, subD, divD, modD, powD, intD, negD, mulD, cmpD, i2D, lenD, ixD, List.getElem?_cons_succ, List.getElem?_cons_zero, List.set_cons_succ, List.set_cons_zero, opt_some, opt_none, opt_ite, if_true, if_false, Bool.false_eq_true, List.map_cons, List.map_nil, List.cons_append, List.nil_append, List.append_nil, List.replicate_succ, List.replicate_zero, List.length_cons, List.length_nil, rsv, ownIx, ixOf, wb, Option.getD_some, back_nil, back_zero, eqDD_int, neDD_int, eqDD_bool, neDD_bool, eqDD_str, neDD_str, ltD, leD, gtD, geD, List.nodup_nil, nodup1, at0, at1, at2, at3, at4, ixN5_1, ixN5_2, ixN5_3, Nat.reduceAdd, true_and, and_true, eq_self, List.length_singleton, slD, signsD, wipeD, restD, Sl.keep, rgD, subD, maxLD, minLD, Bool.not_true, Bool.not_false]
  rw [hn, e1]
  have c1 : cutL (PyData.tuple [.str c.1, .int c.2] :: List.map cardD r) (some 1) (some ((n + 1 : Nat) : Int)) = (r.map cardD).take n := by
    rw [e2, cutL_nn]; simp
  have c2 : cutL (PyData.tuple [.str c.1, .int c.2] :: List.map cardD r) none (some 1) = [cardD c] := by
    rw [e2, cutL_take]; rfl
  have c3 : cutL (PyData.tuple [.str c.1, .int c.2] :: List.map cardD r) (some ((n + 1 : Nat) : Int)) none = (r.map cardD).drop n := by
    rw [cutL_n0]; rfl
  rw [c1, c2, c3]
  refine ⟨by simp only [List.length_take, List.length_map, List.length_cons, List.length_nil]; omega, by simp only [List.length_take, List.length_drop, List.length_append, List.length_map, List.length_cons, List.length_nil]; omega, ?_⟩
  have e : (r.map cardD).take n ++ [cardD c] ++ (r.map cardD).drop n = (slide (c :: r)).map cardD := by
    have en : n = min c.2.toNat r.length := by
      split at hn <;> omega
    unfold slide
    rw [List.map_append, List.map_cons, List.map_take, List.map_drop, List.append_assoc, List.singleton_append]
    by_cases h : c.2.toNat ≤ r.length
    · rw [en, Nat.min_eq_left h]
    · rw [en, Nat.min_eq_right (by omega)]
      rw [List.take_of_length_le (by rw [List.length_map]; omega), List.drop_eq_nil_of_le (by rw [List.length_map]; omega), List.take_of_length_le (by rw [List.length_map]; omega), List.drop_eq_nil_of_le (by rw [List.length_map]; omega)]
  rw [e]
  exact k

theorem sc__law_slid : FnScope ["deck", "reach"] ["deck"] (defScope (top 24)) := ⟨rfl, rfl, rfl, by decide +kernel, rfl, by decide +kernel, by decide +kernel⟩
theorem has__law_slid {P : Program} {w : World} {K : Fg} {mg : Str → Option Value} {base : Heap} {f : Addr} {fd : FuncData} (T : Txt mg) (F : Fun K "_law_slid" "_law_slid" (top 24) f fd) (hm : mg "_law_slid" = some (.ref f)) (hb : Binds K fd ["deck"] [])  : Has P w K mg base 1 "_law_slid" ["deck"] [] (sp__law_slid) :=
  ⟨⟨f, fd, fnD [] (sp__law_slid) (t__law_slid) F sc__law_slid (fun args R E h => len__law_slid h) (fun cdv A outer s H E fr W hr hfr tk => (ss_cons (s_asg (i := 1) sc__law_slid.nd rfl (by first | exact .inl rfl | exact .inr rfl) (by first | exact .inl rfl | exact .inr rfl) (by rw [hfr]; decide) (pf_val (pd_callB (call_minD rfl) okL rfl T.b_min bt_min (pl_cons (pd_ix ix_D okD (pd_ix ix_D okD (pd_var (i := 0) rfl (by first | exact .inl rfl | exact .inr (.inl rfl) | exact .inr (.inr rfl))) pd_int (fun _ _ => rfl)) pd_int (fun _ _ => rfl)) (pl_cons (pd_op op_subD okD (pd_callB call_lenD okL rfl T.b_len bt_len (pl_cons (pd_var (i := 0) rfl (by first | exact .inl rfl | exact .inr (.inl rfl) | exact .inr (.inr rfl))) pl_nil)) pd_int) pl_nil)))))
  (ss_one (s_ret (pf_val (pd_op op_addD okD (pd_op op_addD okD (pd_sl (pd_var (i := 0) rfl (by first | exact .inl rfl | exact .inr (.inl rfl) | exact .inr (.inr rfl))) (pdo_some pd_int) (pdo_some (pd_op op_addD okD (pd_var (i := 1) rfl (by first | exact .inl rfl | exact .inr (.inl rfl) | exact .inr (.inr rfl))) pd_int))) (pd_sl (pd_var (i := 0) rfl (by first | exact .inl rfl | exact .inr (.inl rfl) | exact .inr (.inr rfl))) pdo_none (pdo_some pd_int))) (pd_sl (pd_var (i := 0) rfl (by first | exact .inl rfl | exact .inr (.inl rfl) | exact .inr (.inr rfl))) (pdo_some (pd_op op_addD okD (pd_var (i := 1) rfl (by first | exact .inl rfl | exact .inr (.inl rfl) | exact .inr (.inr rfl))) pd_int)) pdo_none))))))) (fun args R E hp h => body__law_slid h), hm, F.kp, hb⟩, mo__law_slid⟩

theorem let_range : ("abcdefghijklmnopqrstuvwxyz" : Str).cps.toList = List.range' 97 26 := by decide +kernel
theorem inD_sign (c : Nat) : inD (.str ⟨#[c]⟩) (.str "abcdefghijklmnopqrstuvwxyz") = some (.bool (decide (97 ≤ c) && decide (c ≤ 122))) := by
  show some (PyData.bool (!(Builtin.Str.occurrences "abcdefghijklmnopqrstuvwxyz" ⟨#[c]⟩ 0 _ 1).isEmpty)) = _
  rw [PySem.StrLaws.found_one, let_range]
  congr 2
  rw [Bool.eq_iff_iff]
  simp only [decide_eq_true_eq, Bool.and_eq_true, List.mem_range'_1]
  omega
def isNameD : D → Bool
  | .str x => nameB x
  | _ => false
theorem blsOf_mapf {α : Type} (p : α → Bool) : ∀ l : List α, blsOf (l.map fun x => PyData.bool (p x)) = some (l.map p)
  | [] => rfl
  | x :: l => by rw [List.map_cons, blsOf, blsOf_mapf p l]; rfl
theorem allD_map {α : Type} (p : α → Bool) (l : List α) : allD [.list (l.map fun x => PyData.bool (p x))] = some (.bool (l.all p)) := by
  show Option.map (fun bs => PyData.bool (bs.all id)) (blsOf (l.map fun x => PyData.bool (p x))) = _
  rw [blsOf_mapf]
  show some (PyData.bool ((l.map p).all id)) = _
  rw [List.all_map]; rfl
theorem isi_str : isiB "NoneType" "str" = false ∧ isiB "bool" "str" = false ∧ isiB "int" "str" = false ∧ isiB "str" "str" = true ∧ isiB "list" "str" = false ∧ isiB "tuple" "str" = false ∧ isiB "dict" "str" = false := by decide
def sp_is_name : SpD := fun args R E => ∃ d, args = [.val d] ∧ (∀ x, d = .str x → x.length ≤ sizeLine) ∧ R (.val (.bool (isNameD d))) args
theorem mo_is_name : SpMono sp_is_name := fun args R R' E E' h1 h2 ⟨cs, e, a1, k⟩ => ⟨cs, e, a1, h1 _ _ k⟩
theorem len_is_name {args R E} (h : sp_is_name args R E) : args.length = 1 := by obtain ⟨cs, rfl, _⟩ := h; rfl

def t_is_name (W : WD) : TDs :=
  (tsRet (tfV (tdAndV (tdIsi "str" (tdVar 0)) (tdAndV (tdChain leD leD (tdC (.int 1)) (tdFn lenD (tdCons (tdVar 0) tdNil)) (tdC (.int 8))) (tdFn allD (tdCons (tdFz (tfLc (tiStr (tdVar 0)) (tgName 1) tdYes (tdBin inD (tdVar 1) (tdC (.str "abcdefghijklmnopqrstuvwxyz"))) [1])) tdNil))))))

theorem body_is_name {args : List Sl} {R : Sl → List Sl → Prop} {E : Exn → List Sl → Prop} (h : sp_is_name args R E) :
    t_is_name (fun ex ρ => E ex (back [] args ρ)) ⟨fun ρ => R (.val .none) (back [] args ρ), fun s ρ => R s (back [] args ρ)⟩ (args ++ List.replicate (2 - args.length) .no) := by
  obtain ⟨d, rfl, hs, k⟩ := h
  have sz := sizeLine_eq
  cases d with
  | str x =>
    have hx := hs x rfl
    simp only [t_is_name, tyD, isi_str, tsSeq, tsAsg, tsNext, tsRet, tsRetN, tsExpr, tsIf, tsFor, tsWhile, tsNever, tsAsgG, tsSetIx, tfV, tfLst, tfMove, tfList, tfLRg, tfLc, tfCall, tdFz, tdVar, tdC, tdBin, tdUn, tdTest, tdChain, tdAnd, tdOr, tdNot, tdAndV, tdOrV, tdNotV, tdIf, tdNil, tdCons, tdTup, tdLst, tdFn, tdIxO, tdLenO, tdMeth, tdSl, tdRev, toNo, toSome, tdIsi, tdIsi2, tdLenSet, tdIndex, tdYes, taNil, taCons, taOwn, tgName, tgNil, tgCons, tgTup, tiSeq, tiStr, tiRg1, tiRg2, tiRg3, tiEnum, onLst, isLst, seqOf_list, seqOf_tuple, addD, subD, divD, modD, powD, intD, negD, mulD, cmpD, i2D, lenD, ixD, List.getElem?_cons_succ, List.getElem?_cons_zero, List.set_cons_succ, List.set_cons_zero, opt_some, opt_none, opt_ite, if_true, if_false, Bool.false_eq_true, List.map_cons, List.map_nil, List.cons_append, List.nil_append, List.append_nil, List.replicate_succ, List.replicate_zero, List.length_cons, List.length_nil, rsv, ownIx, ixOf, wb, Option.getD_some, back_nil, back_zero, eqDD_int, neDD_int, eqDD_bool, neDD_bool, eqDD_str, neDD_str, ltD, leD, gtD, geD, List.nodup_nil, nodup1, at0, at1, at2, at3, at4, ixN5_1, ixN5_2, ixN5_3, Nat.reduceAdd, true_and, and_true, eq_self, List.length_singleton, slD, signsD, wipeD, restD, Sl.keep, rgD, subD, maxLD, minLD, Bool.not_true, Bool.not_false]
    refine ⟨hx, ?_⟩
    by_cases h1 : 1 ≤ (x.length : Int)
    · simp only [decide_eq_true h1, tsSeq, tsAsg, tsNext, tsRet, tsRetN, tsExpr, tsIf, tsFor, tsWhile, tsNever, tsAsgG, tsSetIx, tfV, tfLst, tfMove, tfList, tfLRg, tfLc, tfCall, tdFz, tdVar, tdC, tdBin, tdUn, tdTest, tdChain, tdAnd, tdOr, tdNot, tdAndV, tdOrV, tdNotV, tdIf, tdNil, tdCons, tdTup, tdLst, tdFn, tdIxO, tdLenO, tdMeth, tdSl, tdRev, toNo, toSome, tdIsi, tdIsi2, tdLenSet, tdIndex, tdYes, taNil, taCons, taOwn, tgName, tgNil, tgCons, tgTup, tiSeq, tiStr, tiRg1, tiRg2, tiRg3, tiEnum, onLst, isLst, seqOf_list, seqOf_tuple, addD, subD, divD, modD, powD, intD, negD, mulD, cmpD, i2D, lenD, ixD, List.getElem?_cons_succ, List.getElem?_cons_zero, List.set_cons_succ, List.set_cons_zero, opt_some, opt_none, opt_ite, if_true, if_false, Bool.false_eq_true, List.map_cons, List.map_nil, List.cons_append, List.nil_append, List.append_nil, List.replicate_succ, List.replicate_zero, List.length_cons, List.length_nil, rsv, ownIx, ixOf, wb, Option.getD_some, back_nil, back_zero, eqDD_int, neDD_int, eqDD_bool, neDD_bool, eqDD_str, neDD_str, ltD, leD, gtD, geD, List.nodup_nil, nodup1, at0, at1, at2, at3, at4, ixN5_1, ixN5_2, ixN5_3, Nat.reduceAdd, true_and, and_true, eq_self, List.length_singleton, slD, signsD, wipeD, restD, Sl.keep, rgD, subD, maxLD, minLD, Bool.not_true, Bool.not_false]
      by_cases h8 : (x.length : Int) ≤ 8
      · simp only [decide_eq_true h8, tsSeq, tsAsg, tsNext, tsRet, tsRetN, tsExpr, tsIf, tsFor, tsWhile, tsNever, tsAsgG, tsSetIx, tfV, tfLst, tfMove, tfList, tfLRg, tfLc, tfCall, tdFz, tdVar, tdC, tdBin, tdUn, tdTest, tdChain, tdAnd, tdOr, tdNot, tdAndV, tdOrV, tdNotV, tdIf, tdNil, tdCons, tdTup, tdLst, tdFn, tdIxO, tdLenO, tdMeth, tdSl, tdRev, toNo, toSome, tdIsi, tdIsi2, tdLenSet, tdIndex, tdYes, taNil, taCons, taOwn, tgName, tgNil, tgCons, tgTup, tiSeq, tiStr, tiRg1, tiRg2, tiRg3, tiEnum, onLst, isLst, seqOf_list, seqOf_tuple, addD, subD, divD, modD, powD, intD, negD, mulD, cmpD, i2D, lenD, ixD, List.getElem?_cons_succ, List.getElem?_cons_zero, List.set_cons_succ, List.set_cons_zero, opt_some, opt_none, opt_ite, if_true, if_false, Bool.false_eq_true, List.map_cons, List.map_nil, List.cons_append, List.nil_append, List.append_nil, List.replicate_succ, List.replicate_zero, List.length_cons, List.length_nil, rsv, ownIx, ixOf, wb, Option.getD_some, back_nil, back_zero, eqDD_int, neDD_int, eqDD_bool, neDD_bool, eqDD_str, neDD_str, ltD, leD, gtD, geD, List.nodup_nil, nodup1, at0, at1, at2, at3, at4, ixN5_1, ixN5_2, ixN5_3, Nat.reduceAdd, true_and, and_true, eq_self, List.length_singleton, slD, signsD, wipeD, restD, Sl.keep, rgD, subD, maxLD, minLD, Bool.not_true, Bool.not_false]
        refine lc_map (fun c : Nat => PyData.str ⟨#[c]⟩) (fun c => .bool (decide (97 ≤ c) && decide (c ≤ 122))) x.cps.toList [] (by have : x.cps.toList.length = x.length := rfl; show 0 + x.cps.toList.length ≤ _; omega) (fun c hc A hA => ?_) ?_
        · simp only [inD_sign, tsSeq, tsAsg, tsNext, tsRet, tsRetN, tsExpr, tsIf, tsFor, tsWhile, tsNever, tsAsgG, tsSetIx, tfV, tfLst, tfMove, tfList, tfLRg, tfLc, tfCall, tdFz, tdVar, tdC, tdBin, tdUn, tdTest, tdChain, tdAnd, tdOr, tdNot, tdAndV, tdOrV, tdNotV, tdIf, tdNil, tdCons, tdTup, tdLst, tdFn, tdIxO, tdLenO, tdMeth, tdSl, tdRev, toNo, toSome, tdIsi, tdIsi2, tdLenSet, tdIndex, tdYes, taNil, taCons, taOwn, tgName, tgNil, tgCons, tgTup, tiSeq, tiStr, tiRg1, tiRg2, tiRg3, tiEnum, onLst, isLst, seqOf_list, seqOf_tuple, addD, subD, divD, modD, powD, intD, negD, mulD, cmpD, i2D, lenD, ixD, List.getElem?_cons_succ, List.getElem?_cons_zero, List.set_cons_succ, List.set_cons_zero, opt_some, opt_none, opt_ite, if_true, if_false, Bool.false_eq_true, List.map_cons, List.map_nil, List.cons_append, List.nil_append, List.append_nil, List.replicate_succ, List.replicate_zero, List.length_cons, List.length_nil, rsv, ownIx, ixOf, wb, Option.getD_some, back_nil, back_zero, eqDD_int, neDD_int, eqDD_bool, neDD_bool, eqDD_str, neDD_str, ltD, leD, gtD, geD, List.nodup_nil, nodup1, at0, at1, at2, at3, at4, ixN5_1, ixN5_2, ixN5_3, Nat.reduceAdd, true_and, and_true, eq_self, List.length_singleton, slD, signsD, wipeD, restD, Sl.keep, rgD, subD, maxLD, minLD, Bool.not_true, Bool.not_false]
          exact hA _ rfl
        · simp only [allD_map, tsSeq, tsAsg, tsNext, tsRet, tsRetN, tsExpr, tsIf, tsFor, tsWhile, tsNever, tsAsgG, tsSetIx, tfV, tfLst, tfMove, tfList, tfLRg, tfLc, tfCall, tdFz, tdVar, tdC, tdBin, tdUn, tdTest, tdChain, tdAnd, tdOr, tdNot, tdAndV, tdOrV, tdNotV, tdIf, tdNil, tdCons, tdTup, tdLst, tdFn, tdIxO, tdLenO, tdMeth, tdSl, tdRev, toNo, toSome, tdIsi, tdIsi2, tdLenSet, tdIndex, tdYes, taNil, taCons, taOwn, tgName, tgNil, tgCons, tgTup, tiSeq, tiStr, tiRg1, tiRg2, tiRg3, tiEnum, onLst, isLst, seqOf_list, seqOf_tuple, addD, subD, divD, modD, powD, intD, negD, mulD, cmpD, i2D, lenD, ixD, List.getElem?_cons_succ, List.getElem?_cons_zero, List.set_cons_succ, List.set_cons_zero, opt_some, opt_none, opt_ite, if_true, if_false, Bool.false_eq_true, List.map_cons, List.map_nil, List.cons_append, List.nil_append, List.append_nil, List.replicate_succ, List.replicate_zero, List.length_cons, List.length_nil, rsv, ownIx, ixOf, wb, Option.getD_some, back_nil, back_zero, eqDD_int, neDD_int, eqDD_bool, neDD_bool, eqDD_str, neDD_str, ltD, leD, gtD, geD, List.nodup_nil, nodup1, at0, at1, at2, at3, at4, ixN5_1, ixN5_2, ixN5_3, Nat.reduceAdd, true_and, and_true, eq_self, List.length_singleton, slD, signsD, wipeD, restD, Sl.keep, rgD, subD, maxLD, minLD, Bool.not_true, Bool.not_false]
          have e : isNameD (.str x) = x.cps.toList.all fun c => decide (97 ≤ c) && decide (c ≤ 122) := by
            show nameB x = _
            unfold nameB
            rw [decide_eq_true (by omega), decide_eq_true (by omega)]; rfl
          rw [e] at k; exact k
      · simp only [decide_eq_false h8, tsSeq, tsAsg, tsNext, tsRet, tsRetN, tsExpr, tsIf, tsFor, tsWhile, tsNever, tsAsgG, tsSetIx, tfV, tfLst, tfMove, tfList, tfLRg, tfLc, tfCall, tdFz, tdVar, tdC, tdBin, tdUn, tdTest, tdChain, tdAnd, tdOr, tdNot, tdAndV, tdOrV, tdNotV, tdIf, tdNil, tdCons, tdTup, tdLst, tdFn, tdIxO, tdLenO, tdMeth, tdSl, tdRev, toNo, toSome, tdIsi, tdIsi2, tdLenSet, tdIndex, tdYes, taNil, taCons, taOwn, tgName, tgNil, tgCons, tgTup, tiSeq, tiStr, tiRg1, tiRg2, tiRg3, tiEnum, onLst, isLst, seqOf_list, seqOf_tuple, addD, subD, divD, modD, powD, intD, negD, mulD, cmpD, i2D, lenD, ixD, List.getElem?_cons_succ, List.getElem?_cons_zero, List.set_cons_succ, List.set_cons_zero, opt_some, opt_none, opt_ite, if_true, if_false, Bool.false_eq_true, List.map_cons, List.map_nil, List.cons_append, List.nil_append, List.append_nil, List.replicate_succ, List.replicate_zero, List.length_cons, List.length_nil, rsv, ownIx, ixOf, wb, Option.getD_some, back_nil, back_zero, eqDD_int, neDD_int, eqDD_bool, neDD_bool, eqDD_str, neDD_str, ltD, leD, gtD, geD, List.nodup_nil, nodup1, at0, at1, at2, at3, at4, ixN5_1, ixN5_2, ixN5_3, Nat.reduceAdd, true_and, and_true, eq_self, List.length_singleton, slD, signsD, wipeD, restD, Sl.keep, rgD, subD, maxLD, minLD, Bool.not_true, Bool.not_false]
        have e : isNameD (.str x) = false := by
          show nameB x = _
          unfold nameB
          rw [decide_eq_false (by omega : ¬ x.length ≤ 8)]; simp
        rw [e] at k; exact k
    · simp only [decide_eq_false h1, tsSeq, tsAsg, tsNext, tsRet, tsRetN, tsExpr, tsIf, tsFor, tsWhile, tsNever, tsAsgG, tsSetIx, tfV, tfLst, tfMove, tfList, tfLRg, tfLc, tfCall, tdFz, tdVar, tdC, tdBin, tdUn, tdTest, tdChain, tdAnd, tdOr, tdNot, tdAndV, tdOrV, tdNotV, tdIf, tdNil, tdCons, tdTup, tdLst, tdFn, tdIxO, tdLenO, tdMeth, tdSl, tdRev, toNo, toSome, tdIsi, tdIsi2, tdLenSet, tdIndex, tdYes, taNil, taCons, taOwn, tgName, tgNil, tgCons, tgTup, tiSeq, tiStr, tiRg1, tiRg2, tiRg3, tiEnum, onLst, isLst, seqOf_list, seqOf_tuple, addD, subD, divD, modD, powD, intD, negD, mulD, cmpD, i2D, lenD, ixD, List.getElem?_cons_succ, List.getElem?_cons_zero, List.set_cons_succ, List.set_cons_zero, opt_some, opt_none, opt_ite, if_true, if_false, Bool.false_eq_true, List.map_cons, List.map_nil, List.cons_append, List.nil_append, List.append_nil, List.replicate_succ, List.replicate_zero, List.length_cons, List.length_nil, rsv, ownIx, ixOf, wb, Option.getD_some, back_nil, back_zero, eqDD_int, neDD_int, eqDD_bool, neDD_bool, eqDD_str, neDD_str, ltD, leD, gtD, geD, List.nodup_nil, nodup1, at0, at1, at2, at3, at4, ixN5_1, ixN5_2, ixN5_3, Nat.reduceAdd, true_and, and_true, eq_self, List.length_singleton, slD, signsD, wipeD, restD, Sl.keep, rgD, subD, maxLD, minLD, Bool.not_true, Bool.not_false]
      have e : isNameD (.str x) = false := by
        show nameB x = _
        unfold nameB
        rw [decide_eq_false (by omega : ¬ 1 ≤ x.length)]; simp
      rw [e] at k; exact k
  | none => simp only [t_is_name, tyD, isi_str, tsSeq, tsAsg, tsNext, tsRet, tsRetN, tsExpr, tsIf, tsFor, tsWhile, tsNever, tsAsgG, tsSetIx, tfV, tfLst, tfMove, tfList, tfLRg, tfLc, tfCall, tdFz, tdVar, tdC, tdBin, tdUn, tdTest, tdChain, tdAnd, tdOr, tdNot, tdAndV, tdOrV, tdNotV, tdIf, tdNil, tdCons, tdTup, tdLst, tdFn, tdIxO, tdLenO, tdMeth, tdSl, tdRev, toNo, toSome, tdIsi, tdIsi2, tdLenSet, tdIndex, tdYes, taNil, taCons, taOwn, tgName, tgNil, tgCons, tgTup, tiSeq, tiStr, tiRg1, tiRg2, tiRg3, tiEnum, onLst, isLst, seqOf_list, seqOf_tuple, addD, subD, divD, modD, powD, intD, negD, mulD, cmpD, i2D, lenD, ixD, List.getElem?_cons_succ, List.getElem?_cons_zero, List.set_cons_succ, List.set_cons_zero, opt_some, opt_none, opt_ite, if_true, if_false, Bool.false_eq_true, List.map_cons, List.map_nil, List.cons_append, List.nil_append, List.append_nil, List.replicate_succ, List.replicate_zero, List.length_cons, List.length_nil, rsv, ownIx, ixOf, wb, Option.getD_some, back_nil, back_zero, eqDD_int, neDD_int, eqDD_bool, neDD_bool, eqDD_str, neDD_str, ltD, leD, gtD, geD, List.nodup_nil, nodup1, at0, at1, at2, at3, at4, ixN5_1, ixN5_2, ixN5_3, Nat.reduceAdd, true_and, and_true, eq_self, List.length_singleton, slD, signsD, wipeD, restD, Sl.keep, rgD, subD, maxLD, minLD, Bool.not_true, Bool.not_false]; exact k
  | bool _ => simp only [t_is_name, tyD, isi_str, tsSeq, tsAsg, tsNext, tsRet, tsRetN, tsExpr, tsIf, tsFor, tsWhile, tsNever, tsAsgG, tsSetIx, tfV, tfLst, tfMove, tfList, tfLRg, tfLc, tfCall, tdFz, tdVar, tdC, tdBin, tdUn, tdTest, tdChain, tdAnd, tdOr, tdNot, tdAndV, tdOrV, tdNotV, tdIf, tdNil, tdCons, tdTup, tdLst, tdFn, tdIxO, tdLenO, tdMeth, tdSl, tdRev, toNo, toSome, tdIsi, tdIsi2, tdLenSet, tdIndex, tdYes, taNil, taCons, taOwn, tgName, tgNil, tgCons, tgTup, tiSeq, tiStr, tiRg1, tiRg2, tiRg3, tiEnum, onLst, isLst, seqOf_list, seqOf_tuple, addD, subD, divD, modD, powD, intD, negD, mulD, cmpD, i2D, lenD, ixD, List.getElem?_cons_succ, List.getElem?_cons_zero, List.set_cons_succ, List.set_cons_zero, opt_some, opt_none, opt_ite, if_true, if_false, Bool.false_eq_true, List.map_cons, List.map_nil, List.cons_append, List.nil_append, List.append_nil, List.replicate_succ, List.replicate_zero, List.length_cons, List.length_nil, rsv, ownIx, ixOf, wb, Option.getD_some, back_nil, back_zero, eqDD_int, neDD_int, eqDD_bool, neDD_bool, eqDD_str, neDD_str, ltD, leD, gtD, geD, List.nodup_nil, nodup1, at0, at1, at2, at3, at4, ixN5_1, ixN5_2, ixN5_3, Nat.reduceAdd, true_and, and_true, eq_self, List.length_singleton, slD, signsD, wipeD, restD, Sl.keep, rgD, subD, maxLD, minLD, Bool.not_true, Bool.not_false]; exact k
  | int _ => simp only [t_is_name, tyD, isi_str, tsSeq, tsAsg, tsNext, tsRet, tsRetN, tsExpr, tsIf, tsFor, tsWhile, tsNever, tsAsgG, tsSetIx, tfV, tfLst, tfMove, tfList, tfLRg, tfLc, tfCall, tdFz, tdVar, tdC, tdBin, tdUn, tdTest, tdChain, tdAnd, tdOr, tdNot, tdAndV, tdOrV, tdNotV, tdIf, tdNil, tdCons, tdTup, tdLst, tdFn, tdIxO, tdLenO, tdMeth, tdSl, tdRev, toNo, toSome, tdIsi, tdIsi2, tdLenSet, tdIndex, tdYes, taNil, taCons, taOwn, tgName, tgNil, tgCons, tgTup, tiSeq, tiStr, tiRg1, tiRg2, tiRg3, tiEnum, onLst, isLst, seqOf_list, seqOf_tuple, addD, subD, divD, modD, powD, intD, negD, mulD, cmpD, i2D, lenD, ixD, List.getElem?_cons_succ, List.getElem?_cons_zero, List.set_cons_succ, List.set_cons_zero, opt_some, opt_none, opt_ite, if_true, if_false, Bool.false_eq_true, List.map_cons, List.map_nil, List.cons_append, List.nil_append, List.append_nil, List.replicate_succ, List.replicate_zero, List.length_cons, List.length_nil, rsv, ownIx, ixOf, wb, Option.getD_some, back_nil, back_zero, eqDD_int, neDD_int, eqDD_bool, neDD_bool, eqDD_str, neDD_str, ltD, leD, gtD, geD, List.nodup_nil, nodup1, at0, at1, at2, at3, at4, ixN5_1, ixN5_2, ixN5_3, Nat.reduceAdd, true_and, and_true, eq_self, List.length_singleton, slD, signsD, wipeD, restD, Sl.keep, rgD, subD, maxLD, minLD, Bool.not_true, Bool.not_false]; exact k
  | list _ => simp only [t_is_name, tyD, isi_str, tsSeq, tsAsg, tsNext, tsRet, tsRetN, tsExpr, tsIf, tsFor, tsWhile, tsNever, tsAsgG, tsSetIx, tfV, tfLst, tfMove, tfList, tfLRg, tfLc, tfCall, tdFz, tdVar, tdC, tdBin, tdUn, tdTest, tdChain, tdAnd, tdOr, tdNot, tdAndV, tdOrV, tdNotV, tdIf, tdNil, tdCons, tdTup, tdLst, tdFn, tdIxO, tdLenO, tdMeth, tdSl, tdRev, toNo, toSome, tdIsi, tdIsi2, tdLenSet, tdIndex, tdYes, taNil, taCons, taOwn, tgName, tgNil, tgCons, tgTup, tiSeq, tiStr, tiRg1, tiRg2, tiRg3, tiEnum, onLst, isLst, seqOf_list, seqOf_tuple, addD, subD, divD, modD, powD, intD, negD, mulD, cmpD, i2D, lenD, ixD, List.getElem?_cons_succ, List.getElem?_cons_zero, List.set_cons_succ, List.set_cons_zero, opt_some, opt_none, opt_ite, if_true, if_false, Bool.false_eq_true, List.map_cons, List.map_nil, List.cons_append, List.nil_append, List.append_nil, List.replicate_succ, List.replicate_zero, List.length_cons, List.length_nil, rsv, ownIx, ixOf, wb, Option.getD_some, back_nil, back_zero, eqDD_int, neDD_int, eqDD_bool, neDD_bool, eqDD_str, neDD_str, ltD, leD, gtD, geD, List.nodup_nil, nodup1, at0, at1, at2, at3, at4, ixN5_1, ixN5_2, ixN5_3, Nat.reduceAdd, true_and, and_true, eq_self, List.length_singleton, slD, signsD, wipeD, restD, Sl.keep, rgD, subD, maxLD, minLD, Bool.not_true, Bool.not_false]; exact k
  | tuple _ => simp only [t_is_name, tyD, isi_str, tsSeq, tsAsg, tsNext, tsRet, tsRetN, tsExpr, tsIf, tsFor, tsWhile, tsNever, tsAsgG, tsSetIx, tfV, tfLst, tfMove, tfList, tfLRg, tfLc, tfCall, tdFz, tdVar, tdC, tdBin, tdUn, tdTest, tdChain, tdAnd, tdOr, tdNot, tdAndV, tdOrV, tdNotV, tdIf, tdNil, tdCons, tdTup, tdLst, tdFn, tdIxO, tdLenO, tdMeth, tdSl, tdRev, toNo, toSome, tdIsi, tdIsi2, tdLenSet, tdIndex, tdYes, taNil, taCons, taOwn, tgName, tgNil, tgCons, tgTup, tiSeq, tiStr, tiRg1, tiRg2, tiRg3, tiEnum, onLst, isLst, seqOf_list, seqOf_tuple, addD, subD, divD, modD, powD, intD, negD, mulD, cmpD, i2D, lenD, ixD, List.getElem?_cons_succ, List.getElem?_cons_zero, List.set_cons_succ, List.set_cons_zero, opt_some, opt_none, opt_ite, if_true, if_false, Bool.false_eq_true, List.map_cons, List.map_nil, List.cons_append, List.nil_append, List.append_nil, List.replicate_succ, List.replicate_zero, List.length_cons, List.length_nil, rsv, ownIx, ixOf, wb, Option.getD_some, back_nil, back_zero, eqDD_int, neDD_int, eqDD_bool, neDD_bool, eqDD_str, neDD_str, ltD, leD, gtD, geD, List.nodup_nil, nodup1, at0, at1, at2, at3, at4, ixN5_1, ixN5_2, ixN5_3, Nat.reduceAdd, true_and, and_true, eq_self, List.length_singleton, slD, signsD, wipeD, restD, Sl.keep, rgD, subD, maxLD, minLD, Bool.not_true, Bool.not_false]; exact k
  | dict _ => simp only [t_is_name, tyD, isi_str, tsSeq, tsAsg, tsNext, tsRet, tsRetN, tsExpr, tsIf, tsFor, tsWhile, tsNever, tsAsgG, tsSetIx, tfV, tfLst, tfMove, tfList, tfLRg, tfLc, tfCall, tdFz, tdVar, tdC, tdBin, tdUn, tdTest, tdChain, tdAnd, tdOr, tdNot, tdAndV, tdOrV, tdNotV, tdIf, tdNil, tdCons, tdTup, tdLst, tdFn, tdIxO, tdLenO, tdMeth, tdSl, tdRev, toNo, toSome, tdIsi, tdIsi2, tdLenSet, tdIndex, tdYes, taNil, taCons, taOwn, tgName, tgNil, tgCons, tgTup, tiSeq, tiStr, tiRg1, tiRg2, tiRg3, tiEnum, onLst, isLst, seqOf_list, seqOf_tuple, addD, subD, divD, modD, powD, intD, negD, mulD, cmpD, i2D, lenD, ixD, List.getElem?_cons_succ, List.getElem?_cons_zero, List.set_cons_succ, List.set_cons_zero, opt_some, opt_none, opt_ite, if_true, if_false, Bool.false_eq_true, List.map_cons, List.map_nil, List.cons_append, List.nil_append, List.append_nil, List.replicate_succ, List.replicate_zero, List.length_cons, List.length_nil, rsv, ownIx, ixOf, wb, Option.getD_some, back_nil, back_zero, eqDD_int, neDD_int, eqDD_bool, neDD_bool, eqDD_str, neDD_str, ltD, leD, gtD, geD, List.nodup_nil, nodup1, at0, at1, at2, at3, at4, ixN5_1, ixN5_2, ixN5_3, Nat.reduceAdd, true_and, and_true, eq_self, List.length_singleton, slD, signsD, wipeD, restD, Sl.keep, rgD, subD, maxLD, minLD, Bool.not_true, Bool.not_false]; exact k

theorem sc_is_name : FnScope ["thing", "sign"] ["thing"] (defScope (top 11)) := ⟨rfl, rfl, rfl, by decide +kernel, rfl, by decide +kernel, by decide +kernel⟩
theorem has_is_name {P : Program} {w : World} {K : Fg} {mg : Str → Option Value} {base : Heap} {f : Addr} {fd : FuncData} (T : Txt mg) (F : Fun K "is_name" "is_name" (top 11) f fd) (hm : mg "is_name" = some (.ref f)) (hb : Binds K fd ["thing"] [])  : Has P w K mg base 1 "is_name" ["thing"] [] (sp_is_name) :=
  ⟨⟨f, fd, fnD [] (sp_is_name) (t_is_name) F sc_is_name (fun args R E h => len_is_name h) (fun cdv A outer s H E fr W hr hfr tk => (ss_one (s_ret (pf_val (pd_and (pd_isi (by decide) (pd_var (i := 0) rfl (by first | exact .inl rfl | exact .inr (.inl rfl) | exact .inr (.inr rfl))) rfl T.b_isinstance rfl T.b_str bt_str) (pd_and (pd_chain (op_leD) (op_leD) okD okD pd_int (pd_callB call_lenD okL rfl T.b_len bt_len (pl_cons (pd_var (i := 0) rfl (by first | exact .inl rfl | exact .inr (.inl rfl) | exact .inr (.inr rfl))) pl_nil)) (pd_gInt rfl T.c_MOST_LETTERS)) (pd_one (pd_callB (call_allD rfl) okL rfl T.b_all bt_all (pl_cons (pd_fz (pf_lc rfl sc_is_name.nd (pi_strD (pd_var (i := 0) rfl (by first | exact .inl rfl | exact .inr (.inl rfl) | exact .inr (.inr rfl)))) (own := [(("sign" : Str), 1)]) (blkOk (by kernel_rfl)) (by rw [hfr]; decide) (by decide) (fun _ _ _ _ _ fr' hfr' => (t_name (i := 1) sc_is_name.nd rfl (by first | exact .inl rfl | exact .inr rfl) (by first | exact .inl rfl | exact .inr rfl) (by rw [hfr', hfr]; decide))) (fun _ _ _ _ _ fr' hfr' => (pd_cmp (op_inDD (units65 hr)) okD (pd_var (i := 1) rfl (by first | exact .inl rfl | exact .inr (.inl rfl) | exact .inr (.inr rfl))) (pd_gStr rfl T.c_LETTERS) (by rfl))))) pl_nil))))))))) (fun args R E hp h => body_is_name h), hm, F.kp, hb⟩, mo_is_name⟩

theorem metsS_nodup : ∀ (xs acc : List Str), (acc ++ xs).Nodup → xs.foldl metS acc = acc ++ xs
  | [], acc, _ => by simp
  | x :: xs, acc, h => by
    rw [List.foldl_cons]
    have hx : acc.any (· == x) = false := by
      rw [List.any_eq_false]
      intro y hy e
      have e : y = x := by simpa using e
      subst e
      rw [List.nodup_append] at h
      exact h.2.2 y hy y List.mem_cons_self rfl
    have e : metS acc x = acc ++ [x] := by unfold metS; rw [hx]; rfl
    rw [e, metsS_nodup xs (acc ++ [x]) (by rw [List.append_assoc]; exact h), List.append_assoc]; rfl
theorem strsOf_map : ∀ xs : List Str, strsOf (xs.map PyData.str) = some xs
  | [] => rfl
  | x :: xs => by rw [List.map_cons, strsOf, strsOf_map xs]; rfl
theorem names_ok {xs : List Str} (h : namesB xs = true) : xs.Nodup ∧ ∀ x ∈ xs, nameB x = true := by
  unfold namesB at h
  rw [Bool.and_eq_true, decide_eq_true_eq, List.all_eq_true] at h
  exact h
theorem name_len {x : Str} (h : nameB x = true) : x.length ≤ 8 := by
  unfold nameB at h
  simp only [Bool.and_eq_true, decide_eq_true_eq] at h
  exact h.1.2
theorem lst_tup : isiB "list" "list" = true ∧ isiB "tuple" "list" = false ∧ isiB "tuple" "tuple" = true := by decide
/-- a row, as a list or a tuple -/
def rowOf (t : Bool) (xs : List D) : D := if t = true then .tuple xs else .list xs
theorem seq_row (t : Bool) (xs : List D) : seqOf (rowOf t xs) = some xs := by cases t <;> rfl
theorem isi_row (t : Bool) (xs : List D) : (isiB (tyD (rowOf t xs)) "list" || isiB (tyD (rowOf t xs)) "tuple") = true := by
  cases t
  · show (isiB "list" "list" || isiB "list" "tuple") = true; decide
  · show (isiB "tuple" "list" || isiB "tuple" "tuple") = true; decide
theorem len_row (t : Bool) (xs : List D) : lenD [rowOf t xs] = some (.int xs.length) := by cases t <;> rfl
def sp_names_of : SpD := fun args R E => ∃ (t : Bool) (xs : List Str), args = [.val (rowOf t (xs.map PyData.str))] ∧ namesB xs = true ∧ 1 ≤ xs.length ∧ xs.length ≤ 40 ∧ R (.lst (xs.map PyData.str)) args
theorem mo_names_of : SpMono sp_names_of := fun args R R' E E' h1 h2 ⟨t, xs, e, a1, a2, a3, k⟩ => ⟨t, xs, e, a1, a2, a3, h1 _ _ k⟩
theorem len_names_of {args R E} (h : sp_names_of args R E) : args.length = 1 := by obtain ⟨t, cs, rfl, _⟩ := h; rfl
theorem dec_true {p : Prop} [Decidable p] (h : p) : decide p = true := decide_eq_true h

def t_names_of (W : WD) : TDs :=
  (tsSeq (tsIf (tdOr (tdNot (tdTest (tdIsi2 "list" "tuple" (tdVar 0)))) (tdNot (tdTest (tdChain leD leD (tdC (.int 1)) (tdFn lenD (tdCons (tdVar 0) tdNil)) (tdC (.int 40)))))) tsNever tsNext)
  (tsSeq (tsIf (tdOr (tdNot (tdTest (tdFn allD (tdCons (tdFz (tfLc (tiSeq (tdVar 0)) (tgName 1) tdYes (tdFz (tfCall [] (sp_is_name) W0 (taCons (tdVar 1) taNil))) [1])) tdNil)))) (tdTest (tdBin neDD (tdLenSet (tdVar 0)) (tdFn lenD (tdCons (tdVar 0) tdNil))))) tsNever tsNext)
  (tsRet (tfList (tdVar 0)))))

theorem body_names_of {args : List Sl} {R : Sl → List Sl → Prop} {E : Exn → List Sl → Prop} (h : sp_names_of args R E) :
    t_names_of (fun ex ρ => E ex (back [] args ρ)) ⟨fun ρ => R (.val .none) (back [] args ρ), fun s ρ => R s (back [] args ρ)⟩ (args ++ List.replicate (2 - args.length) .no) := by
  obtain ⟨t, xs, rfl, ok, l1, l2, k⟩ := h
  have sz := sizeLine_eq
  obtain ⟨nd, all⟩ := names_ok ok
  have e1 : decide ((1 : Int) ≤ (xs.length : Int)) = true := decide_eq_true (by omega)
  have e2 : decide ((xs.length : Int) ≤ 40) = true := decide_eq_true (by omega)
  have em : (metsS xs).length = xs.length := by unfold metsS; rw [metsS_nodup xs [] (by simpa using nd)]; rfl
  have ea : (xs.all fun x => isNameD (.str x)) = true := List.all_eq_true.mpr fun x hx => all x hx
  have hb : xs.length + 1 < scanBound := by unfold scanBound; omega
  cases t
  · unfold t_names_of rowOf
    simp only [Bool.false_eq_true, if_false]
    refine seq_step fun N hN => ?_
    simp only [tyD, lst_tup, Bool.true_or, List.length_map, e1, e2, tsSeq, tsAsg, tsNext, tsRet, tsRetN, tsExpr, tsIf, tsFor, tsWhile, tsNever, tsAsgG, tsSetIx, tfV, tfLst, tfMove, tfList, tfLRg, tfLc, tfCall, tdFz, tdVar, tdC, tdBin, tdUn, tdTest, tdChain, tdAnd, tdOr, tdNot, tdAndV, tdOrV, tdNotV, tdIf, tdNil, tdCons, tdTup, tdLst, tdFn, tdIxO, tdLenO, tdMeth, tdSl, tdRev, toNo, toSome, tdIsi, tdIsi2, tdLenSet, tdIndex, tdYes, taNil, taCons, taOwn, tgName, tgNil, tgCons, tgTup, tiSeq, tiStr, tiRg1, tiRg2, tiRg3, tiEnum, onLst, isLst, seqOf_list, seqOf_tuple, addD, subD, divD, modD, powD, intD, negD, mulD, cmpD, i2D, lenD, ixD, List.getElem?_cons_succ, List.getElem?_cons_zero, List.set_cons_succ, List.set_cons_zero, opt_some, opt_none, opt_ite, if_true, if_false, Bool.false_eq_true, List.map_cons, List.map_nil, List.cons_append, List.nil_append, List.append_nil, List.replicate_succ, List.replicate_zero, List.length_cons, List.length_nil, rsv, ownIx, ixOf, wb, Option.getD_some, back_nil, back_zero, eqDD_int, neDD_int, eqDD_bool, neDD_bool, eqDD_str, neDD_str, ltD, leD, gtD, geD, List.nodup_nil, nodup1, at0, at1, at2, at3, at4, ixN5_1, ixN5_2, ixN5_3, Nat.reduceAdd, true_and, and_true, eq_self, List.length_singleton, slD, signsD, wipeD, restD, Sl.keep, rgD, subD, maxLD, minLD, Bool.not_true, Bool.not_false]
    subst hN
    refine seq_step fun N hN => ?_
    simp only [tsSeq, tsAsg, tsNext, tsRet, tsRetN, tsExpr, tsIf, tsFor, tsWhile, tsNever, tsAsgG, tsSetIx, tfV, tfLst, tfMove, tfList, tfLRg, tfLc, tfCall, tdFz, tdVar, tdC, tdBin, tdUn, tdTest, tdChain, tdAnd, tdOr, tdNot, tdAndV, tdOrV, tdNotV, tdIf, tdNil, tdCons, tdTup, tdLst, tdFn, tdIxO, tdLenO, tdMeth, tdSl, tdRev, toNo, toSome, tdIsi, tdIsi2, tdLenSet, tdIndex, tdYes, taNil, taCons, taOwn, tgName, tgNil, tgCons, tgTup, tiSeq, tiStr, tiRg1, tiRg2, tiRg3, tiEnum, onLst, isLst, seqOf_list, seqOf_tuple, addD, subD, divD, modD, powD, intD, negD, mulD, cmpD, i2D, lenD, ixD, List.getElem?_cons_succ, List.getElem?_cons_zero, List.set_cons_succ, List.set_cons_zero, opt_some, opt_none, opt_ite, if_true, if_false, Bool.false_eq_true, List.map_cons, List.map_nil, List.cons_append, List.nil_append, List.append_nil, List.replicate_succ, List.replicate_zero, List.length_cons, List.length_nil, rsv, ownIx, ixOf, wb, Option.getD_some, back_nil, back_zero, eqDD_int, neDD_int, eqDD_bool, neDD_bool, eqDD_str, neDD_str, ltD, leD, gtD, geD, List.nodup_nil, nodup1, at0, at1, at2, at3, at4, ixN5_1, ixN5_2, ixN5_3, Nat.reduceAdd, true_and, and_true, eq_self, List.length_singleton, slD, signsD, wipeD, restD, Sl.keep, rgD, subD, maxLD, minLD, Bool.not_true, Bool.not_false]
    refine lc_map PyData.str (fun x => .bool (isNameD (.str x))) xs [] (by simp; omega) (fun x hx A hA => ?_) ?_
    · simp only [tsSeq, tsAsg, tsNext, tsRet, tsRetN, tsExpr, tsIf, tsFor, tsWhile, tsNever, tsAsgG, tsSetIx, tfV, tfLst, tfMove, tfList, tfLRg, tfLc, tfCall, tdFz, tdVar, tdC, tdBin, tdUn, tdTest, tdChain, tdAnd, tdOr, tdNot, tdAndV, tdOrV, tdNotV, tdIf, tdNil, tdCons, tdTup, tdLst, tdFn, tdIxO, tdLenO, tdMeth, tdSl, tdRev, toNo, toSome, tdIsi, tdIsi2, tdLenSet, tdIndex, tdYes, taNil, taCons, taOwn, tgName, tgNil, tgCons, tgTup, tiSeq, tiStr, tiRg1, tiRg2, tiRg3, tiEnum, onLst, isLst, seqOf_list, seqOf_tuple, addD, subD, divD, modD, powD, intD, negD, mulD, cmpD, i2D, lenD, ixD, List.getElem?_cons_succ, List.getElem?_cons_zero, List.set_cons_succ, List.set_cons_zero, opt_some, opt_none, opt_ite, if_true, if_false, Bool.false_eq_true, List.map_cons, List.map_nil, List.cons_append, List.nil_append, List.append_nil, List.replicate_succ, List.replicate_zero, List.length_cons, List.length_nil, rsv, ownIx, ixOf, wb, Option.getD_some, back_nil, back_zero, eqDD_int, neDD_int, eqDD_bool, neDD_bool, eqDD_str, neDD_str, ltD, leD, gtD, geD, List.nodup_nil, nodup1, at0, at1, at2, at3, at4, ixN5_1, ixN5_2, ixN5_3, Nat.reduceAdd, true_and, and_true, eq_self, List.length_singleton, slD, signsD, wipeD, restD, Sl.keep, rgD, subD, maxLD, minLD, Bool.not_true, Bool.not_false]
      exact ⟨_, rfl, fun y e => by cases e; have := name_len (all x hx); omega, by simp only [tsSeq, tsAsg, tsNext, tsRet, tsRetN, tsExpr, tsIf, tsFor, tsWhile, tsNever, tsAsgG, tsSetIx, tfV, tfLst, tfMove, tfList, tfLRg, tfLc, tfCall, tdFz, tdVar, tdC, tdBin, tdUn, tdTest, tdChain, tdAnd, tdOr, tdNot, tdAndV, tdOrV, tdNotV, tdIf, tdNil, tdCons, tdTup, tdLst, tdFn, tdIxO, tdLenO, tdMeth, tdSl, tdRev, toNo, toSome, tdIsi, tdIsi2, tdLenSet, tdIndex, tdYes, taNil, taCons, taOwn, tgName, tgNil, tgCons, tgTup, tiSeq, tiStr, tiRg1, tiRg2, tiRg3, tiEnum, onLst, isLst, seqOf_list, seqOf_tuple, addD, subD, divD, modD, powD, intD, negD, mulD, cmpD, i2D, lenD, ixD, List.getElem?_cons_succ, List.getElem?_cons_zero, List.set_cons_succ, List.set_cons_zero, opt_some, opt_none, opt_ite, if_true, if_false, Bool.false_eq_true, List.map_cons, List.map_nil, List.cons_append, List.nil_append, List.append_nil, List.replicate_succ, List.replicate_zero, List.length_cons, List.length_nil, rsv, ownIx, ixOf, wb, Option.getD_some, back_nil, back_zero, eqDD_int, neDD_int, eqDD_bool, neDD_bool, eqDD_str, neDD_str, ltD, leD, gtD, geD, List.nodup_nil, nodup1, at0, at1, at2, at3, at4, ixN5_1, ixN5_2, ixN5_3, Nat.reduceAdd, true_and, and_true, eq_self, List.length_singleton, slD, signsD, wipeD, restD, Sl.keep, rgD, subD, maxLD, minLD, Bool.not_true, Bool.not_false]; exact hA _ rfl⟩
    · simp only [allD_map, ea, strsOf_map, List.length_map, em, decide_true, tsSeq, tsAsg, tsNext, tsRet, tsRetN, tsExpr, tsIf, tsFor, tsWhile, tsNever, tsAsgG, tsSetIx, tfV, tfLst, tfMove, tfList, tfLRg, tfLc, tfCall, tdFz, tdVar, tdC, tdBin, tdUn, tdTest, tdChain, tdAnd, tdOr, tdNot, tdAndV, tdOrV, tdNotV, tdIf, tdNil, tdCons, tdTup, tdLst, tdFn, tdIxO, tdLenO, tdMeth, tdSl, tdRev, toNo, toSome, tdIsi, tdIsi2, tdLenSet, tdIndex, tdYes, taNil, taCons, taOwn, tgName, tgNil, tgCons, tgTup, tiSeq, tiStr, tiRg1, tiRg2, tiRg3, tiEnum, onLst, isLst, seqOf_list, seqOf_tuple, addD, subD, divD, modD, powD, intD, negD, mulD, cmpD, i2D, lenD, ixD, List.getElem?_cons_succ, List.getElem?_cons_zero, List.set_cons_succ, List.set_cons_zero, opt_some, opt_none, opt_ite, if_true, if_false, Bool.false_eq_true, List.map_cons, List.map_nil, List.cons_append, List.nil_append, List.append_nil, List.replicate_succ, List.replicate_zero, List.length_cons, List.length_nil, rsv, ownIx, ixOf, wb, Option.getD_some, back_nil, back_zero, eqDD_int, neDD_int, eqDD_bool, neDD_bool, eqDD_str, neDD_str, ltD, leD, gtD, geD, List.nodup_nil, nodup1, at0, at1, at2, at3, at4, ixN5_1, ixN5_2, ixN5_3, Nat.reduceAdd, true_and, and_true, eq_self, List.length_singleton, slD, signsD, wipeD, restD, Sl.keep, rgD, subD, maxLD, minLD, Bool.not_true, Bool.not_false]
      refine ⟨hb, ?_⟩
      subst hN
      simp only [tsSeq, tsAsg, tsNext, tsRet, tsRetN, tsExpr, tsIf, tsFor, tsWhile, tsNever, tsAsgG, tsSetIx, tfV, tfLst, tfMove, tfList, tfLRg, tfLc, tfCall, tdFz, tdVar, tdC, tdBin, tdUn, tdTest, tdChain, tdAnd, tdOr, tdNot, tdAndV, tdOrV, tdNotV, tdIf, tdNil, tdCons, tdTup, tdLst, tdFn, tdIxO, tdLenO, tdMeth, tdSl, tdRev, toNo, toSome, tdIsi, tdIsi2, tdLenSet, tdIndex, tdYes, taNil, taCons, taOwn, tgName, tgNil, tgCons, tgTup, tiSeq, tiStr, tiRg1, tiRg2, tiRg3, tiEnum, onLst, isLst, seqOf_list, seqOf_tuple, addD, subD, divD, modD, powD, intD, negD, mulD, cmpD, i2D, lenD, ixD, List.getElem?_cons_succ, List.getElem?_cons_zero, List.set_cons_succ, List.set_cons_zero, opt_some, opt_none, opt_ite, if_true, if_false, Bool.false_eq_true, List.map_cons, List.map_nil, List.cons_append, List.nil_append, List.append_nil, List.replicate_succ, List.replicate_zero, List.length_cons, List.length_nil, rsv, ownIx, ixOf, wb, Option.getD_some, back_nil, back_zero, eqDD_int, neDD_int, eqDD_bool, neDD_bool, eqDD_str, neDD_str, ltD, leD, gtD, geD, List.nodup_nil, nodup1, at0, at1, at2, at3, at4, ixN5_1, ixN5_2, ixN5_3, Nat.reduceAdd, true_and, and_true, eq_self, List.length_singleton, slD, signsD, wipeD, restD, Sl.keep, rgD, subD, maxLD, minLD, Bool.not_true, Bool.not_false]
      exact k
  · unfold t_names_of rowOf
    simp only [if_true]
    refine seq_step fun N hN => ?_
    simp only [tyD, lst_tup, Bool.false_or, List.length_map, e1, e2, tsSeq, tsAsg, tsNext, tsRet, tsRetN, tsExpr, tsIf, tsFor, tsWhile, tsNever, tsAsgG, tsSetIx, tfV, tfLst, tfMove, tfList, tfLRg, tfLc, tfCall, tdFz, tdVar, tdC, tdBin, tdUn, tdTest, tdChain, tdAnd, tdOr, tdNot, tdAndV, tdOrV, tdNotV, tdIf, tdNil, tdCons, tdTup, tdLst, tdFn, tdIxO, tdLenO, tdMeth, tdSl, tdRev, toNo, toSome, tdIsi, tdIsi2, tdLenSet, tdIndex, tdYes, taNil, taCons, taOwn, tgName, tgNil, tgCons, tgTup, tiSeq, tiStr, tiRg1, tiRg2, tiRg3, tiEnum, onLst, isLst, seqOf_list, seqOf_tuple, addD, subD, divD, modD, powD, intD, negD, mulD, cmpD, i2D, lenD, ixD, List.getElem?_cons_succ, List.getElem?_cons_zero, List.set_cons_succ, List.set_cons_zero, opt_some, opt_none, opt_ite, if_true, if_false, Bool.false_eq_true, List.map_cons, List.map_nil, List.cons_append, List.nil_append, List.append_nil, List.replicate_succ, List.replicate_zero, List.length_cons, List.length_nil, rsv, ownIx, ixOf, wb, Option.getD_some, back_nil, back_zero, eqDD_int, neDD_int, eqDD_bool, neDD_bool, eqDD_str, neDD_str, ltD, leD, gtD, geD, List.nodup_nil, nodup1, at0, at1, at2, at3, at4, ixN5_1, ixN5_2, ixN5_3, Nat.reduceAdd, true_and, and_true, eq_self, List.length_singleton, slD, signsD, wipeD, restD, Sl.keep, rgD, subD, maxLD, minLD, Bool.not_true, Bool.not_false]
    subst hN
    refine seq_step fun N hN => ?_
    simp only [tsSeq, tsAsg, tsNext, tsRet, tsRetN, tsExpr, tsIf, tsFor, tsWhile, tsNever, tsAsgG, tsSetIx, tfV, tfLst, tfMove, tfList, tfLRg, tfLc, tfCall, tdFz, tdVar, tdC, tdBin, tdUn, tdTest, tdChain, tdAnd, tdOr, tdNot, tdAndV, tdOrV, tdNotV, tdIf, tdNil, tdCons, tdTup, tdLst, tdFn, tdIxO, tdLenO, tdMeth, tdSl, tdRev, toNo, toSome, tdIsi, tdIsi2, tdLenSet, tdIndex, tdYes, taNil, taCons, taOwn, tgName, tgNil, tgCons, tgTup, tiSeq, tiStr, tiRg1, tiRg2, tiRg3, tiEnum, onLst, isLst, seqOf_list, seqOf_tuple, addD, subD, divD, modD, powD, intD, negD, mulD, cmpD, i2D, lenD, ixD, List.getElem?_cons_succ, List.getElem?_cons_zero, List.set_cons_succ, List.set_cons_zero, opt_some, opt_none, opt_ite, if_true, if_false, Bool.false_eq_true, List.map_cons, List.map_nil, List.cons_append, List.nil_append, List.append_nil, List.replicate_succ, List.replicate_zero, List.length_cons, List.length_nil, rsv, ownIx, ixOf, wb, Option.getD_some, back_nil, back_zero, eqDD_int, neDD_int, eqDD_bool, neDD_bool, eqDD_str, neDD_str, ltD, leD, gtD, geD, List.nodup_nil, nodup1, at0, at1, at2, at3, at4, ixN5_1, ixN5_2, ixN5_3, Nat.reduceAdd, true_and, and_true, eq_self, List.length_singleton, slD, signsD, wipeD, restD, Sl.keep, rgD, subD, maxLD, minLD, Bool.not_true, Bool.not_false]
    refine lc_map PyData.str (fun x => .bool (isNameD (.str x))) xs [] (by simp; omega) (fun x hx A hA => ?_) ?_
    · simp only [tsSeq, tsAsg, tsNext, tsRet, tsRetN, tsExpr, tsIf, tsFor, tsWhile, tsNever, tsAsgG, tsSetIx, tfV, tfLst, tfMove, tfList, tfLRg, tfLc, tfCall, tdFz, tdVar, tdC, tdBin, tdUn, tdTest, tdChain, tdAnd, tdOr, tdNot, tdAndV, tdOrV, tdNotV, tdIf, tdNil, tdCons, tdTup, tdLst, tdFn, tdIxO, tdLenO, tdMeth, tdSl, tdRev, toNo, toSome, tdIsi, tdIsi2, tdLenSet, tdIndex, tdYes, taNil, taCons, taOwn, tgName, tgNil, tgCons, tgTup, tiSeq, tiStr, tiRg1, tiRg2, tiRg3, tiEnum, onLst, isLst, seqOf_list, seqOf_tuple, addD, subD, divD, modD, powD, intD, negD, mulD, cmpD, i2D, lenD, ixD, List.getElem?_cons_succ, List.getElem?_cons_zero, List.set_cons_succ, List.set_cons_zero, opt_some, opt_none, opt_ite, if_true, if_false, Bool.false_eq_true, List.map_cons, List.map_nil, List.cons_append, List.nil_append, List.append_nil, List.replicate_succ, List.replicate_zero, List.length_cons, List.length_nil, rsv, ownIx, ixOf, wb, Option.getD_some, back_nil, back_zero, eqDD_int, neDD_int, eqDD_bool, neDD_bool, eqDD_str, neDD_str, ltD, leD, gtD, geD, List.nodup_nil, nodup1, at0, at1, at2, at3, at4, ixN5_1, ixN5_2, ixN5_3, Nat.reduceAdd, true_and, and_true, eq_self, List.length_singleton, slD, signsD, wipeD, restD, Sl.keep, rgD, subD, maxLD, minLD, Bool.not_true, Bool.not_false]
      exact ⟨_, rfl, fun y e => by cases e; have := name_len (all x hx); omega, by simp only [tsSeq, tsAsg, tsNext, tsRet, tsRetN, tsExpr, tsIf, tsFor, tsWhile, tsNever, tsAsgG, tsSetIx, tfV, tfLst, tfMove, tfList, tfLRg, tfLc, tfCall, tdFz, tdVar, tdC, tdBin, tdUn, tdTest, tdChain, tdAnd, tdOr, tdNot, tdAndV, tdOrV, tdNotV, tdIf, tdNil, tdCons, tdTup, tdLst, tdFn, tdIxO, tdLenO, tdMeth, tdSl, tdRev, toNo, toSome, tdIsi, tdIsi2, tdLenSet, tdIndex, tdYes, taNil, taCons, taOwn, tgName, tgNil, tgCons, tgTup, tiSeq, tiStr, tiRg1, tiRg2, tiRg3, tiEnum, onLst, isLst, seqOf_list, seqOf_tuple, addD, subD, divD, modD, powD, intD, negD, mulD, cmpD, i2D, lenD, ixD, List.getElem?_cons_succ, List.getElem?_cons_zero, List.set_cons_succ, List.set_cons_zero, opt_some, opt_none, opt_ite, if_true, if_false, Bool.false_eq_true, List.map_cons, List.map_nil, List.cons_append, List.nil_append, List.append_nil, List.replicate_succ, List.replicate_zero, List.length_cons, List.length_nil, rsv, ownIx, ixOf, wb, Option.getD_some, back_nil, back_zero, eqDD_int, neDD_int, eqDD_bool, neDD_bool, eqDD_str, neDD_str, ltD, leD, gtD, geD, List.nodup_nil, nodup1, at0, at1, at2, at3, at4, ixN5_1, ixN5_2, ixN5_3, Nat.reduceAdd, true_and, and_true, eq_self, List.length_singleton, slD, signsD, wipeD, restD, Sl.keep, rgD, subD, maxLD, minLD, Bool.not_true, Bool.not_false]; exact hA _ rfl⟩
    · simp only [allD_map, ea, strsOf_map, List.length_map, em, decide_true, tsSeq, tsAsg, tsNext, tsRet, tsRetN, tsExpr, tsIf, tsFor, tsWhile, tsNever, tsAsgG, tsSetIx, tfV, tfLst, tfMove, tfList, tfLRg, tfLc, tfCall, tdFz, tdVar, tdC, tdBin, tdUn, tdTest, tdChain, tdAnd, tdOr, tdNot, tdAndV, tdOrV, tdNotV, tdIf, tdNil, tdCons, tdTup, tdLst, tdFn, tdIxO, tdLenO, tdMeth, tdSl, tdRev, toNo, toSome, tdIsi, tdIsi2, tdLenSet, tdIndex, tdYes, taNil, taCons, taOwn, tgName, tgNil, tgCons, tgTup, tiSeq, tiStr, tiRg1, tiRg2, tiRg3, tiEnum, onLst, isLst, seqOf_list, seqOf_tuple, addD, subD, divD, modD, powD, intD, negD, mulD, cmpD, i2D, lenD, ixD, List.getElem?_cons_succ, List.getElem?_cons_zero, List.set_cons_succ, List.set_cons_zero, opt_some, opt_none, opt_ite, if_true, if_false, Bool.false_eq_true, List.map_cons, List.map_nil, List.cons_append, List.nil_append, List.append_nil, List.replicate_succ, List.replicate_zero, List.length_cons, List.length_nil, rsv, ownIx, ixOf, wb, Option.getD_some, back_nil, back_zero, eqDD_int, neDD_int, eqDD_bool, neDD_bool, eqDD_str, neDD_str, ltD, leD, gtD, geD, List.nodup_nil, nodup1, at0, at1, at2, at3, at4, ixN5_1, ixN5_2, ixN5_3, Nat.reduceAdd, true_and, and_true, eq_self, List.length_singleton, slD, signsD, wipeD, restD, Sl.keep, rgD, subD, maxLD, minLD, Bool.not_true, Bool.not_false]
      refine ⟨hb, ?_⟩
      subst hN
      simp only [tsSeq, tsAsg, tsNext, tsRet, tsRetN, tsExpr, tsIf, tsFor, tsWhile, tsNever, tsAsgG, tsSetIx, tfV, tfLst, tfMove, tfList, tfLRg, tfLc, tfCall, tdFz, tdVar, tdC, tdBin, tdUn, tdTest, tdChain, tdAnd, tdOr, tdNot, tdAndV, tdOrV, tdNotV, tdIf, tdNil, tdCons, tdTup, tdLst, tdFn, tdIxO, tdLenO, tdMeth, tdSl, tdRev, toNo, toSome, tdIsi, tdIsi2, tdLenSet, tdIndex, tdYes, taNil, taCons, taOwn, tgName, tgNil, tgCons, tgTup, tiSeq, tiStr, tiRg1, tiRg2, tiRg3, tiEnum, onLst, isLst, seqOf_list, seqOf_tuple, addD, subD, divD, modD, powD, intD, negD, mulD, cmpD, i2D, lenD, ixD, List.getElem?_cons_succ, List.getElem?_cons_zero, List.set_cons_succ, List.set_cons_zero, opt_some, opt_none, opt_ite, if_true, if_false, Bool.false_eq_true, List.map_cons, List.map_nil, List.cons_append, List.nil_append, List.append_nil, List.replicate_succ, List.replicate_zero, List.length_cons, List.length_nil, rsv, ownIx, ixOf, wb, Option.getD_some, back_nil, back_zero, eqDD_int, neDD_int, eqDD_bool, neDD_bool, eqDD_str, neDD_str, ltD, leD, gtD, geD, List.nodup_nil, nodup1, at0, at1, at2, at3, at4, ixN5_1, ixN5_2, ixN5_3, Nat.reduceAdd, true_and, and_true, eq_self, List.length_singleton, slD, signsD, wipeD, restD, Sl.keep, rgD, subD, maxLD, minLD, Bool.not_true, Bool.not_false]
      exact k

theorem sc_names_of : FnScope ["names", "name"] ["names"] (defScope (top 13)) := ⟨rfl, rfl, rfl, by decide +kernel, rfl, by decide +kernel, by decide +kernel⟩
theorem has_names_of {P : Program} {w : World} {K : Fg} {mg : Str → Option Value} {base : Heap} {f : Addr} {fd : FuncData} (T : Txt mg) (F : Fun K "names_of" "names_of" (top 13) f fd) (hm : mg "names_of" = some (.ref f)) (hb : Binds K fd ["names"] []) (h_is_name : Has P w K mg base 1 "is_name" ["thing"] [] (sp_is_name)) : Has P w K mg base 2 "names_of" ["names"] [] (sp_names_of) :=
  ⟨⟨f, fd, fnD [] (sp_names_of) (t_names_of) F sc_names_of (fun args R E h => len_names_of h) (fun cdv A outer s H E fr W hr hfr tk => (ss_cons (s_if (PDw.pb (pw_or (pb_not (pb_val (pd_isi2 (by decide) (by decide) (pd_var (i := 0) rfl (by first | exact .inl rfl | exact .inr (.inl rfl) | exact .inr (.inr rfl))) rfl T.b_isinstance rfl T.b_list bt_list rfl T.b_tuple bt_tuple))) (pw_or1 (pb_not (pb_chain (op_leD) (op_leD) okD okD pd_int (pd_callB call_lenD okL rfl T.b_len bt_len (pl_cons (pd_var (i := 0) rfl (by first | exact .inl rfl | exact .inr (.inl rfl) | exact .inr (.inr rfl))) pl_nil)) (pd_gInt rfl T.c_MOST_CARDS)))))) (ss_one s_never) ss_nil)
  (ss_cons (s_if (PDw.pb (pw_or (pb_not (pb_val (pd_callB (call_allD rfl) okL rfl T.b_all bt_all (pl_cons (pd_fz (pf_lc rfl sc_names_of.nd (pi_seq (pd_var (i := 0) rfl (by first | exact .inl rfl | exact .inr (.inl rfl) | exact .inr (.inr rfl)))) (own := [(("name" : Str), 1)]) (blkOk (by kernel_rfl)) (by rw [hfr]; decide) (by decide) (fun _ _ _ _ _ fr' hfr' => (t_name (i := 1) sc_names_of.nd rfl (by first | exact .inl rfl | exact .inr rfl) (by first | exact .inl rfl | exact .inr rfl) (by rw [hfr', hfr]; decide))) (fun _ _ _ _ _ fr' hfr' => (pd_fz (pf_callH h_is_name (hr.mono (by decide)) rfl takesW0 (a_cons (pd_var (i := 1) rfl (by first | exact .inl rfl | exact .inr (.inl rfl) | exact .inr (.inr rfl))) a_nil)))))) pl_nil)))) (pw_or1 (pb_cmp (op_neDD hr.units) okD (pd_lenSet rfl rfl T.b_len rfl T.b_set (pd_var (i := 0) rfl (by first | exact .inl rfl | exact .inr (.inl rfl) | exact .inr (.inr rfl)))) (pd_callB call_lenD okL rfl T.b_len bt_len (pl_cons (pd_var (i := 0) rfl (by first | exact .inl rfl | exact .inr (.inl rfl) | exact .inr (.inr rfl))) pl_nil)) (nobehind _ (by decide) (by decide)))))) (ss_one s_never) ss_nil)
  (ss_one (s_ret (pf_list (pd_var (i := 0) rfl (by first | exact .inl rfl | exact .inr (.inl rfl) | exact .inr (.inr rfl))) rfl T.b_list)))))) (fun args R E hp h => body_names_of h), hm, F.kp, hb⟩, mo_names_of⟩

theorem flat_strs (xs : List Str) : (xs.map PyData.str).all flatD = true := by
  rw [List.all_eq_true]
  intro d hd
  obtain ⟨x, _, rfl⟩ := List.mem_map.mp hd
  rfl
theorem inD_names (x : Str) (xs : List Str) : inD (.str x) (.list (xs.map PyData.str)) = some (.bool (decide (x ∈ xs))) := by
  show Option.map PyData.bool (if flatD (.str x) = true ∧ (xs.map PyData.str).all flatD = true then some ((xs.map PyData.str).any fun z => eqF z (.str x)) else _) = _
  rw [if_pos ⟨rfl, flat_strs xs⟩]
  show some (PyData.bool _) = _
  congr 2
  rw [List.any_map, Bool.eq_iff_iff, List.any_eq_true, decide_eq_true_eq]
  constructor
  · rintro ⟨y, hy, e⟩
    have e : (y == x) = true := e
    rw [beq_iff_eq.mp e] at hy; exact hy
  · intro h
    exact ⟨x, h, by show (x == x) = true; exact beq_self_eq_true x⟩
theorem find_names (x : Str) : ∀ xs : List Str, x ∈ xs → (xs.map PyData.str).findIdx? (fun z => eqF z (.str x)) = some (xs.idxOf x)
  | [], h => by simp at h
  | y :: xs, h => by
    rw [List.map_cons, List.findIdx?_cons, List.idxOf_cons]
    have e : eqF (.str y) (.str x) = (y == x) := rfl
    rw [e]
    by_cases hy : (y == x) = true
    · rw [hy]; rfl
    · have hy' : (y == x) = false := by simpa using hy
      rw [hy']
      have hx : x ∈ xs := by
        rcases List.mem_cons.mp h with z | z
        · exact absurd (by rw [z]; exact beq_self_eq_true y) hy
        · exact z
      simp only [Bool.false_eq_true, if_false, cond_false]
      rw [find_names x xs hx]; rfl
theorem index_names (x : Str) (xs : List Str) (h : x ∈ xs) : indexB (xs.map PyData.str) (.str x) = some (.int (xs.idxOf x : Nat)) := by
  unfold indexB
  rw [if_pos ⟨rfl, flat_strs xs⟩, find_names x xs h]; rfl
def natD (n : Nat) : D := .int (n : Int)
def sp_row_of : SpD := fun args R E => ∃ (t : Bool) (xs r : List Str), args = [.val (.list (xs.map PyData.str)), .val (rowOf t (r.map PyData.str))] ∧ namesB xs = true ∧ (∀ x ∈ r, x ∈ xs) ∧ r.length ≤ 1000 ∧ R (.lst (r.map fun x => natD (xs.idxOf x))) args
theorem mo_row_of : SpMono sp_row_of := fun args R R' E E' h1 h2 ⟨t, xs, r, e, a1, a2, a3, k⟩ => ⟨t, xs, r, e, a1, a2, a3, h1 _ _ k⟩
theorem len_row_of {args R E} (h : sp_row_of args R E) : args.length = 2 := by obtain ⟨t, cs, r, rfl, _⟩ := h; rfl

def t_row_of (W : WD) : TDs :=
  (tsSeq (tsIf (tdOr (tdNot (tdTest (tdIsi2 "list" "tuple" (tdVar 1)))) (tdNot (tdTest (tdFn allD (tdCons (tdFz (tfLc (tiSeq (tdVar 1)) (tgName 2) tdYes (tdAndV (tdFz (tfCall [] (sp_is_name) W0 (taCons (tdVar 2) taNil))) (tdBin inD (tdVar 2) (tdVar 0))) [2])) tdNil))))) tsNever tsNext)
  (tsRet (tfLc (tiSeq (tdVar 1)) (tgName 2) tdYes (tdIndex (tdVar 0) (tdVar 2)) [2])))

theorem body_row_of {args : List Sl} {R : Sl → List Sl → Prop} {E : Exn → List Sl → Prop} (h : sp_row_of args R E) :
    t_row_of (fun ex ρ => E ex (back [] args ρ)) ⟨fun ρ => R (.val .none) (back [] args ρ), fun s ρ => R s (back [] args ρ)⟩ (args ++ List.replicate (3 - args.length) .no) := by
  obtain ⟨t, xs, r, rfl, ok, hr, l2, k⟩ := h
  have sz := sizeLine_eq
  obtain ⟨nd, all⟩ := names_ok ok
  have ea : (r.all fun x => isNameD (.str x) && decide (x ∈ xs)) = true := List.all_eq_true.mpr fun x hx => by
    rw [decide_eq_true (hr x hx), Bool.and_true]; exact all x (hr x hx)
  cases t
  · unfold t_row_of rowOf
    simp only [Bool.false_eq_true, if_false]
    refine seq_step fun N hN => ?_
    simp only [tyD, lst_tup, Bool.true_or, tsSeq, tsAsg, tsNext, tsRet, tsRetN, tsExpr, tsIf, tsFor, tsWhile, tsNever, tsAsgG, tsSetIx, tfV, tfLst, tfMove, tfList, tfLRg, tfLc, tfCall, tdFz, tdVar, tdC, tdBin, tdUn, tdTest, tdChain, tdAnd, tdOr, tdNot, tdAndV, tdOrV, tdNotV, tdIf, tdNil, tdCons, tdTup, tdLst, tdFn, tdIxO, tdLenO, tdMeth, tdSl, tdRev, toNo, toSome, tdIsi, tdIsi2, tdLenSet, tdIndex, tdYes, taNil, taCons, taOwn, tgName, tgNil, tgCons, tgTup, tiSeq, tiStr, tiRg1, tiRg2, tiRg3, tiEnum, onLst, isLst, seqOf_list, seqOf_tuple, addD, subD, divD, modD, powD, intD, negD, mulD, cmpD, i2D, lenD, ixD, List.getElem?_cons_succ, List.getElem?_cons_zero, List.set_cons_succ, List.set_cons_zero, opt_some, opt_none, opt_ite, if_true, if_false, Bool.false_eq_true, List.map_cons, List.map_nil, List.cons_append, List.nil_append, List.append_nil, List.replicate_succ, List.replicate_zero, List.length_cons, List.length_nil, rsv, ownIx, ixOf, wb, Option.getD_some, back_nil, back_zero, eqDD_int, neDD_int, eqDD_bool, neDD_bool, eqDD_str, neDD_str, ltD, leD, gtD, geD, List.nodup_nil, nodup1, at0, at1, at2, at3, at4, ixN5_1, ixN5_2, ixN5_3, Nat.reduceAdd, true_and, and_true, eq_self, List.length_singleton, slD, signsD, wipeD, restD, Sl.keep, rgD, subD, maxLD, minLD, Bool.not_true, Bool.not_false]
    refine lc_map PyData.str (fun x => .bool (isNameD (.str x) && decide (x ∈ xs))) r [] (by simp; omega) (fun x hx A hA => ?_) ?_
    · have hn : isNameD (.str x) = true := all x (hr x hx)
      simp only [hn, Bool.true_and] at hA
      simp only [tsSeq, tsAsg, tsNext, tsRet, tsRetN, tsExpr, tsIf, tsFor, tsWhile, tsNever, tsAsgG, tsSetIx, tfV, tfLst, tfMove, tfList, tfLRg, tfLc, tfCall, tdFz, tdVar, tdC, tdBin, tdUn, tdTest, tdChain, tdAnd, tdOr, tdNot, tdAndV, tdOrV, tdNotV, tdIf, tdNil, tdCons, tdTup, tdLst, tdFn, tdIxO, tdLenO, tdMeth, tdSl, tdRev, toNo, toSome, tdIsi, tdIsi2, tdLenSet, tdIndex, tdYes, taNil, taCons, taOwn, tgName, tgNil, tgCons, tgTup, tiSeq, tiStr, tiRg1, tiRg2, tiRg3, tiEnum, onLst, isLst, seqOf_list, seqOf_tuple, addD, subD, divD, modD, powD, intD, negD, mulD, cmpD, i2D, lenD, ixD, List.getElem?_cons_succ, List.getElem?_cons_zero, List.set_cons_succ, List.set_cons_zero, opt_some, opt_none, opt_ite, if_true, if_false, Bool.false_eq_true, List.map_cons, List.map_nil, List.cons_append, List.nil_append, List.append_nil, List.replicate_succ, List.replicate_zero, List.length_cons, List.length_nil, rsv, ownIx, ixOf, wb, Option.getD_some, back_nil, back_zero, eqDD_int, neDD_int, eqDD_bool, neDD_bool, eqDD_str, neDD_str, ltD, leD, gtD, geD, List.nodup_nil, nodup1, at0, at1, at2, at3, at4, ixN5_1, ixN5_2, ixN5_3, Nat.reduceAdd, true_and, and_true, eq_self, List.length_singleton, slD, signsD, wipeD, restD, Sl.keep, rgD, subD, maxLD, minLD, Bool.not_true, Bool.not_false]
      refine ⟨_, rfl, fun y e => by cases e; have := name_len (all x (hr x hx)); omega, ?_⟩
      simp only [hn, inD_names, tsSeq, tsAsg, tsNext, tsRet, tsRetN, tsExpr, tsIf, tsFor, tsWhile, tsNever, tsAsgG, tsSetIx, tfV, tfLst, tfMove, tfList, tfLRg, tfLc, tfCall, tdFz, tdVar, tdC, tdBin, tdUn, tdTest, tdChain, tdAnd, tdOr, tdNot, tdAndV, tdOrV, tdNotV, tdIf, tdNil, tdCons, tdTup, tdLst, tdFn, tdIxO, tdLenO, tdMeth, tdSl, tdRev, toNo, toSome, tdIsi, tdIsi2, tdLenSet, tdIndex, tdYes, taNil, taCons, taOwn, tgName, tgNil, tgCons, tgTup, tiSeq, tiStr, tiRg1, tiRg2, tiRg3, tiEnum, onLst, isLst, seqOf_list, seqOf_tuple, addD, subD, divD, modD, powD, intD, negD, mulD, cmpD, i2D, lenD, ixD, List.getElem?_cons_succ, List.getElem?_cons_zero, List.set_cons_succ, List.set_cons_zero, opt_some, opt_none, opt_ite, if_true, if_false, Bool.false_eq_true, List.map_cons, List.map_nil, List.cons_append, List.nil_append, List.append_nil, List.replicate_succ, List.replicate_zero, List.length_cons, List.length_nil, rsv, ownIx, ixOf, wb, Option.getD_some, back_nil, back_zero, eqDD_int, neDD_int, eqDD_bool, neDD_bool, eqDD_str, neDD_str, ltD, leD, gtD, geD, List.nodup_nil, nodup1, at0, at1, at2, at3, at4, ixN5_1, ixN5_2, ixN5_3, Nat.reduceAdd, true_and, and_true, eq_self, List.length_singleton, slD, signsD, wipeD, restD, Sl.keep, rgD, subD, maxLD, minLD, Bool.not_true, Bool.not_false]
      exact hA _ rfl
    · simp only [allD_map, ea, tsSeq, tsAsg, tsNext, tsRet, tsRetN, tsExpr, tsIf, tsFor, tsWhile, tsNever, tsAsgG, tsSetIx, tfV, tfLst, tfMove, tfList, tfLRg, tfLc, tfCall, tdFz, tdVar, tdC, tdBin, tdUn, tdTest, tdChain, tdAnd, tdOr, tdNot, tdAndV, tdOrV, tdNotV, tdIf, tdNil, tdCons, tdTup, tdLst, tdFn, tdIxO, tdLenO, tdMeth, tdSl, tdRev, toNo, toSome, tdIsi, tdIsi2, tdLenSet, tdIndex, tdYes, taNil, taCons, taOwn, tgName, tgNil, tgCons, tgTup, tiSeq, tiStr, tiRg1, tiRg2, tiRg3, tiEnum, onLst, isLst, seqOf_list, seqOf_tuple, addD, subD, divD, modD, powD, intD, negD, mulD, cmpD, i2D, lenD, ixD, List.getElem?_cons_succ, List.getElem?_cons_zero, List.set_cons_succ, List.set_cons_zero, opt_some, opt_none, opt_ite, if_true, if_false, Bool.false_eq_true, List.map_cons, List.map_nil, List.cons_append, List.nil_append, List.append_nil, List.replicate_succ, List.replicate_zero, List.length_cons, List.length_nil, rsv, ownIx, ixOf, wb, Option.getD_some, back_nil, back_zero, eqDD_int, neDD_int, eqDD_bool, neDD_bool, eqDD_str, neDD_str, ltD, leD, gtD, geD, List.nodup_nil, nodup1, at0, at1, at2, at3, at4, ixN5_1, ixN5_2, ixN5_3, Nat.reduceAdd, true_and, and_true, eq_self, List.length_singleton, slD, signsD, wipeD, restD, Sl.keep, rgD, subD, maxLD, minLD, Bool.not_true, Bool.not_false]
      subst hN
      simp only [tsSeq, tsAsg, tsNext, tsRet, tsRetN, tsExpr, tsIf, tsFor, tsWhile, tsNever, tsAsgG, tsSetIx, tfV, tfLst, tfMove, tfList, tfLRg, tfLc, tfCall, tdFz, tdVar, tdC, tdBin, tdUn, tdTest, tdChain, tdAnd, tdOr, tdNot, tdAndV, tdOrV, tdNotV, tdIf, tdNil, tdCons, tdTup, tdLst, tdFn, tdIxO, tdLenO, tdMeth, tdSl, tdRev, toNo, toSome, tdIsi, tdIsi2, tdLenSet, tdIndex, tdYes, taNil, taCons, taOwn, tgName, tgNil, tgCons, tgTup, tiSeq, tiStr, tiRg1, tiRg2, tiRg3, tiEnum, onLst, isLst, seqOf_list, seqOf_tuple, addD, subD, divD, modD, powD, intD, negD, mulD, cmpD, i2D, lenD, ixD, List.getElem?_cons_succ, List.getElem?_cons_zero, List.set_cons_succ, List.set_cons_zero, opt_some, opt_none, opt_ite, if_true, if_false, Bool.false_eq_true, List.map_cons, List.map_nil, List.cons_append, List.nil_append, List.append_nil, List.replicate_succ, List.replicate_zero, List.length_cons, List.length_nil, rsv, ownIx, ixOf, wb, Option.getD_some, back_nil, back_zero, eqDD_int, neDD_int, eqDD_bool, neDD_bool, eqDD_str, neDD_str, ltD, leD, gtD, geD, List.nodup_nil, nodup1, at0, at1, at2, at3, at4, ixN5_1, ixN5_2, ixN5_3, Nat.reduceAdd, true_and, and_true, eq_self, List.length_singleton, slD, signsD, wipeD, restD, Sl.keep, rgD, subD, maxLD, minLD, Bool.not_true, Bool.not_false]
      refine lc_map PyData.str (fun x => natD (xs.idxOf x)) r [] (by simp; omega) (fun x hx A hA => ?_) ?_
      · simp only [index_names x xs (hr x hx), tsSeq, tsAsg, tsNext, tsRet, tsRetN, tsExpr, tsIf, tsFor, tsWhile, tsNever, tsAsgG, tsSetIx, tfV, tfLst, tfMove, tfList, tfLRg, tfLc, tfCall, tdFz, tdVar, tdC, tdBin, tdUn, tdTest, tdChain, tdAnd, tdOr, tdNot, tdAndV, tdOrV, tdNotV, tdIf, tdNil, tdCons, tdTup, tdLst, tdFn, tdIxO, tdLenO, tdMeth, tdSl, tdRev, toNo, toSome, tdIsi, tdIsi2, tdLenSet, tdIndex, tdYes, taNil, taCons, taOwn, tgName, tgNil, tgCons, tgTup, tiSeq, tiStr, tiRg1, tiRg2, tiRg3, tiEnum, onLst, isLst, seqOf_list, seqOf_tuple, addD, subD, divD, modD, powD, intD, negD, mulD, cmpD, i2D, lenD, ixD, List.getElem?_cons_succ, List.getElem?_cons_zero, List.set_cons_succ, List.set_cons_zero, opt_some, opt_none, opt_ite, if_true, if_false, Bool.false_eq_true, List.map_cons, List.map_nil, List.cons_append, List.nil_append, List.append_nil, List.replicate_succ, List.replicate_zero, List.length_cons, List.length_nil, rsv, ownIx, ixOf, wb, Option.getD_some, back_nil, back_zero, eqDD_int, neDD_int, eqDD_bool, neDD_bool, eqDD_str, neDD_str, ltD, leD, gtD, geD, List.nodup_nil, nodup1, at0, at1, at2, at3, at4, ixN5_1, ixN5_2, ixN5_3, Nat.reduceAdd, true_and, and_true, eq_self, List.length_singleton, slD, signsD, wipeD, restD, Sl.keep, rgD, subD, maxLD, minLD, Bool.not_true, Bool.not_false]
        exact hA _ rfl
      · exact k
  · unfold t_row_of rowOf
    simp only [if_true]
    refine seq_step fun N hN => ?_
    simp only [tyD, lst_tup, Bool.false_or, tsSeq, tsAsg, tsNext, tsRet, tsRetN, tsExpr, tsIf, tsFor, tsWhile, tsNever, tsAsgG, tsSetIx, tfV, tfLst, tfMove, tfList, tfLRg, tfLc, tfCall, tdFz, tdVar, tdC, tdBin, tdUn, tdTest, tdChain, tdAnd, tdOr, tdNot, tdAndV, tdOrV, tdNotV, tdIf, tdNil, tdCons, tdTup, tdLst, tdFn, tdIxO, tdLenO, tdMeth, tdSl, tdRev, toNo, toSome, tdIsi, tdIsi2, tdLenSet, tdIndex, tdYes, taNil, taCons, taOwn, tgName, tgNil, tgCons, tgTup, tiSeq, tiStr, tiRg1, tiRg2, tiRg3, tiEnum, onLst, isLst, seqOf_list, seqOf_tuple, addD, subD, divD, modD, powD, intD, negD, mulD, cmpD, i2D, lenD, ixD, List.getElem?_cons_succ, List.getElem?_cons_zero, List.set_cons_succ, List.set_cons_zero, opt_some, opt_none, opt_ite, if_true, if_false, Bool.false_eq_true, List.map_cons, List.map_nil, List.cons_append, List.nil_append, List.append_nil, List.replicate_succ, List.replicate_zero, List.length_cons, List.length_nil, rsv, ownIx, ixOf, wb, Option.getD_some, back_nil, back_zero, eqDD_int, neDD_int, eqDD_bool, neDD_bool, eqDD_str, neDD_str, ltD, leD, gtD, geD, List.nodup_nil, nodup1, at0, at1, at2, at3, at4, ixN5_1, ixN5_2, ixN5_3, Nat.reduceAdd, true_and, and_true, eq_self, List.length_singleton, slD, signsD, wipeD, restD, Sl.keep, rgD, subD, maxLD, minLD, Bool.not_true, Bool.not_false]
    refine lc_map PyData.str (fun x => .bool (isNameD (.str x) && decide (x ∈ xs))) r [] (by simp; omega) (fun x hx A hA => ?_) ?_
    · have hn : isNameD (.str x) = true := all x (hr x hx)
      simp only [hn, Bool.true_and] at hA
      simp only [tsSeq, tsAsg, tsNext, tsRet, tsRetN, tsExpr, tsIf, tsFor, tsWhile, tsNever, tsAsgG, tsSetIx, tfV, tfLst, tfMove, tfList, tfLRg, tfLc, tfCall, tdFz, tdVar, tdC, tdBin, tdUn, tdTest, tdChain, tdAnd, tdOr, tdNot, tdAndV, tdOrV, tdNotV, tdIf, tdNil, tdCons, tdTup, tdLst, tdFn, tdIxO, tdLenO, tdMeth, tdSl, tdRev, toNo, toSome, tdIsi, tdIsi2, tdLenSet, tdIndex, tdYes, taNil, taCons, taOwn, tgName, tgNil, tgCons, tgTup, tiSeq, tiStr, tiRg1, tiRg2, tiRg3, tiEnum, onLst, isLst, seqOf_list, seqOf_tuple, addD, subD, divD, modD, powD, intD, negD, mulD, cmpD, i2D, lenD, ixD, List.getElem?_cons_succ, List.getElem?_cons_zero, List.set_cons_succ, List.set_cons_zero, opt_some, opt_none, opt_ite, if_true, if_false, Bool.false_eq_true, List.map_cons, List.map_nil, List.cons_append, List.nil_append, List.append_nil, List.replicate_succ, List.replicate_zero, List.length_cons, List.length_nil, rsv, ownIx, ixOf, wb, Option.getD_some, back_nil, back_zero, eqDD_int, neDD_int, eqDD_bool, neDD_bool, eqDD_str, neDD_str, ltD, leD, gtD, geD, List.nodup_nil, nodup1, at0, at1, at2, at3, at4, ixN5_1, ixN5_2, ixN5_3, Nat.reduceAdd, true_and, and_true, eq_self, List.length_singleton, slD, signsD, wipeD, restD, Sl.keep, rgD, subD, maxLD, minLD, Bool.not_true, Bool.not_false]
      refine ⟨_, rfl, fun y e => by cases e; have := name_len (all x (hr x hx)); omega, ?_⟩
      simp only [hn, inD_names, tsSeq, tsAsg, tsNext, tsRet, tsRetN, tsExpr, tsIf, tsFor, tsWhile, tsNever, tsAsgG, tsSetIx, tfV, tfLst, tfMove, tfList, tfLRg, tfLc, tfCall, tdFz, tdVar, tdC, tdBin, tdUn, tdTest, tdChain, tdAnd, tdOr, tdNot, tdAndV, tdOrV, tdNotV, tdIf, tdNil, tdCons, tdTup, tdLst, tdFn, tdIxO, tdLenO, tdMeth, tdSl, tdRev, toNo, toSome, tdIsi, tdIsi2, tdLenSet, tdIndex, tdYes, taNil, taCons, taOwn, tgName, tgNil, tgCons, tgTup, tiSeq, tiStr, tiRg1, tiRg2, tiRg3, tiEnum, onLst, isLst, seqOf_list, seqOf_tuple, addD, subD, divD, modD, powD, intD, negD, mulD, cmpD, i2D, lenD, ixD, List.getElem?_cons_succ, List.getElem?_cons_zero, List.set_cons_succ, List.set_cons_zero, opt_some, opt_none, opt_ite, if_true, if_false, Bool.false_eq_true, List.map_cons, List.map_nil, List.cons_append, List.nil_append, List.append_nil, List.replicate_succ, List.replicate_zero, List.length_cons, List.length_nil, rsv, ownIx, ixOf, wb, Option.getD_some, back_nil, back_zero, eqDD_int, neDD_int, eqDD_bool, neDD_bool, eqDD_str, neDD_str, ltD, leD, gtD, geD, List.nodup_nil, nodup1, at0, at1, at2, at3, at4, ixN5_1, ixN5_2, ixN5_3, Nat.reduceAdd, true_and, and_true, eq_self, List.length_singleton, slD, signsD, wipeD, restD, Sl.keep, rgD, subD, maxLD, minLD, Bool.not_true, Bool.not_false]
      exact hA _ rfl
    · simp only [allD_map, ea, tsSeq, tsAsg, tsNext, tsRet, tsRetN, tsExpr, tsIf, tsFor, tsWhile, tsNever, tsAsgG, tsSetIx, tfV, tfLst, tfMove, tfList, tfLRg, tfLc, tfCall, tdFz, tdVar, tdC, tdBin, tdUn, tdTest, tdChain, tdAnd, tdOr, tdNot, tdAndV, tdOrV, tdNotV, tdIf, tdNil, tdCons, tdTup, tdLst, tdFn, tdIxO, tdLenO, tdMeth, tdSl, tdRev, toNo, toSome, tdIsi, tdIsi2, tdLenSet, tdIndex, tdYes, taNil, taCons, taOwn, tgName, tgNil, tgCons, tgTup, tiSeq, tiStr, tiRg1, tiRg2, tiRg3, tiEnum, onLst, isLst, seqOf_list, seqOf_tuple, addD, subD, divD, modD, powD, intD, negD, mulD, cmpD, i2D, lenD, ixD, List.getElem?_cons_succ, List.getElem?_cons_zero, List.set_cons_succ, List.set_cons_zero, opt_some, opt_none, opt_ite, if_true, if_false, Bool.false_eq_true, List.map_cons, List.map_nil, List.cons_append, List.nil_append, List.append_nil, List.replicate_succ, List.replicate_zero, List.length_cons, List.length_nil, rsv, ownIx, ixOf, wb, Option.getD_some, back_nil, back_zero, eqDD_int, neDD_int, eqDD_bool, neDD_bool, eqDD_str, neDD_str, ltD, leD, gtD, geD, List.nodup_nil, nodup1, at0, at1, at2, at3, at4, ixN5_1, ixN5_2, ixN5_3, Nat.reduceAdd, true_and, and_true, eq_self, List.length_singleton, slD, signsD, wipeD, restD, Sl.keep, rgD, subD, maxLD, minLD, Bool.not_true, Bool.not_false]
      subst hN
      simp only [tsSeq, tsAsg, tsNext, tsRet, tsRetN, tsExpr, tsIf, tsFor, tsWhile, tsNever, tsAsgG, tsSetIx, tfV, tfLst, tfMove, tfList, tfLRg, tfLc, tfCall, tdFz, tdVar, tdC, tdBin, tdUn, tdTest, tdChain, tdAnd, tdOr, tdNot, tdAndV, tdOrV, tdNotV, tdIf, tdNil, tdCons, tdTup, tdLst, tdFn, tdIxO, tdLenO, tdMeth, tdSl, tdRev, toNo, toSome, tdIsi, tdIsi2, tdLenSet, tdIndex, tdYes, taNil, taCons, taOwn, tgName, tgNil, tgCons, tgTup, tiSeq, tiStr, tiRg1, tiRg2, tiRg3, tiEnum, onLst, isLst, seqOf_list, seqOf_tuple, addD, subD, divD, modD, powD, intD, negD, mulD, cmpD, i2D, lenD, ixD, List.getElem?_cons_succ, List.getElem?_cons_zero, List.set_cons_succ, List.set_cons_zero, opt_some, opt_none, opt_ite, if_true, if_false, Bool.false_eq_true, List.map_cons, List.map_nil, List.cons_append, List.nil_append, List.append_nil, List.replicate_succ, List.replicate_zero, List.length_cons, List.length_nil, rsv, ownIx, ixOf, wb, Option.getD_some, back_nil, back_zero, eqDD_int, neDD_int, eqDD_bool, neDD_bool, eqDD_str, neDD_str, ltD, leD, gtD, geD, List.nodup_nil, nodup1, at0, at1, at2, at3, at4, ixN5_1, ixN5_2, ixN5_3, Nat.reduceAdd, true_and, and_true, eq_self, List.length_singleton, slD, signsD, wipeD, restD, Sl.keep, rgD, subD, maxLD, minLD, Bool.not_true, Bool.not_false]
      refine lc_map PyData.str (fun x => natD (xs.idxOf x)) r [] (by simp; omega) (fun x hx A hA => ?_) ?_
      · simp only [index_names x xs (hr x hx), tsSeq, tsAsg, tsNext, tsRet, tsRetN, tsExpr, tsIf, tsFor, tsWhile, tsNever, tsAsgG, tsSetIx, tfV, tfLst, tfMove, tfList, tfLRg, tfLc, tfCall, tdFz, tdVar, tdC, tdBin, tdUn, tdTest, tdChain, tdAnd, tdOr, tdNot, tdAndV, tdOrV, tdNotV, tdIf, tdNil, tdCons, tdTup, tdLst, tdFn, tdIxO, tdLenO, tdMeth, tdSl, tdRev, toNo, toSome, tdIsi, tdIsi2, tdLenSet, tdIndex, tdYes, taNil, taCons, taOwn, tgName, tgNil, tgCons, tgTup, tiSeq, tiStr, tiRg1, tiRg2, tiRg3, tiEnum, onLst, isLst, seqOf_list, seqOf_tuple, addD, subD, divD, modD, powD, intD, negD, mulD, cmpD, i2D, lenD, ixD, List.getElem?_cons_succ, List.getElem?_cons_zero, List.set_cons_succ, List.set_cons_zero, opt_some, opt_none, opt_ite, if_true, if_false, Bool.false_eq_true, List.map_cons, List.map_nil, List.cons_append, List.nil_append, List.append_nil, List.replicate_succ, List.replicate_zero, List.length_cons, List.length_nil, rsv, ownIx, ixOf, wb, Option.getD_some, back_nil, back_zero, eqDD_int, neDD_int, eqDD_bool, neDD_bool, eqDD_str, neDD_str, ltD, leD, gtD, geD, List.nodup_nil, nodup1, at0, at1, at2, at3, at4, ixN5_1, ixN5_2, ixN5_3, Nat.reduceAdd, true_and, and_true, eq_self, List.length_singleton, slD, signsD, wipeD, restD, Sl.keep, rgD, subD, maxLD, minLD, Bool.not_true, Bool.not_false]
        exact hA _ rfl
      · exact k

theorem sc_row_of : FnScope ["names", "row", "name"] ["names", "row"] (defScope (top 14)) := ⟨rfl, rfl, rfl, by decide +kernel, rfl, by decide +kernel, by decide +kernel⟩
theorem has_row_of {P : Program} {w : World} {K : Fg} {mg : Str → Option Value} {base : Heap} {f : Addr} {fd : FuncData} (T : Txt mg) (F : Fun K "row_of" "row_of" (top 14) f fd) (hm : mg "row_of" = some (.ref f)) (hb : Binds K fd ["names", "row"] []) (h_is_name : Has P w K mg base 1 "is_name" ["thing"] [] (sp_is_name)) : Has P w K mg base 2 "row_of" ["names", "row"] [] (sp_row_of) :=
  ⟨⟨f, fd, fnD [] (sp_row_of) (t_row_of) F sc_row_of (fun args R E h => len_row_of h) (fun cdv A outer s H E fr W hr hfr tk => (ss_cons (s_if (PDw.pb (pw_or (pb_not (pb_val (pd_isi2 (by decide) (by decide) (pd_var (i := 1) rfl (by first | exact .inl rfl | exact .inr (.inl rfl) | exact .inr (.inr rfl))) rfl T.b_isinstance rfl T.b_list bt_list rfl T.b_tuple bt_tuple))) (pw_or1 (pb_not (pb_val (pd_callB (call_allD rfl) okL rfl T.b_all bt_all (pl_cons (pd_fz (pf_lc rfl sc_row_of.nd (pi_seq (pd_var (i := 1) rfl (by first | exact .inl rfl | exact .inr (.inl rfl) | exact .inr (.inr rfl)))) (own := [(("name" : Str), 2)]) (blkOk (by kernel_rfl)) (by rw [hfr]; decide) (by decide) (fun _ _ _ _ _ fr' hfr' => (t_name (i := 2) sc_row_of.nd rfl (by first | exact .inl rfl | exact .inr rfl) (by first | exact .inl rfl | exact .inr rfl) (by rw [hfr', hfr]; decide))) (fun _ _ _ _ _ fr' hfr' => (pd_and (pd_fz (pf_callH h_is_name (hr.mono (by decide)) rfl takesW0 (a_cons (pd_var (i := 2) rfl (by first | exact .inl rfl | exact .inr (.inl rfl) | exact .inr (.inr rfl))) a_nil))) (pd_one (pd_cmp (op_inDD (units65 hr)) okD (pd_var (i := 2) rfl (by first | exact .inl rfl | exact .inr (.inl rfl) | exact .inr (.inr rfl))) (pd_var (i := 0) rfl (by first | exact .inl rfl | exact .inr (.inl rfl) | exact .inr (.inr rfl))) (by rfl))))))) pl_nil))))))) (ss_one s_never) ss_nil)
  (ss_one (s_ret (pf_lc rfl sc_row_of.nd (pi_seq (pd_var (i := 1) rfl (by first | exact .inl rfl | exact .inr (.inl rfl) | exact .inr (.inr rfl)))) (own := [(("name" : Str), 2)]) (blkOk (by kernel_rfl)) (by rw [hfr]; decide) (by decide) (fun _ _ _ _ _ fr' hfr' => (t_name (i := 2) sc_row_of.nd rfl (by first | exact .inl rfl | exact .inr rfl) (by first | exact .inl rfl | exact .inr rfl) (by rw [hfr', hfr]; decide))) (fun _ _ _ _ _ fr' hfr' => (pd_index (pd_var (i := 0) rfl (by first | exact .inl rfl | exact .inr (.inl rfl) | exact .inr (.inr rfl))) (pd_var (i := 2) rfl (by first | exact .inl rfl | exact .inr (.inl rfl) | exact .inr (.inr rfl)))))))))) (fun args R E hp h => body_row_of h), hm, F.kp, hb⟩, mo_row_of⟩

/-- what lets computes: the deck, the row -/
def letsF (ds : List Int) : List Nat → List Nat → Bool
  | _, [] => true
  | [], _ :: _ => false
  | h :: t, c :: r => if h = c then letsF ds (t.take (ds.getD c 0).toNat ++ c :: t.drop (ds.getD c 0).toNat) r else false
def sp_lets : SpD := fun args R E => ∃ (ds : List Int) (r : List Nat), args = [.val (.list (ds.map PyData.int)), .val (.list (r.map natD))] ∧ 1 ≤ ds.length ∧ ds.length ≤ 1000 ∧ (∀ d ∈ ds, 0 ≤ d ∧ d < 2 ^ 62) ∧ (∀ c ∈ r, c < ds.length) ∧ R (.val (.bool (letsF ds (List.range ds.length) r))) args
theorem mo_lets : SpMono sp_lets := fun args R R' E E' h1 h2 ⟨t, xs, e, a1, a2, a3, a4, k⟩ => ⟨t, xs, e, a1, a2, a3, a4, h1 _ _ k⟩
theorem len_lets {args R E} (h : sp_lets args R E) : args.length = 2 := by obtain ⟨t, cs, rfl, _⟩ := h; rfl
theorem getI {ds : List Int} {c : Nat} (h : c < ds.length) : atI (ds.map PyData.int) (c : Int) = some (.int (ds.getD c 0)) ∧ ds.getD c 0 ∈ ds := by
  have e : ds.getD c 0 = ds[c] := by simp [List.getD, h]
  rw [e]
  exact ⟨atI_nat (by simp [h]), List.getElem_mem h⟩

def t_lets (W : WD) : TDs :=
  (tsSeq (tsAsg (tfLRg (tdFn lenD (tdCons (tdVar 0) tdNil))) 2)
  (tsSeq (tsFor (tiSeq (tdVar 1)) (tgName 3) (tsSeq (tsIf (tdTest (tdBin neDD (tdMeth 2 gPopAt (tdCons (tdC (.int 0)) tdNil)) (tdVar 3))) (tsRet (tfV (tdC (.bool false)))) tsNext)
  (tsExpr (tdMeth 2 gInsert (tdCons (tdBin ixD (tdVar 0) (tdVar 3)) (tdCons (tdVar 3) tdNil))))))
  (tsRet (tfV (tdC (.bool true))))))

theorem body_lets {args : List Sl} {R : Sl → List Sl → Prop} {E : Exn → List Sl → Prop} (h : sp_lets args R E) :
    t_lets (fun ex ρ => E ex (back [] args ρ)) ⟨fun ρ => R (.val .none) (back [] args ρ), fun s ρ => R s (back [] args ρ)⟩ (args ++ List.replicate (4 - args.length) .no) := by
  obtain ⟨ds, r, rfl, l1, l2, hd, hc, k⟩ := h
  have sz := sizeLine_eq
  unfold t_lets
  refine seq_step fun N hN => ?_
  simp only [List.length_map, Int.toNat_natCast, tsSeq, tsAsg, tsNext, tsRet, tsRetN, tsExpr, tsIf, tsFor, tsWhile, tsNever, tsAsgG, tsSetIx, tfV, tfLst, tfMove, tfList, tfLRg, tfLc, tfCall, tdFz, tdVar, tdC, tdBin, tdUn, tdTest, tdChain, tdAnd, tdOr, tdNot, tdAndV, tdOrV, tdNotV, tdIf, tdNil, tdCons, tdTup, tdLst, tdFn, tdIxO, tdLenO, tdMeth, tdSl, tdRev, toNo, toSome, tdIsi, tdIsi2, tdLenSet, tdIndex, tdYes, taNil, taCons, taOwn, tgName, tgNil, tgCons, tgTup, tiSeq, tiStr, tiRg1, tiRg2, tiRg3, tiEnum, onLst, isLst, seqOf_list, seqOf_tuple, addD, subD, divD, modD, powD, intD, negD, mulD, cmpD, i2D, lenD, ixD, List.getElem?_cons_succ, List.getElem?_cons_zero, List.set_cons_succ, List.set_cons_zero, opt_some, opt_none, opt_ite, if_true, if_false, Bool.false_eq_true, List.map_cons, List.map_nil, List.cons_append, List.nil_append, List.append_nil, List.replicate_succ, List.replicate_zero, List.length_cons, List.length_nil, rsv, ownIx, ixOf, wb, Option.getD_some, back_nil, back_zero, eqDD_int, neDD_int, eqDD_bool, neDD_bool, eqDD_str, neDD_str, ltD, leD, gtD, geD, List.nodup_nil, nodup1, at0, at1, at2, at3, at4, ixN5_1, ixN5_2, ixN5_3, Nat.reduceAdd, true_and, and_true, eq_self, List.length_singleton, slD, signsD, wipeD, restD, Sl.keep, rgD, subD, maxLD, minLD, Bool.not_true, Bool.not_false]
  refine ⟨RgOk.of_le (by omega) (by omega) (by omega) (by omega), ?_⟩
  subst hN
  refine seq_step fun N hN => ?_
  refine for_step fun g' b' hg hb' => ?_
  simp only [tsSeq, tsAsg, tsNext, tsRet, tsRetN, tsExpr, tsIf, tsFor, tsWhile, tsNever, tsAsgG, tsSetIx, tfV, tfLst, tfMove, tfList, tfLRg, tfLc, tfCall, tdFz, tdVar, tdC, tdBin, tdUn, tdTest, tdChain, tdAnd, tdOr, tdNot, tdAndV, tdOrV, tdNotV, tdIf, tdNil, tdCons, tdTup, tdLst, tdFn, tdIxO, tdLenO, tdMeth, tdSl, tdRev, toNo, toSome, tdIsi, tdIsi2, tdLenSet, tdIndex, tdYes, taNil, taCons, taOwn, tgName, tgNil, tgCons, tgTup, tiSeq, tiStr, tiRg1, tiRg2, tiRg3, tiEnum, onLst, isLst, seqOf_list, seqOf_tuple, addD, subD, divD, modD, powD, intD, negD, mulD, cmpD, i2D, lenD, ixD, List.getElem?_cons_succ, List.getElem?_cons_zero, List.set_cons_succ, List.set_cons_zero, opt_some, opt_none, opt_ite, if_true, if_false, Bool.false_eq_true, List.map_cons, List.map_nil, List.cons_append, List.nil_append, List.append_nil, List.replicate_succ, List.replicate_zero, List.length_cons, List.length_nil, rsv, ownIx, ixOf, wb, Option.getD_some, back_nil, back_zero, eqDD_int, neDD_int, eqDD_bool, neDD_bool, eqDD_str, neDD_str, ltD, leD, gtD, geD, List.nodup_nil, nodup1, at0, at1, at2, at3, at4, ixN5_1, ixN5_2, ixN5_3, Nat.reduceAdd, true_and, and_true, eq_self, List.length_singleton, slD, signsD, wipeD, restD, Sl.keep, rgD, subD, maxLD, minLD, Bool.not_true, Bool.not_false]
  have er : List.map (fun i : Nat => PyData.int (0 + (i : Int))) (List.range ds.length) = (List.range ds.length).map natD := List.map_congr_left fun i _ => by unfold natD; rw [Int.zero_add]
  rw [er]
  refine loop_ind natD (fun rest ρ => ∃ (deck : List Nat) (s3 : Sl), ρ = [.val (.list (ds.map PyData.int)), .val (.list (r.map natD)), .lst (deck.map natD), s3] ∧ deck.length = ds.length ∧ (∀ c ∈ rest, c < ds.length) ∧ letsF ds deck rest = letsF ds (List.range ds.length) r) ?_ ?_ _ _
    ⟨List.range ds.length, _, rfl, List.length_range, hc, rfl⟩
  · rintro c rest ρ ih ⟨deck, s3, rfl, dl, hc', hk⟩
    obtain ⟨h, t, rfl⟩ : ∃ h t, deck = h :: t := by
      cases deck with
      | nil => rw [List.length_nil] at dl; omega
      | cons h t => exact ⟨h, t, rfl⟩
    rw [List.length_cons] at dl
    subst hg
    simp only [tsSeq, tsAsg, tsNext, tsRet, tsRetN, tsExpr, tsIf, tsFor, tsWhile, tsNever, tsAsgG, tsSetIx, tfV, tfLst, tfMove, tfList, tfLRg, tfLc, tfCall, tdFz, tdVar, tdC, tdBin, tdUn, tdTest, tdChain, tdAnd, tdOr, tdNot, tdAndV, tdOrV, tdNotV, tdIf, tdNil, tdCons, tdTup, tdLst, tdFn, tdIxO, tdLenO, tdMeth, tdSl, tdRev, toNo, toSome, tdIsi, tdIsi2, tdLenSet, tdIndex, tdYes, taNil, taCons, taOwn, tgName, tgNil, tgCons, tgTup, tiSeq, tiStr, tiRg1, tiRg2, tiRg3, tiEnum, onLst, isLst, seqOf_list, seqOf_tuple, addD, subD, divD, modD, powD, intD, negD, mulD, cmpD, i2D, lenD, ixD, List.getElem?_cons_succ, List.getElem?_cons_zero, List.set_cons_succ, List.set_cons_zero, opt_some, opt_none, opt_ite, if_true, if_false, Bool.false_eq_true, List.map_cons, List.map_nil, List.cons_append, List.nil_append, List.append_nil, List.replicate_succ, List.replicate_zero, List.length_cons, List.length_nil, rsv, ownIx, ixOf, wb, Option.getD_some, back_nil, back_zero, eqDD_int, neDD_int, eqDD_bool, neDD_bool, eqDD_str, neDD_str, ltD, leD, gtD, geD, List.nodup_nil, nodup1, at0, at1, at2, at3, at4, ixN5_1, ixN5_2, ixN5_3, Nat.reduceAdd, true_and, and_true, eq_self, List.length_singleton, slD, signsD, wipeD, restD, Sl.keep, rgD, subD, maxLD, minLD, Bool.not_true, Bool.not_false]
    subst hb'
    refine seq_step fun N2 hN2 => ?_
    have i0 : ixN (t.length + 1) 0 = some 0 := by unfold ixN; rw [if_pos (by omega), if_pos (by omega)]; rfl
    have en : natD h = .int (h : Int) := rfl
    have ec : natD c = .int (c : Int) := rfl
    simp only [gPopAt, List.map_cons, List.length_map, i0, Option.bind_some, Option.map_some, en, ec, List.eraseIdx_cons_zero, tsSeq, tsAsg, tsNext, tsRet, tsRetN, tsExpr, tsIf, tsFor, tsWhile, tsNever, tsAsgG, tsSetIx, tfV, tfLst, tfMove, tfList, tfLRg, tfLc, tfCall, tdFz, tdVar, tdC, tdBin, tdUn, tdTest, tdChain, tdAnd, tdOr, tdNot, tdAndV, tdOrV, tdNotV, tdIf, tdNil, tdCons, tdTup, tdLst, tdFn, tdIxO, tdLenO, tdMeth, tdSl, tdRev, toNo, toSome, tdIsi, tdIsi2, tdLenSet, tdIndex, tdYes, taNil, taCons, taOwn, tgName, tgNil, tgCons, tgTup, tiSeq, tiStr, tiRg1, tiRg2, tiRg3, tiEnum, onLst, isLst, seqOf_list, seqOf_tuple, addD, subD, divD, modD, powD, intD, negD, mulD, cmpD, i2D, lenD, ixD, List.getElem?_cons_succ, List.getElem?_cons_zero, List.set_cons_succ, List.set_cons_zero, opt_some, opt_none, opt_ite, if_true, if_false, Bool.false_eq_true, List.map_cons, List.map_nil, List.cons_append, List.nil_append, List.append_nil, List.replicate_succ, List.replicate_zero, List.length_cons, List.length_nil, rsv, ownIx, ixOf, wb, Option.getD_some, back_nil, back_zero, eqDD_int, neDD_int, eqDD_bool, neDD_bool, eqDD_str, neDD_str, ltD, leD, gtD, geD, List.nodup_nil, nodup1, at0, at1, at2, at3, at4, ixN5_1, ixN5_2, ixN5_3, Nat.reduceAdd, true_and, and_true, eq_self, List.length_singleton, slD, signsD, wipeD, restD, Sl.keep, rgD, subD, maxLD, minLD, Bool.not_true, Bool.not_false]
    refine ⟨⟨by decide, by decide⟩, ?_⟩
    have hcl := hc' c List.mem_cons_self
    by_cases hh : (h : Int) = (c : Int)
    · simp only [decide_eq_true hh, tsSeq, tsAsg, tsNext, tsRet, tsRetN, tsExpr, tsIf, tsFor, tsWhile, tsNever, tsAsgG, tsSetIx, tfV, tfLst, tfMove, tfList, tfLRg, tfLc, tfCall, tdFz, tdVar, tdC, tdBin, tdUn, tdTest, tdChain, tdAnd, tdOr, tdNot, tdAndV, tdOrV, tdNotV, tdIf, tdNil, tdCons, tdTup, tdLst, tdFn, tdIxO, tdLenO, tdMeth, tdSl, tdRev, toNo, toSome, tdIsi, tdIsi2, tdLenSet, tdIndex, tdYes, taNil, taCons, taOwn, tgName, tgNil, tgCons, tgTup, tiSeq, tiStr, tiRg1, tiRg2, tiRg3, tiEnum, onLst, isLst, seqOf_list, seqOf_tuple, addD, subD, divD, modD, powD, intD, negD, mulD, cmpD, i2D, lenD, ixD, List.getElem?_cons_succ, List.getElem?_cons_zero, List.set_cons_succ, List.set_cons_zero, opt_some, opt_none, opt_ite, if_true, if_false, Bool.false_eq_true, List.map_cons, List.map_nil, List.cons_append, List.nil_append, List.append_nil, List.replicate_succ, List.replicate_zero, List.length_cons, List.length_nil, rsv, ownIx, ixOf, wb, Option.getD_some, back_nil, back_zero, eqDD_int, neDD_int, eqDD_bool, neDD_bool, eqDD_str, neDD_str, ltD, leD, gtD, geD, List.nodup_nil, nodup1, at0, at1, at2, at3, at4, ixN5_1, ixN5_2, ixN5_3, Nat.reduceAdd, true_and, and_true, eq_self, List.length_singleton, slD, signsD, wipeD, restD, Sl.keep, rgD, subD, maxLD, minLD, Bool.not_true, Bool.not_false]
      subst hN2
      obtain ⟨g1, g2⟩ := getI hcl
      obtain ⟨d0, d1⟩ := hd _ g2
      simp only [gInsert, g1, List.length_map, tsSeq, tsAsg, tsNext, tsRet, tsRetN, tsExpr, tsIf, tsFor, tsWhile, tsNever, tsAsgG, tsSetIx, tfV, tfLst, tfMove, tfList, tfLRg, tfLc, tfCall, tdFz, tdVar, tdC, tdBin, tdUn, tdTest, tdChain, tdAnd, tdOr, tdNot, tdAndV, tdOrV, tdNotV, tdIf, tdNil, tdCons, tdTup, tdLst, tdFn, tdIxO, tdLenO, tdMeth, tdSl, tdRev, toNo, toSome, tdIsi, tdIsi2, tdLenSet, tdIndex, tdYes, taNil, taCons, taOwn, tgName, tgNil, tgCons, tgTup, tiSeq, tiStr, tiRg1, tiRg2, tiRg3, tiEnum, onLst, isLst, seqOf_list, seqOf_tuple, addD, subD, divD, modD, powD, intD, negD, mulD, cmpD, i2D, lenD, ixD, List.getElem?_cons_succ, List.getElem?_cons_zero, List.set_cons_succ, List.set_cons_zero, opt_some, opt_none, opt_ite, if_true, if_false, Bool.false_eq_true, List.map_cons, List.map_nil, List.cons_append, List.nil_append, List.append_nil, List.replicate_succ, List.replicate_zero, List.length_cons, List.length_nil, rsv, ownIx, ixOf, wb, Option.getD_some, back_nil, back_zero, eqDD_int, neDD_int, eqDD_bool, neDD_bool, eqDD_str, neDD_str, ltD, leD, gtD, geD, List.nodup_nil, nodup1, at0, at1, at2, at3, at4, ixN5_1, ixN5_2, ixN5_3, Nat.reduceAdd, true_and, and_true, eq_self, List.length_singleton, slD, signsD, wipeD, restD, Sl.keep, rgD, subD, maxLD, minLD, Bool.not_true, Bool.not_false]
      have hh' : h = c := by omega
      subst hh'
      refine ⟨⟨by omega, d0, by omega⟩, ih _ ⟨t.take (ds.getD h 0).toNat ++ h :: t.drop (ds.getD h 0).toNat, .val (.int (h : Int)), ?_, ?_, fun x hx => hc' x (List.mem_cons_of_mem _ hx), ?_⟩⟩
      · rw [List.map_append, List.map_cons, List.map_take, List.map_drop, List.append_assoc]; rfl
      · rw [List.length_append, List.length_cons, List.length_take, List.length_drop]; omega
      · rw [← hk]
        show _ = if h = h then _ else _
        rw [if_pos rfl]
    · simp only [decide_eq_false hh, tsSeq, tsAsg, tsNext, tsRet, tsRetN, tsExpr, tsIf, tsFor, tsWhile, tsNever, tsAsgG, tsSetIx, tfV, tfLst, tfMove, tfList, tfLRg, tfLc, tfCall, tdFz, tdVar, tdC, tdBin, tdUn, tdTest, tdChain, tdAnd, tdOr, tdNot, tdAndV, tdOrV, tdNotV, tdIf, tdNil, tdCons, tdTup, tdLst, tdFn, tdIxO, tdLenO, tdMeth, tdSl, tdRev, toNo, toSome, tdIsi, tdIsi2, tdLenSet, tdIndex, tdYes, taNil, taCons, taOwn, tgName, tgNil, tgCons, tgTup, tiSeq, tiStr, tiRg1, tiRg2, tiRg3, tiEnum, onLst, isLst, seqOf_list, seqOf_tuple, addD, subD, divD, modD, powD, intD, negD, mulD, cmpD, i2D, lenD, ixD, List.getElem?_cons_succ, List.getElem?_cons_zero, List.set_cons_succ, List.set_cons_zero, opt_some, opt_none, opt_ite, if_true, if_false, Bool.false_eq_true, List.map_cons, List.map_nil, List.cons_append, List.nil_append, List.append_nil, List.replicate_succ, List.replicate_zero, List.length_cons, List.length_nil, rsv, ownIx, ixOf, wb, Option.getD_some, back_nil, back_zero, eqDD_int, neDD_int, eqDD_bool, neDD_bool, eqDD_str, neDD_str, ltD, leD, gtD, geD, List.nodup_nil, nodup1, at0, at1, at2, at3, at4, ixN5_1, ixN5_2, ixN5_3, Nat.reduceAdd, true_and, and_true, eq_self, List.length_singleton, slD, signsD, wipeD, restD, Sl.keep, rgD, subD, maxLD, minLD, Bool.not_true, Bool.not_false]
      have e : letsF ds (List.range ds.length) r = false := by
        rw [← hk]
        show (if h = c then _ else false) = false
        rw [if_neg (by omega)]
      rw [e] at k; exact k
  · rintro ρ ⟨deck, s3, rfl, dl, _, hk⟩
    subst hN
    simp only [tsSeq, tsAsg, tsNext, tsRet, tsRetN, tsExpr, tsIf, tsFor, tsWhile, tsNever, tsAsgG, tsSetIx, tfV, tfLst, tfMove, tfList, tfLRg, tfLc, tfCall, tdFz, tdVar, tdC, tdBin, tdUn, tdTest, tdChain, tdAnd, tdOr, tdNot, tdAndV, tdOrV, tdNotV, tdIf, tdNil, tdCons, tdTup, tdLst, tdFn, tdIxO, tdLenO, tdMeth, tdSl, tdRev, toNo, toSome, tdIsi, tdIsi2, tdLenSet, tdIndex, tdYes, taNil, taCons, taOwn, tgName, tgNil, tgCons, tgTup, tiSeq, tiStr, tiRg1, tiRg2, tiRg3, tiEnum, onLst, isLst, seqOf_list, seqOf_tuple, addD, subD, divD, modD, powD, intD, negD, mulD, cmpD, i2D, lenD, ixD, List.getElem?_cons_succ, List.getElem?_cons_zero, List.set_cons_succ, List.set_cons_zero, opt_some, opt_none, opt_ite, if_true, if_false, Bool.false_eq_true, List.map_cons, List.map_nil, List.cons_append, List.nil_append, List.append_nil, List.replicate_succ, List.replicate_zero, List.length_cons, List.length_nil, rsv, ownIx, ixOf, wb, Option.getD_some, back_nil, back_zero, eqDD_int, neDD_int, eqDD_bool, neDD_bool, eqDD_str, neDD_str, ltD, leD, gtD, geD, List.nodup_nil, nodup1, at0, at1, at2, at3, at4, ixN5_1, ixN5_2, ixN5_3, Nat.reduceAdd, true_and, and_true, eq_self, List.length_singleton, slD, signsD, wipeD, restD, Sl.keep, rgD, subD, maxLD, minLD, Bool.not_true, Bool.not_false]
    have e : letsF ds (List.range ds.length) r = true := by
      rw [← hk]
      cases deck <;> rfl
    rw [e] at k; exact k

theorem sc_lets : FnScope ["depths", "row", "deck", "card"] ["depths", "row"] (defScope (top 15)) := ⟨rfl, rfl, rfl, by decide +kernel, rfl, by decide +kernel, by decide +kernel⟩
theorem has_lets {P : Program} {w : World} {K : Fg} {mg : Str → Option Value} {base : Heap} {f : Addr} {fd : FuncData} (T : Txt mg) (F : Fun K "lets" "lets" (top 15) f fd) (hm : mg "lets" = some (.ref f)) (hb : Binds K fd ["depths", "row"] [])  : Has P w K mg base 1 "lets" ["depths", "row"] [] (sp_lets) :=
  ⟨⟨f, fd, fnD [] (sp_lets) (t_lets) F sc_lets (fun args R E h => len_lets h) (fun cdv A outer s H E fr W hr hfr tk => (ss_cons (s_asg (i := 2) sc_lets.nd rfl (by first | exact .inl rfl | exact .inr rfl) (by first | exact .inl rfl | exact .inr rfl) (by rw [hfr]; decide) (pf_lRg rfl (pd_callB call_lenD okL rfl T.b_len bt_len (pl_cons (pd_var (i := 0) rfl (by first | exact .inl rfl | exact .inr (.inl rfl) | exact .inr (.inr rfl))) pl_nil)) rfl T.b_list rfl T.b_range))
  (ss_cons (s_for passB rfl (pi_seq (pd_var (i := 1) rfl (by first | exact .inl rfl | exact .inr (.inl rfl) | exact .inr (.inr rfl)))) (t_name (i := 3) sc_lets.nd rfl (by first | exact .inl rfl | exact .inr rfl) (by first | exact .inl rfl | exact .inr rfl) (by rw [hfr]; decide)) (ss_cons (s_if (pb_cmp (op_neDD hr.units) okD (pd_meth (i := 2) PySem.F.slot_list_pop PySem.F.type_list_pop mt_popAt ok_popAt rfl (by first | exact .inl rfl | exact .inr (.inl rfl) | exact .inr (.inr rfl)) (pl_cons pd_int pl_nil)) (pd_var (i := 3) rfl (by first | exact .inl rfl | exact .inr (.inl rfl) | exact .inr (.inr rfl))) (nobehind _ (by decide) (by decide))) (ss_one (s_ret (pf_val pd_bl))) ss_nil)
  (ss_one (s_expr (pd_meth (i := 2) PySem.F.slot_list_insert PySem.F.type_list_insert mt_insert ok_insert rfl (by first | exact .inl rfl | exact .inr (.inl rfl) | exact .inr (.inr rfl)) (pl_cons (pd_ix ix_D okD (pd_var (i := 0) rfl (by first | exact .inl rfl | exact .inr (.inl rfl) | exact .inr (.inr rfl))) (pd_var (i := 3) rfl (by first | exact .inl rfl | exact .inr (.inl rfl) | exact .inr (.inr rfl))) (fun _ _ => rfl)) (pl_cons (pd_var (i := 3) rfl (by first | exact .inl rfl | exact .inr (.inl rfl) | exact .inr (.inr rfl))) pl_nil)))))))
  (ss_one (s_ret (pf_val pd_bl)))))) (fun args R E hp h => body_lets h), hm, F.kp, hb⟩, mo_lets⟩

def sp_is_row : SpD := fun args R E => ∃ (t : Bool) (xs : List D) (n : Nat), args = [.val (rowOf t xs), .val (.int n)] ∧ R (.val (.bool (decide (xs.length = n)))) args
theorem mo_is_row : SpMono sp_is_row := fun args R R' E E' h1 h2 ⟨t, xs, n, e, k⟩ => ⟨t, xs, n, e, h1 _ _ k⟩
theorem len_is_row {args R E} (h : sp_is_row args R E) : args.length = 2 := by obtain ⟨t, xs, n, rfl, _⟩ := h; rfl
theorem dec_cast (a b : Nat) : decide ((a : Int) = (b : Int)) = decide (a = b) := by
  by_cases h : a = b
  · rw [decide_eq_true h, decide_eq_true (by omega)]
  · rw [decide_eq_false h, decide_eq_false (by omega)]

def t_is_row (W : WD) : TDs :=
  (tsRet (tfV (tdAndV (tdIsi2 "list" "tuple" (tdVar 0)) (tdBin eqDD (tdFn lenD (tdCons (tdVar 0) tdNil)) (tdVar 1)))))

theorem body_is_row {args : List Sl} {R : Sl → List Sl → Prop} {E : Exn → List Sl → Prop} (h : sp_is_row args R E) :
    t_is_row (fun ex ρ => E ex (back [] args ρ)) ⟨fun ρ => R (.val .none) (back [] args ρ), fun s ρ => R s (back [] args ρ)⟩ (args ++ List.replicate (2 - args.length) .no) := by
  obtain ⟨t, xs, n, rfl, k⟩ := h
  cases t
  · unfold t_is_row rowOf
    simp only [Bool.false_eq_true, if_false, tyD, lst_tup, Bool.true_or, dec_cast, tsSeq, tsAsg, tsNext, tsRet, tsRetN, tsExpr, tsIf, tsFor, tsWhile, tsNever, tsAsgG, tsSetIx, tfV, tfLst, tfMove, tfList, tfLRg, tfLc, tfCall, tdFz, tdVar, tdC, tdBin, tdUn, tdTest, tdChain, tdAnd, tdOr, tdNot, tdAndV, tdOrV, tdNotV, tdIf, tdNil, tdCons, tdTup, tdLst, tdFn, tdIxO, tdLenO, tdMeth, tdSl, tdRev, toNo, toSome, tdIsi, tdIsi2, tdLenSet, tdIndex, tdYes, taNil, taCons, taOwn, tgName, tgNil, tgCons, tgTup, tiSeq, tiStr, tiRg1, tiRg2, tiRg3, tiEnum, onLst, isLst, seqOf_list, seqOf_tuple, addD, subD, divD, modD, powD, intD, negD, mulD, cmpD, i2D, lenD, ixD, List.getElem?_cons_succ, List.getElem?_cons_zero, List.set_cons_succ, List.set_cons_zero, opt_some, opt_none, opt_ite, if_true, if_false, Bool.false_eq_true, List.map_cons, List.map_nil, List.cons_append, List.nil_append, List.append_nil, List.replicate_succ, List.replicate_zero, List.length_cons, List.length_nil, rsv, ownIx, ixOf, wb, Option.getD_some, back_nil, back_zero, eqDD_int, neDD_int, eqDD_bool, neDD_bool, eqDD_str, neDD_str, ltD, leD, gtD, geD, List.nodup_nil, nodup1, at0, at1, at2, at3, at4, ixN5_1, ixN5_2, ixN5_3, Nat.reduceAdd, true_and, and_true, eq_self, List.length_singleton, slD, signsD, wipeD, restD, Sl.keep, rgD, subD, maxLD, minLD, Bool.not_true, Bool.not_false]
    exact k
  · unfold t_is_row rowOf
    simp only [if_true, tyD, lst_tup, Bool.false_or, dec_cast, tsSeq, tsAsg, tsNext, tsRet, tsRetN, tsExpr, tsIf, tsFor, tsWhile, tsNever, tsAsgG, tsSetIx, tfV, tfLst, tfMove, tfList, tfLRg, tfLc, tfCall, tdFz, tdVar, tdC, tdBin, tdUn, tdTest, tdChain, tdAnd, tdOr, tdNot, tdAndV, tdOrV, tdNotV, tdIf, tdNil, tdCons, tdTup, tdLst, tdFn, tdIxO, tdLenO, tdMeth, tdSl, tdRev, toNo, toSome, tdIsi, tdIsi2, tdLenSet, tdIndex, tdYes, taNil, taCons, taOwn, tgName, tgNil, tgCons, tgTup, tiSeq, tiStr, tiRg1, tiRg2, tiRg3, tiEnum, onLst, isLst, seqOf_list, seqOf_tuple, addD, subD, divD, modD, powD, intD, negD, mulD, cmpD, i2D, lenD, ixD, List.getElem?_cons_succ, List.getElem?_cons_zero, List.set_cons_succ, List.set_cons_zero, opt_some, opt_none, opt_ite, if_true, if_false, Bool.false_eq_true, List.map_cons, List.map_nil, List.cons_append, List.nil_append, List.append_nil, List.replicate_succ, List.replicate_zero, List.length_cons, List.length_nil, rsv, ownIx, ixOf, wb, Option.getD_some, back_nil, back_zero, eqDD_int, neDD_int, eqDD_bool, neDD_bool, eqDD_str, neDD_str, ltD, leD, gtD, geD, List.nodup_nil, nodup1, at0, at1, at2, at3, at4, ixN5_1, ixN5_2, ixN5_3, Nat.reduceAdd, true_and, and_true, eq_self, List.length_singleton, slD, signsD, wipeD, restD, Sl.keep, rgD, subD, maxLD, minLD, Bool.not_true, Bool.not_false]
    exact k

theorem sc_is_row : FnScope ["thing", "size"] ["thing", "size"] (defScope (top 10)) := ⟨rfl, rfl, rfl, by decide +kernel, rfl, by decide +kernel, by decide +kernel⟩
theorem has_is_row {P : Program} {w : World} {K : Fg} {mg : Str → Option Value} {base : Heap} {f : Addr} {fd : FuncData} (T : Txt mg) (F : Fun K "is_row" "is_row" (top 10) f fd) (hm : mg "is_row" = some (.ref f)) (hb : Binds K fd ["thing", "size"] [])  : Has P w K mg base 1 "is_row" ["thing", "size"] [] (sp_is_row) :=
  ⟨⟨f, fd, fnD [] (sp_is_row) (t_is_row) F sc_is_row (fun args R E h => len_is_row h) (fun cdv A outer s H E fr W hr hfr tk => (ss_one (s_ret (pf_val (pd_and (pd_isi2 (by decide) (by decide) (pd_var (i := 0) rfl (by first | exact .inl rfl | exact .inr (.inl rfl) | exact .inr (.inr rfl))) rfl T.b_isinstance rfl T.b_list bt_list rfl T.b_tuple bt_tuple) (pd_one (pd_cmp (op_eqDD hr.units) okD (pd_callB call_lenD okL rfl T.b_len bt_len (pl_cons (pd_var (i := 0) rfl (by first | exact .inl rfl | exact .inr (.inl rfl) | exact .inr (.inr rfl))) pl_nil)) (pd_var (i := 1) rfl (by first | exact .inl rfl | exact .inr (.inl rfl) | exact .inr (.inr rfl))) (nobehind _ (by decide) (by decide))))))))) (fun args R E hp h => body_is_row h), hm, F.kp, hb⟩, mo_is_row⟩

def sp_is_whole : SpD := fun args R E => ∃ (i : Int), args = [.val (.int i)] ∧ R (.val (.bool (decide (0 ≤ i)))) args
theorem mo_is_whole : SpMono sp_is_whole := fun args R R' E E' h1 h2 ⟨t, e, k⟩ => ⟨t, e, h1 _ _ k⟩
theorem len_is_whole {args R E} (h : sp_is_whole args R E) : args.length = 1 := by obtain ⟨t, rfl, _⟩ := h; rfl
theorem isi_int : isiB "int" "int" = true ∧ isiB "int" "bool" = false ∧ isiB "bool" "bool" = true := by decide

def t_is_whole (W : WD) : TDs :=
  (tsRet (tfV (tdAndV (tdIsi "int" (tdVar 0)) (tdAndV (tdNotV (tdIsi "bool" (tdVar 0))) (tdBin geD (tdVar 0) (tdC (.int 0)))))))

theorem body_is_whole {args : List Sl} {R : Sl → List Sl → Prop} {E : Exn → List Sl → Prop} (h : sp_is_whole args R E) :
    t_is_whole (fun ex ρ => E ex (back [] args ρ)) ⟨fun ρ => R (.val .none) (back [] args ρ), fun s ρ => R s (back [] args ρ)⟩ (args ++ List.replicate (1 - args.length) .no) := by
  obtain ⟨i, rfl, k⟩ := h
  simp only [t_is_whole, tyD, isi_int, tsSeq, tsAsg, tsNext, tsRet, tsRetN, tsExpr, tsIf, tsFor, tsWhile, tsNever, tsAsgG, tsSetIx, tfV, tfLst, tfMove, tfList, tfLRg, tfLc, tfCall, tdFz, tdVar, tdC, tdBin, tdUn, tdTest, tdChain, tdAnd, tdOr, tdNot, tdAndV, tdOrV, tdNotV, tdIf, tdNil, tdCons, tdTup, tdLst, tdFn, tdIxO, tdLenO, tdMeth, tdSl, tdRev, toNo, toSome, tdIsi, tdIsi2, tdLenSet, tdIndex, tdYes, taNil, taCons, taOwn, tgName, tgNil, tgCons, tgTup, tiSeq, tiStr, tiRg1, tiRg2, tiRg3, tiEnum, onLst, isLst, seqOf_list, seqOf_tuple, addD, subD, divD, modD, powD, intD, negD, mulD, cmpD, i2D, lenD, ixD, List.getElem?_cons_succ, List.getElem?_cons_zero, List.set_cons_succ, List.set_cons_zero, opt_some, opt_none, opt_ite, if_true, if_false, Bool.false_eq_true, List.map_cons, List.map_nil, List.cons_append, List.nil_append, List.append_nil, List.replicate_succ, List.replicate_zero, List.length_cons, List.length_nil, rsv, ownIx, ixOf, wb, Option.getD_some, back_nil, back_zero, eqDD_int, neDD_int, eqDD_bool, neDD_bool, eqDD_str, neDD_str, ltD, leD, gtD, geD, List.nodup_nil, nodup1, at0, at1, at2, at3, at4, ixN5_1, ixN5_2, ixN5_3, Nat.reduceAdd, true_and, and_true, eq_self, List.length_singleton, slD, signsD, wipeD, restD, Sl.keep, rgD, subD, maxLD, minLD, Bool.not_true, Bool.not_false]
  exact k

theorem sc_is_whole : FnScope ["thing"] ["thing"] (defScope (top 9)) := ⟨rfl, rfl, rfl, by decide +kernel, rfl, by decide +kernel, by decide +kernel⟩
theorem has_is_whole {P : Program} {w : World} {K : Fg} {mg : Str → Option Value} {base : Heap} {f : Addr} {fd : FuncData} (T : Txt mg) (F : Fun K "is_whole" "is_whole" (top 9) f fd) (hm : mg "is_whole" = some (.ref f)) (hb : Binds K fd ["thing"] [])  : Has P w K mg base 1 "is_whole" ["thing"] [] (sp_is_whole) :=
  ⟨⟨f, fd, fnD [] (sp_is_whole) (t_is_whole) F sc_is_whole (fun args R E h => len_is_whole h) (fun cdv A outer s H E fr W hr hfr tk => (ss_one (s_ret (pf_val (pd_and (pd_isi (by decide) (pd_var (i := 0) rfl (by first | exact .inl rfl | exact .inr (.inl rfl) | exact .inr (.inr rfl))) rfl T.b_isinstance rfl T.b_int bt_int) (pd_and (pd_not (pd_isi (by decide) (pd_var (i := 0) rfl (by first | exact .inl rfl | exact .inr (.inl rfl) | exact .inr (.inr rfl))) rfl T.b_isinstance rfl T.b_bool bt_bool)) (pd_one (pd_cmp (op_geD) okD (pd_var (i := 0) rfl (by first | exact .inl rfl | exact .inr (.inl rfl) | exact .inr (.inr rfl))) pd_int (nobehind _ (by decide) (by decide)))))))))) (fun args R E hp h => body_is_whole h), hm, F.kp, hb⟩, mo_is_whole⟩

def minI (n d : Int) : Int := if n < d then n else d
def sp_depths_let : SpD := fun args R E => ∃ (t u v : Bool) (xs r : List Str) (ds : List Int), args = [.val (rowOf t (xs.map PyData.str)), .val (rowOf u (r.map PyData.str)), .val (rowOf v (ds.map PyData.int))] ∧ namesB xs = true ∧ 1 ≤ xs.length ∧ xs.length ≤ 40 ∧ (∀ x ∈ r, x ∈ xs) ∧ r.length ≤ 1000 ∧
  ds.length = xs.length ∧ (∀ d ∈ ds, 0 ≤ d) ∧ R (.val (.bool (letsF (ds.map (minI xs.length)) (List.range ds.length) (r.map fun x => xs.idxOf x)))) args
theorem mo_depths_let : SpMono sp_depths_let := fun args R R' E E' h1 h2 ⟨t, u, v, xs, r, ds, e, a1, a2, a3, a4, a5, a6, a7, k⟩ => ⟨t, u, v, xs, r, ds, e, a1, a2, a3, a4, a5, a6, a7, h1 _ _ k⟩
theorem len_depths_let {args R E} (h : sp_depths_let args R E) : args.length = 3 := by obtain ⟨t, u, v, xs, r, ds, rfl, _⟩ := h; rfl

def t_depths_let (W : WD) : TDs :=
  (tsSeq (tsAsg (tfCall [] (sp_names_of) W (taCons (tdVar 0) taNil)) 0)
  (tsSeq (tsAsg (tfCall [] (sp_row_of) W (taCons (tdVar 0) (taCons (tdVar 1) taNil))) 3)
  (tsSeq (tsIf (tdOr (tdNot (tdTest (tdFz (tfCall [] (sp_is_row) W (taCons (tdVar 2) (taCons (tdFn lenD (tdCons (tdVar 0) tdNil)) taNil)))))) (tdNot (tdTest (tdFn allD (tdCons (tdFz (tfLc (tiSeq (tdVar 2)) (tgName 4) tdYes (tdFz (tfCall [] (sp_is_whole) W0 (taCons (tdVar 4) taNil))) [4])) tdNil))))) tsNever tsNext)
  (tsRet (tfCall [] (sp_lets) W (taCons (tdFz (tfLc (tiSeq (tdVar 2)) (tgName 4) tdYes (tdFn minLD (tdCons (tdVar 4) (tdCons (tdFn lenD (tdCons (tdVar 0) tdNil)) tdNil))) [4])) (taCons (tdVar 3) taNil)))))))

theorem body_depths_let {args : List Sl} {R : Sl → List Sl → Prop} {E : Exn → List Sl → Prop} (h : sp_depths_let args R E) :
    t_depths_let (fun ex ρ => E ex (back [] args ρ)) ⟨fun ρ => R (.val .none) (back [] args ρ), fun s ρ => R s (back [] args ρ)⟩ (args ++ List.replicate (5 - args.length) .no) := by
  obtain ⟨t, u, v, xs, r, ds, rfl, ok, l1, l2, hr, l3, dl, hd, k⟩ := h
  have sz := sizeLine_eq
  unfold t_depths_let
  refine seq_step fun N hN => ?_
  simp only [tsSeq, tsAsg, tsNext, tsRet, tsRetN, tsExpr, tsIf, tsFor, tsWhile, tsNever, tsAsgG, tsSetIx, tfV, tfLst, tfMove, tfList, tfLRg, tfLc, tfCall, tdFz, tdVar, tdC, tdBin, tdUn, tdTest, tdChain, tdAnd, tdOr, tdNot, tdAndV, tdOrV, tdNotV, tdIf, tdNil, tdCons, tdTup, tdLst, tdFn, tdIxO, tdLenO, tdMeth, tdSl, tdRev, toNo, toSome, tdIsi, tdIsi2, tdLenSet, tdIndex, tdYes, taNil, taCons, taOwn, tgName, tgNil, tgCons, tgTup, tiSeq, tiStr, tiRg1, tiRg2, tiRg3, tiEnum, onLst, isLst, seqOf_list, seqOf_tuple, addD, subD, divD, modD, powD, intD, negD, mulD, cmpD, i2D, lenD, ixD, List.getElem?_cons_succ, List.getElem?_cons_zero, List.set_cons_succ, List.set_cons_zero, opt_some, opt_none, opt_ite, if_true, if_false, Bool.false_eq_true, List.map_cons, List.map_nil, List.cons_append, List.nil_append, List.append_nil, List.replicate_succ, List.replicate_zero, List.length_cons, List.length_nil, rsv, ownIx, ixOf, wb, Option.getD_some, back_nil, back_zero, eqDD_int, neDD_int, eqDD_bool, neDD_bool, eqDD_str, neDD_str, ltD, leD, gtD, geD, List.nodup_nil, nodup1, at0, at1, at2, at3, at4, ixN5_1, ixN5_2, ixN5_3, Nat.reduceAdd, true_and, and_true, eq_self, List.length_singleton, slD, signsD, wipeD, restD, Sl.keep, rgD, subD, maxLD, minLD, Bool.not_true, Bool.not_false]
  refine ⟨t, xs, rfl, ok, l1, l2, ?_⟩
  simp only [tsSeq, tsAsg, tsNext, tsRet, tsRetN, tsExpr, tsIf, tsFor, tsWhile, tsNever, tsAsgG, tsSetIx, tfV, tfLst, tfMove, tfList, tfLRg, tfLc, tfCall, tdFz, tdVar, tdC, tdBin, tdUn, tdTest, tdChain, tdAnd, tdOr, tdNot, tdAndV, tdOrV, tdNotV, tdIf, tdNil, tdCons, tdTup, tdLst, tdFn, tdIxO, tdLenO, tdMeth, tdSl, tdRev, toNo, toSome, tdIsi, tdIsi2, tdLenSet, tdIndex, tdYes, taNil, taCons, taOwn, tgName, tgNil, tgCons, tgTup, tiSeq, tiStr, tiRg1, tiRg2, tiRg3, tiEnum, onLst, isLst, seqOf_list, seqOf_tuple, addD, subD, divD, modD, powD, intD, negD, mulD, cmpD, i2D, lenD, ixD, List.getElem?_cons_succ, List.getElem?_cons_zero, List.set_cons_succ, List.set_cons_zero, opt_some, opt_none, opt_ite, if_true, if_false, Bool.false_eq_true, List.map_cons, List.map_nil, List.cons_append, List.nil_append, List.append_nil, List.replicate_succ, List.replicate_zero, List.length_cons, List.length_nil, rsv, ownIx, ixOf, wb, Option.getD_some, back_nil, back_zero, eqDD_int, neDD_int, eqDD_bool, neDD_bool, eqDD_str, neDD_str, ltD, leD, gtD, geD, List.nodup_nil, nodup1, at0, at1, at2, at3, at4, ixN5_1, ixN5_2, ixN5_3, Nat.reduceAdd, true_and, and_true, eq_self, List.length_singleton, slD, signsD, wipeD, restD, Sl.keep, rgD, subD, maxLD, minLD, Bool.not_true, Bool.not_false]
  subst hN
  refine seq_step fun N hN => ?_
  simp only [tsSeq, tsAsg, tsNext, tsRet, tsRetN, tsExpr, tsIf, tsFor, tsWhile, tsNever, tsAsgG, tsSetIx, tfV, tfLst, tfMove, tfList, tfLRg, tfLc, tfCall, tdFz, tdVar, tdC, tdBin, tdUn, tdTest, tdChain, tdAnd, tdOr, tdNot, tdAndV, tdOrV, tdNotV, tdIf, tdNil, tdCons, tdTup, tdLst, tdFn, tdIxO, tdLenO, tdMeth, tdSl, tdRev, toNo, toSome, tdIsi, tdIsi2, tdLenSet, tdIndex, tdYes, taNil, taCons, taOwn, tgName, tgNil, tgCons, tgTup, tiSeq, tiStr, tiRg1, tiRg2, tiRg3, tiEnum, onLst, isLst, seqOf_list, seqOf_tuple, addD, subD, divD, modD, powD, intD, negD, mulD, cmpD, i2D, lenD, ixD, List.getElem?_cons_succ, List.getElem?_cons_zero, List.set_cons_succ, List.set_cons_zero, opt_some, opt_none, opt_ite, if_true, if_false, Bool.false_eq_true, List.map_cons, List.map_nil, List.cons_append, List.nil_append, List.append_nil, List.replicate_succ, List.replicate_zero, List.length_cons, List.length_nil, rsv, ownIx, ixOf, wb, Option.getD_some, back_nil, back_zero, eqDD_int, neDD_int, eqDD_bool, neDD_bool, eqDD_str, neDD_str, ltD, leD, gtD, geD, List.nodup_nil, nodup1, at0, at1, at2, at3, at4, ixN5_1, ixN5_2, ixN5_3, Nat.reduceAdd, true_and, and_true, eq_self, List.length_singleton, slD, signsD, wipeD, restD, Sl.keep, rgD, subD, maxLD, minLD, Bool.not_true, Bool.not_false]
  refine ⟨u, xs, r, rfl, ok, hr, l3, ?_⟩
  simp only [tsSeq, tsAsg, tsNext, tsRet, tsRetN, tsExpr, tsIf, tsFor, tsWhile, tsNever, tsAsgG, tsSetIx, tfV, tfLst, tfMove, tfList, tfLRg, tfLc, tfCall, tdFz, tdVar, tdC, tdBin, tdUn, tdTest, tdChain, tdAnd, tdOr, tdNot, tdAndV, tdOrV, tdNotV, tdIf, tdNil, tdCons, tdTup, tdLst, tdFn, tdIxO, tdLenO, tdMeth, tdSl, tdRev, toNo, toSome, tdIsi, tdIsi2, tdLenSet, tdIndex, tdYes, taNil, taCons, taOwn, tgName, tgNil, tgCons, tgTup, tiSeq, tiStr, tiRg1, tiRg2, tiRg3, tiEnum, onLst, isLst, seqOf_list, seqOf_tuple, addD, subD, divD, modD, powD, intD, negD, mulD, cmpD, i2D, lenD, ixD, List.getElem?_cons_succ, List.getElem?_cons_zero, List.set_cons_succ, List.set_cons_zero, opt_some, opt_none, opt_ite, if_true, if_false, Bool.false_eq_true, List.map_cons, List.map_nil, List.cons_append, List.nil_append, List.append_nil, List.replicate_succ, List.replicate_zero, List.length_cons, List.length_nil, rsv, ownIx, ixOf, wb, Option.getD_some, back_nil, back_zero, eqDD_int, neDD_int, eqDD_bool, neDD_bool, eqDD_str, neDD_str, ltD, leD, gtD, geD, List.nodup_nil, nodup1, at0, at1, at2, at3, at4, ixN5_1, ixN5_2, ixN5_3, Nat.reduceAdd, true_and, and_true, eq_self, List.length_singleton, slD, signsD, wipeD, restD, Sl.keep, rgD, subD, maxLD, minLD, Bool.not_true, Bool.not_false]
  subst hN
  refine seq_step fun N hN => ?_
  simp only [List.length_map, tsSeq, tsAsg, tsNext, tsRet, tsRetN, tsExpr, tsIf, tsFor, tsWhile, tsNever, tsAsgG, tsSetIx, tfV, tfLst, tfMove, tfList, tfLRg, tfLc, tfCall, tdFz, tdVar, tdC, tdBin, tdUn, tdTest, tdChain, tdAnd, tdOr, tdNot, tdAndV, tdOrV, tdNotV, tdIf, tdNil, tdCons, tdTup, tdLst, tdFn, tdIxO, tdLenO, tdMeth, tdSl, tdRev, toNo, toSome, tdIsi, tdIsi2, tdLenSet, tdIndex, tdYes, taNil, taCons, taOwn, tgName, tgNil, tgCons, tgTup, tiSeq, tiStr, tiRg1, tiRg2, tiRg3, tiEnum, onLst, isLst, seqOf_list, seqOf_tuple, addD, subD, divD, modD, powD, intD, negD, mulD, cmpD, i2D, lenD, ixD, List.getElem?_cons_succ, List.getElem?_cons_zero, List.set_cons_succ, List.set_cons_zero, opt_some, opt_none, opt_ite, if_true, if_false, Bool.false_eq_true, List.map_cons, List.map_nil, List.cons_append, List.nil_append, List.append_nil, List.replicate_succ, List.replicate_zero, List.length_cons, List.length_nil, rsv, ownIx, ixOf, wb, Option.getD_some, back_nil, back_zero, eqDD_int, neDD_int, eqDD_bool, neDD_bool, eqDD_str, neDD_str, ltD, leD, gtD, geD, List.nodup_nil, nodup1, at0, at1, at2, at3, at4, ixN5_1, ixN5_2, ixN5_3, Nat.reduceAdd, true_and, and_true, eq_self, List.length_singleton, slD, signsD, wipeD, restD, Sl.keep, rgD, subD, maxLD, minLD, Bool.not_true, Bool.not_false]
  refine ⟨v, ds.map PyData.int, xs.length, rfl, ?_⟩
  simp only [List.length_map, dl, decide_true, seq_row, tsSeq, tsAsg, tsNext, tsRet, tsRetN, tsExpr, tsIf, tsFor, tsWhile, tsNever, tsAsgG, tsSetIx, tfV, tfLst, tfMove, tfList, tfLRg, tfLc, tfCall, tdFz, tdVar, tdC, tdBin, tdUn, tdTest, tdChain, tdAnd, tdOr, tdNot, tdAndV, tdOrV, tdNotV, tdIf, tdNil, tdCons, tdTup, tdLst, tdFn, tdIxO, tdLenO, tdMeth, tdSl, tdRev, toNo, toSome, tdIsi, tdIsi2, tdLenSet, tdIndex, tdYes, taNil, taCons, taOwn, tgName, tgNil, tgCons, tgTup, tiSeq, tiStr, tiRg1, tiRg2, tiRg3, tiEnum, onLst, isLst, seqOf_list, seqOf_tuple, addD, subD, divD, modD, powD, intD, negD, mulD, cmpD, i2D, lenD, ixD, List.getElem?_cons_succ, List.getElem?_cons_zero, List.set_cons_succ, List.set_cons_zero, opt_some, opt_none, opt_ite, if_true, if_false, Bool.false_eq_true, List.map_cons, List.map_nil, List.cons_append, List.nil_append, List.append_nil, List.replicate_succ, List.replicate_zero, List.length_cons, List.length_nil, rsv, ownIx, ixOf, wb, Option.getD_some, back_nil, back_zero, eqDD_int, neDD_int, eqDD_bool, neDD_bool, eqDD_str, neDD_str, ltD, leD, gtD, geD, List.nodup_nil, nodup1, at0, at1, at2, at3, at4, ixN5_1, ixN5_2, ixN5_3, Nat.reduceAdd, true_and, and_true, eq_self, List.length_singleton, slD, signsD, wipeD, restD, Sl.keep, rgD, subD, maxLD, minLD, Bool.not_true, Bool.not_false]
  refine lc_map PyData.int (fun d => .bool (decide (0 ≤ d))) ds [] (by simp; omega) (fun x hx A hA => ?_) ?_
  · simp only [tsSeq, tsAsg, tsNext, tsRet, tsRetN, tsExpr, tsIf, tsFor, tsWhile, tsNever, tsAsgG, tsSetIx, tfV, tfLst, tfMove, tfList, tfLRg, tfLc, tfCall, tdFz, tdVar, tdC, tdBin, tdUn, tdTest, tdChain, tdAnd, tdOr, tdNot, tdAndV, tdOrV, tdNotV, tdIf, tdNil, tdCons, tdTup, tdLst, tdFn, tdIxO, tdLenO, tdMeth, tdSl, tdRev, toNo, toSome, tdIsi, tdIsi2, tdLenSet, tdIndex, tdYes, taNil, taCons, taOwn, tgName, tgNil, tgCons, tgTup, tiSeq, tiStr, tiRg1, tiRg2, tiRg3, tiEnum, onLst, isLst, seqOf_list, seqOf_tuple, addD, subD, divD, modD, powD, intD, negD, mulD, cmpD, i2D, lenD, ixD, List.getElem?_cons_succ, List.getElem?_cons_zero, List.set_cons_succ, List.set_cons_zero, opt_some, opt_none, opt_ite, if_true, if_false, Bool.false_eq_true, List.map_cons, List.map_nil, List.cons_append, List.nil_append, List.append_nil, List.replicate_succ, List.replicate_zero, List.length_cons, List.length_nil, rsv, ownIx, ixOf, wb, Option.getD_some, back_nil, back_zero, eqDD_int, neDD_int, eqDD_bool, neDD_bool, eqDD_str, neDD_str, ltD, leD, gtD, geD, List.nodup_nil, nodup1, at0, at1, at2, at3, at4, ixN5_1, ixN5_2, ixN5_3, Nat.reduceAdd, true_and, and_true, eq_self, List.length_singleton, slD, signsD, wipeD, restD, Sl.keep, rgD, subD, maxLD, minLD, Bool.not_true, Bool.not_false]
    refine ⟨x, rfl, ?_⟩
    simp only [tsSeq, tsAsg, tsNext, tsRet, tsRetN, tsExpr, tsIf, tsFor, tsWhile, tsNever, tsAsgG, tsSetIx, tfV, tfLst, tfMove, tfList, tfLRg, tfLc, tfCall, tdFz, tdVar, tdC, tdBin, tdUn, tdTest, tdChain, tdAnd, tdOr, tdNot, tdAndV, tdOrV, tdNotV, tdIf, tdNil, tdCons, tdTup, tdLst, tdFn, tdIxO, tdLenO, tdMeth, tdSl, tdRev, toNo, toSome, tdIsi, tdIsi2, tdLenSet, tdIndex, tdYes, taNil, taCons, taOwn, tgName, tgNil, tgCons, tgTup, tiSeq, tiStr, tiRg1, tiRg2, tiRg3, tiEnum, onLst, isLst, seqOf_list, seqOf_tuple, addD, subD, divD, modD, powD, intD, negD, mulD, cmpD, i2D, lenD, ixD, List.getElem?_cons_succ, List.getElem?_cons_zero, List.set_cons_succ, List.set_cons_zero, opt_some, opt_none, opt_ite, if_true, if_false, Bool.false_eq_true, List.map_cons, List.map_nil, List.cons_append, List.nil_append, List.append_nil, List.replicate_succ, List.replicate_zero, List.length_cons, List.length_nil, rsv, ownIx, ixOf, wb, Option.getD_some, back_nil, back_zero, eqDD_int, neDD_int, eqDD_bool, neDD_bool, eqDD_str, neDD_str, ltD, leD, gtD, geD, List.nodup_nil, nodup1, at0, at1, at2, at3, at4, ixN5_1, ixN5_2, ixN5_3, Nat.reduceAdd, true_and, and_true, eq_self, List.length_singleton, slD, signsD, wipeD, restD, Sl.keep, rgD, subD, maxLD, minLD, Bool.not_true, Bool.not_false]
    exact hA _ rfl
  have ea : (ds.all fun d => decide (0 ≤ d)) = true := List.all_eq_true.mpr fun d h => decide_eq_true (hd d h)
  simp only [allD_map, ea, tsSeq, tsAsg, tsNext, tsRet, tsRetN, tsExpr, tsIf, tsFor, tsWhile, tsNever, tsAsgG, tsSetIx, tfV, tfLst, tfMove, tfList, tfLRg, tfLc, tfCall, tdFz, tdVar, tdC, tdBin, tdUn, tdTest, tdChain, tdAnd, tdOr, tdNot, tdAndV, tdOrV, tdNotV, tdIf, tdNil, tdCons, tdTup, tdLst, tdFn, tdIxO, tdLenO, tdMeth, tdSl, tdRev, toNo, toSome, tdIsi, tdIsi2, tdLenSet, tdIndex, tdYes, taNil, taCons, taOwn, tgName, tgNil, tgCons, tgTup, tiSeq, tiStr, tiRg1, tiRg2, tiRg3, tiEnum, onLst, isLst, seqOf_list, seqOf_tuple, addD, subD, divD, modD, powD, intD, negD, mulD, cmpD, i2D, lenD, ixD, List.getElem?_cons_succ, List.getElem?_cons_zero, List.set_cons_succ, List.set_cons_zero, opt_some, opt_none, opt_ite, if_true, if_false, Bool.false_eq_true, List.map_cons, List.map_nil, List.cons_append, List.nil_append, List.append_nil, List.replicate_succ, List.replicate_zero, List.length_cons, List.length_nil, rsv, ownIx, ixOf, wb, Option.getD_some, back_nil, back_zero, eqDD_int, neDD_int, eqDD_bool, neDD_bool, eqDD_str, neDD_str, ltD, leD, gtD, geD, List.nodup_nil, nodup1, at0, at1, at2, at3, at4, ixN5_1, ixN5_2, ixN5_3, Nat.reduceAdd, true_and, and_true, eq_self, List.length_singleton, slD, signsD, wipeD, restD, Sl.keep, rgD, subD, maxLD, minLD, Bool.not_true, Bool.not_false]
  subst hN
  simp only [seq_row, tsSeq, tsAsg, tsNext, tsRet, tsRetN, tsExpr, tsIf, tsFor, tsWhile, tsNever, tsAsgG, tsSetIx, tfV, tfLst, tfMove, tfList, tfLRg, tfLc, tfCall, tdFz, tdVar, tdC, tdBin, tdUn, tdTest, tdChain, tdAnd, tdOr, tdNot, tdAndV, tdOrV, tdNotV, tdIf, tdNil, tdCons, tdTup, tdLst, tdFn, tdIxO, tdLenO, tdMeth, tdSl, tdRev, toNo, toSome, tdIsi, tdIsi2, tdLenSet, tdIndex, tdYes, taNil, taCons, taOwn, tgName, tgNil, tgCons, tgTup, tiSeq, tiStr, tiRg1, tiRg2, tiRg3, tiEnum, onLst, isLst, seqOf_list, seqOf_tuple, addD, subD, divD, modD, powD, intD, negD, mulD, cmpD, i2D, lenD, ixD, List.getElem?_cons_succ, List.getElem?_cons_zero, List.set_cons_succ, List.set_cons_zero, opt_some, opt_none, opt_ite, if_true, if_false, Bool.false_eq_true, List.map_cons, List.map_nil, List.cons_append, List.nil_append, List.append_nil, List.replicate_succ, List.replicate_zero, List.length_cons, List.length_nil, rsv, ownIx, ixOf, wb, Option.getD_some, back_nil, back_zero, eqDD_int, neDD_int, eqDD_bool, neDD_bool, eqDD_str, neDD_str, ltD, leD, gtD, geD, List.nodup_nil, nodup1, at0, at1, at2, at3, at4, ixN5_1, ixN5_2, ixN5_3, Nat.reduceAdd, true_and, and_true, eq_self, List.length_singleton, slD, signsD, wipeD, restD, Sl.keep, rgD, subD, maxLD, minLD, Bool.not_true, Bool.not_false]
  refine lc_map PyData.int (fun d => .int (minI xs.length d)) ds [] (by simp; omega) (fun x hx A hA => ?_) ?_
  · simp only [List.length_map, tsSeq, tsAsg, tsNext, tsRet, tsRetN, tsExpr, tsIf, tsFor, tsWhile, tsNever, tsAsgG, tsSetIx, tfV, tfLst, tfMove, tfList, tfLRg, tfLc, tfCall, tdFz, tdVar, tdC, tdBin, tdUn, tdTest, tdChain, tdAnd, tdOr, tdNot, tdAndV, tdOrV, tdNotV, tdIf, tdNil, tdCons, tdTup, tdLst, tdFn, tdIxO, tdLenO, tdMeth, tdSl, tdRev, toNo, toSome, tdIsi, tdIsi2, tdLenSet, tdIndex, tdYes, taNil, taCons, taOwn, tgName, tgNil, tgCons, tgTup, tiSeq, tiStr, tiRg1, tiRg2, tiRg3, tiEnum, onLst, isLst, seqOf_list, seqOf_tuple, addD, subD, divD, modD, powD, intD, negD, mulD, cmpD, i2D, lenD, ixD, List.getElem?_cons_succ, List.getElem?_cons_zero, List.set_cons_succ, List.set_cons_zero, opt_some, opt_none, opt_ite, if_true, if_false, Bool.false_eq_true, List.map_cons, List.map_nil, List.cons_append, List.nil_append, List.append_nil, List.replicate_succ, List.replicate_zero, List.length_cons, List.length_nil, rsv, ownIx, ixOf, wb, Option.getD_some, back_nil, back_zero, eqDD_int, neDD_int, eqDD_bool, neDD_bool, eqDD_str, neDD_str, ltD, leD, gtD, geD, List.nodup_nil, nodup1, at0, at1, at2, at3, at4, ixN5_1, ixN5_2, ixN5_3, Nat.reduceAdd, true_and, and_true, eq_self, List.length_singleton, slD, signsD, wipeD, restD, Sl.keep, rgD, subD, maxLD, minLD, Bool.not_true, Bool.not_false]
    exact hA _ rfl
  have em : (ds.map fun d => PyData.int (minI xs.length d)) = (ds.map (minI xs.length)).map PyData.int := by rw [List.map_map]; rfl
  have er : (r.map fun x => natD (xs.idxOf x)) = (r.map fun x => xs.idxOf x).map natD := by rw [List.map_map]; rfl
  simp only [em, er, tsSeq, tsAsg, tsNext, tsRet, tsRetN, tsExpr, tsIf, tsFor, tsWhile, tsNever, tsAsgG, tsSetIx, tfV, tfLst, tfMove, tfList, tfLRg, tfLc, tfCall, tdFz, tdVar, tdC, tdBin, tdUn, tdTest, tdChain, tdAnd, tdOr, tdNot, tdAndV, tdOrV, tdNotV, tdIf, tdNil, tdCons, tdTup, tdLst, tdFn, tdIxO, tdLenO, tdMeth, tdSl, tdRev, toNo, toSome, tdIsi, tdIsi2, tdLenSet, tdIndex, tdYes, taNil, taCons, taOwn, tgName, tgNil, tgCons, tgTup, tiSeq, tiStr, tiRg1, tiRg2, tiRg3, tiEnum, onLst, isLst, seqOf_list, seqOf_tuple, addD, subD, divD, modD, powD, intD, negD, mulD, cmpD, i2D, lenD, ixD, List.getElem?_cons_succ, List.getElem?_cons_zero, List.set_cons_succ, List.set_cons_zero, opt_some, opt_none, opt_ite, if_true, if_false, Bool.false_eq_true, List.map_cons, List.map_nil, List.cons_append, List.nil_append, List.append_nil, List.replicate_succ, List.replicate_zero, List.length_cons, List.length_nil, rsv, ownIx, ixOf, wb, Option.getD_some, back_nil, back_zero, eqDD_int, neDD_int, eqDD_bool, neDD_bool, eqDD_str, neDD_str, ltD, leD, gtD, geD, List.nodup_nil, nodup1, at0, at1, at2, at3, at4, ixN5_1, ixN5_2, ixN5_3, Nat.reduceAdd, true_and, and_true, eq_self, List.length_singleton, slD, signsD, wipeD, restD, Sl.keep, rgD, subD, maxLD, minLD, Bool.not_true, Bool.not_false]
  refine ⟨_, _, rfl, by rw [List.length_map]; omega, by rw [List.length_map]; omega, fun d h => ?_, fun c h => ?_, ?_⟩
  · obtain ⟨d', h', rfl⟩ := List.mem_map.mp h
    have := hd d' h'
    unfold minI
    split <;> omega
  · obtain ⟨x, h', rfl⟩ := List.mem_map.mp h
    rw [List.length_map, dl]
    exact List.idxOf_lt_length_of_mem (hr x h')
  · rw [List.length_map]
    exact k

theorem sc_depths_let : FnScope ["names", "row", "depths", "cards", "depth"] ["names", "row", "depths"] (defScope (top 16)) := ⟨rfl, rfl, rfl, by decide +kernel, rfl, by decide +kernel, by decide +kernel⟩
theorem has_depths_let {P : Program} {w : World} {K : Fg} {mg : Str → Option Value} {base : Heap} {f : Addr} {fd : FuncData} (T : Txt mg) (F : Fun K "depths_let" "depths_let" (top 16) f fd) (hm : mg "depths_let" = some (.ref f)) (hb : Binds K fd ["names", "row", "depths"] []) (h_names_of : Has P w K mg base 2 "names_of" ["names"] [] (sp_names_of)) (h_row_of : Has P w K mg base 2 "row_of" ["names", "row"] [] (sp_row_of)) (h_lets : Has P w K mg base 1 "lets" ["depths", "row"] [] (sp_lets)) (h_is_row : Has P w K mg base 1 "is_row" ["thing", "size"] [] (sp_is_row)) (h_is_whole : Has P w K mg base 1 "is_whole" ["thing"] [] (sp_is_whole)) : Has P w K mg base 3 "depths_let" ["names", "row", "depths"] [] (sp_depths_let) :=
  ⟨⟨f, fd, fnD [] (sp_depths_let) (t_depths_let) F sc_depths_let (fun args R E h => len_depths_let h) (fun cdv A outer s H E fr W hr hfr tk => (ss_cons (s_asg (i := 0) sc_depths_let.nd rfl (by first | exact .inl rfl | exact .inr rfl) (by first | exact .inl rfl | exact .inr rfl) (by rw [hfr]; decide) (pf_callH h_names_of (hr.mono (by decide)) rfl tk (a_cons (pd_var (i := 0) rfl (by first | exact .inl rfl | exact .inr (.inl rfl) | exact .inr (.inr rfl))) a_nil)))
  (ss_cons (s_asg (i := 3) sc_depths_let.nd rfl (by first | exact .inl rfl | exact .inr rfl) (by first | exact .inl rfl | exact .inr rfl) (by rw [hfr]; decide) (pf_callH h_row_of (hr.mono (by decide)) rfl tk (a_cons (pd_var (i := 0) rfl (by first | exact .inl rfl | exact .inr (.inl rfl) | exact .inr (.inr rfl))) (a_cons (pd_var (i := 1) rfl (by first | exact .inl rfl | exact .inr (.inl rfl) | exact .inr (.inr rfl))) a_nil))))
  (ss_cons (s_if (PDw.pb (pw_or (pb_not (pb_val (pd_fz (pf_callH h_is_row (hr.mono (by decide)) rfl tk (a_cons (pd_var (i := 2) rfl (by first | exact .inl rfl | exact .inr (.inl rfl) | exact .inr (.inr rfl))) (a_cons (pd_callB call_lenD okL rfl T.b_len bt_len (pl_cons (pd_var (i := 0) rfl (by first | exact .inl rfl | exact .inr (.inl rfl) | exact .inr (.inr rfl))) pl_nil)) a_nil)))))) (pw_or1 (pb_not (pb_val (pd_callB (call_allD rfl) okL rfl T.b_all bt_all (pl_cons (pd_fz (pf_lc rfl sc_depths_let.nd (pi_seq (pd_var (i := 2) rfl (by first | exact .inl rfl | exact .inr (.inl rfl) | exact .inr (.inr rfl)))) (own := [(("depth" : Str), 4)]) (blkOk (by kernel_rfl)) (by rw [hfr]; decide) (by decide) (fun _ _ _ _ _ fr' hfr' => (t_name (i := 4) sc_depths_let.nd rfl (by first | exact .inl rfl | exact .inr rfl) (by first | exact .inl rfl | exact .inr rfl) (by rw [hfr', hfr]; decide))) (fun _ _ _ _ _ fr' hfr' => (pd_fz (pf_callH h_is_whole (hr.mono (by decide)) rfl takesW0 (a_cons (pd_var (i := 4) rfl (by first | exact .inl rfl | exact .inr (.inl rfl) | exact .inr (.inr rfl))) a_nil)))))) pl_nil))))))) (ss_one s_never) ss_nil)
  (ss_one (s_ret (pf_callH h_lets (hr.mono (by decide)) rfl tk (a_cons (pd_fz (pf_lc rfl sc_depths_let.nd (pi_seq (pd_var (i := 2) rfl (by first | exact .inl rfl | exact .inr (.inl rfl) | exact .inr (.inr rfl)))) (own := [(("depth" : Str), 4)]) (blkOk (by kernel_rfl)) (by rw [hfr]; decide) (by decide) (fun _ _ _ _ _ fr' hfr' => (t_name (i := 4) sc_depths_let.nd rfl (by first | exact .inl rfl | exact .inr rfl) (by first | exact .inl rfl | exact .inr rfl) (by rw [hfr', hfr]; decide))) (fun _ _ _ _ _ fr' hfr' => (pd_callB (call_minD rfl) okL rfl T.b_min bt_min (pl_cons (pd_var (i := 4) rfl (by first | exact .inl rfl | exact .inr (.inl rfl) | exact .inr (.inr rfl))) (pl_cons (pd_callB call_lenD okL rfl T.b_len bt_len (pl_cons (pd_var (i := 0) rfl (by first | exact .inl rfl | exact .inr (.inl rfl) | exact .inr (.inr rfl))) pl_nil)) pl_nil)))))) (a_cons (pd_var (i := 3) rfl (by first | exact .inl rfl | exact .inr (.inl rfl) | exact .inr (.inr rfl))) a_nil))))))))) (fun args R E hp h => body_depths_let h), hm, F.kp, hb⟩, mo_depths_let⟩

theorem cut_t (r : List Str) (n : Nat) : cutL (r.map PyData.str) none (some (n : Int)) = (r.take n).map PyData.str := by rw [cutL_take, List.map_take]
theorem cut_d (r : List Str) (n : Nat) : cutL (r.map PyData.str) (some (n : Int)) none = (r.drop n).map PyData.str := by rw [cutL_n0, List.map_drop]
theorem cut_m (r : List Str) (n m : Nat) : cutL (r.map PyData.str) (some (n : Int)) (some (m : Int)) = ((r.drop n).take (m - n)).map PyData.str := by rw [cutL_nn, List.map_take, List.map_drop]
def sp__law_bent : SpD := fun args R E => ∃ (c : Int) (b : List D) (r xs : List Str), args = [.lst b, .val (.list (r.map PyData.str)), .val (.list (xs.map PyData.str))] ∧ Bag c b ∧ c + 100 < 2 ^ 90 ∧ r.length ≤ 1000 ∧ 1 ≤ xs.length ∧ xs.length ≤ 1000 ∧ (∀ x ∈ r, x ∈ xs) ∧
  ∀ (b' : List D) (o : List Str), Bag (c + 3) b' → (∀ x ∈ o, x ∈ xs) → o.length ≤ r.length + 1 → R (.val (.list (o.map PyData.str))) [.lst b', .val (.list (r.map PyData.str)), .val (.list (xs.map PyData.str))]
theorem mo__law_bent : SpMono sp__law_bent := fun args R R' E E' h1 h2 ⟨c, b, r, xs, e, a1, a2, a3, a4, a5, a6, k⟩ => ⟨c, b, r, xs, e, a1, a2, a3, a4, a5, a6, fun b' o x y z => h1 _ _ (k b' o x y z)⟩
theorem len__law_bent {args R E} (h : sp__law_bent args R E) : args.length = 3 := by obtain ⟨t, u, v, xs, rfl, _⟩ := h; rfl
theorem maxLD2 (i j : Int) : maxLD [.int i, .int j] = some (.int (if j > i then j else i)) := rfl

def t__law_bent (W : WD) : TDs :=
  (tsSeq (tsAsg (tfCall [0] (sp__law_draw) W (taOwn 0 (taCons (tdFn maxLD (tdCons (tdC (.int 1)) (tdCons (tdFn lenD (tdCons (tdVar 1) tdNil)) tdNil))) taNil))) 3)
  (tsSeq (tsAsg (tfCall [0] (sp__law_draw) W (taOwn 0 (taCons (tdC (.int 5)) taNil))) 4)
  (tsSeq (tsAsg (tfV (tdBin ixD (tdVar 2) (tdFz (tfCall [0] (sp__law_draw) W (taOwn 0 (taCons (tdFn lenD (tdCons (tdVar 2) tdNil)) taNil)))))) 5)
  (tsSeq (tsIf (tdTest (tdBin eqDD (tdVar 4) (tdC (.int 0)))) (tsRet (tfV (tdBin addD (tdBin addD (tdSl (tdVar 1) toNo (toSome (tdVar 3))) (tdLst (tdCons (tdVar 5) tdNil))) (tdSl (tdVar 1) (toSome (tdBin addD (tdVar 3) (tdC (.int 1)))) toNo)))) tsNext)
  (tsSeq (tsIf (tdTest (tdBin eqDD (tdVar 4) (tdC (.int 1)))) (tsRet (tfV (tdBin addD (tdSl (tdVar 1) toNo (toSome (tdVar 3))) (tdSl (tdVar 1) (toSome (tdBin addD (tdVar 3) (tdC (.int 1)))) toNo)))) tsNext)
  (tsSeq (tsIf (tdTest (tdBin eqDD (tdVar 4) (tdC (.int 2)))) (tsRet (tfV (tdBin addD (tdBin addD (tdSl (tdVar 1) toNo (toSome (tdVar 3))) (tdSl (tdVar 1) (toSome (tdVar 3)) (toSome (tdBin addD (tdVar 3) (tdC (.int 1)))))) (tdSl (tdVar 1) (toSome (tdVar 3)) toNo)))) tsNext)
  (tsSeq (tsIf (tdTest (tdBin eqDD (tdVar 4) (tdC (.int 3)))) (tsRet (tfV (tdBin addD (tdBin addD (tdSl (tdVar 1) toNo (toSome (tdVar 3))) (tdRev (tdSl (tdVar 1) (toSome (tdVar 3)) (toSome (tdBin addD (tdVar 3) (tdC (.int 2))))))) (tdSl (tdVar 1) (toSome (tdBin addD (tdVar 3) (tdC (.int 2)))) toNo)))) tsNext)
  (tsRet (tfV (tdBin addD (tdVar 1) (tdLst (tdCons (tdVar 5) tdNil))))))))))))

theorem body__law_bent {args : List Sl} {R : Sl → List Sl → Prop} {E : Exn → List Sl → Prop} (h : sp__law_bent args R E) :
    t__law_bent (fun ex ρ => E ex (back [0] args ρ)) ⟨fun ρ => R (.val .none) (back [0] args ρ), fun s ρ => R s (back [0] args ρ)⟩ (args ++ List.replicate (6 - args.length) .no) := by
  obtain ⟨c, b, r, xs, rfl, hb, hc, l1, x1, x2, hr, k⟩ := h
  have sz := sizeLine_eq
  unfold t__law_bent
  refine seq_step fun N hN => ?_
  simp only [List.length_map, tsSeq, tsAsg, tsNext, tsRet, tsRetN, tsExpr, tsIf, tsFor, tsWhile, tsNever, tsAsgG, tsSetIx, tfV, tfLst, tfMove, tfList, tfLRg, tfLc, tfCall, tdFz, tdVar, tdC, tdBin, tdUn, tdTest, tdChain, tdAnd, tdOr, tdNot, tdAndV, tdOrV, tdNotV, tdIf, tdNil, tdCons, tdTup, tdLst, tdFn, tdIxO, tdLenO, tdMeth, tdSl, tdRev, toNo, toSome, tdIsi, tdIsi2, tdLenSet, tdIndex, tdYes, taNil, taCons, taOwn, tgName, tgNil, tgCons, tgTup, tiSeq, tiStr, tiRg1, tiRg2, tiRg3, tiEnum, onLst, isLst, seqOf_list, seqOf_tuple, addD, subD, divD, modD, powD, intD, negD, mulD, cmpD, i2D, lenD, ixD, List.getElem?_cons_succ, List.getElem?_cons_zero, List.set_cons_succ, List.set_cons_zero, opt_some, opt_none, opt_ite, if_true, if_false, Bool.false_eq_true, List.map_cons, List.map_nil, List.cons_append, List.nil_append, List.append_nil, List.replicate_succ, List.replicate_zero, List.length_cons, List.length_nil, rsv, ownIx, ixOf, wb, Option.getD_some, back_nil, back_zero, eqDD_int, neDD_int, eqDD_bool, neDD_bool, eqDD_str, neDD_str, ltD, leD, gtD, geD, List.nodup_nil, nodup1, at0, at1, at2, at3, at4, ixN5_1, ixN5_2, ixN5_3, Nat.reduceAdd, true_and, and_true, eq_self, List.length_singleton, slD, signsD, wipeD, restD, Sl.keep, rgD, subD, maxLD, minLD, Bool.not_true, Bool.not_false]
  refine ⟨c, b, _, rfl, hb, by omega, by split <;> omega, by split <;> omega, fun b1 at' hb1 a0 a1 => ?_⟩
  simp only [tsSeq, tsAsg, tsNext, tsRet, tsRetN, tsExpr, tsIf, tsFor, tsWhile, tsNever, tsAsgG, tsSetIx, tfV, tfLst, tfMove, tfList, tfLRg, tfLc, tfCall, tdFz, tdVar, tdC, tdBin, tdUn, tdTest, tdChain, tdAnd, tdOr, tdNot, tdAndV, tdOrV, tdNotV, tdIf, tdNil, tdCons, tdTup, tdLst, tdFn, tdIxO, tdLenO, tdMeth, tdSl, tdRev, toNo, toSome, tdIsi, tdIsi2, tdLenSet, tdIndex, tdYes, taNil, taCons, taOwn, tgName, tgNil, tgCons, tgTup, tiSeq, tiStr, tiRg1, tiRg2, tiRg3, tiEnum, onLst, isLst, seqOf_list, seqOf_tuple, addD, subD, divD, modD, powD, intD, negD, mulD, cmpD, i2D, lenD, ixD, List.getElem?_cons_succ, List.getElem?_cons_zero, List.set_cons_succ, List.set_cons_zero, opt_some, opt_none, opt_ite, if_true, if_false, Bool.false_eq_true, List.map_cons, List.map_nil, List.cons_append, List.nil_append, List.append_nil, List.replicate_succ, List.replicate_zero, List.length_cons, List.length_nil, rsv, ownIx, ixOf, wb, Option.getD_some, back_nil, back_zero, eqDD_int, neDD_int, eqDD_bool, neDD_bool, eqDD_str, neDD_str, ltD, leD, gtD, geD, List.nodup_nil, nodup1, at0, at1, at2, at3, at4, ixN5_1, ixN5_2, ixN5_3, Nat.reduceAdd, true_and, and_true, eq_self, List.length_singleton, slD, signsD, wipeD, restD, Sl.keep, rgD, subD, maxLD, minLD, Bool.not_true, Bool.not_false]
  obtain ⟨a, rfl⟩ : ∃ a : Nat, at' = a := ⟨at'.toNat, by omega⟩
  have ha : a ≤ r.length := by split at a1 <;> omega
  subst hN
  refine seq_step fun N hN => ?_
  simp only [tsSeq, tsAsg, tsNext, tsRet, tsRetN, tsExpr, tsIf, tsFor, tsWhile, tsNever, tsAsgG, tsSetIx, tfV, tfLst, tfMove, tfList, tfLRg, tfLc, tfCall, tdFz, tdVar, tdC, tdBin, tdUn, tdTest, tdChain, tdAnd, tdOr, tdNot, tdAndV, tdOrV, tdNotV, tdIf, tdNil, tdCons, tdTup, tdLst, tdFn, tdIxO, tdLenO, tdMeth, tdSl, tdRev, toNo, toSome, tdIsi, tdIsi2, tdLenSet, tdIndex, tdYes, taNil, taCons, taOwn, tgName, tgNil, tgCons, tgTup, tiSeq, tiStr, tiRg1, tiRg2, tiRg3, tiEnum, onLst, isLst, seqOf_list, seqOf_tuple, addD, subD, divD, modD, powD, intD, negD, mulD, cmpD, i2D, lenD, ixD, List.getElem?_cons_succ, List.getElem?_cons_zero, List.set_cons_succ, List.set_cons_zero, opt_some, opt_none, opt_ite, if_true, if_false, Bool.false_eq_true, List.map_cons, List.map_nil, List.cons_append, List.nil_append, List.append_nil, List.replicate_succ, List.replicate_zero, List.length_cons, List.length_nil, rsv, ownIx, ixOf, wb, Option.getD_some, back_nil, back_zero, eqDD_int, neDD_int, eqDD_bool, neDD_bool, eqDD_str, neDD_str, ltD, leD, gtD, geD, List.nodup_nil, nodup1, at0, at1, at2, at3, at4, ixN5_1, ixN5_2, ixN5_3, Nat.reduceAdd, true_and, and_true, eq_self, List.length_singleton, slD, signsD, wipeD, restD, Sl.keep, rgD, subD, maxLD, minLD, Bool.not_true, Bool.not_false]
  refine ⟨_, b1, 5, rfl, hb1, by omega, by decide, by decide, fun b2 kd hb2 k0 k1 => ?_⟩
  simp only [tsSeq, tsAsg, tsNext, tsRet, tsRetN, tsExpr, tsIf, tsFor, tsWhile, tsNever, tsAsgG, tsSetIx, tfV, tfLst, tfMove, tfList, tfLRg, tfLc, tfCall, tdFz, tdVar, tdC, tdBin, tdUn, tdTest, tdChain, tdAnd, tdOr, tdNot, tdAndV, tdOrV, tdNotV, tdIf, tdNil, tdCons, tdTup, tdLst, tdFn, tdIxO, tdLenO, tdMeth, tdSl, tdRev, toNo, toSome, tdIsi, tdIsi2, tdLenSet, tdIndex, tdYes, taNil, taCons, taOwn, tgName, tgNil, tgCons, tgTup, tiSeq, tiStr, tiRg1, tiRg2, tiRg3, tiEnum, onLst, isLst, seqOf_list, seqOf_tuple, addD, subD, divD, modD, powD, intD, negD, mulD, cmpD, i2D, lenD, ixD, List.getElem?_cons_succ, List.getElem?_cons_zero, List.set_cons_succ, List.set_cons_zero, opt_some, opt_none, opt_ite, if_true, if_false, Bool.false_eq_true, List.map_cons, List.map_nil, List.cons_append, List.nil_append, List.append_nil, List.replicate_succ, List.replicate_zero, List.length_cons, List.length_nil, rsv, ownIx, ixOf, wb, Option.getD_some, back_nil, back_zero, eqDD_int, neDD_int, eqDD_bool, neDD_bool, eqDD_str, neDD_str, ltD, leD, gtD, geD, List.nodup_nil, nodup1, at0, at1, at2, at3, at4, ixN5_1, ixN5_2, ixN5_3, Nat.reduceAdd, true_and, and_true, eq_self, List.length_singleton, slD, signsD, wipeD, restD, Sl.keep, rgD, subD, maxLD, minLD, Bool.not_true, Bool.not_false]
  subst hN
  refine seq_step fun N hN => ?_
  simp only [List.length_map, tsSeq, tsAsg, tsNext, tsRet, tsRetN, tsExpr, tsIf, tsFor, tsWhile, tsNever, tsAsgG, tsSetIx, tfV, tfLst, tfMove, tfList, tfLRg, tfLc, tfCall, tdFz, tdVar, tdC, tdBin, tdUn, tdTest, tdChain, tdAnd, tdOr, tdNot, tdAndV, tdOrV, tdNotV, tdIf, tdNil, tdCons, tdTup, tdLst, tdFn, tdIxO, tdLenO, tdMeth, tdSl, tdRev, toNo, toSome, tdIsi, tdIsi2, tdLenSet, tdIndex, tdYes, taNil, taCons, taOwn, tgName, tgNil, tgCons, tgTup, tiSeq, tiStr, tiRg1, tiRg2, tiRg3, tiEnum, onLst, isLst, seqOf_list, seqOf_tuple, addD, subD, divD, modD, powD, intD, negD, mulD, cmpD, i2D, lenD, ixD, List.getElem?_cons_succ, List.getElem?_cons_zero, List.set_cons_succ, List.set_cons_zero, opt_some, opt_none, opt_ite, if_true, if_false, Bool.false_eq_true, List.map_cons, List.map_nil, List.cons_append, List.nil_append, List.append_nil, List.replicate_succ, List.replicate_zero, List.length_cons, List.length_nil, rsv, ownIx, ixOf, wb, Option.getD_some, back_nil, back_zero, eqDD_int, neDD_int, eqDD_bool, neDD_bool, eqDD_str, neDD_str, ltD, leD, gtD, geD, List.nodup_nil, nodup1, at0, at1, at2, at3, at4, ixN5_1, ixN5_2, ixN5_3, Nat.reduceAdd, true_and, and_true, eq_self, List.length_singleton, slD, signsD, wipeD, restD, Sl.keep, rgD, subD, maxLD, minLD, Bool.not_true, Bool.not_false]
  refine ⟨_, b2, _, rfl, hb2, by omega, by omega, by omega, fun b3 z hb3 z0 z1 => ?_⟩
  obtain ⟨j, rfl⟩ : ∃ a : Nat, z = a := ⟨z.toNat, by omega⟩
  have hj : j < xs.length := by omega
  have ej : atI (xs.map PyData.str) (j : Int) = some (.str xs[j]) := atI_nat (by simp [hj])
  have mj : xs[j] ∈ xs := List.getElem_mem hj
  simp only [ej, tsSeq, tsAsg, tsNext, tsRet, tsRetN, tsExpr, tsIf, tsFor, tsWhile, tsNever, tsAsgG, tsSetIx, tfV, tfLst, tfMove, tfList, tfLRg, tfLc, tfCall, tdFz, tdVar, tdC, tdBin, tdUn, tdTest, tdChain, tdAnd, tdOr, tdNot, tdAndV, tdOrV, tdNotV, tdIf, tdNil, tdCons, tdTup, tdLst, tdFn, tdIxO, tdLenO, tdMeth, tdSl, tdRev, toNo, toSome, tdIsi, tdIsi2, tdLenSet, tdIndex, tdYes, taNil, taCons, taOwn, tgName, tgNil, tgCons, tgTup, tiSeq, tiStr, tiRg1, tiRg2, tiRg3, tiEnum, onLst, isLst, seqOf_list, seqOf_tuple, addD, subD, divD, modD, powD, intD, negD, mulD, cmpD, i2D, lenD, ixD, List.getElem?_cons_succ, List.getElem?_cons_zero, List.set_cons_succ, List.set_cons_zero, opt_some, opt_none, opt_ite, if_true, if_false, Bool.false_eq_true, List.map_cons, List.map_nil, List.cons_append, List.nil_append, List.append_nil, List.replicate_succ, List.replicate_zero, List.length_cons, List.length_nil, rsv, ownIx, ixOf, wb, Option.getD_some, back_nil, back_zero, eqDD_int, neDD_int, eqDD_bool, neDD_bool, eqDD_str, neDD_str, ltD, leD, gtD, geD, List.nodup_nil, nodup1, at0, at1, at2, at3, at4, ixN5_1, ixN5_2, ixN5_3, Nat.reduceAdd, true_and, and_true, eq_self, List.length_singleton, slD, signsD, wipeD, restD, Sl.keep, rgD, subD, maxLD, minLD, Bool.not_true, Bool.not_false]
  generalize xs[j] = x at mj
  have hb3 := hb3.le (show c + 1 + 1 + 1 ≤ c + 3 by omega)
  have e1 : ((a : Int) + 1) = ((a + 1 : Nat) : Int) := by omega
  have e2 : ((a : Int) + 2) = ((a + 2 : Nat) : Int) := by omega
  have fin : ∀ o : List Str, (∀ y ∈ o, y ∈ r ∨ y = x) → o.length ≤ r.length + 1 → R (.val (.list (o.map PyData.str))) [.lst b3, .val (.list (r.map PyData.str)), .val (.list (xs.map PyData.str))] := fun o h1 h2 => k b3 o hb3 (fun y hy => by
    rcases h1 y hy with z | z
    · exact hr y z
    · rw [z]; exact mj) h2
  have mt : ∀ {n y}, y ∈ r.take n → y ∈ r := fun h => List.mem_of_mem_take h
  have md : ∀ {n y}, y ∈ r.drop n → y ∈ r := fun h => List.mem_of_mem_drop h
  subst hN
  refine seq_step fun N hN => ?_
  by_cases c0 : kd = 0
  · simp only [decide_eq_true c0, tsSeq, tsAsg, tsNext, tsRet, tsRetN, tsExpr, tsIf, tsFor, tsWhile, tsNever, tsAsgG, tsSetIx, tfV, tfLst, tfMove, tfList, tfLRg, tfLc, tfCall, tdFz, tdVar, tdC, tdBin, tdUn, tdTest, tdChain, tdAnd, tdOr, tdNot, tdAndV, tdOrV, tdNotV, tdIf, tdNil, tdCons, tdTup, tdLst, tdFn, tdIxO, tdLenO, tdMeth, tdSl, tdRev, toNo, toSome, tdIsi, tdIsi2, tdLenSet, tdIndex, tdYes, taNil, taCons, taOwn, tgName, tgNil, tgCons, tgTup, tiSeq, tiStr, tiRg1, tiRg2, tiRg3, tiEnum, onLst, isLst, seqOf_list, seqOf_tuple, addD, subD, divD, modD, powD, intD, negD, mulD, cmpD, i2D, lenD, ixD, List.getElem?_cons_succ, List.getElem?_cons_zero, List.set_cons_succ, List.set_cons_zero, opt_some, opt_none, opt_ite, if_true, if_false, Bool.false_eq_true, List.map_cons, List.map_nil, List.cons_append, List.nil_append, List.append_nil, List.replicate_succ, List.replicate_zero, List.length_cons, List.length_nil, rsv, ownIx, ixOf, wb, Option.getD_some, back_nil, back_zero, eqDD_int, neDD_int, eqDD_bool, neDD_bool, eqDD_str, neDD_str, ltD, leD, gtD, geD, List.nodup_nil, nodup1, at0, at1, at2, at3, at4, ixN5_1, ixN5_2, ixN5_3, Nat.reduceAdd, true_and, and_true, eq_self, List.length_singleton, slD, signsD, wipeD, restD, Sl.keep, rgD, subD, maxLD, minLD, Bool.not_true, Bool.not_false]
    simp only [e1, cut_t, cut_d, List.length_map, List.length_append, List.length_take, List.length_drop, tsSeq, tsAsg, tsNext, tsRet, tsRetN, tsExpr, tsIf, tsFor, tsWhile, tsNever, tsAsgG, tsSetIx, tfV, tfLst, tfMove, tfList, tfLRg, tfLc, tfCall, tdFz, tdVar, tdC, tdBin, tdUn, tdTest, tdChain, tdAnd, tdOr, tdNot, tdAndV, tdOrV, tdNotV, tdIf, tdNil, tdCons, tdTup, tdLst, tdFn, tdIxO, tdLenO, tdMeth, tdSl, tdRev, toNo, toSome, tdIsi, tdIsi2, tdLenSet, tdIndex, tdYes, taNil, taCons, taOwn, tgName, tgNil, tgCons, tgTup, tiSeq, tiStr, tiRg1, tiRg2, tiRg3, tiEnum, onLst, isLst, seqOf_list, seqOf_tuple, addD, subD, divD, modD, powD, intD, negD, mulD, cmpD, i2D, lenD, ixD, List.getElem?_cons_succ, List.getElem?_cons_zero, List.set_cons_succ, List.set_cons_zero, opt_some, opt_none, opt_ite, if_true, if_false, Bool.false_eq_true, List.map_cons, List.map_nil, List.cons_append, List.nil_append, List.append_nil, List.replicate_succ, List.replicate_zero, List.length_cons, List.length_nil, rsv, ownIx, ixOf, wb, Option.getD_some, back_nil, back_zero, eqDD_int, neDD_int, eqDD_bool, neDD_bool, eqDD_str, neDD_str, ltD, leD, gtD, geD, List.nodup_nil, nodup1, at0, at1, at2, at3, at4, ixN5_1, ixN5_2, ixN5_3, Nat.reduceAdd, true_and, and_true, eq_self, List.length_singleton, slD, signsD, wipeD, restD, Sl.keep, rgD, subD, maxLD, minLD, Bool.not_true, Bool.not_false]
    refine ⟨by decide, by omega, by omega, ?_⟩
    have := fin (r.take a ++ [x] ++ r.drop (a + 1)) (fun y hy => by
      rcases List.mem_append.mp hy with hy | hy
      · rcases List.mem_append.mp hy with hy | hy
        · exact .inl (mt hy)
        · exact .inr (List.mem_singleton.mp hy)
      · exact .inl (md hy)) (by simp only [List.length_append, List.length_take, List.length_drop, List.length_singleton]; omega)
    rw [List.map_append, List.map_append] at this
    exact this
  simp only [decide_eq_false c0, tsSeq, tsAsg, tsNext, tsRet, tsRetN, tsExpr, tsIf, tsFor, tsWhile, tsNever, tsAsgG, tsSetIx, tfV, tfLst, tfMove, tfList, tfLRg, tfLc, tfCall, tdFz, tdVar, tdC, tdBin, tdUn, tdTest, tdChain, tdAnd, tdOr, tdNot, tdAndV, tdOrV, tdNotV, tdIf, tdNil, tdCons, tdTup, tdLst, tdFn, tdIxO, tdLenO, tdMeth, tdSl, tdRev, toNo, toSome, tdIsi, tdIsi2, tdLenSet, tdIndex, tdYes, taNil, taCons, taOwn, tgName, tgNil, tgCons, tgTup, tiSeq, tiStr, tiRg1, tiRg2, tiRg3, tiEnum, onLst, isLst, seqOf_list, seqOf_tuple, addD, subD, divD, modD, powD, intD, negD, mulD, cmpD, i2D, lenD, ixD, List.getElem?_cons_succ, List.getElem?_cons_zero, List.set_cons_succ, List.set_cons_zero, opt_some, opt_none, opt_ite, if_true, if_false, Bool.false_eq_true, List.map_cons, List.map_nil, List.cons_append, List.nil_append, List.append_nil, List.replicate_succ, List.replicate_zero, List.length_cons, List.length_nil, rsv, ownIx, ixOf, wb, Option.getD_some, back_nil, back_zero, eqDD_int, neDD_int, eqDD_bool, neDD_bool, eqDD_str, neDD_str, ltD, leD, gtD, geD, List.nodup_nil, nodup1, at0, at1, at2, at3, at4, ixN5_1, ixN5_2, ixN5_3, Nat.reduceAdd, true_and, and_true, eq_self, List.length_singleton, slD, signsD, wipeD, restD, Sl.keep, rgD, subD, maxLD, minLD, Bool.not_true, Bool.not_false]
  subst hN
  refine seq_step fun N hN => ?_
  by_cases c1 : kd = 1
  · simp only [decide_eq_true c1, tsSeq, tsAsg, tsNext, tsRet, tsRetN, tsExpr, tsIf, tsFor, tsWhile, tsNever, tsAsgG, tsSetIx, tfV, tfLst, tfMove, tfList, tfLRg, tfLc, tfCall, tdFz, tdVar, tdC, tdBin, tdUn, tdTest, tdChain, tdAnd, tdOr, tdNot, tdAndV, tdOrV, tdNotV, tdIf, tdNil, tdCons, tdTup, tdLst, tdFn, tdIxO, tdLenO, tdMeth, tdSl, tdRev, toNo, toSome, tdIsi, tdIsi2, tdLenSet, tdIndex, tdYes, taNil, taCons, taOwn, tgName, tgNil, tgCons, tgTup, tiSeq, tiStr, tiRg1, tiRg2, tiRg3, tiEnum, onLst, isLst, seqOf_list, seqOf_tuple, addD, subD, divD, modD, powD, intD, negD, mulD, cmpD, i2D, lenD, ixD, List.getElem?_cons_succ, List.getElem?_cons_zero, List.set_cons_succ, List.set_cons_zero, opt_some, opt_none, opt_ite, if_true, if_false, Bool.false_eq_true, List.map_cons, List.map_nil, List.cons_append, List.nil_append, List.append_nil, List.replicate_succ, List.replicate_zero, List.length_cons, List.length_nil, rsv, ownIx, ixOf, wb, Option.getD_some, back_nil, back_zero, eqDD_int, neDD_int, eqDD_bool, neDD_bool, eqDD_str, neDD_str, ltD, leD, gtD, geD, List.nodup_nil, nodup1, at0, at1, at2, at3, at4, ixN5_1, ixN5_2, ixN5_3, Nat.reduceAdd, true_and, and_true, eq_self, List.length_singleton, slD, signsD, wipeD, restD, Sl.keep, rgD, subD, maxLD, minLD, Bool.not_true, Bool.not_false]
    simp only [e1, cut_t, cut_d, List.length_map, List.length_append, List.length_take, List.length_drop, tsSeq, tsAsg, tsNext, tsRet, tsRetN, tsExpr, tsIf, tsFor, tsWhile, tsNever, tsAsgG, tsSetIx, tfV, tfLst, tfMove, tfList, tfLRg, tfLc, tfCall, tdFz, tdVar, tdC, tdBin, tdUn, tdTest, tdChain, tdAnd, tdOr, tdNot, tdAndV, tdOrV, tdNotV, tdIf, tdNil, tdCons, tdTup, tdLst, tdFn, tdIxO, tdLenO, tdMeth, tdSl, tdRev, toNo, toSome, tdIsi, tdIsi2, tdLenSet, tdIndex, tdYes, taNil, taCons, taOwn, tgName, tgNil, tgCons, tgTup, tiSeq, tiStr, tiRg1, tiRg2, tiRg3, tiEnum, onLst, isLst, seqOf_list, seqOf_tuple, addD, subD, divD, modD, powD, intD, negD, mulD, cmpD, i2D, lenD, ixD, List.getElem?_cons_succ, List.getElem?_cons_zero, List.set_cons_succ, List.set_cons_zero, opt_some, opt_none, opt_ite, if_true, if_false, Bool.false_eq_true, List.map_cons, List.map_nil, List.cons_append, List.nil_append, List.append_nil, List.replicate_succ, List.replicate_zero, List.length_cons, List.length_nil, rsv, ownIx, ixOf, wb, Option.getD_some, back_nil, back_zero, eqDD_int, neDD_int, eqDD_bool, neDD_bool, eqDD_str, neDD_str, ltD, leD, gtD, geD, List.nodup_nil, nodup1, at0, at1, at2, at3, at4, ixN5_1, ixN5_2, ixN5_3, Nat.reduceAdd, true_and, and_true, eq_self, List.length_singleton, slD, signsD, wipeD, restD, Sl.keep, rgD, subD, maxLD, minLD, Bool.not_true, Bool.not_false]
    refine ⟨by omega, ?_⟩
    have := fin (r.take a ++ r.drop (a + 1)) (fun y hy => by
      rcases List.mem_append.mp hy with hy | hy
      · exact .inl (mt hy)
      · exact .inl (md hy)) (by simp only [List.length_append, List.length_take, List.length_drop]; omega)
    rw [List.map_append] at this
    exact this
  simp only [decide_eq_false c1, tsSeq, tsAsg, tsNext, tsRet, tsRetN, tsExpr, tsIf, tsFor, tsWhile, tsNever, tsAsgG, tsSetIx, tfV, tfLst, tfMove, tfList, tfLRg, tfLc, tfCall, tdFz, tdVar, tdC, tdBin, tdUn, tdTest, tdChain, tdAnd, tdOr, tdNot, tdAndV, tdOrV, tdNotV, tdIf, tdNil, tdCons, tdTup, tdLst, tdFn, tdIxO, tdLenO, tdMeth, tdSl, tdRev, toNo, toSome, tdIsi, tdIsi2, tdLenSet, tdIndex, tdYes, taNil, taCons, taOwn, tgName, tgNil, tgCons, tgTup, tiSeq, tiStr, tiRg1, tiRg2, tiRg3, tiEnum, onLst, isLst, seqOf_list, seqOf_tuple, addD, subD, divD, modD, powD, intD, negD, mulD, cmpD, i2D, lenD, ixD, List.getElem?_cons_succ, List.getElem?_cons_zero, List.set_cons_succ, List.set_cons_zero, opt_some, opt_none, opt_ite, if_true, if_false, Bool.false_eq_true, List.map_cons, List.map_nil, List.cons_append, List.nil_append, List.append_nil, List.replicate_succ, List.replicate_zero, List.length_cons, List.length_nil, rsv, ownIx, ixOf, wb, Option.getD_some, back_nil, back_zero, eqDD_int, neDD_int, eqDD_bool, neDD_bool, eqDD_str, neDD_str, ltD, leD, gtD, geD, List.nodup_nil, nodup1, at0, at1, at2, at3, at4, ixN5_1, ixN5_2, ixN5_3, Nat.reduceAdd, true_and, and_true, eq_self, List.length_singleton, slD, signsD, wipeD, restD, Sl.keep, rgD, subD, maxLD, minLD, Bool.not_true, Bool.not_false]
  subst hN
  refine seq_step fun N hN => ?_
  by_cases c2 : kd = 2
  · simp only [decide_eq_true c2, tsSeq, tsAsg, tsNext, tsRet, tsRetN, tsExpr, tsIf, tsFor, tsWhile, tsNever, tsAsgG, tsSetIx, tfV, tfLst, tfMove, tfList, tfLRg, tfLc, tfCall, tdFz, tdVar, tdC, tdBin, tdUn, tdTest, tdChain, tdAnd, tdOr, tdNot, tdAndV, tdOrV, tdNotV, tdIf, tdNil, tdCons, tdTup, tdLst, tdFn, tdIxO, tdLenO, tdMeth, tdSl, tdRev, toNo, toSome, tdIsi, tdIsi2, tdLenSet, tdIndex, tdYes, taNil, taCons, taOwn, tgName, tgNil, tgCons, tgTup, tiSeq, tiStr, tiRg1, tiRg2, tiRg3, tiEnum, onLst, isLst, seqOf_list, seqOf_tuple, addD, subD, divD, modD, powD, intD, negD, mulD, cmpD, i2D, lenD, ixD, List.getElem?_cons_succ, List.getElem?_cons_zero, List.set_cons_succ, List.set_cons_zero, opt_some, opt_none, opt_ite, if_true, if_false, Bool.false_eq_true, List.map_cons, List.map_nil, List.cons_append, List.nil_append, List.append_nil, List.replicate_succ, List.replicate_zero, List.length_cons, List.length_nil, rsv, ownIx, ixOf, wb, Option.getD_some, back_nil, back_zero, eqDD_int, neDD_int, eqDD_bool, neDD_bool, eqDD_str, neDD_str, ltD, leD, gtD, geD, List.nodup_nil, nodup1, at0, at1, at2, at3, at4, ixN5_1, ixN5_2, ixN5_3, Nat.reduceAdd, true_and, and_true, eq_self, List.length_singleton, slD, signsD, wipeD, restD, Sl.keep, rgD, subD, maxLD, minLD, Bool.not_true, Bool.not_false]
    simp only [e1, cut_t, cut_d, cut_m, List.length_map, List.length_append, List.length_take, List.length_drop, tsSeq, tsAsg, tsNext, tsRet, tsRetN, tsExpr, tsIf, tsFor, tsWhile, tsNever, tsAsgG, tsSetIx, tfV, tfLst, tfMove, tfList, tfLRg, tfLc, tfCall, tdFz, tdVar, tdC, tdBin, tdUn, tdTest, tdChain, tdAnd, tdOr, tdNot, tdAndV, tdOrV, tdNotV, tdIf, tdNil, tdCons, tdTup, tdLst, tdFn, tdIxO, tdLenO, tdMeth, tdSl, tdRev, toNo, toSome, tdIsi, tdIsi2, tdLenSet, tdIndex, tdYes, taNil, taCons, taOwn, tgName, tgNil, tgCons, tgTup, tiSeq, tiStr, tiRg1, tiRg2, tiRg3, tiEnum, onLst, isLst, seqOf_list, seqOf_tuple, addD, subD, divD, modD, powD, intD, negD, mulD, cmpD, i2D, lenD, ixD, List.getElem?_cons_succ, List.getElem?_cons_zero, List.set_cons_succ, List.set_cons_zero, opt_some, opt_none, opt_ite, if_true, if_false, Bool.false_eq_true, List.map_cons, List.map_nil, List.cons_append, List.nil_append, List.append_nil, List.replicate_succ, List.replicate_zero, List.length_cons, List.length_nil, rsv, ownIx, ixOf, wb, Option.getD_some, back_nil, back_zero, eqDD_int, neDD_int, eqDD_bool, neDD_bool, eqDD_str, neDD_str, ltD, leD, gtD, geD, List.nodup_nil, nodup1, at0, at1, at2, at3, at4, ixN5_1, ixN5_2, ixN5_3, Nat.reduceAdd, true_and, and_true, eq_self, List.length_singleton, slD, signsD, wipeD, restD, Sl.keep, rgD, subD, maxLD, minLD, Bool.not_true, Bool.not_false]
    refine ⟨by omega, by omega, ?_⟩
    have := fin (r.take a ++ (r.drop a).take (a + 1 - a) ++ r.drop a) (fun y hy => by
      rcases List.mem_append.mp hy with hy | hy
      · rcases List.mem_append.mp hy with hy | hy
        · exact .inl (mt hy)
        · exact .inl (md (List.mem_of_mem_take hy))
      · exact .inl (md hy)) (by simp only [List.length_append, List.length_take, List.length_drop]; omega)
    rw [List.map_append, List.map_append] at this
    exact this
  simp only [decide_eq_false c2, tsSeq, tsAsg, tsNext, tsRet, tsRetN, tsExpr, tsIf, tsFor, tsWhile, tsNever, tsAsgG, tsSetIx, tfV, tfLst, tfMove, tfList, tfLRg, tfLc, tfCall, tdFz, tdVar, tdC, tdBin, tdUn, tdTest, tdChain, tdAnd, tdOr, tdNot, tdAndV, tdOrV, tdNotV, tdIf, tdNil, tdCons, tdTup, tdLst, tdFn, tdIxO, tdLenO, tdMeth, tdSl, tdRev, toNo, toSome, tdIsi, tdIsi2, tdLenSet, tdIndex, tdYes, taNil, taCons, taOwn, tgName, tgNil, tgCons, tgTup, tiSeq, tiStr, tiRg1, tiRg2, tiRg3, tiEnum, onLst, isLst, seqOf_list, seqOf_tuple, addD, subD, divD, modD, powD, intD, negD, mulD, cmpD, i2D, lenD, ixD, List.getElem?_cons_succ, List.getElem?_cons_zero, List.set_cons_succ, List.set_cons_zero, opt_some, opt_none, opt_ite, if_true, if_false, Bool.false_eq_true, List.map_cons, List.map_nil, List.cons_append, List.nil_append, List.append_nil, List.replicate_succ, List.replicate_zero, List.length_cons, List.length_nil, rsv, ownIx, ixOf, wb, Option.getD_some, back_nil, back_zero, eqDD_int, neDD_int, eqDD_bool, neDD_bool, eqDD_str, neDD_str, ltD, leD, gtD, geD, List.nodup_nil, nodup1, at0, at1, at2, at3, at4, ixN5_1, ixN5_2, ixN5_3, Nat.reduceAdd, true_and, and_true, eq_self, List.length_singleton, slD, signsD, wipeD, restD, Sl.keep, rgD, subD, maxLD, minLD, Bool.not_true, Bool.not_false]
  subst hN
  refine seq_step fun N hN => ?_
  by_cases c3 : kd = 3
  · simp only [decide_eq_true c3, tsSeq, tsAsg, tsNext, tsRet, tsRetN, tsExpr, tsIf, tsFor, tsWhile, tsNever, tsAsgG, tsSetIx, tfV, tfLst, tfMove, tfList, tfLRg, tfLc, tfCall, tdFz, tdVar, tdC, tdBin, tdUn, tdTest, tdChain, tdAnd, tdOr, tdNot, tdAndV, tdOrV, tdNotV, tdIf, tdNil, tdCons, tdTup, tdLst, tdFn, tdIxO, tdLenO, tdMeth, tdSl, tdRev, toNo, toSome, tdIsi, tdIsi2, tdLenSet, tdIndex, tdYes, taNil, taCons, taOwn, tgName, tgNil, tgCons, tgTup, tiSeq, tiStr, tiRg1, tiRg2, tiRg3, tiEnum, onLst, isLst, seqOf_list, seqOf_tuple, addD, subD, divD, modD, powD, intD, negD, mulD, cmpD, i2D, lenD, ixD, List.getElem?_cons_succ, List.getElem?_cons_zero, List.set_cons_succ, List.set_cons_zero, opt_some, opt_none, opt_ite, if_true, if_false, Bool.false_eq_true, List.map_cons, List.map_nil, List.cons_append, List.nil_append, List.append_nil, List.replicate_succ, List.replicate_zero, List.length_cons, List.length_nil, rsv, ownIx, ixOf, wb, Option.getD_some, back_nil, back_zero, eqDD_int, neDD_int, eqDD_bool, neDD_bool, eqDD_str, neDD_str, ltD, leD, gtD, geD, List.nodup_nil, nodup1, at0, at1, at2, at3, at4, ixN5_1, ixN5_2, ixN5_3, Nat.reduceAdd, true_and, and_true, eq_self, List.length_singleton, slD, signsD, wipeD, restD, Sl.keep, rgD, subD, maxLD, minLD, Bool.not_true, Bool.not_false]
    simp only [e2, cut_t, cut_d, cut_m, ← List.map_reverse, List.length_map, List.length_append, List.length_take, List.length_drop, List.length_reverse, tsSeq, tsAsg, tsNext, tsRet, tsRetN, tsExpr, tsIf, tsFor, tsWhile, tsNever, tsAsgG, tsSetIx, tfV, tfLst, tfMove, tfList, tfLRg, tfLc, tfCall, tdFz, tdVar, tdC, tdBin, tdUn, tdTest, tdChain, tdAnd, tdOr, tdNot, tdAndV, tdOrV, tdNotV, tdIf, tdNil, tdCons, tdTup, tdLst, tdFn, tdIxO, tdLenO, tdMeth, tdSl, tdRev, toNo, toSome, tdIsi, tdIsi2, tdLenSet, tdIndex, tdYes, taNil, taCons, taOwn, tgName, tgNil, tgCons, tgTup, tiSeq, tiStr, tiRg1, tiRg2, tiRg3, tiEnum, onLst, isLst, seqOf_list, seqOf_tuple, addD, subD, divD, modD, powD, intD, negD, mulD, cmpD, i2D, lenD, ixD, List.getElem?_cons_succ, List.getElem?_cons_zero, List.set_cons_succ, List.set_cons_zero, opt_some, opt_none, opt_ite, if_true, if_false, Bool.false_eq_true, List.map_cons, List.map_nil, List.cons_append, List.nil_append, List.append_nil, List.replicate_succ, List.replicate_zero, List.length_cons, List.length_nil, rsv, ownIx, ixOf, wb, Option.getD_some, back_nil, back_zero, eqDD_int, neDD_int, eqDD_bool, neDD_bool, eqDD_str, neDD_str, ltD, leD, gtD, geD, List.nodup_nil, nodup1, at0, at1, at2, at3, at4, ixN5_1, ixN5_2, ixN5_3, Nat.reduceAdd, true_and, and_true, eq_self, List.length_singleton, slD, signsD, wipeD, restD, Sl.keep, rgD, subD, maxLD, minLD, Bool.not_true, Bool.not_false]
    refine ⟨by omega, by omega, ?_⟩
    have := fin (r.take a ++ ((r.drop a).take (a + 2 - a)).reverse ++ r.drop (a + 2)) (fun y hy => by
      rcases List.mem_append.mp hy with hy | hy
      · rcases List.mem_append.mp hy with hy | hy
        · exact .inl (mt hy)
        · exact .inl (md (List.mem_of_mem_take (List.mem_reverse.mp hy)))
      · exact .inl (md hy)) (by simp only [List.length_append, List.length_take, List.length_drop, List.length_reverse]; omega)
    rw [List.map_append, List.map_append] at this
    exact this
  simp only [decide_eq_false c3, tsSeq, tsAsg, tsNext, tsRet, tsRetN, tsExpr, tsIf, tsFor, tsWhile, tsNever, tsAsgG, tsSetIx, tfV, tfLst, tfMove, tfList, tfLRg, tfLc, tfCall, tdFz, tdVar, tdC, tdBin, tdUn, tdTest, tdChain, tdAnd, tdOr, tdNot, tdAndV, tdOrV, tdNotV, tdIf, tdNil, tdCons, tdTup, tdLst, tdFn, tdIxO, tdLenO, tdMeth, tdSl, tdRev, toNo, toSome, tdIsi, tdIsi2, tdLenSet, tdIndex, tdYes, taNil, taCons, taOwn, tgName, tgNil, tgCons, tgTup, tiSeq, tiStr, tiRg1, tiRg2, tiRg3, tiEnum, onLst, isLst, seqOf_list, seqOf_tuple, addD, subD, divD, modD, powD, intD, negD, mulD, cmpD, i2D, lenD, ixD, List.getElem?_cons_succ, List.getElem?_cons_zero, List.set_cons_succ, List.set_cons_zero, opt_some, opt_none, opt_ite, if_true, if_false, Bool.false_eq_true, List.map_cons, List.map_nil, List.cons_append, List.nil_append, List.append_nil, List.replicate_succ, List.replicate_zero, List.length_cons, List.length_nil, rsv, ownIx, ixOf, wb, Option.getD_some, back_nil, back_zero, eqDD_int, neDD_int, eqDD_bool, neDD_bool, eqDD_str, neDD_str, ltD, leD, gtD, geD, List.nodup_nil, nodup1, at0, at1, at2, at3, at4, ixN5_1, ixN5_2, ixN5_3, Nat.reduceAdd, true_and, and_true, eq_self, List.length_singleton, slD, signsD, wipeD, restD, Sl.keep, rgD, subD, maxLD, minLD, Bool.not_true, Bool.not_false]
  subst hN
  simp only [List.length_map, tsSeq, tsAsg, tsNext, tsRet, tsRetN, tsExpr, tsIf, tsFor, tsWhile, tsNever, tsAsgG, tsSetIx, tfV, tfLst, tfMove, tfList, tfLRg, tfLc, tfCall, tdFz, tdVar, tdC, tdBin, tdUn, tdTest, tdChain, tdAnd, tdOr, tdNot, tdAndV, tdOrV, tdNotV, tdIf, tdNil, tdCons, tdTup, tdLst, tdFn, tdIxO, tdLenO, tdMeth, tdSl, tdRev, toNo, toSome, tdIsi, tdIsi2, tdLenSet, tdIndex, tdYes, taNil, taCons, taOwn, tgName, tgNil, tgCons, tgTup, tiSeq, tiStr, tiRg1, tiRg2, tiRg3, tiEnum, onLst, isLst, seqOf_list, seqOf_tuple, addD, subD, divD, modD, powD, intD, negD, mulD, cmpD, i2D, lenD, ixD, List.getElem?_cons_succ, List.getElem?_cons_zero, List.set_cons_succ, List.set_cons_zero, opt_some, opt_none, opt_ite, if_true, if_false, Bool.false_eq_true, List.map_cons, List.map_nil, List.cons_append, List.nil_append, List.append_nil, List.replicate_succ, List.replicate_zero, List.length_cons, List.length_nil, rsv, ownIx, ixOf, wb, Option.getD_some, back_nil, back_zero, eqDD_int, neDD_int, eqDD_bool, neDD_bool, eqDD_str, neDD_str, ltD, leD, gtD, geD, List.nodup_nil, nodup1, at0, at1, at2, at3, at4, ixN5_1, ixN5_2, ixN5_3, Nat.reduceAdd, true_and, and_true, eq_self, List.length_singleton, slD, signsD, wipeD, restD, Sl.keep, rgD, subD, maxLD, minLD, Bool.not_true, Bool.not_false]
  refine ⟨by decide, by omega, ?_⟩
  have := fin (r ++ [x]) (fun y hy => by
    rcases List.mem_append.mp hy with hy | hy
    · exact .inl hy
    · exact .inr (List.mem_singleton.mp hy)) (by simp only [List.length_append, List.length_singleton]; omega)
  rw [List.map_append] at this
  exact this

theorem sc__law_bent : FnScope ["bag", "row", "names", "at", "kind", "name"] ["bag", "row", "names"] (defScope (top 25)) := ⟨rfl, rfl, rfl, by decide +kernel, rfl, by decide +kernel, by decide +kernel⟩
theorem has__law_bent {P : Program} {w : World} {K : Fg} {mg : Str → Option Value} {base : Heap} {f : Addr} {fd : FuncData} (T : Txt mg) (F : Fun K "_law_bent" "_law_bent" (top 25) f fd) (hm : mg "_law_bent" = some (.ref f)) (hb : Binds K fd ["bag", "row", "names"] []) (h__law_draw : Has P w K mg base 2 "_law_draw" ["bag", "many"] [0] (sp__law_draw)) : Has P w K mg base 3 "_law_bent" ["bag", "row", "names"] [0] (sp__law_bent) :=
  ⟨⟨f, fd, fnD [0] (sp__law_bent) (t__law_bent) F sc__law_bent (fun args R E h => len__law_bent h) (fun cdv A outer s H E fr W hr hfr tk => (ss_cons (s_asg (i := 3) sc__law_bent.nd rfl (by first | exact .inl rfl | exact .inr rfl) (by first | exact .inl rfl | exact .inr rfl) (by rw [hfr]; decide) (pf_callH h__law_draw (hr.mono (by decide)) rfl tk (a_own (i := 0) rfl (by first | exact .inl rfl | exact .inr (.inl rfl) | exact .inr (.inr rfl)) (a_cons (pd_callB (call_maxD rfl) okL rfl T.b_max bt_max (pl_cons pd_int (pl_cons (pd_callB call_lenD okL rfl T.b_len bt_len (pl_cons (pd_var (i := 1) rfl (by first | exact .inl rfl | exact .inr (.inl rfl) | exact .inr (.inr rfl))) pl_nil)) pl_nil))) a_nil))))
  (ss_cons (s_asg (i := 4) sc__law_bent.nd rfl (by first | exact .inl rfl | exact .inr rfl) (by first | exact .inl rfl | exact .inr rfl) (by rw [hfr]; decide) (pf_callH h__law_draw (hr.mono (by decide)) rfl tk (a_own (i := 0) rfl (by first | exact .inl rfl | exact .inr (.inl rfl) | exact .inr (.inr rfl)) (a_cons pd_int a_nil))))
  (ss_cons (s_asg (i := 5) sc__law_bent.nd rfl (by first | exact .inl rfl | exact .inr rfl) (by first | exact .inl rfl | exact .inr rfl) (by rw [hfr]; decide) (pf_val (pd_ix ix_D okD (pd_var (i := 2) rfl (by first | exact .inl rfl | exact .inr (.inl rfl) | exact .inr (.inr rfl))) (pd_fz (pf_callH h__law_draw (hr.mono (by decide)) rfl tk (a_own (i := 0) rfl (by first | exact .inl rfl | exact .inr (.inl rfl) | exact .inr (.inr rfl)) (a_cons (pd_callB call_lenD okL rfl T.b_len bt_len (pl_cons (pd_var (i := 2) rfl (by first | exact .inl rfl | exact .inr (.inl rfl) | exact .inr (.inr rfl))) pl_nil)) a_nil)))) (fun _ _ => rfl))))
  (ss_cons (s_if (pb_cmp (op_eqDD hr.units) okD (pd_var (i := 4) rfl (by first | exact .inl rfl | exact .inr (.inl rfl) | exact .inr (.inr rfl))) pd_int (nobehind _ (by decide) (by decide))) (ss_one (s_ret (pf_val (pd_op op_addD okD (pd_op op_addD okD (pd_sl (pd_var (i := 1) rfl (by first | exact .inl rfl | exact .inr (.inl rfl) | exact .inr (.inr rfl))) pdo_none (pdo_some (pd_var (i := 3) rfl (by first | exact .inl rfl | exact .inr (.inl rfl) | exact .inr (.inr rfl))))) (pd_lst (pl_cons (pd_var (i := 5) rfl (by first | exact .inl rfl | exact .inr (.inl rfl) | exact .inr (.inr rfl))) pl_nil))) (pd_sl (pd_var (i := 1) rfl (by first | exact .inl rfl | exact .inr (.inl rfl) | exact .inr (.inr rfl))) (pdo_some (pd_op op_addD okD (pd_var (i := 3) rfl (by first | exact .inl rfl | exact .inr (.inl rfl) | exact .inr (.inr rfl))) pd_int)) pdo_none))))) ss_nil)
  (ss_cons (s_if (pb_cmp (op_eqDD hr.units) okD (pd_var (i := 4) rfl (by first | exact .inl rfl | exact .inr (.inl rfl) | exact .inr (.inr rfl))) pd_int (nobehind _ (by decide) (by decide))) (ss_one (s_ret (pf_val (pd_op op_addD okD (pd_sl (pd_var (i := 1) rfl (by first | exact .inl rfl | exact .inr (.inl rfl) | exact .inr (.inr rfl))) pdo_none (pdo_some (pd_var (i := 3) rfl (by first | exact .inl rfl | exact .inr (.inl rfl) | exact .inr (.inr rfl))))) (pd_sl (pd_var (i := 1) rfl (by first | exact .inl rfl | exact .inr (.inl rfl) | exact .inr (.inr rfl))) (pdo_some (pd_op op_addD okD (pd_var (i := 3) rfl (by first | exact .inl rfl | exact .inr (.inl rfl) | exact .inr (.inr rfl))) pd_int)) pdo_none))))) ss_nil)
  (ss_cons (s_if (pb_cmp (op_eqDD hr.units) okD (pd_var (i := 4) rfl (by first | exact .inl rfl | exact .inr (.inl rfl) | exact .inr (.inr rfl))) pd_int (nobehind _ (by decide) (by decide))) (ss_one (s_ret (pf_val (pd_op op_addD okD (pd_op op_addD okD (pd_sl (pd_var (i := 1) rfl (by first | exact .inl rfl | exact .inr (.inl rfl) | exact .inr (.inr rfl))) pdo_none (pdo_some (pd_var (i := 3) rfl (by first | exact .inl rfl | exact .inr (.inl rfl) | exact .inr (.inr rfl))))) (pd_sl (pd_var (i := 1) rfl (by first | exact .inl rfl | exact .inr (.inl rfl) | exact .inr (.inr rfl))) (pdo_some (pd_var (i := 3) rfl (by first | exact .inl rfl | exact .inr (.inl rfl) | exact .inr (.inr rfl)))) (pdo_some (pd_op op_addD okD (pd_var (i := 3) rfl (by first | exact .inl rfl | exact .inr (.inl rfl) | exact .inr (.inr rfl))) pd_int)))) (pd_sl (pd_var (i := 1) rfl (by first | exact .inl rfl | exact .inr (.inl rfl) | exact .inr (.inr rfl))) (pdo_some (pd_var (i := 3) rfl (by first | exact .inl rfl | exact .inr (.inl rfl) | exact .inr (.inr rfl)))) pdo_none))))) ss_nil)
  (ss_cons (s_if (pb_cmp (op_eqDD hr.units) okD (pd_var (i := 4) rfl (by first | exact .inl rfl | exact .inr (.inl rfl) | exact .inr (.inr rfl))) pd_int (nobehind _ (by decide) (by decide))) (ss_one (s_ret (pf_val (pd_op op_addD okD (pd_op op_addD okD (pd_sl (pd_var (i := 1) rfl (by first | exact .inl rfl | exact .inr (.inl rfl) | exact .inr (.inr rfl))) pdo_none (pdo_some (pd_var (i := 3) rfl (by first | exact .inl rfl | exact .inr (.inl rfl) | exact .inr (.inr rfl))))) (pd_rev (pd_sl (pd_var (i := 1) rfl (by first | exact .inl rfl | exact .inr (.inl rfl) | exact .inr (.inr rfl))) (pdo_some (pd_var (i := 3) rfl (by first | exact .inl rfl | exact .inr (.inl rfl) | exact .inr (.inr rfl)))) (pdo_some (pd_op op_addD okD (pd_var (i := 3) rfl (by first | exact .inl rfl | exact .inr (.inl rfl) | exact .inr (.inr rfl))) pd_int))))) (pd_sl (pd_var (i := 1) rfl (by first | exact .inl rfl | exact .inr (.inl rfl) | exact .inr (.inr rfl))) (pdo_some (pd_op op_addD okD (pd_var (i := 3) rfl (by first | exact .inl rfl | exact .inr (.inl rfl) | exact .inr (.inr rfl))) pd_int)) pdo_none))))) ss_nil)
  (ss_one (s_ret (pf_val (pd_op op_addD okD (pd_var (i := 1) rfl (by first | exact .inl rfl | exact .inr (.inl rfl) | exact .inr (.inr rfl))) (pd_lst (pl_cons (pd_var (i := 5) rfl (by first | exact .inl rfl | exact .inr (.inl rfl) | exact .inr (.inr rfl))) pl_nil)))))))))))))) (fun args R E hp h => body__law_bent h), hm, F.kp, hb⟩, mo__law_bent⟩

def sp__law_so : SpD := fun args R E => ∃ a b : Bool, args = [.val (.bool a), .val (.bool b)] ∧ R (.val (.bool (decide (a = b)))) args
theorem mo__law_so : SpMono sp__law_so := fun args R R' E E' h1 h2 ⟨t, u, e, k⟩ => ⟨t, u, e, h1 _ _ k⟩
theorem len__law_so {args R E} (h : sp__law_so args R E) : args.length = 2 := by obtain ⟨t, u, rfl, _⟩ := h; rfl

def t__law_so (W : WD) : TDs :=
  (tsRet (tfV (tdAndV (tdIsi "bool" (tdVar 0)) (tdBin eqDD (tdVar 0) (tdVar 1)))))

theorem body__law_so {args : List Sl} {R : Sl → List Sl → Prop} {E : Exn → List Sl → Prop} (h : sp__law_so args R E) :
    t__law_so (fun ex ρ => E ex (back [] args ρ)) ⟨fun ρ => R (.val .none) (back [] args ρ), fun s ρ => R s (back [] args ρ)⟩ (args ++ List.replicate (2 - args.length) .no) := by
  obtain ⟨a, b, rfl, k⟩ := h
  simp only [t__law_so, tyD, isi_int, tsSeq, tsAsg, tsNext, tsRet, tsRetN, tsExpr, tsIf, tsFor, tsWhile, tsNever, tsAsgG, tsSetIx, tfV, tfLst, tfMove, tfList, tfLRg, tfLc, tfCall, tdFz, tdVar, tdC, tdBin, tdUn, tdTest, tdChain, tdAnd, tdOr, tdNot, tdAndV, tdOrV, tdNotV, tdIf, tdNil, tdCons, tdTup, tdLst, tdFn, tdIxO, tdLenO, tdMeth, tdSl, tdRev, toNo, toSome, tdIsi, tdIsi2, tdLenSet, tdIndex, tdYes, taNil, taCons, taOwn, tgName, tgNil, tgCons, tgTup, tiSeq, tiStr, tiRg1, tiRg2, tiRg3, tiEnum, onLst, isLst, seqOf_list, seqOf_tuple, addD, subD, divD, modD, powD, intD, negD, mulD, cmpD, i2D, lenD, ixD, List.getElem?_cons_succ, List.getElem?_cons_zero, List.set_cons_succ, List.set_cons_zero, opt_some, opt_none, opt_ite, if_true, if_false, Bool.false_eq_true, List.map_cons, List.map_nil, List.cons_append, List.nil_append, List.append_nil, List.replicate_succ, List.replicate_zero, List.length_cons, List.length_nil, rsv, ownIx, ixOf, wb, Option.getD_some, back_nil, back_zero, eqDD_int, neDD_int, eqDD_bool, neDD_bool, eqDD_str, neDD_str, ltD, leD, gtD, geD, List.nodup_nil, nodup1, at0, at1, at2, at3, at4, ixN5_1, ixN5_2, ixN5_3, Nat.reduceAdd, true_and, and_true, eq_self, List.length_singleton, slD, signsD, wipeD, restD, Sl.keep, rgD, subD, maxLD, minLD, Bool.not_true, Bool.not_false]
  exact k

theorem sc__law_so : FnScope ["found", "due"] ["found", "due"] (defScope (top 26)) := ⟨rfl, rfl, rfl, by decide +kernel, rfl, by decide +kernel, by decide +kernel⟩
theorem has__law_so {P : Program} {w : World} {K : Fg} {mg : Str → Option Value} {base : Heap} {f : Addr} {fd : FuncData} (T : Txt mg) (F : Fun K "_law_so" "_law_so" (top 26) f fd) (hm : mg "_law_so" = some (.ref f)) (hb : Binds K fd ["found", "due"] [])  : Has P w K mg base 1 "_law_so" ["found", "due"] [] (sp__law_so) :=
  ⟨⟨f, fd, fnD [] (sp__law_so) (t__law_so) F sc__law_so (fun args R E h => len__law_so h) (fun cdv A outer s H E fr W hr hfr tk => (ss_one (s_ret (pf_val (pd_and (pd_isi (by decide) (pd_var (i := 0) rfl (by first | exact .inl rfl | exact .inr (.inl rfl) | exact .inr (.inr rfl))) rfl T.b_isinstance rfl T.b_bool bt_bool) (pd_one (pd_cmp (op_eqDD hr.units) okD (pd_var (i := 0) rfl (by first | exact .inl rfl | exact .inr (.inl rfl) | exact .inr (.inr rfl))) (pd_var (i := 1) rfl (by first | exact .inl rfl | exact .inr (.inl rfl) | exact .inr (.inr rfl))) (nobehind _ (by decide) (by decide))))))))) (fun args R E hp h => body__law_so h), hm, F.kp, hb⟩, mo__law_so⟩

/-! ### the names that sliding shows -/
def headN : List Card → Str
  | [] => Str.empty
  | c :: _ => c.1
def lineN (cs : List Card) : Nat → List Str
  | 0 => []
  | n + 1 => headN cs :: lineN (slide cs) n
theorem lineN_len : ∀ (n : Nat) (cs : List Card), (lineN cs n).length = n
  | 0, _ => rfl
  | n + 1, cs => by rw [lineN, List.length_cons, lineN_len n]
theorem lineN_take : ∀ (n m : Nat) (cs : List Card), m ≤ n → (lineN cs n).take m = lineN cs m
  | _, 0, _, _ => by simp [lineN]
  | n + 1, m + 1, cs, h => by rw [lineN, List.take_succ_cons, lineN_take n m _ (by omega)]; rfl
theorem slide_perm : ∀ cs : List Card, (slide cs).Perm cs
  | [] => .refl _
  | c :: r => by
    unfold slide
    exact List.perm_middle.trans (by rw [List.take_append_drop])
theorem slide_len (cs : List Card) : (slide cs).length = cs.length := (slide_perm cs).length_eq
theorem lineN_mem : ∀ (n : Nat) (cs : List Card), cs ≠ [] → ∀ x ∈ lineN cs n, x ∈ cs.map (·.1)
  | 0, _, _, x, h => by simp [lineN] at h
  | n + 1, cs, h0, x, h => by
    rw [lineN] at h
    rcases List.mem_cons.mp h with z | z
    · subst z
      cases cs with
      | nil => exact absurd rfl h0
      | cons c r => exact List.mem_map.mpr ⟨c, List.mem_cons_self, rfl⟩
    · have h1 : slide cs ≠ [] := fun e => by
        have := slide_len cs
        rw [e] at this
        exact h0 (List.eq_nil_of_length_eq_zero this.symm)
      have := lineN_mem n (slide cs) h1 x z
      exact ((slide_perm cs).map (·.1)).mem_iff.mp this
theorem slide_lines (g : Nat → Card) (h : Nat) (t : List Nat) : slide ((h :: t).map g) = ((t.take (g h).2.toNat) ++ h :: t.drop (g h).2.toNat).map g := by
  rw [List.map_cons]
  unfold slide
  rw [List.map_append, List.map_cons, List.map_take, List.map_drop]
theorem take_min {α : Type} {t : List α} {a b : Nat} (h : min a t.length = min b t.length) : t.take a = t.take b ∧ t.drop a = t.drop b := by
  by_cases ha : a ≤ t.length
  · by_cases hb : b ≤ t.length
    · rw [Nat.min_eq_left ha, Nat.min_eq_left hb] at h
      rw [h]; exact ⟨rfl, rfl⟩
    · rw [Nat.min_eq_left ha, Nat.min_eq_right (by omega)] at h
      rw [List.take_of_length_le (by omega), List.take_of_length_le (by omega), List.drop_eq_nil_of_le (by omega), List.drop_eq_nil_of_le (by omega)]
      exact ⟨rfl, rfl⟩
  · by_cases hb : b ≤ t.length
    · rw [Nat.min_eq_right (by omega), Nat.min_eq_left hb] at h
      rw [List.take_of_length_le (by omega), List.take_of_length_le (by omega), List.drop_eq_nil_of_le (by omega), List.drop_eq_nil_of_le (by omega)]
      exact ⟨rfl, rfl⟩
    · rw [List.take_of_length_le (by omega), List.take_of_length_le (by omega), List.drop_eq_nil_of_le (by omega), List.drop_eq_nil_of_le (by omega)]
      exact ⟨rfl, rfl⟩
/-- lets is True just of the row that sliding shows -/
theorem lets_line (xs : List Str) (g : Nat → Card) (ds : List Int) (n : Nat) (hx : ∀ i, i < n → xs.idxOf (g i).1 = i) (hx2 : ∀ x ∈ xs, xs.idxOf x < n ∧ (g (xs.idxOf x)).1 = x) (hd : ∀ i, i < n → min (ds.getD i 0).toNat (n - 1) = min (g i).2.toNat (n - 1)) :
    ∀ (r : List Str) (l : List Nat), l.length = n → 1 ≤ n → (∀ i ∈ l, i < n) → (∀ x ∈ r, x ∈ xs) → letsF ds l (r.map fun x => xs.idxOf x) = decide (r = lineN (l.map g) r.length)
  | [], l, _, _, _, _ => by cases l <;> simp [letsF, lineN]
  | x :: r, l, hl, hn, hi, hr => by
    obtain ⟨h, t, rfl⟩ : ∃ h t, l = h :: t := by
      cases l with
      | nil => rw [List.length_nil] at hl; omega
      | cons h t => exact ⟨h, t, rfl⟩
    have hh := hi h List.mem_cons_self
    rw [List.length_cons] at hl
    rw [List.map_cons, List.length_cons]
    show (if h = xs.idxOf x then _ else false) = decide (x :: r = (g h).1 :: lineN (slide ((h :: t).map g)) r.length)
    by_cases e : h = xs.idxOf x
    · have ex : (g h).1 = x := by rw [e]; exact (hx2 x (hr x List.mem_cons_self)).2
      rw [if_pos e, ← e, slide_lines, ex]
      have hk := hd h hh
      have ht : t.length = n - 1 := by omega
      rw [← ht] at hk
      obtain ⟨t1, t2⟩ := take_min hk
      rw [t1, t2]
      have p : (t.take (g h).2.toNat ++ h :: t.drop (g h).2.toNat).Perm (h :: t) := List.perm_middle.trans (by rw [List.take_append_drop])
      rw [lets_line xs g ds n hx hx2 hd r _ (by rw [p.length_eq, List.length_cons]; omega) hn (fun i hm => hi i (p.mem_iff.mp hm)) fun y hy => hr y (List.mem_cons_of_mem _ hy)]
      rw [Bool.eq_iff_iff, decide_eq_true_eq, decide_eq_true_eq]
      constructor
      · intro z; rw [← z]
      · intro z; exact (List.cons.inj z).2
    · rw [if_neg e]
      symm
      rw [decide_eq_false_iff_not]
      intro z
      have z1 := (List.cons.inj z).1
      exact e (by rw [z1]; exact (hx h hh).symm)
theorem lets_deck (cs : List Card) (nd : (cs.map (·.1)).Nodup) (hn : 1 ≤ cs.length) (ds : List Int) (dl : ds.length = cs.length) (hd : ∀ i, i < cs.length → min (ds.getD i 0).toNat (cs.length - 1) = min (cs.getD i (Str.empty, 0)).2.toNat (cs.length - 1)) (r : List Str) (hr : ∀ x ∈ r, x ∈ cs.map (·.1)) :
    letsF ds (List.range ds.length) (r.map fun x => (cs.map (·.1)).idxOf x) = decide (r = lineN cs r.length) := by
  have gi : ∀ i, i < cs.length → cs.getD i (Str.empty, 0) = cs[i]! ∧ (cs.map (·.1))[i]? = some (cs.getD i (Str.empty, 0)).1 := fun i hi => by
    constructor
    · simp [List.getD, hi]
    · simp [List.getD, hi]
  have e := lets_line (cs.map (·.1)) (fun i => cs.getD i (Str.empty, 0)) ds cs.length (fun i hi => ?_) (fun x hx => ?_) hd r (List.range ds.length) (by rw [List.length_range, dl]) hn (fun i hi => by rw [List.mem_range, dl] at hi; exact hi) hr
  · rw [e]
    have : (List.range ds.length).map (fun i => cs.getD i (Str.empty, 0)) = cs := by
      apply List.ext_getElem
      · rw [List.length_map, List.length_range, dl]
      · intro i h1 h2
        simp [List.getD, h2]
    rw [this]
  · have h1 := (gi i hi).2
    obtain ⟨hl, h2⟩ := List.getElem?_eq_some_iff.mp h1
    rw [← h2]
    exact nd.idxOf_getElem i hl
  · have hl := List.idxOf_lt_length_of_mem hx
    have hl' : (cs.map (·.1)).idxOf x < cs.length := by rw [List.length_map] at hl; exact hl
    refine ⟨hl', ?_⟩
    have h1 := (gi _ hl').2
    obtain ⟨hl2, h2⟩ := List.getElem?_eq_some_iff.mp h1
    rw [← h2]
    exact List.getElem_idxOf hl2
theorem isntD_b (a b : Bool) : isntD (.bool a) (.bool b) = some (.bool (!decide (a = b))) := rfl
theorem seq_deck (cs : List Card) : seqOf (deckD cs) = some (cs.map cardD) := rfl
theorem name_sign {x : Str} (h : nameB x = true) : ∀ c ∈ x.cps.toList, c ≤ 122 := by
  unfold nameB at h
  simp only [Bool.and_eq_true, List.all_eq_true, decide_eq_true_eq] at h
  exact fun c hc => (h.2 c hc).2
theorem name_ok {x : Str} (h : nameB x = true) : PyData.strOk x = true := by
  unfold PyData.strOk
  rw [← Array.all_toList, List.all_eq_true]
  intro c hc
  have := name_sign h c hc
  exact decide_eq_true (by omega)
theorem lay_strs : ∀ {xs : List Str}, (∀ x ∈ xs, nameB x = true) → PyData.canLayAll0 (xs.map PyData.str) = true
  | [], _ => by simp [PyData.canLayAll0]
  | x :: xs, h => by
    rw [List.map_cons, PyData.canLayAll0, lay_strs fun y hy => h y (List.mem_cons_of_mem _ hy), Bool.and_true, PyData.canLay0]
    exact name_ok (h x List.mem_cons_self)
theorem depth_strs : ∀ xs : List Str, PyData.depthAll (xs.map PyData.str) = 0
  | [] => by simp [PyData.depthAll]
  | x :: xs => by rw [List.map_cons, PyData.depthAll, depth_strs xs]; simp [PyData.depth]
theorem depth_ints : ∀ xs : List Int, PyData.depthAll (xs.map PyData.int) = 0
  | [] => by simp [PyData.depthAll]
  | x :: xs => by rw [List.map_cons, PyData.depthAll, depth_ints xs]; simp [PyData.depth]
theorem shaped_strs {xs : List Str} (h : ∀ x ∈ xs, nameB x = true) : SeqAt.shaped (.list (xs.map PyData.str)) = true := by
  unfold SeqAt.shaped
  rw [PyData.canLay0, lay_strs h, PyData.depth, depth_strs]; rfl
theorem eqv_strs : ∀ xs ys : List Str, PyData.eqvAll (xs.map PyData.str) (ys.map PyData.str) = decide (xs = ys)
  | [], [] => by simp [PyData.eqvAll]
  | [], y :: ys => by simp [PyData.eqvAll]
  | x :: xs, [] => by simp [PyData.eqvAll]
  | x :: xs, y :: ys => by
    rw [List.map_cons, List.map_cons, PyData.eqvAll, eqv_strs xs ys, PyData.eqv]
    by_cases h : x = y <;> by_cases h2 : xs = ys <;> simp [h, h2]
theorem eqDD_strs {xs ys : List Str} (hx : ∀ x ∈ xs, nameB x = true) (hy : ∀ x ∈ ys, nameB x = true) : eqDD (.list (xs.map PyData.str)) (.list (ys.map PyData.str)) = some (.bool (decide (xs = ys))) := by
  show (if SeqAt.shaped _ = true ∧ SeqAt.shaped _ = true then some (PyData.bool (PyData.eqv (.list (xs.map PyData.str)) (.list (ys.map PyData.str)))) else none) = _
  rw [if_pos ⟨shaped_strs hx, shaped_strs hy⟩, PyData.eqv, eqv_strs]
theorem show_strs : ∀ {xs : List Str}, (∀ x ∈ xs, nameB x = true) → PyData.showableAll (xs.map PyData.str) = true ∧ PyData.hasDictAll (xs.map PyData.str) = false ∧ strsOkAll (xs.map PyData.str) = true ∧ shWs (xs.map PyData.str) ≤ 84 * xs.length
  | [], _ => by simp [PyData.showableAll, PyData.hasDictAll, strsOkAll, shWs]
  | x :: xs, h => by
    obtain ⟨h1, h2, h3, h4⟩ := show_strs (xs := xs) fun y hy => h y (List.mem_cons_of_mem _ hy)
    have hx := h x List.mem_cons_self
    have l8 := name_len hx
    refine ⟨?_, ?_, ?_, ?_⟩
    · rw [List.map_cons, PyData.showableAll, h1, PyData.showable]; rfl
    · rw [List.map_cons, PyData.hasDictAll, h2, PyData.hasDict]; rfl
    · rw [List.map_cons, strsOkAll, h3, strsOk, Bool.and_true, List.all_eq_true]
      intro c hc
      have := name_sign hx c hc
      exact decide_eq_true (by omega)
    · rw [List.map_cons, shWs, shW, List.length_cons]; omega
theorem show_ints : ∀ {xs : List Int}, (∀ x ∈ xs, 0 ≤ x ∧ x < 2 ^ 100) → PyData.showableAll (xs.map PyData.int) = true ∧ PyData.hasDictAll (xs.map PyData.int) = false ∧ strsOkAll (xs.map PyData.int) = true ∧ shWs (xs.map PyData.int) ≤ 105 * xs.length
  | [], _ => by simp [PyData.showableAll, PyData.hasDictAll, strsOkAll, shWs]
  | x :: xs, h => by
    obtain ⟨h1, h2, h3, h4⟩ := show_ints (xs := xs) fun y hy => h y (List.mem_cons_of_mem _ hy)
    have hx := PySem.Flt.log2_lt_of (show 0 < 100 by decide) (show x.natAbs < 2 ^ 100 by have := h x List.mem_cons_self; omega)
    refine ⟨?_, ?_, ?_, ?_⟩
    · rw [List.map_cons, PyData.showableAll, h1, PyData.showable, decide_eq_true (by omega)]; rfl
    · rw [List.map_cons, PyData.hasDictAll, h2, PyData.hasDict]; rfl
    · rw [List.map_cons, strsOkAll, h3]; rfl
    · rw [List.map_cons, shWs, shW, List.length_cons]; omega
theorem repr3 {xs o : List Str} {ds : List Int} (hx : ∀ x ∈ xs, nameB x = true) (ho : ∀ x ∈ o, nameB x = true) (hd : ∀ x ∈ ds, 0 ≤ x ∧ x < 2 ^ 100) (lx : xs.length ≤ 1000) (lo : o.length ≤ 1000) (ld : ds.length ≤ 1000) :
    ∃ S, reprD [.list [.list (xs.map PyData.str), .list (o.map PyData.str), .list (ds.map PyData.int)]] = some (.str S) := by
  obtain ⟨a1, a2, a3, a4⟩ := show_strs hx
  obtain ⟨b1, b2, b3, b4⟩ := show_strs ho
  obtain ⟨c1, c2, c3, c4⟩ := show_ints hd
  refine ⟨_, if_pos ⟨rfl, ?_, ?_, ?_⟩⟩
  · simp only [PyData.showable, PyData.showableAll, a1, b1, c1]; rfl
  · simp only [PyData.depth, PyData.depthAll, depth_strs, depth_ints]; decide
  · refine Nat.le_trans (shown_le _ ?_ ?_) ?_
    · simp only [strsOk, strsOkAll, a3, b3, c3]; rfl
    · simp only [PyData.hasDict, PyData.hasDictAll, a2, b2, c2]; rfl
    · simp only [shW, shWs]
      rw [sizeLine_eq]
      omega
def sp_law (K : Fg) : SpD := fun args R E => ∃ a ns, args = [.raw (.ref a) (Scr K a ns)] ∧ ns.length ≤ 63 ∧ ∀ args', R (.val (.bool true)) args'
theorem mo_law {K : Fg} : SpMono (sp_law K) := fun args R R' E E' h1 h2 ⟨t, u, e, l, k⟩ => ⟨t, u, e, l, fun z => h1 _ _ (k z)⟩
theorem len_law {K : Fg} {args R E} (h : sp_law K args R E) : args.length = 1 := by obtain ⟨t, u, rfl, _⟩ := h; rfl
theorem law_holds {K : Fg} (a : Addr) (ns : List Int) (h : ns.length ≤ 63) : sp_law K [.raw (.ref a) (Scr K a ns)] (fun s _ => s = .val (.bool true)) fun _ _ => False := ⟨a, ns, rfl, h, fun _ => rfl⟩
theorem getD_map (f : Int → Int) (ds : List Int) (i : Nat) (h : i < ds.length) : (ds.map f).getD i 0 = f (ds.getD i 0) := by simp [List.getD, h]

def t_law (K : Fg) (W : WD) : TDs :=
  (tsSeq (tsAsg (tfCall [0] (sp__law_bag K) W (taOwn 0 taNil)) 1)
  (tsSeq (tsFor (tiRg1 (tdCons (tdBin addD (tdC (.int 3)) (tdFn minLD (tdCons (tdC (.int 5)) (tdCons (tdScrLen K 0) tdNil)))) tdNil)) (tgName 2) (tsSeq (tsAsg (tfCall [0] (sp__law_deck) W (taOwn 1 (taCons (tdBin ixD (tdLst (tdCons (tdC (.int 5)) (tdCons (tdC (.int 12)) (tdCons (tdC (.int 40)) tdNil)))) (tdFz (tfCall [0] (sp__law_draw) W (taOwn 1 (taCons (tdC (.int 3)) taNil))))) taNil))) 3)
  (tsSeq (tsAsg (tfLc (tiSeq (tdVar 3)) (tgTup 2 (tgCons (tgName 5) (tgCons (tgName 6) tgNil))) tdYes (tdVar 5) [5, 6]) 4)
  (tsSeq (tsAsg (tfLc (tiSeq (tdVar 3)) (tgTup 2 (tgCons (tgName 5) (tgCons (tgName 6) tgNil))) tdYes (tdVar 6) [5, 6]) 7)
  (tsSeq (tsAsg (tfV (tdVar 3)) 8)
  (tsSeq (tsAsg (tfLst tdNil) 9)
  (tsSeq (tsFor (tiRg1 (tdCons (tdC (.int 300)) tdNil)) (tgName 10) (tsSeq (tsExpr (tdMeth 9 gAppend (tdCons (tdBin ixD (tdBin ixD (tdVar 8) (tdC (.int 0))) (tdC (.int 0))) tdNil)))
  (tsAsg (tfCall [] (sp__law_slid) W (taCons (tdVar 8) taNil)) 8)))
  (tsSeq (tsAsg (tfV (tdSl (tdVar 9) toNo (toSome (tdBin ixD (tdLst (tdCons (tdC (.int 0)) (tdCons (tdFz (tfCall [0] (sp__law_draw) W (taOwn 1 (taCons (tdC (.int 12)) taNil)))) (tdCons (tdFz (tfCall [0] (sp__law_draw) W (taOwn 1 (taCons (tdC (.int 299)) taNil)))) (tdCons (tdC (.int 299)) tdNil))))) (tdFz (tfCall [0] (sp__law_draw) W (taOwn 1 (taCons (tdC (.int 4)) taNil)))))))) 11)
  (tsSeq (tsIf (tdTest (tdBin isntD (tdFz (tfCall [] (sp_depths_let) W (taCons (tdVar 4) (taCons (tdVar 11) (taCons (tdVar 7) taNil))))) (tdC (.bool true)))) (tsRet (tfV (tdC (.bool false)))) tsNext)
  (tsSeq (tsIf (tdTest (tdBin isntD (tdFz (tfCall [] (sp_depths_let) W (taCons (tdFn tupleD (tdCons (tdVar 4) tdNil)) (taCons (tdVar 11) (taCons (tdFn tupleD (tdCons (tdVar 7) tdNil)) taNil))))) (tdC (.bool true)))) (tsRet (tfV (tdC (.bool false)))) tsNext)
  (tsSeq (tsIf (tdTest (tdBin isntD (tdFz (tfCall [] (sp_depths_let) W (taCons (tdVar 4) (taCons (tdFn tupleD (tdCons (tdVar 11) tdNil)) (taCons (tdVar 7) taNil))))) (tdC (.bool true)))) (tsRet (tfV (tdC (.bool false)))) tsNext)
  (tsSeq (tsFor (tiRg1 (tdCons (tdC (.int 6)) tdNil)) (tgName 12) (tsSeq (tsAsg (tfCall [0] (sp__law_bent) W (taOwn 1 (taCons (tdVar 11) (taCons (tdVar 4) taNil)))) 13)
  (tsSeq (tsAsg (tfV (tdFn reprD (tdCons (tdLst (tdCons (tdVar 4) (tdCons (tdVar 13) (tdCons (tdVar 7) tdNil)))) tdNil))) 14)
  (tsSeq (tsIf (tdNot (tdTest (tdFz (tfCall [] (sp__law_so) W (taCons (tdFz (tfCall [] (sp_depths_let) W (taCons (tdVar 4) (taCons (tdVar 13) (taCons (tdVar 7) taNil))))) (taCons (tdBin eqDD (tdVar 13) (tdSl (tdVar 9) toNo (toSome (tdFn lenD (tdCons (tdVar 13) tdNil))))) taNil)))))) (tsRet (tfV (tdC (.bool false)))) tsNext)
  (tsIf (tdTest (tdBin neDD (tdFn reprD (tdCons (tdLst (tdCons (tdVar 4) (tdCons (tdVar 13) (tdCons (tdVar 7) tdNil)))) tdNil)) (tdVar 14))) (tsRet (tfV (tdC (.bool false)))) tsNext)))))
  (tsSeq (tsAsg (tfLc (tiSeq (tdVar 7)) (tgName 6) tdYes (tdFn minLD (tdCons (tdVar 6) (tdCons (tdBin subD (tdFn lenD (tdCons (tdVar 3) tdNil)) (tdC (.int 1))) tdNil))) [6]) 15)
  (tsIf (tdTest (tdBin isntD (tdFz (tfCall [] (sp_depths_let) W (taCons (tdVar 4) (taCons (tdVar 9) (taCons (tdVar 15) taNil))))) (tdC (.bool true)))) (tsRet (tfV (tdC (.bool false)))) tsNext))))))))))))))
  (tsRet (tfV (tdC (.bool true))))))

theorem body_law {K : Fg} {args : List Sl} {R : Sl → List Sl → Prop} {E : Exn → List Sl → Prop} (h : sp_law K args R E) :
    t_law K (fun ex ρ => E ex (back [] args ρ)) ⟨fun ρ => R (.val .none) (back [] args ρ), fun s ρ => R s (back [] args ρ)⟩ (args ++ List.replicate (16 - args.length) .no) := by
  obtain ⟨a, ns, rfl, hl, k⟩ := h
  have sz := sizeLine_eq
  unfold t_law
  refine seq_step fun N hN => ?_
  simp only [tsSeq, tsAsg, tsNext, tsRet, tsRetN, tsExpr, tsIf, tsFor, tsWhile, tsNever, tsAsgG, tsSetIx, tfV, tfLst, tfMove, tfList, tfLRg, tfLc, tfCall, tdFz, tdVar, tdC, tdBin, tdUn, tdTest, tdChain, tdAnd, tdOr, tdNot, tdAndV, tdOrV, tdNotV, tdIf, tdNil, tdCons, tdTup, tdLst, tdFn, tdIxO, tdLenO, tdMeth, tdSl, tdRev, toNo, toSome, tdIsi, tdIsi2, tdLenSet, tdIndex, tdYes, taNil, taCons, taOwn, tgName, tgNil, tgCons, tgTup, tiSeq, tiStr, tiRg1, tiRg2, tiRg3, tiEnum, onLst, isLst, seqOf_list, seqOf_tuple, addD, subD, divD, modD, powD, intD, negD, mulD, cmpD, i2D, lenD, ixD, List.getElem?_cons_succ, List.getElem?_cons_zero, List.set_cons_succ, List.set_cons_zero, opt_some, opt_none, opt_ite, if_true, if_false, Bool.false_eq_true, List.map_cons, List.map_nil, List.cons_append, List.nil_append, List.append_nil, List.replicate_succ, List.replicate_zero, List.length_cons, List.length_nil, rsv, ownIx, ixOf, wb, Option.getD_some, back_nil, back_zero, eqDD_int, neDD_int, eqDD_bool, neDD_bool, eqDD_str, neDD_str, ltD, leD, gtD, geD, List.nodup_nil, nodup1, at0, at1, at2, at3, at4, ixN5_1, ixN5_2, ixN5_3, Nat.reduceAdd, true_and, and_true, eq_self, List.length_singleton, slD, signsD, wipeD, restD, Sl.keep, rgD, subD, maxLD, minLD, Bool.not_true, Bool.not_false]
  refine ⟨a, ns, rfl, fun b hb => ?_⟩
  simp only [tsSeq, tsAsg, tsNext, tsRet, tsRetN, tsExpr, tsIf, tsFor, tsWhile, tsNever, tsAsgG, tsSetIx, tfV, tfLst, tfMove, tfList, tfLRg, tfLc, tfCall, tdFz, tdVar, tdC, tdBin, tdUn, tdTest, tdChain, tdAnd, tdOr, tdNot, tdAndV, tdOrV, tdNotV, tdIf, tdNil, tdCons, tdTup, tdLst, tdFn, tdIxO, tdLenO, tdMeth, tdSl, tdRev, toNo, toSome, tdIsi, tdIsi2, tdLenSet, tdIndex, tdYes, taNil, taCons, taOwn, tgName, tgNil, tgCons, tgTup, tiSeq, tiStr, tiRg1, tiRg2, tiRg3, tiEnum, onLst, isLst, seqOf_list, seqOf_tuple, addD, subD, divD, modD, powD, intD, negD, mulD, cmpD, i2D, lenD, ixD, List.getElem?_cons_succ, List.getElem?_cons_zero, List.set_cons_succ, List.set_cons_zero, opt_some, opt_none, opt_ite, if_true, if_false, Bool.false_eq_true, List.map_cons, List.map_nil, List.cons_append, List.nil_append, List.append_nil, List.replicate_succ, List.replicate_zero, List.length_cons, List.length_nil, rsv, ownIx, ixOf, wb, Option.getD_some, back_nil, back_zero, eqDD_int, neDD_int, eqDD_bool, neDD_bool, eqDD_str, neDD_str, ltD, leD, gtD, geD, List.nodup_nil, nodup1, at0, at1, at2, at3, at4, ixN5_1, ixN5_2, ixN5_3, Nat.reduceAdd, true_and, and_true, eq_self, List.length_singleton, slD, signsD, wipeD, restD, Sl.keep, rgD, subD, maxLD, minLD, Bool.not_true, Bool.not_false]
  subst hN
  refine seq_step fun N hN => ?_
  refine for_step fun g' b' hg hb' => ?_
  simp only [tdScrLen, onScr, tsSeq, tsAsg, tsNext, tsRet, tsRetN, tsExpr, tsIf, tsFor, tsWhile, tsNever, tsAsgG, tsSetIx, tfV, tfLst, tfMove, tfList, tfLRg, tfLc, tfCall, tdFz, tdVar, tdC, tdBin, tdUn, tdTest, tdChain, tdAnd, tdOr, tdNot, tdAndV, tdOrV, tdNotV, tdIf, tdNil, tdCons, tdTup, tdLst, tdFn, tdIxO, tdLenO, tdMeth, tdSl, tdRev, toNo, toSome, tdIsi, tdIsi2, tdLenSet, tdIndex, tdYes, taNil, taCons, taOwn, tgName, tgNil, tgCons, tgTup, tiSeq, tiStr, tiRg1, tiRg2, tiRg3, tiEnum, onLst, isLst, seqOf_list, seqOf_tuple, addD, subD, divD, modD, powD, intD, negD, mulD, cmpD, i2D, lenD, ixD, List.getElem?_cons_succ, List.getElem?_cons_zero, List.set_cons_succ, List.set_cons_zero, opt_some, opt_none, opt_ite, if_true, if_false, Bool.false_eq_true, List.map_cons, List.map_nil, List.cons_append, List.nil_append, List.append_nil, List.replicate_succ, List.replicate_zero, List.length_cons, List.length_nil, rsv, ownIx, ixOf, wb, Option.getD_some, back_nil, back_zero, eqDD_int, neDD_int, eqDD_bool, neDD_bool, eqDD_str, neDD_str, ltD, leD, gtD, geD, List.nodup_nil, nodup1, at0, at1, at2, at3, at4, ixN5_1, ixN5_2, ixN5_3, Nat.reduceAdd, true_and, and_true, eq_self, List.length_singleton, slD, signsD, wipeD, restD, Sl.keep, rgD, subD, maxLD, minLD, Bool.not_true, Bool.not_false]
  refine ⟨a, ns, rfl, ?_⟩
  obtain ⟨tn, htn⟩ : ∃ tn : Nat, (3 : Int) + (if (ns.length : Int) < 5 then (ns.length : Int) else 5) = tn := ⟨((3 : Int) + (if (ns.length : Int) < 5 then (ns.length : Int) else 5)).toNat, by split <;> omega⟩
  have tn8 : tn ≤ 8 := by split at htn <;> omega
  rw [htn]
  refine ⟨by omega, by omega, ?_⟩
  refine loop_ind (fun i : Nat => PyData.int (0 + (i : Int))) (fun rest ρ => ∃ b s2 s3 s4 s7 s8 s9 s10 s11 s12 s13 s14 s15, ρ = [.raw (.ref a) (Scr K a ns), .lst b, s2, s3, s4, .no, .no, s7, s8, s9, s10, s11, s12, s13, s14, s15] ∧ Bag (1000 * (8 - (rest.length : Int))) b ∧ rest.length ≤ 8) ?_ ?_ _ _
    ⟨b, _, _, _, _, _, _, _, _, _, _, _, _, rfl, hb.le (by simp; omega), by simp; omega⟩
  · rintro i rest ρ ih ⟨b, s2, s3, s4, s7, s8, s9, s10, s11, s12, s13, s14, s15, rfl, hb, hrl⟩
    rw [List.length_cons] at hrl hb
    obtain ⟨c, hc⟩ : ∃ c : Int, c = 1000 * (8 - ((rest.length + 1 : Nat) : Int)) := ⟨_, rfl⟩
    rw [← hc] at hb
    have cb : c + 1000 ≤ 1000 * (8 - (rest.length : Int)) := by omega
    have c0 : c ≤ 10000 := by omega
    subst hg
    simp only [tsSeq, tsAsg, tsNext, tsRet, tsRetN, tsExpr, tsIf, tsFor, tsWhile, tsNever, tsAsgG, tsSetIx, tfV, tfLst, tfMove, tfList, tfLRg, tfLc, tfCall, tdFz, tdVar, tdC, tdBin, tdUn, tdTest, tdChain, tdAnd, tdOr, tdNot, tdAndV, tdOrV, tdNotV, tdIf, tdNil, tdCons, tdTup, tdLst, tdFn, tdIxO, tdLenO, tdMeth, tdSl, tdRev, toNo, toSome, tdIsi, tdIsi2, tdLenSet, tdIndex, tdYes, taNil, taCons, taOwn, tgName, tgNil, tgCons, tgTup, tiSeq, tiStr, tiRg1, tiRg2, tiRg3, tiEnum, onLst, isLst, seqOf_list, seqOf_tuple, addD, subD, divD, modD, powD, intD, negD, mulD, cmpD, i2D, lenD, ixD, List.getElem?_cons_succ, List.getElem?_cons_zero, List.set_cons_succ, List.set_cons_zero, opt_some, opt_none, opt_ite, if_true, if_false, Bool.false_eq_true, List.map_cons, List.map_nil, List.cons_append, List.nil_append, List.append_nil, List.replicate_succ, List.replicate_zero, List.length_cons, List.length_nil, rsv, ownIx, ixOf, wb, Option.getD_some, back_nil, back_zero, eqDD_int, neDD_int, eqDD_bool, neDD_bool, eqDD_str, neDD_str, ltD, leD, gtD, geD, List.nodup_nil, nodup1, at0, at1, at2, at3, at4, ixN5_1, ixN5_2, ixN5_3, Nat.reduceAdd, true_and, and_true, eq_self, List.length_singleton, slD, signsD, wipeD, restD, Sl.keep, rgD, subD, maxLD, minLD, Bool.not_true, Bool.not_false]
    subst hb'
    -- deck
    refine seq_step fun N2 hN2 => ?_
    simp only [tsSeq, tsAsg, tsNext, tsRet, tsRetN, tsExpr, tsIf, tsFor, tsWhile, tsNever, tsAsgG, tsSetIx, tfV, tfLst, tfMove, tfList, tfLRg, tfLc, tfCall, tdFz, tdVar, tdC, tdBin, tdUn, tdTest, tdChain, tdAnd, tdOr, tdNot, tdAndV, tdOrV, tdNotV, tdIf, tdNil, tdCons, tdTup, tdLst, tdFn, tdIxO, tdLenO, tdMeth, tdSl, tdRev, toNo, toSome, tdIsi, tdIsi2, tdLenSet, tdIndex, tdYes, taNil, taCons, taOwn, tgName, tgNil, tgCons, tgTup, tiSeq, tiStr, tiRg1, tiRg2, tiRg3, tiEnum, onLst, isLst, seqOf_list, seqOf_tuple, addD, subD, divD, modD, powD, intD, negD, mulD, cmpD, i2D, lenD, ixD, List.getElem?_cons_succ, List.getElem?_cons_zero, List.set_cons_succ, List.set_cons_zero, opt_some, opt_none, opt_ite, if_true, if_false, Bool.false_eq_true, List.map_cons, List.map_nil, List.cons_append, List.nil_append, List.append_nil, List.replicate_succ, List.replicate_zero, List.length_cons, List.length_nil, rsv, ownIx, ixOf, wb, Option.getD_some, back_nil, back_zero, eqDD_int, neDD_int, eqDD_bool, neDD_bool, eqDD_str, neDD_str, ltD, leD, gtD, geD, List.nodup_nil, nodup1, at0, at1, at2, at3, at4, ixN5_1, ixN5_2, ixN5_3, Nat.reduceAdd, true_and, and_true, eq_self, List.length_singleton, slD, signsD, wipeD, restD, Sl.keep, rgD, subD, maxLD, minLD, Bool.not_true, Bool.not_false]
    refine ⟨by decide, c, b, 3, rfl, hb, by omega, by decide, by decide, fun b1 z hb1 z0 z1 => ?_⟩
    obtain ⟨v, hv, ev⟩ := pickI [5, 12, 40] z z0 (by simpa using z1)
    simp only [List.map_cons, List.map_nil] at ev
    simp only [ev, tsSeq, tsAsg, tsNext, tsRet, tsRetN, tsExpr, tsIf, tsFor, tsWhile, tsNever, tsAsgG, tsSetIx, tfV, tfLst, tfMove, tfList, tfLRg, tfLc, tfCall, tdFz, tdVar, tdC, tdBin, tdUn, tdTest, tdChain, tdAnd, tdOr, tdNot, tdAndV, tdOrV, tdNotV, tdIf, tdNil, tdCons, tdTup, tdLst, tdFn, tdIxO, tdLenO, tdMeth, tdSl, tdRev, toNo, toSome, tdIsi, tdIsi2, tdLenSet, tdIndex, tdYes, taNil, taCons, taOwn, tgName, tgNil, tgCons, tgTup, tiSeq, tiStr, tiRg1, tiRg2, tiRg3, tiEnum, onLst, isLst, seqOf_list, seqOf_tuple, addD, subD, divD, modD, powD, intD, negD, mulD, cmpD, i2D, lenD, ixD, List.getElem?_cons_succ, List.getElem?_cons_zero, List.set_cons_succ, List.set_cons_zero, opt_some, opt_none, opt_ite, if_true, if_false, Bool.false_eq_true, List.map_cons, List.map_nil, List.cons_append, List.nil_append, List.append_nil, List.replicate_succ, List.replicate_zero, List.length_cons, List.length_nil, rsv, ownIx, ixOf, wb, Option.getD_some, back_nil, back_zero, eqDD_int, neDD_int, eqDD_bool, neDD_bool, eqDD_str, neDD_str, ltD, leD, gtD, geD, List.nodup_nil, nodup1, at0, at1, at2, at3, at4, ixN5_1, ixN5_2, ixN5_3, Nat.reduceAdd, true_and, and_true, eq_self, List.length_singleton, slD, signsD, wipeD, restD, Sl.keep, rgD, subD, maxLD, minLD, Bool.not_true, Bool.not_false]
    obtain ⟨m, rfl, m0, m1⟩ : ∃ m : Nat, v = m ∧ 1 ≤ m ∧ m ≤ 40 := by
      simp only [List.mem_cons, List.mem_singleton, List.not_mem_nil, or_false] at hv
      rcases hv with rfl | rfl | rfl
      · exact ⟨5, rfl, by decide, by decide⟩
      · exact ⟨12, rfl, by decide, by decide⟩
      · exact ⟨40, rfl, by decide, by decide⟩
    refine ⟨_, b1, m, rfl, hb1, by omega, m0, m1, fun b2 cs hb2 hcs n1 n2 => ?_⟩
    simp only [tsSeq, tsAsg, tsNext, tsRet, tsRetN, tsExpr, tsIf, tsFor, tsWhile, tsNever, tsAsgG, tsSetIx, tfV, tfLst, tfMove, tfList, tfLRg, tfLc, tfCall, tdFz, tdVar, tdC, tdBin, tdUn, tdTest, tdChain, tdAnd, tdOr, tdNot, tdAndV, tdOrV, tdNotV, tdIf, tdNil, tdCons, tdTup, tdLst, tdFn, tdIxO, tdLenO, tdMeth, tdSl, tdRev, toNo, toSome, tdIsi, tdIsi2, tdLenSet, tdIndex, tdYes, taNil, taCons, taOwn, tgName, tgNil, tgCons, tgTup, tiSeq, tiStr, tiRg1, tiRg2, tiRg3, tiEnum, onLst, isLst, seqOf_list, seqOf_tuple, addD, subD, divD, modD, powD, intD, negD, mulD, cmpD, i2D, lenD, ixD, List.getElem?_cons_succ, List.getElem?_cons_zero, List.set_cons_succ, List.set_cons_zero, opt_some, opt_none, opt_ite, if_true, if_false, Bool.false_eq_true, List.map_cons, List.map_nil, List.cons_append, List.nil_append, List.append_nil, List.replicate_succ, List.replicate_zero, List.length_cons, List.length_nil, rsv, ownIx, ixOf, wb, Option.getD_some, back_nil, back_zero, eqDD_int, neDD_int, eqDD_bool, neDD_bool, eqDD_str, neDD_str, ltD, leD, gtD, geD, List.nodup_nil, nodup1, at0, at1, at2, at3, at4, ixN5_1, ixN5_2, ixN5_3, Nat.reduceAdd, true_and, and_true, eq_self, List.length_singleton, slD, signsD, wipeD, restD, Sl.keep, rgD, subD, maxLD, minLD, Bool.not_true, Bool.not_false]
    obtain ⟨nok, dok⟩ := hcs
    obtain ⟨nd, nall⟩ := names_ok nok
    -- names, depths
    subst hN2
    refine seq_step fun N2 hN2 => ?_
    simp only [seq_deck, tsSeq, tsAsg, tsNext, tsRet, tsRetN, tsExpr, tsIf, tsFor, tsWhile, tsNever, tsAsgG, tsSetIx, tfV, tfLst, tfMove, tfList, tfLRg, tfLc, tfCall, tdFz, tdVar, tdC, tdBin, tdUn, tdTest, tdChain, tdAnd, tdOr, tdNot, tdAndV, tdOrV, tdNotV, tdIf, tdNil, tdCons, tdTup, tdLst, tdFn, tdIxO, tdLenO, tdMeth, tdSl, tdRev, toNo, toSome, tdIsi, tdIsi2, tdLenSet, tdIndex, tdYes, taNil, taCons, taOwn, tgName, tgNil, tgCons, tgTup, tiSeq, tiStr, tiRg1, tiRg2, tiRg3, tiEnum, onLst, isLst, seqOf_list, seqOf_tuple, addD, subD, divD, modD, powD, intD, negD, mulD, cmpD, i2D, lenD, ixD, List.getElem?_cons_succ, List.getElem?_cons_zero, List.set_cons_succ, List.set_cons_zero, opt_some, opt_none, opt_ite, if_true, if_false, Bool.false_eq_true, List.map_cons, List.map_nil, List.cons_append, List.nil_append, List.append_nil, List.replicate_succ, List.replicate_zero, List.length_cons, List.length_nil, rsv, ownIx, ixOf, wb, Option.getD_some, back_nil, back_zero, eqDD_int, neDD_int, eqDD_bool, neDD_bool, eqDD_str, neDD_str, ltD, leD, gtD, geD, List.nodup_nil, nodup1, at0, at1, at2, at3, at4, ixN5_1, ixN5_2, ixN5_3, Nat.reduceAdd, true_and, and_true, eq_self, List.length_singleton, slD, signsD, wipeD, restD, Sl.keep, rgD, subD, maxLD, minLD, Bool.not_true, Bool.not_false]
    refine lc_map cardD (fun c => .str c.1) cs [] (by show 0 + cs.length ≤ sizeLine; omega) (fun x hx A hA => ?_) ?_
    · simp only [cardD, tsSeq, tsAsg, tsNext, tsRet, tsRetN, tsExpr, tsIf, tsFor, tsWhile, tsNever, tsAsgG, tsSetIx, tfV, tfLst, tfMove, tfList, tfLRg, tfLc, tfCall, tdFz, tdVar, tdC, tdBin, tdUn, tdTest, tdChain, tdAnd, tdOr, tdNot, tdAndV, tdOrV, tdNotV, tdIf, tdNil, tdCons, tdTup, tdLst, tdFn, tdIxO, tdLenO, tdMeth, tdSl, tdRev, toNo, toSome, tdIsi, tdIsi2, tdLenSet, tdIndex, tdYes, taNil, taCons, taOwn, tgName, tgNil, tgCons, tgTup, tiSeq, tiStr, tiRg1, tiRg2, tiRg3, tiEnum, onLst, isLst, seqOf_list, seqOf_tuple, addD, subD, divD, modD, powD, intD, negD, mulD, cmpD, i2D, lenD, ixD, List.getElem?_cons_succ, List.getElem?_cons_zero, List.set_cons_succ, List.set_cons_zero, opt_some, opt_none, opt_ite, if_true, if_false, Bool.false_eq_true, List.map_cons, List.map_nil, List.cons_append, List.nil_append, List.append_nil, List.replicate_succ, List.replicate_zero, List.length_cons, List.length_nil, rsv, ownIx, ixOf, wb, Option.getD_some, back_nil, back_zero, eqDD_int, neDD_int, eqDD_bool, neDD_bool, eqDD_str, neDD_str, ltD, leD, gtD, geD, List.nodup_nil, nodup1, at0, at1, at2, at3, at4, ixN5_1, ixN5_2, ixN5_3, Nat.reduceAdd, true_and, and_true, eq_self, List.length_singleton, slD, signsD, wipeD, restD, Sl.keep, rgD, subD, maxLD, minLD, Bool.not_true, Bool.not_false]
      exact hA _ rfl
    have eN : (cs.map fun c => PyData.str c.1) = (cs.map (·.1)).map PyData.str := by rw [List.map_map]; rfl
    have eD : (cs.map fun c => PyData.int c.2) = (cs.map (·.2)).map PyData.int := by rw [List.map_map]; rfl
    simp only [eN, tsSeq, tsAsg, tsNext, tsRet, tsRetN, tsExpr, tsIf, tsFor, tsWhile, tsNever, tsAsgG, tsSetIx, tfV, tfLst, tfMove, tfList, tfLRg, tfLc, tfCall, tdFz, tdVar, tdC, tdBin, tdUn, tdTest, tdChain, tdAnd, tdOr, tdNot, tdAndV, tdOrV, tdNotV, tdIf, tdNil, tdCons, tdTup, tdLst, tdFn, tdIxO, tdLenO, tdMeth, tdSl, tdRev, toNo, toSome, tdIsi, tdIsi2, tdLenSet, tdIndex, tdYes, taNil, taCons, taOwn, tgName, tgNil, tgCons, tgTup, tiSeq, tiStr, tiRg1, tiRg2, tiRg3, tiEnum, onLst, isLst, seqOf_list, seqOf_tuple, addD, subD, divD, modD, powD, intD, negD, mulD, cmpD, i2D, lenD, ixD, List.getElem?_cons_succ, List.getElem?_cons_zero, List.set_cons_succ, List.set_cons_zero, opt_some, opt_none, opt_ite, if_true, if_false, Bool.false_eq_true, List.map_cons, List.map_nil, List.cons_append, List.nil_append, List.append_nil, List.replicate_succ, List.replicate_zero, List.length_cons, List.length_nil, rsv, ownIx, ixOf, wb, Option.getD_some, back_nil, back_zero, eqDD_int, neDD_int, eqDD_bool, neDD_bool, eqDD_str, neDD_str, ltD, leD, gtD, geD, List.nodup_nil, nodup1, at0, at1, at2, at3, at4, ixN5_1, ixN5_2, ixN5_3, Nat.reduceAdd, true_and, and_true, eq_self, List.length_singleton, slD, signsD, wipeD, restD, Sl.keep, rgD, subD, maxLD, minLD, Bool.not_true, Bool.not_false]
    subst hN2
    refine seq_step fun N2 hN2 => ?_
    simp only [seq_deck, tsSeq, tsAsg, tsNext, tsRet, tsRetN, tsExpr, tsIf, tsFor, tsWhile, tsNever, tsAsgG, tsSetIx, tfV, tfLst, tfMove, tfList, tfLRg, tfLc, tfCall, tdFz, tdVar, tdC, tdBin, tdUn, tdTest, tdChain, tdAnd, tdOr, tdNot, tdAndV, tdOrV, tdNotV, tdIf, tdNil, tdCons, tdTup, tdLst, tdFn, tdIxO, tdLenO, tdMeth, tdSl, tdRev, toNo, toSome, tdIsi, tdIsi2, tdLenSet, tdIndex, tdYes, taNil, taCons, taOwn, tgName, tgNil, tgCons, tgTup, tiSeq, tiStr, tiRg1, tiRg2, tiRg3, tiEnum, onLst, isLst, seqOf_list, seqOf_tuple, addD, subD, divD, modD, powD, intD, negD, mulD, cmpD, i2D, lenD, ixD, List.getElem?_cons_succ, List.getElem?_cons_zero, List.set_cons_succ, List.set_cons_zero, opt_some, opt_none, opt_ite, if_true, if_false, Bool.false_eq_true, List.map_cons, List.map_nil, List.cons_append, List.nil_append, List.append_nil, List.replicate_succ, List.replicate_zero, List.length_cons, List.length_nil, rsv, ownIx, ixOf, wb, Option.getD_some, back_nil, back_zero, eqDD_int, neDD_int, eqDD_bool, neDD_bool, eqDD_str, neDD_str, ltD, leD, gtD, geD, List.nodup_nil, nodup1, at0, at1, at2, at3, at4, ixN5_1, ixN5_2, ixN5_3, Nat.reduceAdd, true_and, and_true, eq_self, List.length_singleton, slD, signsD, wipeD, restD, Sl.keep, rgD, subD, maxLD, minLD, Bool.not_true, Bool.not_false]
    refine lc_map cardD (fun c => .int c.2) cs [] (by show 0 + cs.length ≤ sizeLine; omega) (fun x hx A hA => ?_) ?_
    · simp only [cardD, tsSeq, tsAsg, tsNext, tsRet, tsRetN, tsExpr, tsIf, tsFor, tsWhile, tsNever, tsAsgG, tsSetIx, tfV, tfLst, tfMove, tfList, tfLRg, tfLc, tfCall, tdFz, tdVar, tdC, tdBin, tdUn, tdTest, tdChain, tdAnd, tdOr, tdNot, tdAndV, tdOrV, tdNotV, tdIf, tdNil, tdCons, tdTup, tdLst, tdFn, tdIxO, tdLenO, tdMeth, tdSl, tdRev, toNo, toSome, tdIsi, tdIsi2, tdLenSet, tdIndex, tdYes, taNil, taCons, taOwn, tgName, tgNil, tgCons, tgTup, tiSeq, tiStr, tiRg1, tiRg2, tiRg3, tiEnum, onLst, isLst, seqOf_list, seqOf_tuple, addD, subD, divD, modD, powD, intD, negD, mulD, cmpD, i2D, lenD, ixD, List.getElem?_cons_succ, List.getElem?_cons_zero, List.set_cons_succ, List.set_cons_zero, opt_some, opt_none, opt_ite, if_true, if_false, Bool.false_eq_true, List.map_cons, List.map_nil, List.cons_append, List.nil_append, List.append_nil, List.replicate_succ, List.replicate_zero, List.length_cons, List.length_nil, rsv, ownIx, ixOf, wb, Option.getD_some, back_nil, back_zero, eqDD_int, neDD_int, eqDD_bool, neDD_bool, eqDD_str, neDD_str, ltD, leD, gtD, geD, List.nodup_nil, nodup1, at0, at1, at2, at3, at4, ixN5_1, ixN5_2, ixN5_3, Nat.reduceAdd, true_and, and_true, eq_self, List.length_singleton, slD, signsD, wipeD, restD, Sl.keep, rgD, subD, maxLD, minLD, Bool.not_true, Bool.not_false]
      exact hA _ rfl
    simp only [eD, tsSeq, tsAsg, tsNext, tsRet, tsRetN, tsExpr, tsIf, tsFor, tsWhile, tsNever, tsAsgG, tsSetIx, tfV, tfLst, tfMove, tfList, tfLRg, tfLc, tfCall, tdFz, tdVar, tdC, tdBin, tdUn, tdTest, tdChain, tdAnd, tdOr, tdNot, tdAndV, tdOrV, tdNotV, tdIf, tdNil, tdCons, tdTup, tdLst, tdFn, tdIxO, tdLenO, tdMeth, tdSl, tdRev, toNo, toSome, tdIsi, tdIsi2, tdLenSet, tdIndex, tdYes, taNil, taCons, taOwn, tgName, tgNil, tgCons, tgTup, tiSeq, tiStr, tiRg1, tiRg2, tiRg3, tiEnum, onLst, isLst, seqOf_list, seqOf_tuple, addD, subD, divD, modD, powD, intD, negD, mulD, cmpD, i2D, lenD, ixD, List.getElem?_cons_succ, List.getElem?_cons_zero, List.set_cons_succ, List.set_cons_zero, opt_some, opt_none, opt_ite, if_true, if_false, Bool.false_eq_true, List.map_cons, List.map_nil, List.cons_append, List.nil_append, List.append_nil, List.replicate_succ, List.replicate_zero, List.length_cons, List.length_nil, rsv, ownIx, ixOf, wb, Option.getD_some, back_nil, back_zero, eqDD_int, neDD_int, eqDD_bool, neDD_bool, eqDD_str, neDD_str, ltD, leD, gtD, geD, List.nodup_nil, nodup1, at0, at1, at2, at3, at4, ixN5_1, ixN5_2, ixN5_3, Nat.reduceAdd, true_and, and_true, eq_self, List.length_singleton, slD, signsD, wipeD, restD, Sl.keep, rgD, subD, maxLD, minLD, Bool.not_true, Bool.not_false]
    subst hN2
    refine seq_step fun N2 hN2 => ?_
    simp only [tsSeq, tsAsg, tsNext, tsRet, tsRetN, tsExpr, tsIf, tsFor, tsWhile, tsNever, tsAsgG, tsSetIx, tfV, tfLst, tfMove, tfList, tfLRg, tfLc, tfCall, tdFz, tdVar, tdC, tdBin, tdUn, tdTest, tdChain, tdAnd, tdOr, tdNot, tdAndV, tdOrV, tdNotV, tdIf, tdNil, tdCons, tdTup, tdLst, tdFn, tdIxO, tdLenO, tdMeth, tdSl, tdRev, toNo, toSome, tdIsi, tdIsi2, tdLenSet, tdIndex, tdYes, taNil, taCons, taOwn, tgName, tgNil, tgCons, tgTup, tiSeq, tiStr, tiRg1, tiRg2, tiRg3, tiEnum, onLst, isLst, seqOf_list, seqOf_tuple, addD, subD, divD, modD, powD, intD, negD, mulD, cmpD, i2D, lenD, ixD, List.getElem?_cons_succ, List.getElem?_cons_zero, List.set_cons_succ, List.set_cons_zero, opt_some, opt_none, opt_ite, if_true, if_false, Bool.false_eq_true, List.map_cons, List.map_nil, List.cons_append, List.nil_append, List.append_nil, List.replicate_succ, List.replicate_zero, List.length_cons, List.length_nil, rsv, ownIx, ixOf, wb, Option.getD_some, back_nil, back_zero, eqDD_int, neDD_int, eqDD_bool, neDD_bool, eqDD_str, neDD_str, ltD, leD, gtD, geD, List.nodup_nil, nodup1, at0, at1, at2, at3, at4, ixN5_1, ixN5_2, ixN5_3, Nat.reduceAdd, true_and, and_true, eq_self, List.length_singleton, slD, signsD, wipeD, restD, Sl.keep, rgD, subD, maxLD, minLD, Bool.not_true, Bool.not_false]
    subst hN2
    refine seq_step fun N2 hN2 => ?_
    simp only [tsSeq, tsAsg, tsNext, tsRet, tsRetN, tsExpr, tsIf, tsFor, tsWhile, tsNever, tsAsgG, tsSetIx, tfV, tfLst, tfMove, tfList, tfLRg, tfLc, tfCall, tdFz, tdVar, tdC, tdBin, tdUn, tdTest, tdChain, tdAnd, tdOr, tdNot, tdAndV, tdOrV, tdNotV, tdIf, tdNil, tdCons, tdTup, tdLst, tdFn, tdIxO, tdLenO, tdMeth, tdSl, tdRev, toNo, toSome, tdIsi, tdIsi2, tdLenSet, tdIndex, tdYes, taNil, taCons, taOwn, tgName, tgNil, tgCons, tgTup, tiSeq, tiStr, tiRg1, tiRg2, tiRg3, tiEnum, onLst, isLst, seqOf_list, seqOf_tuple, addD, subD, divD, modD, powD, intD, negD, mulD, cmpD, i2D, lenD, ixD, List.getElem?_cons_succ, List.getElem?_cons_zero, List.set_cons_succ, List.set_cons_zero, opt_some, opt_none, opt_ite, if_true, if_false, Bool.false_eq_true, List.map_cons, List.map_nil, List.cons_append, List.nil_append, List.append_nil, List.replicate_succ, List.replicate_zero, List.length_cons, List.length_nil, rsv, ownIx, ixOf, wb, Option.getD_some, back_nil, back_zero, eqDD_int, neDD_int, eqDD_bool, neDD_bool, eqDD_str, neDD_str, ltD, leD, gtD, geD, List.nodup_nil, nodup1, at0, at1, at2, at3, at4, ixN5_1, ixN5_2, ixN5_3, Nat.reduceAdd, true_and, and_true, eq_self, List.length_singleton, slD, signsD, wipeD, restD, Sl.keep, rgD, subD, maxLD, minLD, Bool.not_true, Bool.not_false]
    refine ⟨by decide, ?_⟩
    subst hN2
    refine seq_step fun N2 hN2 => ?_
    refine for_step fun g' b' hg hb' => ?_
    simp only [tsSeq, tsAsg, tsNext, tsRet, tsRetN, tsExpr, tsIf, tsFor, tsWhile, tsNever, tsAsgG, tsSetIx, tfV, tfLst, tfMove, tfList, tfLRg, tfLc, tfCall, tdFz, tdVar, tdC, tdBin, tdUn, tdTest, tdChain, tdAnd, tdOr, tdNot, tdAndV, tdOrV, tdNotV, tdIf, tdNil, tdCons, tdTup, tdLst, tdFn, tdIxO, tdLenO, tdMeth, tdSl, tdRev, toNo, toSome, tdIsi, tdIsi2, tdLenSet, tdIndex, tdYes, taNil, taCons, taOwn, tgName, tgNil, tgCons, tgTup, tiSeq, tiStr, tiRg1, tiRg2, tiRg3, tiEnum, onLst, isLst, seqOf_list, seqOf_tuple, addD, subD, divD, modD, powD, intD, negD, mulD, cmpD, i2D, lenD, ixD, List.getElem?_cons_succ, List.getElem?_cons_zero, List.set_cons_succ, List.set_cons_zero, opt_some, opt_none, opt_ite, if_true, if_false, Bool.false_eq_true, List.map_cons, List.map_nil, List.cons_append, List.nil_append, List.append_nil, List.replicate_succ, List.replicate_zero, List.length_cons, List.length_nil, rsv, ownIx, ixOf, wb, Option.getD_some, back_nil, back_zero, eqDD_int, neDD_int, eqDD_bool, neDD_bool, eqDD_str, neDD_str, ltD, leD, gtD, geD, List.nodup_nil, nodup1, at0, at1, at2, at3, at4, ixN5_1, ixN5_2, ixN5_3, Nat.reduceAdd, true_and, and_true, eq_self, List.length_singleton, slD, signsD, wipeD, restD, Sl.keep, rgD, subD, maxLD, minLD, Bool.not_true, Bool.not_false]
    refine ⟨by decide, by decide, ?_⟩
    generalize hxs : cs.map (·.1) = xs at *
    generalize hds : cs.map (·.2) = ds at *
    have cs0 : cs ≠ [] := fun e => by rw [e] at n1; simp at n1
    refine loop_ind (fun i : Nat => PyData.int (0 + (i : Int))) (fun rest ρ => ∃ (cur : List Card) (line : List Str) (s10 : Sl), ρ = [.raw (.ref a) (Scr K a ns), .lst b2, .val (.int (0 + (i : Int))), .val (deckD cs), .lst (xs.map PyData.str), .no, .no, .lst (ds.map PyData.int), .val (deckD cur), .lst (line.map PyData.str), s10, s11, s12, s13, s14, s15] ∧
      cur.Perm cs ∧ line ++ lineN cur rest.length = lineN cs 300) ?_ ?_ _ _ ⟨cs, [], _, rfl, .refl _, by simp⟩
    · rintro j rest2 ρ ih2 ⟨cur, line, s10, rfl, hp, hline⟩
      have hlen := congrArg List.length hline
      rw [List.length_append, lineN_len, lineN_len, List.length_cons] at hlen
      obtain ⟨c1, r1, rfl⟩ : ∃ c1 r1, cur = c1 :: r1 := List.exists_cons_of_ne_nil fun e => by
        rw [e] at hp; exact cs0 hp.symm.eq_nil
      subst hg
      simp only [tsSeq, tsAsg, tsNext, tsRet, tsRetN, tsExpr, tsIf, tsFor, tsWhile, tsNever, tsAsgG, tsSetIx, tfV, tfLst, tfMove, tfList, tfLRg, tfLc, tfCall, tdFz, tdVar, tdC, tdBin, tdUn, tdTest, tdChain, tdAnd, tdOr, tdNot, tdAndV, tdOrV, tdNotV, tdIf, tdNil, tdCons, tdTup, tdLst, tdFn, tdIxO, tdLenO, tdMeth, tdSl, tdRev, toNo, toSome, tdIsi, tdIsi2, tdLenSet, tdIndex, tdYes, taNil, taCons, taOwn, tgName, tgNil, tgCons, tgTup, tiSeq, tiStr, tiRg1, tiRg2, tiRg3, tiEnum, onLst, isLst, seqOf_list, seqOf_tuple, addD, subD, divD, modD, powD, intD, negD, mulD, cmpD, i2D, lenD, ixD, List.getElem?_cons_succ, List.getElem?_cons_zero, List.set_cons_succ, List.set_cons_zero, opt_some, opt_none, opt_ite, if_true, if_false, Bool.false_eq_true, List.map_cons, List.map_nil, List.cons_append, List.nil_append, List.append_nil, List.replicate_succ, List.replicate_zero, List.length_cons, List.length_nil, rsv, ownIx, ixOf, wb, Option.getD_some, back_nil, back_zero, eqDD_int, neDD_int, eqDD_bool, neDD_bool, eqDD_str, neDD_str, ltD, leD, gtD, geD, List.nodup_nil, nodup1, at0, at1, at2, at3, at4, ixN5_1, ixN5_2, ixN5_3, Nat.reduceAdd, true_and, and_true, eq_self, List.length_singleton, slD, signsD, wipeD, restD, Sl.keep, rgD, subD, maxLD, minLD, Bool.not_true, Bool.not_false]
      subst hb'
      refine seq_step fun N3 hN3 => ?_
      simp only [gAppend, deckD, List.map_cons, cardD, List.length_map, tsSeq, tsAsg, tsNext, tsRet, tsRetN, tsExpr, tsIf, tsFor, tsWhile, tsNever, tsAsgG, tsSetIx, tfV, tfLst, tfMove, tfList, tfLRg, tfLc, tfCall, tdFz, tdVar, tdC, tdBin, tdUn, tdTest, tdChain, tdAnd, tdOr, tdNot, tdAndV, tdOrV, tdNotV, tdIf, tdNil, tdCons, tdTup, tdLst, tdFn, tdIxO, tdLenO, tdMeth, tdSl, tdRev, toNo, toSome, tdIsi, tdIsi2, tdLenSet, tdIndex, tdYes, taNil, taCons, taOwn, tgName, tgNil, tgCons, tgTup, tiSeq, tiStr, tiRg1, tiRg2, tiRg3, tiEnum, onLst, isLst, seqOf_list, seqOf_tuple, addD, subD, divD, modD, powD, intD, negD, mulD, cmpD, i2D, lenD, ixD, List.getElem?_cons_succ, List.getElem?_cons_zero, List.set_cons_succ, List.set_cons_zero, opt_some, opt_none, opt_ite, if_true, if_false, Bool.false_eq_true, List.map_cons, List.map_nil, List.cons_append, List.nil_append, List.append_nil, List.replicate_succ, List.replicate_zero, List.length_cons, List.length_nil, rsv, ownIx, ixOf, wb, Option.getD_some, back_nil, back_zero, eqDD_int, neDD_int, eqDD_bool, neDD_bool, eqDD_str, neDD_str, ltD, leD, gtD, geD, List.nodup_nil, nodup1, at0, at1, at2, at3, at4, ixN5_1, ixN5_2, ixN5_3, Nat.reduceAdd, true_and, and_true, eq_self, List.length_singleton, slD, signsD, wipeD, restD, Sl.keep, rgD, subD, maxLD, minLD, Bool.not_true, Bool.not_false]
      refine ⟨by omega, ?_⟩
      subst hN3
      simp only [tsSeq, tsAsg, tsNext, tsRet, tsRetN, tsExpr, tsIf, tsFor, tsWhile, tsNever, tsAsgG, tsSetIx, tfV, tfLst, tfMove, tfList, tfLRg, tfLc, tfCall, tdFz, tdVar, tdC, tdBin, tdUn, tdTest, tdChain, tdAnd, tdOr, tdNot, tdAndV, tdOrV, tdNotV, tdIf, tdNil, tdCons, tdTup, tdLst, tdFn, tdIxO, tdLenO, tdMeth, tdSl, tdRev, toNo, toSome, tdIsi, tdIsi2, tdLenSet, tdIndex, tdYes, taNil, taCons, taOwn, tgName, tgNil, tgCons, tgTup, tiSeq, tiStr, tiRg1, tiRg2, tiRg3, tiEnum, onLst, isLst, seqOf_list, seqOf_tuple, addD, subD, divD, modD, powD, intD, negD, mulD, cmpD, i2D, lenD, ixD, List.getElem?_cons_succ, List.getElem?_cons_zero, List.set_cons_succ, List.set_cons_zero, opt_some, opt_none, opt_ite, if_true, if_false, Bool.false_eq_true, List.map_cons, List.map_nil, List.cons_append, List.nil_append, List.append_nil, List.replicate_succ, List.replicate_zero, List.length_cons, List.length_nil, rsv, ownIx, ixOf, wb, Option.getD_some, back_nil, back_zero, eqDD_int, neDD_int, eqDD_bool, neDD_bool, eqDD_str, neDD_str, ltD, leD, gtD, geD, List.nodup_nil, nodup1, at0, at1, at2, at3, at4, ixN5_1, ixN5_2, ixN5_3, Nat.reduceAdd, true_and, and_true, eq_self, List.length_singleton, slD, signsD, wipeD, restD, Sl.keep, rgD, subD, maxLD, minLD, Bool.not_true, Bool.not_false]
      refine ⟨c1 :: r1, rfl, by simp, fun x hx => (dok x (hp.mem_iff.mp hx)).1, by rw [hp.length_eq]; omega, ?_⟩
      simp only [tsSeq, tsAsg, tsNext, tsRet, tsRetN, tsExpr, tsIf, tsFor, tsWhile, tsNever, tsAsgG, tsSetIx, tfV, tfLst, tfMove, tfList, tfLRg, tfLc, tfCall, tdFz, tdVar, tdC, tdBin, tdUn, tdTest, tdChain, tdAnd, tdOr, tdNot, tdAndV, tdOrV, tdNotV, tdIf, tdNil, tdCons, tdTup, tdLst, tdFn, tdIxO, tdLenO, tdMeth, tdSl, tdRev, toNo, toSome, tdIsi, tdIsi2, tdLenSet, tdIndex, tdYes, taNil, taCons, taOwn, tgName, tgNil, tgCons, tgTup, tiSeq, tiStr, tiRg1, tiRg2, tiRg3, tiEnum, onLst, isLst, seqOf_list, seqOf_tuple, addD, subD, divD, modD, powD, intD, negD, mulD, cmpD, i2D, lenD, ixD, List.getElem?_cons_succ, List.getElem?_cons_zero, List.set_cons_succ, List.set_cons_zero, opt_some, opt_none, opt_ite, if_true, if_false, Bool.false_eq_true, List.map_cons, List.map_nil, List.cons_append, List.nil_append, List.append_nil, List.replicate_succ, List.replicate_zero, List.length_cons, List.length_nil, rsv, ownIx, ixOf, wb, Option.getD_some, back_nil, back_zero, eqDD_int, neDD_int, eqDD_bool, neDD_bool, eqDD_str, neDD_str, ltD, leD, gtD, geD, List.nodup_nil, nodup1, at0, at1, at2, at3, at4, ixN5_1, ixN5_2, ixN5_3, Nat.reduceAdd, true_and, and_true, eq_self, List.length_singleton, slD, signsD, wipeD, restD, Sl.keep, rgD, subD, maxLD, minLD, Bool.not_true, Bool.not_false]
      refine ih2 _ ⟨slide (c1 :: r1), line ++ [c1.1], .val (.int (0 + (j : Int))), by rw [List.map_append]; rfl, (slide_perm _).trans hp, ?_⟩
      rw [List.length_cons] at hline
      rw [← hline, List.append_assoc]; rfl
    rintro ρ ⟨cur, line, s10', rfl, hp, hline⟩
    have hline : line = lineN cs 300 := by rw [← hline]; simp [lineN]
    dsimp only
    subst hN2
    have lX : xs.length = cs.length := by rw [← hxs, List.length_map]
    have lD : ds.length = cs.length := by rw [← hds, List.length_map]
    have d0 : ∀ d ∈ ds, 0 ≤ d ∧ d < 2 ^ 100 := fun d hd => by
      rw [← hds] at hd
      obtain ⟨y, hy, rfl⟩ := List.mem_map.mp hd
      exact dok y hy
    have gD : ∀ i, i < cs.length → ds.getD i 0 = (cs.getD i (Str.empty, 0)).2 := fun i hi => by
      rw [← hds]; simp [List.getD, hi]
    have key : ∀ ds' : List Int, ds'.length = cs.length → (∀ i, i < cs.length → min (ds'.getD i 0).toNat (cs.length - 1) = min (cs.getD i (Str.empty, 0)).2.toNat (cs.length - 1)) → ∀ r : List Str, (∀ x ∈ r, x ∈ xs) →
        letsF (ds'.map (minI xs.length)) (List.range ds'.length) (r.map fun x => xs.idxOf x) = decide (r = lineN cs r.length) := fun ds' hl' hd' r hr => by
      rw [← hxs] at hr ⊢
      rw [List.length_map]
      have := lets_deck cs (by rw [hxs]; exact nd) n1 (ds'.map (minI cs.length)) (by rw [List.length_map]; exact hl') (fun i hi => by
        rw [getD_map _ _ _ (by omega), ← hd' i hi]
        unfold minI
        split <;> omega) r hr
      rw [List.length_map] at this
      exact this
    have keyD := key ds lD (fun i hi => by rw [gD i hi])
    have lm : ∀ n, ∀ x ∈ lineN cs n, x ∈ xs := fun n x hx => by rw [← hxs]; exact lineN_mem n cs cs0 x hx
    refine seq_step fun N2 hN2 => ?_
    simp only [tsSeq, tsAsg, tsNext, tsRet, tsRetN, tsExpr, tsIf, tsFor, tsWhile, tsNever, tsAsgG, tsSetIx, tfV, tfLst, tfMove, tfList, tfLRg, tfLc, tfCall, tdFz, tdVar, tdC, tdBin, tdUn, tdTest, tdChain, tdAnd, tdOr, tdNot, tdAndV, tdOrV, tdNotV, tdIf, tdNil, tdCons, tdTup, tdLst, tdFn, tdIxO, tdLenO, tdMeth, tdSl, tdRev, toNo, toSome, tdIsi, tdIsi2, tdLenSet, tdIndex, tdYes, taNil, taCons, taOwn, tgName, tgNil, tgCons, tgTup, tiSeq, tiStr, tiRg1, tiRg2, tiRg3, tiEnum, onLst, isLst, seqOf_list, seqOf_tuple, addD, subD, divD, modD, powD, intD, negD, mulD, cmpD, i2D, lenD, ixD, List.getElem?_cons_succ, List.getElem?_cons_zero, List.set_cons_succ, List.set_cons_zero, opt_some, opt_none, opt_ite, if_true, if_false, Bool.false_eq_true, List.map_cons, List.map_nil, List.cons_append, List.nil_append, List.append_nil, List.replicate_succ, List.replicate_zero, List.length_cons, List.length_nil, rsv, ownIx, ixOf, wb, Option.getD_some, back_nil, back_zero, eqDD_int, neDD_int, eqDD_bool, neDD_bool, eqDD_str, neDD_str, ltD, leD, gtD, geD, List.nodup_nil, nodup1, at0, at1, at2, at3, at4, ixN5_1, ixN5_2, ixN5_3, Nat.reduceAdd, true_and, and_true, eq_self, List.length_singleton, slD, signsD, wipeD, restD, Sl.keep, rgD, subD, maxLD, minLD, Bool.not_true, Bool.not_false]
    refine ⟨_, b2, 12, rfl, hb2, by omega, by decide, by decide, fun b3 d1 hb3 d10 d11 => ?_⟩
    simp only [tsSeq, tsAsg, tsNext, tsRet, tsRetN, tsExpr, tsIf, tsFor, tsWhile, tsNever, tsAsgG, tsSetIx, tfV, tfLst, tfMove, tfList, tfLRg, tfLc, tfCall, tdFz, tdVar, tdC, tdBin, tdUn, tdTest, tdChain, tdAnd, tdOr, tdNot, tdAndV, tdOrV, tdNotV, tdIf, tdNil, tdCons, tdTup, tdLst, tdFn, tdIxO, tdLenO, tdMeth, tdSl, tdRev, toNo, toSome, tdIsi, tdIsi2, tdLenSet, tdIndex, tdYes, taNil, taCons, taOwn, tgName, tgNil, tgCons, tgTup, tiSeq, tiStr, tiRg1, tiRg2, tiRg3, tiEnum, onLst, isLst, seqOf_list, seqOf_tuple, addD, subD, divD, modD, powD, intD, negD, mulD, cmpD, i2D, lenD, ixD, List.getElem?_cons_succ, List.getElem?_cons_zero, List.set_cons_succ, List.set_cons_zero, opt_some, opt_none, opt_ite, if_true, if_false, Bool.false_eq_true, List.map_cons, List.map_nil, List.cons_append, List.nil_append, List.append_nil, List.replicate_succ, List.replicate_zero, List.length_cons, List.length_nil, rsv, ownIx, ixOf, wb, Option.getD_some, back_nil, back_zero, eqDD_int, neDD_int, eqDD_bool, neDD_bool, eqDD_str, neDD_str, ltD, leD, gtD, geD, List.nodup_nil, nodup1, at0, at1, at2, at3, at4, ixN5_1, ixN5_2, ixN5_3, Nat.reduceAdd, true_and, and_true, eq_self, List.length_singleton, slD, signsD, wipeD, restD, Sl.keep, rgD, subD, maxLD, minLD, Bool.not_true, Bool.not_false]
    refine ⟨_, b3, 299, rfl, hb3, by omega, by decide, by decide, fun b4 d2 hb4 d20 d21 => ?_⟩
    simp only [tsSeq, tsAsg, tsNext, tsRet, tsRetN, tsExpr, tsIf, tsFor, tsWhile, tsNever, tsAsgG, tsSetIx, tfV, tfLst, tfMove, tfList, tfLRg, tfLc, tfCall, tdFz, tdVar, tdC, tdBin, tdUn, tdTest, tdChain, tdAnd, tdOr, tdNot, tdAndV, tdOrV, tdNotV, tdIf, tdNil, tdCons, tdTup, tdLst, tdFn, tdIxO, tdLenO, tdMeth, tdSl, tdRev, toNo, toSome, tdIsi, tdIsi2, tdLenSet, tdIndex, tdYes, taNil, taCons, taOwn, tgName, tgNil, tgCons, tgTup, tiSeq, tiStr, tiRg1, tiRg2, tiRg3, tiEnum, onLst, isLst, seqOf_list, seqOf_tuple, addD, subD, divD, modD, powD, intD, negD, mulD, cmpD, i2D, lenD, ixD, List.getElem?_cons_succ, List.getElem?_cons_zero, List.set_cons_succ, List.set_cons_zero, opt_some, opt_none, opt_ite, if_true, if_false, Bool.false_eq_true, List.map_cons, List.map_nil, List.cons_append, List.nil_append, List.append_nil, List.replicate_succ, List.replicate_zero, List.length_cons, List.length_nil, rsv, ownIx, ixOf, wb, Option.getD_some, back_nil, back_zero, eqDD_int, neDD_int, eqDD_bool, neDD_bool, eqDD_str, neDD_str, ltD, leD, gtD, geD, List.nodup_nil, nodup1, at0, at1, at2, at3, at4, ixN5_1, ixN5_2, ixN5_3, Nat.reduceAdd, true_and, and_true, eq_self, List.length_singleton, slD, signsD, wipeD, restD, Sl.keep, rgD, subD, maxLD, minLD, Bool.not_true, Bool.not_false]
    refine ⟨by decide, _, b4, 4, rfl, hb4, by omega, by decide, by decide, fun b5 q hb5 q0 q1 => ?_⟩
    obtain ⟨v, hv, ev⟩ := pickI [0, d1, d2, 299] q q0 (by simpa using q1)
    simp only [List.map_cons, List.map_nil] at ev
    simp only [ev, tsSeq, tsAsg, tsNext, tsRet, tsRetN, tsExpr, tsIf, tsFor, tsWhile, tsNever, tsAsgG, tsSetIx, tfV, tfLst, tfMove, tfList, tfLRg, tfLc, tfCall, tdFz, tdVar, tdC, tdBin, tdUn, tdTest, tdChain, tdAnd, tdOr, tdNot, tdAndV, tdOrV, tdNotV, tdIf, tdNil, tdCons, tdTup, tdLst, tdFn, tdIxO, tdLenO, tdMeth, tdSl, tdRev, toNo, toSome, tdIsi, tdIsi2, tdLenSet, tdIndex, tdYes, taNil, taCons, taOwn, tgName, tgNil, tgCons, tgTup, tiSeq, tiStr, tiRg1, tiRg2, tiRg3, tiEnum, onLst, isLst, seqOf_list, seqOf_tuple, addD, subD, divD, modD, powD, intD, negD, mulD, cmpD, i2D, lenD, ixD, List.getElem?_cons_succ, List.getElem?_cons_zero, List.set_cons_succ, List.set_cons_zero, opt_some, opt_none, opt_ite, if_true, if_false, Bool.false_eq_true, List.map_cons, List.map_nil, List.cons_append, List.nil_append, List.append_nil, List.replicate_succ, List.replicate_zero, List.length_cons, List.length_nil, rsv, ownIx, ixOf, wb, Option.getD_some, back_nil, back_zero, eqDD_int, neDD_int, eqDD_bool, neDD_bool, eqDD_str, neDD_str, ltD, leD, gtD, geD, List.nodup_nil, nodup1, at0, at1, at2, at3, at4, ixN5_1, ixN5_2, ixN5_3, Nat.reduceAdd, true_and, and_true, eq_self, List.length_singleton, slD, signsD, wipeD, restD, Sl.keep, rgD, subD, maxLD, minLD, Bool.not_true, Bool.not_false]
    obtain ⟨w, rfl, hw⟩ : ∃ w : Nat, v = w ∧ w ≤ 299 := by
      simp only [List.mem_cons, List.mem_singleton, List.not_mem_nil, or_false] at hv
      rcases hv with rfl | rfl | rfl | rfl
      · exact ⟨0, rfl, by decide⟩
      · exact ⟨v.toNat, by omega, by omega⟩
      · exact ⟨v.toNat, by omega, by omega⟩
      · exact ⟨299, rfl, by decide⟩
    rw [cut_t, hline, lineN_take 300 w cs (by omega)]
    -- the checks
    have call : ∀ (t u v : Bool) (r : List Str) (A : Sl → List Sl → Prop) (B : Exn → List Sl → Prop), (∀ x ∈ r, x ∈ xs) → r.length ≤ 1000 → (A (.val (.bool (decide (r = lineN cs r.length)))) [.val (rowOf t (xs.map PyData.str)), .val (rowOf u (r.map PyData.str)), .val (rowOf v (ds.map PyData.int))]) →
        sp_depths_let [.val (rowOf t (xs.map PyData.str)), .val (rowOf u (r.map PyData.str)), .val (rowOf v (ds.map PyData.int))] A B := fun t u v r A B h1 h2 h3 =>
      ⟨t, u, v, xs, r, ds, rfl, nok, by omega, by omega, h1, h2, by omega, fun d hd => (d0 d hd).1, by rw [keyD r h1]; exact h3⟩
    have r0 : ∀ L : List D, PyData.list L = rowOf false L := fun _ => rfl
    have r1 : ∀ L : List D, PyData.tuple L = rowOf true L := fun _ => rfl
    have wl : decide (lineN cs w = lineN cs (lineN cs w).length) = true := decide_eq_true (by rw [lineN_len])
    have isT : isntD (.bool true) (.bool true) = some (.bool false) := rfl
    subst hN2
    refine seq_step fun N2 hN2 => ?_
    simp only [tsSeq, tsAsg, tsNext, tsRet, tsRetN, tsExpr, tsIf, tsFor, tsWhile, tsNever, tsAsgG, tsSetIx, tfV, tfLst, tfMove, tfList, tfLRg, tfLc, tfCall, tdFz, tdVar, tdC, tdBin, tdUn, tdTest, tdChain, tdAnd, tdOr, tdNot, tdAndV, tdOrV, tdNotV, tdIf, tdNil, tdCons, tdTup, tdLst, tdFn, tdIxO, tdLenO, tdMeth, tdSl, tdRev, toNo, toSome, tdIsi, tdIsi2, tdLenSet, tdIndex, tdYes, taNil, taCons, taOwn, tgName, tgNil, tgCons, tgTup, tiSeq, tiStr, tiRg1, tiRg2, tiRg3, tiEnum, onLst, isLst, seqOf_list, seqOf_tuple, addD, subD, divD, modD, powD, intD, negD, mulD, cmpD, i2D, lenD, ixD, List.getElem?_cons_succ, List.getElem?_cons_zero, List.set_cons_succ, List.set_cons_zero, opt_some, opt_none, opt_ite, if_true, if_false, Bool.false_eq_true, List.map_cons, List.map_nil, List.cons_append, List.nil_append, List.append_nil, List.replicate_succ, List.replicate_zero, List.length_cons, List.length_nil, rsv, ownIx, ixOf, wb, Option.getD_some, back_nil, back_zero, eqDD_int, neDD_int, eqDD_bool, neDD_bool, eqDD_str, neDD_str, ltD, leD, gtD, geD, List.nodup_nil, nodup1, at0, at1, at2, at3, at4, ixN5_1, ixN5_2, ixN5_3, Nat.reduceAdd, true_and, and_true, eq_self, List.length_singleton, slD, signsD, wipeD, restD, Sl.keep, rgD, subD, maxLD, minLD, Bool.not_true, Bool.not_false]
    refine call false false false (lineN cs w) _ _ (lm w) (by rw [lineN_len]; omega) ?_
    simp only [wl, isT, tsSeq, tsAsg, tsNext, tsRet, tsRetN, tsExpr, tsIf, tsFor, tsWhile, tsNever, tsAsgG, tsSetIx, tfV, tfLst, tfMove, tfList, tfLRg, tfLc, tfCall, tdFz, tdVar, tdC, tdBin, tdUn, tdTest, tdChain, tdAnd, tdOr, tdNot, tdAndV, tdOrV, tdNotV, tdIf, tdNil, tdCons, tdTup, tdLst, tdFn, tdIxO, tdLenO, tdMeth, tdSl, tdRev, toNo, toSome, tdIsi, tdIsi2, tdLenSet, tdIndex, tdYes, taNil, taCons, taOwn, tgName, tgNil, tgCons, tgTup, tiSeq, tiStr, tiRg1, tiRg2, tiRg3, tiEnum, onLst, isLst, seqOf_list, seqOf_tuple, addD, subD, divD, modD, powD, intD, negD, mulD, cmpD, i2D, lenD, ixD, List.getElem?_cons_succ, List.getElem?_cons_zero, List.set_cons_succ, List.set_cons_zero, opt_some, opt_none, opt_ite, if_true, if_false, Bool.false_eq_true, List.map_cons, List.map_nil, List.cons_append, List.nil_append, List.append_nil, List.replicate_succ, List.replicate_zero, List.length_cons, List.length_nil, rsv, ownIx, ixOf, wb, Option.getD_some, back_nil, back_zero, eqDD_int, neDD_int, eqDD_bool, neDD_bool, eqDD_str, neDD_str, ltD, leD, gtD, geD, List.nodup_nil, nodup1, at0, at1, at2, at3, at4, ixN5_1, ixN5_2, ixN5_3, Nat.reduceAdd, true_and, and_true, eq_self, List.length_singleton, slD, signsD, wipeD, restD, Sl.keep, rgD, subD, maxLD, minLD, Bool.not_true, Bool.not_false]
    subst hN2
    refine seq_step fun N2 hN2 => ?_
    simp only [tupleD, tsSeq, tsAsg, tsNext, tsRet, tsRetN, tsExpr, tsIf, tsFor, tsWhile, tsNever, tsAsgG, tsSetIx, tfV, tfLst, tfMove, tfList, tfLRg, tfLc, tfCall, tdFz, tdVar, tdC, tdBin, tdUn, tdTest, tdChain, tdAnd, tdOr, tdNot, tdAndV, tdOrV, tdNotV, tdIf, tdNil, tdCons, tdTup, tdLst, tdFn, tdIxO, tdLenO, tdMeth, tdSl, tdRev, toNo, toSome, tdIsi, tdIsi2, tdLenSet, tdIndex, tdYes, taNil, taCons, taOwn, tgName, tgNil, tgCons, tgTup, tiSeq, tiStr, tiRg1, tiRg2, tiRg3, tiEnum, onLst, isLst, seqOf_list, seqOf_tuple, addD, subD, divD, modD, powD, intD, negD, mulD, cmpD, i2D, lenD, ixD, List.getElem?_cons_succ, List.getElem?_cons_zero, List.set_cons_succ, List.set_cons_zero, opt_some, opt_none, opt_ite, if_true, if_false, Bool.false_eq_true, List.map_cons, List.map_nil, List.cons_append, List.nil_append, List.append_nil, List.replicate_succ, List.replicate_zero, List.length_cons, List.length_nil, rsv, ownIx, ixOf, wb, Option.getD_some, back_nil, back_zero, eqDD_int, neDD_int, eqDD_bool, neDD_bool, eqDD_str, neDD_str, ltD, leD, gtD, geD, List.nodup_nil, nodup1, at0, at1, at2, at3, at4, ixN5_1, ixN5_2, ixN5_3, Nat.reduceAdd, true_and, and_true, eq_self, List.length_singleton, slD, signsD, wipeD, restD, Sl.keep, rgD, subD, maxLD, minLD, Bool.not_true, Bool.not_false]
    refine call true false true (lineN cs w) _ _ (lm w) (by rw [lineN_len]; omega) ?_
    simp only [wl, isT, tsSeq, tsAsg, tsNext, tsRet, tsRetN, tsExpr, tsIf, tsFor, tsWhile, tsNever, tsAsgG, tsSetIx, tfV, tfLst, tfMove, tfList, tfLRg, tfLc, tfCall, tdFz, tdVar, tdC, tdBin, tdUn, tdTest, tdChain, tdAnd, tdOr, tdNot, tdAndV, tdOrV, tdNotV, tdIf, tdNil, tdCons, tdTup, tdLst, tdFn, tdIxO, tdLenO, tdMeth, tdSl, tdRev, toNo, toSome, tdIsi, tdIsi2, tdLenSet, tdIndex, tdYes, taNil, taCons, taOwn, tgName, tgNil, tgCons, tgTup, tiSeq, tiStr, tiRg1, tiRg2, tiRg3, tiEnum, onLst, isLst, seqOf_list, seqOf_tuple, addD, subD, divD, modD, powD, intD, negD, mulD, cmpD, i2D, lenD, ixD, List.getElem?_cons_succ, List.getElem?_cons_zero, List.set_cons_succ, List.set_cons_zero, opt_some, opt_none, opt_ite, if_true, if_false, Bool.false_eq_true, List.map_cons, List.map_nil, List.cons_append, List.nil_append, List.append_nil, List.replicate_succ, List.replicate_zero, List.length_cons, List.length_nil, rsv, ownIx, ixOf, wb, Option.getD_some, back_nil, back_zero, eqDD_int, neDD_int, eqDD_bool, neDD_bool, eqDD_str, neDD_str, ltD, leD, gtD, geD, List.nodup_nil, nodup1, at0, at1, at2, at3, at4, ixN5_1, ixN5_2, ixN5_3, Nat.reduceAdd, true_and, and_true, eq_self, List.length_singleton, slD, signsD, wipeD, restD, Sl.keep, rgD, subD, maxLD, minLD, Bool.not_true, Bool.not_false]
    subst hN2
    refine seq_step fun N2 hN2 => ?_
    simp only [tupleD, tsSeq, tsAsg, tsNext, tsRet, tsRetN, tsExpr, tsIf, tsFor, tsWhile, tsNever, tsAsgG, tsSetIx, tfV, tfLst, tfMove, tfList, tfLRg, tfLc, tfCall, tdFz, tdVar, tdC, tdBin, tdUn, tdTest, tdChain, tdAnd, tdOr, tdNot, tdAndV, tdOrV, tdNotV, tdIf, tdNil, tdCons, tdTup, tdLst, tdFn, tdIxO, tdLenO, tdMeth, tdSl, tdRev, toNo, toSome, tdIsi, tdIsi2, tdLenSet, tdIndex, tdYes, taNil, taCons, taOwn, tgName, tgNil, tgCons, tgTup, tiSeq, tiStr, tiRg1, tiRg2, tiRg3, tiEnum, onLst, isLst, seqOf_list, seqOf_tuple, addD, subD, divD, modD, powD, intD, negD, mulD, cmpD, i2D, lenD, ixD, List.getElem?_cons_succ, List.getElem?_cons_zero, List.set_cons_succ, List.set_cons_zero, opt_some, opt_none, opt_ite, if_true, if_false, Bool.false_eq_true, List.map_cons, List.map_nil, List.cons_append, List.nil_append, List.append_nil, List.replicate_succ, List.replicate_zero, List.length_cons, List.length_nil, rsv, ownIx, ixOf, wb, Option.getD_some, back_nil, back_zero, eqDD_int, neDD_int, eqDD_bool, neDD_bool, eqDD_str, neDD_str, ltD, leD, gtD, geD, List.nodup_nil, nodup1, at0, at1, at2, at3, at4, ixN5_1, ixN5_2, ixN5_3, Nat.reduceAdd, true_and, and_true, eq_self, List.length_singleton, slD, signsD, wipeD, restD, Sl.keep, rgD, subD, maxLD, minLD, Bool.not_true, Bool.not_false]
    refine call false true false (lineN cs w) _ _ (lm w) (by rw [lineN_len]; omega) ?_
    simp only [wl, isT, tsSeq, tsAsg, tsNext, tsRet, tsRetN, tsExpr, tsIf, tsFor, tsWhile, tsNever, tsAsgG, tsSetIx, tfV, tfLst, tfMove, tfList, tfLRg, tfLc, tfCall, tdFz, tdVar, tdC, tdBin, tdUn, tdTest, tdChain, tdAnd, tdOr, tdNot, tdAndV, tdOrV, tdNotV, tdIf, tdNil, tdCons, tdTup, tdLst, tdFn, tdIxO, tdLenO, tdMeth, tdSl, tdRev, toNo, toSome, tdIsi, tdIsi2, tdLenSet, tdIndex, tdYes, taNil, taCons, taOwn, tgName, tgNil, tgCons, tgTup, tiSeq, tiStr, tiRg1, tiRg2, tiRg3, tiEnum, onLst, isLst, seqOf_list, seqOf_tuple, addD, subD, divD, modD, powD, intD, negD, mulD, cmpD, i2D, lenD, ixD, List.getElem?_cons_succ, List.getElem?_cons_zero, List.set_cons_succ, List.set_cons_zero, opt_some, opt_none, opt_ite, if_true, if_false, Bool.false_eq_true, List.map_cons, List.map_nil, List.cons_append, List.nil_append, List.append_nil, List.replicate_succ, List.replicate_zero, List.length_cons, List.length_nil, rsv, ownIx, ixOf, wb, Option.getD_some, back_nil, back_zero, eqDD_int, neDD_int, eqDD_bool, neDD_bool, eqDD_str, neDD_str, ltD, leD, gtD, geD, List.nodup_nil, nodup1, at0, at1, at2, at3, at4, ixN5_1, ixN5_2, ixN5_3, Nat.reduceAdd, true_and, and_true, eq_self, List.length_singleton, slD, signsD, wipeD, restD, Sl.keep, rgD, subD, maxLD, minLD, Bool.not_true, Bool.not_false]
    subst hN2
    refine seq_step fun N2 hN2 => ?_
    refine for_step fun g' b' hg hb' => ?_
    simp only [tsSeq, tsAsg, tsNext, tsRet, tsRetN, tsExpr, tsIf, tsFor, tsWhile, tsNever, tsAsgG, tsSetIx, tfV, tfLst, tfMove, tfList, tfLRg, tfLc, tfCall, tdFz, tdVar, tdC, tdBin, tdUn, tdTest, tdChain, tdAnd, tdOr, tdNot, tdAndV, tdOrV, tdNotV, tdIf, tdNil, tdCons, tdTup, tdLst, tdFn, tdIxO, tdLenO, tdMeth, tdSl, tdRev, toNo, toSome, tdIsi, tdIsi2, tdLenSet, tdIndex, tdYes, taNil, taCons, taOwn, tgName, tgNil, tgCons, tgTup, tiSeq, tiStr, tiRg1, tiRg2, tiRg3, tiEnum, onLst, isLst, seqOf_list, seqOf_tuple, addD, subD, divD, modD, powD, intD, negD, mulD, cmpD, i2D, lenD, ixD, List.getElem?_cons_succ, List.getElem?_cons_zero, List.set_cons_succ, List.set_cons_zero, opt_some, opt_none, opt_ite, if_true, if_false, Bool.false_eq_true, List.map_cons, List.map_nil, List.cons_append, List.nil_append, List.append_nil, List.replicate_succ, List.replicate_zero, List.length_cons, List.length_nil, rsv, ownIx, ixOf, wb, Option.getD_some, back_nil, back_zero, eqDD_int, neDD_int, eqDD_bool, neDD_bool, eqDD_str, neDD_str, ltD, leD, gtD, geD, List.nodup_nil, nodup1, at0, at1, at2, at3, at4, ixN5_1, ixN5_2, ixN5_3, Nat.reduceAdd, true_and, and_true, eq_self, List.length_singleton, slD, signsD, wipeD, restD, Sl.keep, rgD, subD, maxLD, minLD, Bool.not_true, Bool.not_false]
    refine ⟨by decide, by decide, ?_⟩
    have hb5 : Bag (c + 400) b5 := hb5.le (by omega)
    refine loop_ind (fun i : Nat => PyData.int (0 + (i : Int))) (fun rest ρ => ∃ (b6 : List D) (s12 s13 s14 : Sl), ρ = [.raw (.ref a) (Scr K a ns), .lst b6, .val (.int (0 + (i : Int))), .val (deckD cs), .val (.list (xs.map PyData.str)), .no, .no, .val (.list (ds.map PyData.int)), .val (deckD cur), .val (.list ((lineN cs 300).map PyData.str)), s10', .val (.list ((lineN cs w).map PyData.str)), s12, s13, s14, s15] ∧
      Bag (c + 400 + 3 * (6 - (rest.length : Int))) b6 ∧ rest.length ≤ 6) ?_ ?_ _ _ ⟨b5, s12, s13, s14, rfl, hb5.le (by simp), by simp⟩
    · rintro j rest2 ρ ih2 ⟨b6, s12, s13, s14, rfl, hb6, hl6⟩
      rw [List.length_cons] at hl6 hb6
      subst hg
      simp only [tsSeq, tsAsg, tsNext, tsRet, tsRetN, tsExpr, tsIf, tsFor, tsWhile, tsNever, tsAsgG, tsSetIx, tfV, tfLst, tfMove, tfList, tfLRg, tfLc, tfCall, tdFz, tdVar, tdC, tdBin, tdUn, tdTest, tdChain, tdAnd, tdOr, tdNot, tdAndV, tdOrV, tdNotV, tdIf, tdNil, tdCons, tdTup, tdLst, tdFn, tdIxO, tdLenO, tdMeth, tdSl, tdRev, toNo, toSome, tdIsi, tdIsi2, tdLenSet, tdIndex, tdYes, taNil, taCons, taOwn, tgName, tgNil, tgCons, tgTup, tiSeq, tiStr, tiRg1, tiRg2, tiRg3, tiEnum, onLst, isLst, seqOf_list, seqOf_tuple, addD, subD, divD, modD, powD, intD, negD, mulD, cmpD, i2D, lenD, ixD, List.getElem?_cons_succ, List.getElem?_cons_zero, List.set_cons_succ, List.set_cons_zero, opt_some, opt_none, opt_ite, if_true, if_false, Bool.false_eq_true, List.map_cons, List.map_nil, List.cons_append, List.nil_append, List.append_nil, List.replicate_succ, List.replicate_zero, List.length_cons, List.length_nil, rsv, ownIx, ixOf, wb, Option.getD_some, back_nil, back_zero, eqDD_int, neDD_int, eqDD_bool, neDD_bool, eqDD_str, neDD_str, ltD, leD, gtD, geD, List.nodup_nil, nodup1, at0, at1, at2, at3, at4, ixN5_1, ixN5_2, ixN5_3, Nat.reduceAdd, true_and, and_true, eq_self, List.length_singleton, slD, signsD, wipeD, restD, Sl.keep, rgD, subD, maxLD, minLD, Bool.not_true, Bool.not_false]
      subst hb'
      refine seq_step fun N3 hN3 => ?_
      simp only [tsSeq, tsAsg, tsNext, tsRet, tsRetN, tsExpr, tsIf, tsFor, tsWhile, tsNever, tsAsgG, tsSetIx, tfV, tfLst, tfMove, tfList, tfLRg, tfLc, tfCall, tdFz, tdVar, tdC, tdBin, tdUn, tdTest, tdChain, tdAnd, tdOr, tdNot, tdAndV, tdOrV, tdNotV, tdIf, tdNil, tdCons, tdTup, tdLst, tdFn, tdIxO, tdLenO, tdMeth, tdSl, tdRev, toNo, toSome, tdIsi, tdIsi2, tdLenSet, tdIndex, tdYes, taNil, taCons, taOwn, tgName, tgNil, tgCons, tgTup, tiSeq, tiStr, tiRg1, tiRg2, tiRg3, tiEnum, onLst, isLst, seqOf_list, seqOf_tuple, addD, subD, divD, modD, powD, intD, negD, mulD, cmpD, i2D, lenD, ixD, List.getElem?_cons_succ, List.getElem?_cons_zero, List.set_cons_succ, List.set_cons_zero, opt_some, opt_none, opt_ite, if_true, if_false, Bool.false_eq_true, List.map_cons, List.map_nil, List.cons_append, List.nil_append, List.append_nil, List.replicate_succ, List.replicate_zero, List.length_cons, List.length_nil, rsv, ownIx, ixOf, wb, Option.getD_some, back_nil, back_zero, eqDD_int, neDD_int, eqDD_bool, neDD_bool, eqDD_str, neDD_str, ltD, leD, gtD, geD, List.nodup_nil, nodup1, at0, at1, at2, at3, at4, ixN5_1, ixN5_2, ixN5_3, Nat.reduceAdd, true_and, and_true, eq_self, List.length_singleton, slD, signsD, wipeD, restD, Sl.keep, rgD, subD, maxLD, minLD, Bool.not_true, Bool.not_false]
      refine ⟨_, b6, lineN cs w, xs, rfl, hb6, by omega, by rw [lineN_len]; omega, by omega, by omega, lm w, fun b7 o hb7 ho lo => ?_⟩
      rw [lineN_len] at lo
      simp only [tsSeq, tsAsg, tsNext, tsRet, tsRetN, tsExpr, tsIf, tsFor, tsWhile, tsNever, tsAsgG, tsSetIx, tfV, tfLst, tfMove, tfList, tfLRg, tfLc, tfCall, tdFz, tdVar, tdC, tdBin, tdUn, tdTest, tdChain, tdAnd, tdOr, tdNot, tdAndV, tdOrV, tdNotV, tdIf, tdNil, tdCons, tdTup, tdLst, tdFn, tdIxO, tdLenO, tdMeth, tdSl, tdRev, toNo, toSome, tdIsi, tdIsi2, tdLenSet, tdIndex, tdYes, taNil, taCons, taOwn, tgName, tgNil, tgCons, tgTup, tiSeq, tiStr, tiRg1, tiRg2, tiRg3, tiEnum, onLst, isLst, seqOf_list, seqOf_tuple, addD, subD, divD, modD, powD, intD, negD, mulD, cmpD, i2D, lenD, ixD, List.getElem?_cons_succ, List.getElem?_cons_zero, List.set_cons_succ, List.set_cons_zero, opt_some, opt_none, opt_ite, if_true, if_false, Bool.false_eq_true, List.map_cons, List.map_nil, List.cons_append, List.nil_append, List.append_nil, List.replicate_succ, List.replicate_zero, List.length_cons, List.length_nil, rsv, ownIx, ixOf, wb, Option.getD_some, back_nil, back_zero, eqDD_int, neDD_int, eqDD_bool, neDD_bool, eqDD_str, neDD_str, ltD, leD, gtD, geD, List.nodup_nil, nodup1, at0, at1, at2, at3, at4, ixN5_1, ixN5_2, ixN5_3, Nat.reduceAdd, true_and, and_true, eq_self, List.length_singleton, slD, signsD, wipeD, restD, Sl.keep, rgD, subD, maxLD, minLD, Bool.not_true, Bool.not_false]
      have on : ∀ x ∈ o, nameB x = true := fun x hx => nall x (ho x hx)
      have ln : ∀ n, ∀ x ∈ lineN cs n, nameB x = true := fun n x hx => nall x (lm n x hx)
      obtain ⟨S, hS⟩ := repr3 (xs := xs) (o := o) (ds := ds) nall on d0 (by omega) (by omega) (by omega)
      subst hN3
      refine seq_step fun N3 hN3 => ?_
      simp only [hS, tsSeq, tsAsg, tsNext, tsRet, tsRetN, tsExpr, tsIf, tsFor, tsWhile, tsNever, tsAsgG, tsSetIx, tfV, tfLst, tfMove, tfList, tfLRg, tfLc, tfCall, tdFz, tdVar, tdC, tdBin, tdUn, tdTest, tdChain, tdAnd, tdOr, tdNot, tdAndV, tdOrV, tdNotV, tdIf, tdNil, tdCons, tdTup, tdLst, tdFn, tdIxO, tdLenO, tdMeth, tdSl, tdRev, toNo, toSome, tdIsi, tdIsi2, tdLenSet, tdIndex, tdYes, taNil, taCons, taOwn, tgName, tgNil, tgCons, tgTup, tiSeq, tiStr, tiRg1, tiRg2, tiRg3, tiEnum, onLst, isLst, seqOf_list, seqOf_tuple, addD, subD, divD, modD, powD, intD, negD, mulD, cmpD, i2D, lenD, ixD, List.getElem?_cons_succ, List.getElem?_cons_zero, List.set_cons_succ, List.set_cons_zero, opt_some, opt_none, opt_ite, if_true, if_false, Bool.false_eq_true, List.map_cons, List.map_nil, List.cons_append, List.nil_append, List.append_nil, List.replicate_succ, List.replicate_zero, List.length_cons, List.length_nil, rsv, ownIx, ixOf, wb, Option.getD_some, back_nil, back_zero, eqDD_int, neDD_int, eqDD_bool, neDD_bool, eqDD_str, neDD_str, ltD, leD, gtD, geD, List.nodup_nil, nodup1, at0, at1, at2, at3, at4, ixN5_1, ixN5_2, ixN5_3, Nat.reduceAdd, true_and, and_true, eq_self, List.length_singleton, slD, signsD, wipeD, restD, Sl.keep, rgD, subD, maxLD, minLD, Bool.not_true, Bool.not_false]
      refine ⟨by decide, ?_⟩
      subst hN3
      refine seq_step fun N3 hN3 => ?_
      simp only [tsSeq, tsAsg, tsNext, tsRet, tsRetN, tsExpr, tsIf, tsFor, tsWhile, tsNever, tsAsgG, tsSetIx, tfV, tfLst, tfMove, tfList, tfLRg, tfLc, tfCall, tdFz, tdVar, tdC, tdBin, tdUn, tdTest, tdChain, tdAnd, tdOr, tdNot, tdAndV, tdOrV, tdNotV, tdIf, tdNil, tdCons, tdTup, tdLst, tdFn, tdIxO, tdLenO, tdMeth, tdSl, tdRev, toNo, toSome, tdIsi, tdIsi2, tdLenSet, tdIndex, tdYes, taNil, taCons, taOwn, tgName, tgNil, tgCons, tgTup, tiSeq, tiStr, tiRg1, tiRg2, tiRg3, tiEnum, onLst, isLst, seqOf_list, seqOf_tuple, addD, subD, divD, modD, powD, intD, negD, mulD, cmpD, i2D, lenD, ixD, List.getElem?_cons_succ, List.getElem?_cons_zero, List.set_cons_succ, List.set_cons_zero, opt_some, opt_none, opt_ite, if_true, if_false, Bool.false_eq_true, List.map_cons, List.map_nil, List.cons_append, List.nil_append, List.append_nil, List.replicate_succ, List.replicate_zero, List.length_cons, List.length_nil, rsv, ownIx, ixOf, wb, Option.getD_some, back_nil, back_zero, eqDD_int, neDD_int, eqDD_bool, neDD_bool, eqDD_str, neDD_str, ltD, leD, gtD, geD, List.nodup_nil, nodup1, at0, at1, at2, at3, at4, ixN5_1, ixN5_2, ixN5_3, Nat.reduceAdd, true_and, and_true, eq_self, List.length_singleton, slD, signsD, wipeD, restD, Sl.keep, rgD, subD, maxLD, minLD, Bool.not_true, Bool.not_false]
      refine call false false false o _ _ ho (by omega) ?_
      simp only [List.length_map, cut_t, tsSeq, tsAsg, tsNext, tsRet, tsRetN, tsExpr, tsIf, tsFor, tsWhile, tsNever, tsAsgG, tsSetIx, tfV, tfLst, tfMove, tfList, tfLRg, tfLc, tfCall, tdFz, tdVar, tdC, tdBin, tdUn, tdTest, tdChain, tdAnd, tdOr, tdNot, tdAndV, tdOrV, tdNotV, tdIf, tdNil, tdCons, tdTup, tdLst, tdFn, tdIxO, tdLenO, tdMeth, tdSl, tdRev, toNo, toSome, tdIsi, tdIsi2, tdLenSet, tdIndex, tdYes, taNil, taCons, taOwn, tgName, tgNil, tgCons, tgTup, tiSeq, tiStr, tiRg1, tiRg2, tiRg3, tiEnum, onLst, isLst, seqOf_list, seqOf_tuple, addD, subD, divD, modD, powD, intD, negD, mulD, cmpD, i2D, lenD, ixD, List.getElem?_cons_succ, List.getElem?_cons_zero, List.set_cons_succ, List.set_cons_zero, opt_some, opt_none, opt_ite, if_true, if_false, Bool.false_eq_true, List.map_cons, List.map_nil, List.cons_append, List.nil_append, List.append_nil, List.replicate_succ, List.replicate_zero, List.length_cons, List.length_nil, rsv, ownIx, ixOf, wb, Option.getD_some, back_nil, back_zero, eqDD_int, neDD_int, eqDD_bool, neDD_bool, eqDD_str, neDD_str, ltD, leD, gtD, geD, List.nodup_nil, nodup1, at0, at1, at2, at3, at4, ixN5_1, ixN5_2, ixN5_3, Nat.reduceAdd, true_and, and_true, eq_self, List.length_singleton, slD, signsD, wipeD, restD, Sl.keep, rgD, subD, maxLD, minLD, Bool.not_true, Bool.not_false]
      rw [lineN_take 300 o.length cs (by omega), eqDD_strs on (ln _)]
      simp only [tsSeq, tsAsg, tsNext, tsRet, tsRetN, tsExpr, tsIf, tsFor, tsWhile, tsNever, tsAsgG, tsSetIx, tfV, tfLst, tfMove, tfList, tfLRg, tfLc, tfCall, tdFz, tdVar, tdC, tdBin, tdUn, tdTest, tdChain, tdAnd, tdOr, tdNot, tdAndV, tdOrV, tdNotV, tdIf, tdNil, tdCons, tdTup, tdLst, tdFn, tdIxO, tdLenO, tdMeth, tdSl, tdRev, toNo, toSome, tdIsi, tdIsi2, tdLenSet, tdIndex, tdYes, taNil, taCons, taOwn, tgName, tgNil, tgCons, tgTup, tiSeq, tiStr, tiRg1, tiRg2, tiRg3, tiEnum, onLst, isLst, seqOf_list, seqOf_tuple, addD, subD, divD, modD, powD, intD, negD, mulD, cmpD, i2D, lenD, ixD, List.getElem?_cons_succ, List.getElem?_cons_zero, List.set_cons_succ, List.set_cons_zero, opt_some, opt_none, opt_ite, if_true, if_false, Bool.false_eq_true, List.map_cons, List.map_nil, List.cons_append, List.nil_append, List.append_nil, List.replicate_succ, List.replicate_zero, List.length_cons, List.length_nil, rsv, ownIx, ixOf, wb, Option.getD_some, back_nil, back_zero, eqDD_int, neDD_int, eqDD_bool, neDD_bool, eqDD_str, neDD_str, ltD, leD, gtD, geD, List.nodup_nil, nodup1, at0, at1, at2, at3, at4, ixN5_1, ixN5_2, ixN5_3, Nat.reduceAdd, true_and, and_true, eq_self, List.length_singleton, slD, signsD, wipeD, restD, Sl.keep, rgD, subD, maxLD, minLD, Bool.not_true, Bool.not_false]
      refine ⟨_, _, rfl, ?_⟩
      simp only [decide_true, tsSeq, tsAsg, tsNext, tsRet, tsRetN, tsExpr, tsIf, tsFor, tsWhile, tsNever, tsAsgG, tsSetIx, tfV, tfLst, tfMove, tfList, tfLRg, tfLc, tfCall, tdFz, tdVar, tdC, tdBin, tdUn, tdTest, tdChain, tdAnd, tdOr, tdNot, tdAndV, tdOrV, tdNotV, tdIf, tdNil, tdCons, tdTup, tdLst, tdFn, tdIxO, tdLenO, tdMeth, tdSl, tdRev, toNo, toSome, tdIsi, tdIsi2, tdLenSet, tdIndex, tdYes, taNil, taCons, taOwn, tgName, tgNil, tgCons, tgTup, tiSeq, tiStr, tiRg1, tiRg2, tiRg3, tiEnum, onLst, isLst, seqOf_list, seqOf_tuple, addD, subD, divD, modD, powD, intD, negD, mulD, cmpD, i2D, lenD, ixD, List.getElem?_cons_succ, List.getElem?_cons_zero, List.set_cons_succ, List.set_cons_zero, opt_some, opt_none, opt_ite, if_true, if_false, Bool.false_eq_true, List.map_cons, List.map_nil, List.cons_append, List.nil_append, List.append_nil, List.replicate_succ, List.replicate_zero, List.length_cons, List.length_nil, rsv, ownIx, ixOf, wb, Option.getD_some, back_nil, back_zero, eqDD_int, neDD_int, eqDD_bool, neDD_bool, eqDD_str, neDD_str, ltD, leD, gtD, geD, List.nodup_nil, nodup1, at0, at1, at2, at3, at4, ixN5_1, ixN5_2, ixN5_3, Nat.reduceAdd, true_and, and_true, eq_self, List.length_singleton, slD, signsD, wipeD, restD, Sl.keep, rgD, subD, maxLD, minLD, Bool.not_true, Bool.not_false]
      subst hN3
      simp only [hS, decide_true, tsSeq, tsAsg, tsNext, tsRet, tsRetN, tsExpr, tsIf, tsFor, tsWhile, tsNever, tsAsgG, tsSetIx, tfV, tfLst, tfMove, tfList, tfLRg, tfLc, tfCall, tdFz, tdVar, tdC, tdBin, tdUn, tdTest, tdChain, tdAnd, tdOr, tdNot, tdAndV, tdOrV, tdNotV, tdIf, tdNil, tdCons, tdTup, tdLst, tdFn, tdIxO, tdLenO, tdMeth, tdSl, tdRev, toNo, toSome, tdIsi, tdIsi2, tdLenSet, tdIndex, tdYes, taNil, taCons, taOwn, tgName, tgNil, tgCons, tgTup, tiSeq, tiStr, tiRg1, tiRg2, tiRg3, tiEnum, onLst, isLst, seqOf_list, seqOf_tuple, addD, subD, divD, modD, powD, intD, negD, mulD, cmpD, i2D, lenD, ixD, List.getElem?_cons_succ, List.getElem?_cons_zero, List.set_cons_succ, List.set_cons_zero, opt_some, opt_none, opt_ite, if_true, if_false, Bool.false_eq_true, List.map_cons, List.map_nil, List.cons_append, List.nil_append, List.append_nil, List.replicate_succ, List.replicate_zero, List.length_cons, List.length_nil, rsv, ownIx, ixOf, wb, Option.getD_some, back_nil, back_zero, eqDD_int, neDD_int, eqDD_bool, neDD_bool, eqDD_str, neDD_str, ltD, leD, gtD, geD, List.nodup_nil, nodup1, at0, at1, at2, at3, at4, ixN5_1, ixN5_2, ixN5_3, Nat.reduceAdd, true_and, and_true, eq_self, List.length_singleton, slD, signsD, wipeD, restD, Sl.keep, rgD, subD, maxLD, minLD, Bool.not_true, Bool.not_false]
      refine ⟨by decide, ih2 _ ⟨b7, _, _, _, rfl, hb7.le (by omega), by omega⟩⟩
    rintro ρ ⟨b6, s12', s13', s14', rfl, hb6, _⟩
    dsimp only
    subst hN2
    refine seq_step fun N2 hN2 => ?_
    simp only [tsSeq, tsAsg, tsNext, tsRet, tsRetN, tsExpr, tsIf, tsFor, tsWhile, tsNever, tsAsgG, tsSetIx, tfV, tfLst, tfMove, tfList, tfLRg, tfLc, tfCall, tdFz, tdVar, tdC, tdBin, tdUn, tdTest, tdChain, tdAnd, tdOr, tdNot, tdAndV, tdOrV, tdNotV, tdIf, tdNil, tdCons, tdTup, tdLst, tdFn, tdIxO, tdLenO, tdMeth, tdSl, tdRev, toNo, toSome, tdIsi, tdIsi2, tdLenSet, tdIndex, tdYes, taNil, taCons, taOwn, tgName, tgNil, tgCons, tgTup, tiSeq, tiStr, tiRg1, tiRg2, tiRg3, tiEnum, onLst, isLst, seqOf_list, seqOf_tuple, addD, subD, divD, modD, powD, intD, negD, mulD, cmpD, i2D, lenD, ixD, List.getElem?_cons_succ, List.getElem?_cons_zero, List.set_cons_succ, List.set_cons_zero, opt_some, opt_none, opt_ite, if_true, if_false, Bool.false_eq_true, List.map_cons, List.map_nil, List.cons_append, List.nil_append, List.append_nil, List.replicate_succ, List.replicate_zero, List.length_cons, List.length_nil, rsv, ownIx, ixOf, wb, Option.getD_some, back_nil, back_zero, eqDD_int, neDD_int, eqDD_bool, neDD_bool, eqDD_str, neDD_str, ltD, leD, gtD, geD, List.nodup_nil, nodup1, at0, at1, at2, at3, at4, ixN5_1, ixN5_2, ixN5_3, Nat.reduceAdd, true_and, and_true, eq_self, List.length_singleton, slD, signsD, wipeD, restD, Sl.keep, rgD, subD, maxLD, minLD, Bool.not_true, Bool.not_false]
    refine lc_map PyData.int (fun d => .int (if (cs.length : Int) - 1 < d then (cs.length : Int) - 1 else d)) ds [] (by show 0 + ds.length ≤ sizeLine; omega) (fun x hx A hA => ?_) ?_
    · simp only [deckD, List.length_map, tsSeq, tsAsg, tsNext, tsRet, tsRetN, tsExpr, tsIf, tsFor, tsWhile, tsNever, tsAsgG, tsSetIx, tfV, tfLst, tfMove, tfList, tfLRg, tfLc, tfCall, tdFz, tdVar, tdC, tdBin, tdUn, tdTest, tdChain, tdAnd, tdOr, tdNot, tdAndV, tdOrV, tdNotV, tdIf, tdNil, tdCons, tdTup, tdLst, tdFn, tdIxO, tdLenO, tdMeth, tdSl, tdRev, toNo, toSome, tdIsi, tdIsi2, tdLenSet, tdIndex, tdYes, taNil, taCons, taOwn, tgName, tgNil, tgCons, tgTup, tiSeq, tiStr, tiRg1, tiRg2, tiRg3, tiEnum, onLst, isLst, seqOf_list, seqOf_tuple, addD, subD, divD, modD, powD, intD, negD, mulD, cmpD, i2D, lenD, ixD, List.getElem?_cons_succ, List.getElem?_cons_zero, List.set_cons_succ, List.set_cons_zero, opt_some, opt_none, opt_ite, if_true, if_false, Bool.false_eq_true, List.map_cons, List.map_nil, List.cons_append, List.nil_append, List.append_nil, List.replicate_succ, List.replicate_zero, List.length_cons, List.length_nil, rsv, ownIx, ixOf, wb, Option.getD_some, back_nil, back_zero, eqDD_int, neDD_int, eqDD_bool, neDD_bool, eqDD_str, neDD_str, ltD, leD, gtD, geD, List.nodup_nil, nodup1, at0, at1, at2, at3, at4, ixN5_1, ixN5_2, ixN5_3, Nat.reduceAdd, true_and, and_true, eq_self, List.length_singleton, slD, signsD, wipeD, restD, Sl.keep, rgD, subD, maxLD, minLD, Bool.not_true, Bool.not_false]
      exact hA _ rfl
    have eL : (ds.map fun d => PyData.int (if (cs.length : Int) - 1 < d then (cs.length : Int) - 1 else d)) = (ds.map fun d => if (cs.length : Int) - 1 < d then (cs.length : Int) - 1 else d).map PyData.int := by rw [List.map_map]; rfl
    simp only [eL, tsSeq, tsAsg, tsNext, tsRet, tsRetN, tsExpr, tsIf, tsFor, tsWhile, tsNever, tsAsgG, tsSetIx, tfV, tfLst, tfMove, tfList, tfLRg, tfLc, tfCall, tdFz, tdVar, tdC, tdBin, tdUn, tdTest, tdChain, tdAnd, tdOr, tdNot, tdAndV, tdOrV, tdNotV, tdIf, tdNil, tdCons, tdTup, tdLst, tdFn, tdIxO, tdLenO, tdMeth, tdSl, tdRev, toNo, toSome, tdIsi, tdIsi2, tdLenSet, tdIndex, tdYes, taNil, taCons, taOwn, tgName, tgNil, tgCons, tgTup, tiSeq, tiStr, tiRg1, tiRg2, tiRg3, tiEnum, onLst, isLst, seqOf_list, seqOf_tuple, addD, subD, divD, modD, powD, intD, negD, mulD, cmpD, i2D, lenD, ixD, List.getElem?_cons_succ, List.getElem?_cons_zero, List.set_cons_succ, List.set_cons_zero, opt_some, opt_none, opt_ite, if_true, if_false, Bool.false_eq_true, List.map_cons, List.map_nil, List.cons_append, List.nil_append, List.append_nil, List.replicate_succ, List.replicate_zero, List.length_cons, List.length_nil, rsv, ownIx, ixOf, wb, Option.getD_some, back_nil, back_zero, eqDD_int, neDD_int, eqDD_bool, neDD_bool, eqDD_str, neDD_str, ltD, leD, gtD, geD, List.nodup_nil, nodup1, at0, at1, at2, at3, at4, ixN5_1, ixN5_2, ixN5_3, Nat.reduceAdd, true_and, and_true, eq_self, List.length_singleton, slD, signsD, wipeD, restD, Sl.keep, rgD, subD, maxLD, minLD, Bool.not_true, Bool.not_false]
    subst hN2
    simp only [tsSeq, tsAsg, tsNext, tsRet, tsRetN, tsExpr, tsIf, tsFor, tsWhile, tsNever, tsAsgG, tsSetIx, tfV, tfLst, tfMove, tfList, tfLRg, tfLc, tfCall, tdFz, tdVar, tdC, tdBin, tdUn, tdTest, tdChain, tdAnd, tdOr, tdNot, tdAndV, tdOrV, tdNotV, tdIf, tdNil, tdCons, tdTup, tdLst, tdFn, tdIxO, tdLenO, tdMeth, tdSl, tdRev, toNo, toSome, tdIsi, tdIsi2, tdLenSet, tdIndex, tdYes, taNil, taCons, taOwn, tgName, tgNil, tgCons, tgTup, tiSeq, tiStr, tiRg1, tiRg2, tiRg3, tiEnum, onLst, isLst, seqOf_list, seqOf_tuple, addD, subD, divD, modD, powD, intD, negD, mulD, cmpD, i2D, lenD, ixD, List.getElem?_cons_succ, List.getElem?_cons_zero, List.set_cons_succ, List.set_cons_zero, opt_some, opt_none, opt_ite, if_true, if_false, Bool.false_eq_true, List.map_cons, List.map_nil, List.cons_append, List.nil_append, List.append_nil, List.replicate_succ, List.replicate_zero, List.length_cons, List.length_nil, rsv, ownIx, ixOf, wb, Option.getD_some, back_nil, back_zero, eqDD_int, neDD_int, eqDD_bool, neDD_bool, eqDD_str, neDD_str, ltD, leD, gtD, geD, List.nodup_nil, nodup1, at0, at1, at2, at3, at4, ixN5_1, ixN5_2, ixN5_3, Nat.reduceAdd, true_and, and_true, eq_self, List.length_singleton, slD, signsD, wipeD, restD, Sl.keep, rgD, subD, maxLD, minLD, Bool.not_true, Bool.not_false]
    have keyL := key (ds.map fun d => if (cs.length : Int) - 1 < d then (cs.length : Int) - 1 else d) (by rw [List.length_map]; exact lD) (fun i hi => by
      rw [getD_map _ _ _ (by omega), gD i hi]
      split <;> omega) (lineN cs 300) (lm 300)
    refine ⟨false, false, false, xs, lineN cs 300, _, rfl, nok, by omega, by omega, lm 300, by rw [lineN_len]; decide, by rw [List.length_map]; omega, fun d hd => ?_, ?_⟩
    · obtain ⟨d', hd', rfl⟩ := List.mem_map.mp hd
      have := (d0 d' hd').1
      split <;> omega
    rw [keyL]
    have w3 : decide (lineN cs 300 = lineN cs (lineN cs 300).length) = true := decide_eq_true (by rw [lineN_len])
    simp only [w3, isT, tsSeq, tsAsg, tsNext, tsRet, tsRetN, tsExpr, tsIf, tsFor, tsWhile, tsNever, tsAsgG, tsSetIx, tfV, tfLst, tfMove, tfList, tfLRg, tfLc, tfCall, tdFz, tdVar, tdC, tdBin, tdUn, tdTest, tdChain, tdAnd, tdOr, tdNot, tdAndV, tdOrV, tdNotV, tdIf, tdNil, tdCons, tdTup, tdLst, tdFn, tdIxO, tdLenO, tdMeth, tdSl, tdRev, toNo, toSome, tdIsi, tdIsi2, tdLenSet, tdIndex, tdYes, taNil, taCons, taOwn, tgName, tgNil, tgCons, tgTup, tiSeq, tiStr, tiRg1, tiRg2, tiRg3, tiEnum, onLst, isLst, seqOf_list, seqOf_tuple, addD, subD, divD, modD, powD, intD, negD, mulD, cmpD, i2D, lenD, ixD, List.getElem?_cons_succ, List.getElem?_cons_zero, List.set_cons_succ, List.set_cons_zero, opt_some, opt_none, opt_ite, if_true, if_false, Bool.false_eq_true, List.map_cons, List.map_nil, List.cons_append, List.nil_append, List.append_nil, List.replicate_succ, List.replicate_zero, List.length_cons, List.length_nil, rsv, ownIx, ixOf, wb, Option.getD_some, back_nil, back_zero, eqDD_int, neDD_int, eqDD_bool, neDD_bool, eqDD_str, neDD_str, ltD, leD, gtD, geD, List.nodup_nil, nodup1, at0, at1, at2, at3, at4, ixN5_1, ixN5_2, ixN5_3, Nat.reduceAdd, true_and, and_true, eq_self, List.length_singleton, slD, signsD, wipeD, restD, Sl.keep, rgD, subD, maxLD, minLD, Bool.not_true, Bool.not_false]
    exact ih _ ⟨b6, _, _, _, _, _, _, _, _, _, _, _, _, rfl, hb6.le (by simp; omega), by omega⟩
  · rintro ρ ⟨b, s2, s3, s4, s7, s8, s9, s10, s11, s12, s13, s14, s15, rfl, _⟩
    subst hN
    simp only [tsSeq, tsAsg, tsNext, tsRet, tsRetN, tsExpr, tsIf, tsFor, tsWhile, tsNever, tsAsgG, tsSetIx, tfV, tfLst, tfMove, tfList, tfLRg, tfLc, tfCall, tdFz, tdVar, tdC, tdBin, tdUn, tdTest, tdChain, tdAnd, tdOr, tdNot, tdAndV, tdOrV, tdNotV, tdIf, tdNil, tdCons, tdTup, tdLst, tdFn, tdIxO, tdLenO, tdMeth, tdSl, tdRev, toNo, toSome, tdIsi, tdIsi2, tdLenSet, tdIndex, tdYes, taNil, taCons, taOwn, tgName, tgNil, tgCons, tgTup, tiSeq, tiStr, tiRg1, tiRg2, tiRg3, tiEnum, onLst, isLst, seqOf_list, seqOf_tuple, addD, subD, divD, modD, powD, intD, negD, mulD, cmpD, i2D, lenD, ixD, List.getElem?_cons_succ, List.getElem?_cons_zero, List.set_cons_succ, List.set_cons_zero, opt_some, opt_none, opt_ite, if_true, if_false, Bool.false_eq_true, List.map_cons, List.map_nil, List.cons_append, List.nil_append, List.append_nil, List.replicate_succ, List.replicate_zero, List.length_cons, List.length_nil, rsv, ownIx, ixOf, wb, Option.getD_some, back_nil, back_zero, eqDD_int, neDD_int, eqDD_bool, neDD_bool, eqDD_str, neDD_str, ltD, leD, gtD, geD, List.nodup_nil, nodup1, at0, at1, at2, at3, at4, ixN5_1, ixN5_2, ixN5_3, Nat.reduceAdd, true_and, and_true, eq_self, List.length_singleton, slD, signsD, wipeD, restD, Sl.keep, rgD, subD, maxLD, minLD, Bool.not_true, Bool.not_false]
    exact k _

theorem sc_law : FnScope ["script", "bag", "turn", "deck", "names", "name", "depth", "depths", "now", "line", "step", "row", "again", "other", "before", "lesser"] ["script"] (defScope (top 27)) := ⟨rfl, rfl, rfl, by decide +kernel, rfl, by decide +kernel, by decide +kernel⟩
theorem ok_law {P : Program} {w : World} {K : Fg} {mg : Str → Option Value} {base : Heap} {f : Addr} {fd : FuncData} (T : Txt mg) (F : Fun K "law" "law" (top 27) f fd) (h__law_bag : Has P w K mg base 1 "_law_bag" ["script"] [0] (sp__law_bag K)) (h__law_draw : Has P w K mg base 2 "_law_draw" ["bag", "many"] [0] (sp__law_draw)) (h__law_deck : Has P w K mg base 5 "_law_deck" ["bag", "most"] [0] (sp__law_deck)) (h__law_slid : Has P w K mg base 1 "_law_slid" ["deck"] [] (sp__law_slid)) (h_depths_let : Has P w K mg base 3 "depths_let" ["names", "row", "depths"] [] (sp_depths_let)) (h__law_bent : Has P w K mg base 3 "_law_bent" ["bag", "row", "names"] [0] (sp__law_bent)) (h__law_so : Has P w K mg base 1 "_law_so" ["found", "due"] [] (sp__law_so)) : FnG P w K mg base 6 f fd ["script"] (LftSp [] (sp_law K)) :=
  fnGD [] (sp_law K) (t_law K) F sc_law (fun args R E h => len_law h) (fun cdv A outer s H E fr W hgd hr hfr tk => (ss_cons (s_asg (i := 1) sc_law.nd rfl (by first | exact .inl rfl | exact .inr rfl) (by first | exact .inl rfl | exact .inr rfl) (by rw [hfr]; decide) (pf_callH h__law_bag (hr.mono (by decide)) rfl tk (a_own (i := 0) rfl (by first | exact .inl rfl | exact .inr (.inl rfl) | exact .inr (.inr rfl)) a_nil)))
  (ss_cons (s_for passB rfl (pi_rg1 rfl T.b_range (pl_cons (pd_op op_addD okD pd_int (pd_callB (call_minD rfl) okL rfl T.b_min bt_min (pl_cons pd_int (pl_cons (pd_scrLen (i := 0) rfl (by first | exact .inl rfl | exact .inr (.inl rfl) | exact .inr (.inr rfl)) rfl T.b_len) pl_nil)))) pl_nil)) (t_name (i := 2) sc_law.nd rfl (by first | exact .inl rfl | exact .inr rfl) (by first | exact .inl rfl | exact .inr rfl) (by rw [hfr]; decide)) (ss_cons (s_asg (i := 3) sc_law.nd rfl (by first | exact .inl rfl | exact .inr rfl) (by first | exact .inl rfl | exact .inr rfl) (by rw [hfr]; decide) (pf_callH h__law_deck (hr.mono (by decide)) rfl tk (a_own (i := 1) rfl (by first | exact .inl rfl | exact .inr (.inl rfl) | exact .inr (.inr rfl)) (a_cons (pd_ix ix_D okD (pd_lst (pl_cons pd_int (pl_cons pd_int (pl_cons pd_int pl_nil)))) (pd_fz (pf_callH h__law_draw (hr.mono (by decide)) rfl tk (a_own (i := 1) rfl (by first | exact .inl rfl | exact .inr (.inl rfl) | exact .inr (.inr rfl)) (a_cons pd_int a_nil)))) (fun _ _ => rfl)) a_nil))))
  (ss_cons (s_lc (i := 4) rfl sc_law.nd rfl rfl (by rw [hfr]; decide) (pi_seq (pd_var (i := 3) rfl (by first | exact .inl rfl | exact .inr (.inl rfl) | exact .inr (.inr rfl)))) (own := [(("name" : Str), 5), (("depth" : Str), 6)]) (blkOk (by kernel_rfl)) (by rw [hfr]; decide) (by decide) (fun _ _ _ _ _ fr' hfr' => (t_tup rfl (ts_cons (t_name (i := 5) sc_law.nd rfl (by first | exact .inl rfl | exact .inr rfl) (by first | exact .inl rfl | exact .inr rfl) (by rw [hfr', hfr]; decide)) (ts_cons (t_name (i := 6) sc_law.nd rfl (by first | exact .inl rfl | exact .inr rfl) (by first | exact .inl rfl | exact .inr rfl) (by rw [hfr', hfr]; decide)) ts_nil)))) (fun _ _ _ _ _ fr' hfr' => (pd_var (i := 5) rfl (by first | exact .inl rfl | exact .inr (.inl rfl) | exact .inr (.inr rfl)))) (sw_true rfl rfl rfl (by decide +kernel)))
  (ss_cons (s_lc (i := 7) rfl sc_law.nd rfl rfl (by rw [hfr]; decide) (pi_seq (pd_var (i := 3) rfl (by first | exact .inl rfl | exact .inr (.inl rfl) | exact .inr (.inr rfl)))) (own := [(("name" : Str), 5), (("depth" : Str), 6)]) (blkOk (by kernel_rfl)) (by rw [hfr]; decide) (by decide) (fun _ _ _ _ _ fr' hfr' => (t_tup rfl (ts_cons (t_name (i := 5) sc_law.nd rfl (by first | exact .inl rfl | exact .inr rfl) (by first | exact .inl rfl | exact .inr rfl) (by rw [hfr', hfr]; decide)) (ts_cons (t_name (i := 6) sc_law.nd rfl (by first | exact .inl rfl | exact .inr rfl) (by first | exact .inl rfl | exact .inr rfl) (by rw [hfr', hfr]; decide)) ts_nil)))) (fun _ _ _ _ _ fr' hfr' => (pd_var (i := 6) rfl (by first | exact .inl rfl | exact .inr (.inl rfl) | exact .inr (.inr rfl)))) (sw_true rfl rfl rfl (by decide +kernel)))
  (ss_cons (s_asg (i := 8) sc_law.nd rfl (by first | exact .inl rfl | exact .inr rfl) (by first | exact .inl rfl | exact .inr rfl) (by rw [hfr]; decide) (pf_val (pd_var (i := 3) rfl (by first | exact .inl rfl | exact .inr (.inl rfl) | exact .inr (.inr rfl)))))
  (ss_cons (s_asg (i := 9) sc_law.nd rfl (by first | exact .inl rfl | exact .inr rfl) (by first | exact .inl rfl | exact .inr rfl) (by rw [hfr]; decide) (pf_lst pl_nil))
  (ss_cons (s_for passB rfl (pi_rg1 rfl T.b_range (pl_cons pd_int pl_nil)) (t_name (i := 10) sc_law.nd rfl (by first | exact .inl rfl | exact .inr rfl) (by first | exact .inl rfl | exact .inr rfl) (by rw [hfr]; decide)) (ss_cons (s_expr (pd_meth (i := 9) PySem.F.slot_list_append PySem.F.type_list_append mt_append ok_append rfl (by first | exact .inl rfl | exact .inr (.inl rfl) | exact .inr (.inr rfl)) (pl_cons (pd_ix ix_D okD (pd_ix ix_D okD (pd_var (i := 8) rfl (by first | exact .inl rfl | exact .inr (.inl rfl) | exact .inr (.inr rfl))) pd_int (fun _ _ => rfl)) pd_int (fun _ _ => rfl)) pl_nil)))
  (ss_one (s_asg (i := 8) sc_law.nd rfl (by first | exact .inl rfl | exact .inr rfl) (by first | exact .inl rfl | exact .inr rfl) (by rw [hfr]; decide) (pf_callH h__law_slid (hr.mono (by decide)) rfl tk (a_cons (pd_var (i := 8) rfl (by first | exact .inl rfl | exact .inr (.inl rfl) | exact .inr (.inr rfl))) a_nil))))))
  (ss_cons (s_asg (i := 11) sc_law.nd rfl (by first | exact .inl rfl | exact .inr rfl) (by first | exact .inl rfl | exact .inr rfl) (by rw [hfr]; decide) (pf_val (pd_sl (pd_var (i := 9) rfl (by first | exact .inl rfl | exact .inr (.inl rfl) | exact .inr (.inr rfl))) pdo_none (pdo_some (pd_ix ix_D okD (pd_lst (pl_cons pd_int (pl_cons (pd_fz (pf_callH h__law_draw (hr.mono (by decide)) rfl tk (a_own (i := 1) rfl (by first | exact .inl rfl | exact .inr (.inl rfl) | exact .inr (.inr rfl)) (a_cons pd_int a_nil)))) (pl_cons (pd_fz (pf_callH h__law_draw (hr.mono (by decide)) rfl tk (a_own (i := 1) rfl (by first | exact .inl rfl | exact .inr (.inl rfl) | exact .inr (.inr rfl)) (a_cons pd_int a_nil)))) (pl_cons pd_int pl_nil))))) (pd_fz (pf_callH h__law_draw (hr.mono (by decide)) rfl tk (a_own (i := 1) rfl (by first | exact .inl rfl | exact .inr (.inl rfl) | exact .inr (.inr rfl)) (a_cons pd_int a_nil)))) (fun _ _ => rfl))))))
  (ss_cons (s_if (pb_cmp (op_isntD) okD (pd_fz (pf_callH h_depths_let (hr.mono (by decide)) rfl tk (a_cons (pd_var (i := 4) rfl (by first | exact .inl rfl | exact .inr (.inl rfl) | exact .inr (.inr rfl))) (a_cons (pd_var (i := 11) rfl (by first | exact .inl rfl | exact .inr (.inl rfl) | exact .inr (.inr rfl))) (a_cons (pd_var (i := 7) rfl (by first | exact .inl rfl | exact .inr (.inl rfl) | exact .inr (.inr rfl))) a_nil))))) pd_bl (nobehind _ (by decide) (by decide))) (ss_one (s_ret (pf_val pd_bl))) ss_nil)
  (ss_cons (s_if (pb_cmp (op_isntD) okD (pd_fz (pf_callH h_depths_let (hr.mono (by decide)) rfl tk (a_cons (pd_callTy call_tupleD okL rfl T.b_tuple bt_tuple (pl_cons (pd_var (i := 4) rfl (by first | exact .inl rfl | exact .inr (.inl rfl) | exact .inr (.inr rfl))) pl_nil)) (a_cons (pd_var (i := 11) rfl (by first | exact .inl rfl | exact .inr (.inl rfl) | exact .inr (.inr rfl))) (a_cons (pd_callTy call_tupleD okL rfl T.b_tuple bt_tuple (pl_cons (pd_var (i := 7) rfl (by first | exact .inl rfl | exact .inr (.inl rfl) | exact .inr (.inr rfl))) pl_nil)) a_nil))))) pd_bl (nobehind _ (by decide) (by decide))) (ss_one (s_ret (pf_val pd_bl))) ss_nil)
  (ss_cons (s_if (pb_cmp (op_isntD) okD (pd_fz (pf_callH h_depths_let (hr.mono (by decide)) rfl tk (a_cons (pd_var (i := 4) rfl (by first | exact .inl rfl | exact .inr (.inl rfl) | exact .inr (.inr rfl))) (a_cons (pd_callTy call_tupleD okL rfl T.b_tuple bt_tuple (pl_cons (pd_var (i := 11) rfl (by first | exact .inl rfl | exact .inr (.inl rfl) | exact .inr (.inr rfl))) pl_nil)) (a_cons (pd_var (i := 7) rfl (by first | exact .inl rfl | exact .inr (.inl rfl) | exact .inr (.inr rfl))) a_nil))))) pd_bl (nobehind _ (by decide) (by decide))) (ss_one (s_ret (pf_val pd_bl))) ss_nil)
  (ss_cons (s_for passB rfl (pi_rg1 rfl T.b_range (pl_cons pd_int pl_nil)) (t_name (i := 12) sc_law.nd rfl (by first | exact .inl rfl | exact .inr rfl) (by first | exact .inl rfl | exact .inr rfl) (by rw [hfr]; decide)) (ss_cons (s_asg (i := 13) sc_law.nd rfl (by first | exact .inl rfl | exact .inr rfl) (by first | exact .inl rfl | exact .inr rfl) (by rw [hfr]; decide) (pf_callH h__law_bent (hr.mono (by decide)) rfl tk (a_own (i := 1) rfl (by first | exact .inl rfl | exact .inr (.inl rfl) | exact .inr (.inr rfl)) (a_cons (pd_var (i := 11) rfl (by first | exact .inl rfl | exact .inr (.inl rfl) | exact .inr (.inr rfl))) (a_cons (pd_var (i := 4) rfl (by first | exact .inl rfl | exact .inr (.inl rfl) | exact .inr (.inr rfl))) a_nil)))))
  (ss_cons (s_asg (i := 14) sc_law.nd rfl (by first | exact .inl rfl | exact .inr rfl) (by first | exact .inl rfl | exact .inr rfl) (by rw [hfr]; decide) (pf_val (pd_callB (call_reprD hgd hr.units) okL rfl T.b_repr bt_repr (pl_cons (pd_lst (pl_cons (pd_var (i := 4) rfl (by first | exact .inl rfl | exact .inr (.inl rfl) | exact .inr (.inr rfl))) (pl_cons (pd_var (i := 13) rfl (by first | exact .inl rfl | exact .inr (.inl rfl) | exact .inr (.inr rfl))) (pl_cons (pd_var (i := 7) rfl (by first | exact .inl rfl | exact .inr (.inl rfl) | exact .inr (.inr rfl))) pl_nil)))) pl_nil))))
  (ss_cons (s_if (pb_not (pb_val (pd_fz (pf_callH h__law_so (hr.mono (by decide)) rfl tk (a_cons (pd_fz (pf_callH h_depths_let (hr.mono (by decide)) rfl tk (a_cons (pd_var (i := 4) rfl (by first | exact .inl rfl | exact .inr (.inl rfl) | exact .inr (.inr rfl))) (a_cons (pd_var (i := 13) rfl (by first | exact .inl rfl | exact .inr (.inl rfl) | exact .inr (.inr rfl))) (a_cons (pd_var (i := 7) rfl (by first | exact .inl rfl | exact .inr (.inl rfl) | exact .inr (.inr rfl))) a_nil))))) (a_cons (pd_cmp (op_eqDD hr.units) okD (pd_var (i := 13) rfl (by first | exact .inl rfl | exact .inr (.inl rfl) | exact .inr (.inr rfl))) (pd_sl (pd_var (i := 9) rfl (by first | exact .inl rfl | exact .inr (.inl rfl) | exact .inr (.inr rfl))) pdo_none (pdo_some (pd_callB call_lenD okL rfl T.b_len bt_len (pl_cons (pd_var (i := 13) rfl (by first | exact .inl rfl | exact .inr (.inl rfl) | exact .inr (.inr rfl))) pl_nil)))) (nobehind _ (by decide) (by decide))) a_nil)))))) (ss_one (s_ret (pf_val pd_bl))) ss_nil)
  (ss_one (s_if (pb_cmp (op_neDD hr.units) okD (pd_callB (call_reprD hgd hr.units) okL rfl T.b_repr bt_repr (pl_cons (pd_lst (pl_cons (pd_var (i := 4) rfl (by first | exact .inl rfl | exact .inr (.inl rfl) | exact .inr (.inr rfl))) (pl_cons (pd_var (i := 13) rfl (by first | exact .inl rfl | exact .inr (.inl rfl) | exact .inr (.inr rfl))) (pl_cons (pd_var (i := 7) rfl (by first | exact .inl rfl | exact .inr (.inl rfl) | exact .inr (.inr rfl))) pl_nil)))) pl_nil)) (pd_var (i := 14) rfl (by first | exact .inl rfl | exact .inr (.inl rfl) | exact .inr (.inr rfl))) (nobehind _ (by decide) (by decide))) (ss_one (s_ret (pf_val pd_bl))) ss_nil))))))
  (ss_cons (s_lc (i := 15) rfl sc_law.nd rfl rfl (by rw [hfr]; decide) (pi_seq (pd_var (i := 7) rfl (by first | exact .inl rfl | exact .inr (.inl rfl) | exact .inr (.inr rfl)))) (own := [(("depth" : Str), 6)]) (blkOk (by kernel_rfl)) (by rw [hfr]; decide) (by decide) (fun _ _ _ _ _ fr' hfr' => (t_name (i := 6) sc_law.nd rfl (by first | exact .inl rfl | exact .inr rfl) (by first | exact .inl rfl | exact .inr rfl) (by rw [hfr', hfr]; decide))) (fun _ _ _ _ _ fr' hfr' => (pd_callB (call_minD rfl) okL rfl T.b_min bt_min (pl_cons (pd_var (i := 6) rfl (by first | exact .inl rfl | exact .inr (.inl rfl) | exact .inr (.inr rfl))) (pl_cons (pd_op op_subD okD (pd_callB call_lenD okL rfl T.b_len bt_len (pl_cons (pd_var (i := 3) rfl (by first | exact .inl rfl | exact .inr (.inl rfl) | exact .inr (.inr rfl))) pl_nil)) pd_int) pl_nil)))) (sw_true rfl rfl rfl (by decide +kernel)))
  (ss_one (s_if (pb_cmp (op_isntD) okD (pd_fz (pf_callH h_depths_let (hr.mono (by decide)) rfl tk (a_cons (pd_var (i := 4) rfl (by first | exact .inl rfl | exact .inr (.inl rfl) | exact .inr (.inr rfl))) (a_cons (pd_var (i := 9) rfl (by first | exact .inl rfl | exact .inr (.inl rfl) | exact .inr (.inr rfl))) (a_cons (pd_var (i := 15) rfl (by first | exact .inl rfl | exact .inr (.inl rfl) | exact .inr (.inr rfl))) a_nil))))) pd_bl (nobehind _ (by decide) (by decide))) (ss_one (s_ret (pf_val pd_bl))) ss_nil)))))))))))))))
  (ss_one (s_ret (pf_val pd_bl)))))) fun args R E hp h => body_law h


theorem all_mk {P : Program} {w : World} {K : Fg} {h : Heap} {mg : Str → Option Value} {fa f0 f1 f2 f3 f4 f5 f6 f7 f8 f9 f10 f11 f12 f13 f14 f15 f16 : Addr} (X : K.In h) (G : h.Ns mainGlobals mg) (hfa : mg "law" = some (.ref fa))
    {od0 an0 od1 an1 od2 an2 od3 an3 od4 an4 od5 an5 od6 an6 od7 an7 od8 an8 od9 an9 od10 an10 od11 an11 od12 an12 od13 an13 od14 an14 od15 an15 od16 an16 : Option Addr} {sl0 sl1 sl2 sl3 sl4 sl5 sl6 sl7 sl8 sl9 sl10 sl11 sl12 sl13 sl14 sl15 sl16 : Array (Option Value)} {oc0 kV0 dc0 pm0 cd0 ct0 oc1 kV1 dc1 pm1 cd1 ct1 oc2 kV2 dc2 pm2 cd2 ct2 oc3 kV3 dc3 pm3 cd3 ct3 oc4 kV4 dc4 pm4 cd4 ct4 oc5 kV5 dc5 pm5 cd5 ct5 oc6 kV6 dc6 pm6 cd6 ct6 oc7 kV7 dc7 pm7 cd7 ct7 oc8 kV8 dc8 pm8 cd8 ct8 oc9 kV9 dc9 pm9 cd9 ct9 oc10 kV10 dc10 pm10 cd10 ct10 oc11 kV11 dc11 pm11 cd11 ct11 oc12 kV12 dc12 pm12 cd12 ct12 oc13 kV13 dc13 pm13 cd13 ct13 oc14 kV14 dc14 pm14 cd14 ct14 oc15 kV15 dc15 pm15 cd15 ct15 oc16 kV16 dc16 pm16 cd16 ct16 : Value} {tk0 tk1 tk2 : Tok}
    (a0 : PySem.W.nsIn K mainGlobals "_law_bag" = some (some (.ref f0))) (l0 : K.lookup f0 = some ⟨oc0, od0, .func (PySem.W.fnOf "_law_bag" "_law_bag" (defArgs (top 18)) (defBody (top 18)) (defScope (top 18)) .none kV0 dc0 pm0 an0 cd0 ct0), sl0⟩) (c0 : PySem.W.codeIn K cd0 "_law_bag" = true) (k0 : PySem.W.keepIn K (.ref f0) = true)
    (a1 : PySem.W.nsIn K mainGlobals "_law_stir" = some (some (.ref f1))) (l1 : K.lookup f1 = some ⟨oc1, od1, .func (PySem.W.fnOf "_law_stir" "_law_stir" (defArgs (top 19)) (defBody (top 19)) (defScope (top 19)) .none kV1 dc1 pm1 an1 cd1 ct1), sl1⟩) (c1 : PySem.W.codeIn K cd1 "_law_stir" = true) (k1 : PySem.W.keepIn K (.ref f1) = true)
    (a2 : PySem.W.nsIn K mainGlobals "_law_draw" = some (some (.ref f2))) (l2 : K.lookup f2 = some ⟨oc2, od2, .func (PySem.W.fnOf "_law_draw" "_law_draw" (defArgs (top 20)) (defBody (top 20)) (defScope (top 20)) .none kV2 dc2 pm2 an2 cd2 ct2), sl2⟩) (c2 : PySem.W.codeIn K cd2 "_law_draw" = true) (k2 : PySem.W.keepIn K (.ref f2) = true)
    (a3 : PySem.W.nsIn K mainGlobals "_law_mixed" = some (some (.ref f3))) (l3 : K.lookup f3 = some ⟨oc3, od3, .func (PySem.W.fnOf "_law_mixed" "_law_mixed" (defArgs (top 21)) (defBody (top 21)) (defScope (top 21)) .none kV3 dc3 pm3 an3 cd3 ct3), sl3⟩) (c3 : PySem.W.codeIn K cd3 "_law_mixed" = true) (k3 : PySem.W.keepIn K (.ref f3) = true)
    (a4 : PySem.W.nsIn K mainGlobals "_law_names" = some (some (.ref f4))) (l4 : K.lookup f4 = some ⟨oc4, od4, .func (PySem.W.fnOf "_law_names" "_law_names" (defArgs (top 22)) (defBody (top 22)) (defScope (top 22)) .none kV4 dc4 pm4 an4 cd4 ct4), sl4⟩) (c4 : PySem.W.codeIn K cd4 "_law_names" = true) (k4 : PySem.W.keepIn K (.ref f4) = true)
    (a5 : PySem.W.nsIn K mainGlobals "_law_deck" = some (some (.ref f5))) (l5 : K.lookup f5 = some ⟨oc5, od5, .func (PySem.W.fnOf "_law_deck" "_law_deck" (defArgs (top 23)) (defBody (top 23)) (defScope (top 23)) .none kV5 dc5 pm5 an5 cd5 ct5), sl5⟩) (c5 : PySem.W.codeIn K cd5 "_law_deck" = true) (k5 : PySem.W.keepIn K (.ref f5) = true)
    (a6 : PySem.W.nsIn K mainGlobals "_law_slid" = some (some (.ref f6))) (l6 : K.lookup f6 = some ⟨oc6, od6, .func (PySem.W.fnOf "_law_slid" "_law_slid" (defArgs (top 24)) (defBody (top 24)) (defScope (top 24)) .none kV6 dc6 pm6 an6 cd6 ct6), sl6⟩) (c6 : PySem.W.codeIn K cd6 "_law_slid" = true) (k6 : PySem.W.keepIn K (.ref f6) = true)
    (a7 : PySem.W.nsIn K mainGlobals "is_name" = some (some (.ref f7))) (l7 : K.lookup f7 = some ⟨oc7, od7, .func (PySem.W.fnOf "is_name" "is_name" (defArgs (top 11)) (defBody (top 11)) (defScope (top 11)) .none kV7 dc7 pm7 an7 cd7 ct7), sl7⟩) (c7 : PySem.W.codeIn K cd7 "is_name" = true) (k7 : PySem.W.keepIn K (.ref f7) = true)
    (a8 : PySem.W.nsIn K mainGlobals "names_of" = some (some (.ref f8))) (l8 : K.lookup f8 = some ⟨oc8, od8, .func (PySem.W.fnOf "names_of" "names_of" (defArgs (top 13)) (defBody (top 13)) (defScope (top 13)) .none kV8 dc8 pm8 an8 cd8 ct8), sl8⟩) (c8 : PySem.W.codeIn K cd8 "names_of" = true) (k8 : PySem.W.keepIn K (.ref f8) = true)
    (a9 : PySem.W.nsIn K mainGlobals "row_of" = some (some (.ref f9))) (l9 : K.lookup f9 = some ⟨oc9, od9, .func (PySem.W.fnOf "row_of" "row_of" (defArgs (top 14)) (defBody (top 14)) (defScope (top 14)) .none kV9 dc9 pm9 an9 cd9 ct9), sl9⟩) (c9 : PySem.W.codeIn K cd9 "row_of" = true) (k9 : PySem.W.keepIn K (.ref f9) = true)
    (a10 : PySem.W.nsIn K mainGlobals "lets" = some (some (.ref f10))) (l10 : K.lookup f10 = some ⟨oc10, od10, .func (PySem.W.fnOf "lets" "lets" (defArgs (top 15)) (defBody (top 15)) (defScope (top 15)) .none kV10 dc10 pm10 an10 cd10 ct10), sl10⟩) (c10 : PySem.W.codeIn K cd10 "lets" = true) (k10 : PySem.W.keepIn K (.ref f10) = true)
    (a11 : PySem.W.nsIn K mainGlobals "is_row" = some (some (.ref f11))) (l11 : K.lookup f11 = some ⟨oc11, od11, .func (PySem.W.fnOf "is_row" "is_row" (defArgs (top 10)) (defBody (top 10)) (defScope (top 10)) .none kV11 dc11 pm11 an11 cd11 ct11), sl11⟩) (c11 : PySem.W.codeIn K cd11 "is_row" = true) (k11 : PySem.W.keepIn K (.ref f11) = true)
    (a12 : PySem.W.nsIn K mainGlobals "is_whole" = some (some (.ref f12))) (l12 : K.lookup f12 = some ⟨oc12, od12, .func (PySem.W.fnOf "is_whole" "is_whole" (defArgs (top 9)) (defBody (top 9)) (defScope (top 9)) .none kV12 dc12 pm12 an12 cd12 ct12), sl12⟩) (c12 : PySem.W.codeIn K cd12 "is_whole" = true) (k12 : PySem.W.keepIn K (.ref f12) = true)
    (a13 : PySem.W.nsIn K mainGlobals "depths_let" = some (some (.ref f13))) (l13 : K.lookup f13 = some ⟨oc13, od13, .func (PySem.W.fnOf "depths_let" "depths_let" (defArgs (top 16)) (defBody (top 16)) (defScope (top 16)) .none kV13 dc13 pm13 an13 cd13 ct13), sl13⟩) (c13 : PySem.W.codeIn K cd13 "depths_let" = true) (k13 : PySem.W.keepIn K (.ref f13) = true)
    (a14 : PySem.W.nsIn K mainGlobals "_law_bent" = some (some (.ref f14))) (l14 : K.lookup f14 = some ⟨oc14, od14, .func (PySem.W.fnOf "_law_bent" "_law_bent" (defArgs (top 25)) (defBody (top 25)) (defScope (top 25)) .none kV14 dc14 pm14 an14 cd14 ct14), sl14⟩) (c14 : PySem.W.codeIn K cd14 "_law_bent" = true) (k14 : PySem.W.keepIn K (.ref f14) = true)
    (a15 : PySem.W.nsIn K mainGlobals "_law_so" = some (some (.ref f15))) (l15 : K.lookup f15 = some ⟨oc15, od15, .func (PySem.W.fnOf "_law_so" "_law_so" (defArgs (top 26)) (defBody (top 26)) (defScope (top 26)) .none kV15 dc15 pm15 an15 cd15 ct15), sl15⟩) (c15 : PySem.W.codeIn K cd15 "_law_so" = true) (k15 : PySem.W.keepIn K (.ref f15) = true)
    (a16 : PySem.W.nsIn K mainGlobals "law" = some (some (.ref f16))) (l16 : K.lookup f16 = some ⟨oc16, od16, .func (PySem.W.fnOf "law" "law" (defArgs (top 27)) (defBody (top 27)) (defScope (top 27)) .none kV16 dc16 pm16 an16 cd16 ct16), sl16⟩) (c16 : PySem.W.codeIn K cd16 "law" = true) (k16 : PySem.W.keepIn K (.ref f16) = true)
    (z_all : PySem.W.nsIn K mainGlobals "all" = some none) (z_bool : PySem.W.nsIn K mainGlobals "bool" = some none) (z_enumerate : PySem.W.nsIn K mainGlobals "enumerate" = some none) (z_int : PySem.W.nsIn K mainGlobals "int" = some none) (z_isinstance : PySem.W.nsIn K mainGlobals "isinstance" = some none) (z_len : PySem.W.nsIn K mainGlobals "len" = some none) (z_list : PySem.W.nsIn K mainGlobals "list" = some none) (z_max : PySem.W.nsIn K mainGlobals "max" = some none) (z_min : PySem.W.nsIn K mainGlobals "min" = some none) (z_range : PySem.W.nsIn K mainGlobals "range" = some none) (z_repr : PySem.W.nsIn K mainGlobals "repr" = some none) (z_set : PySem.W.nsIn K mainGlobals "set" = some none) (z_str : PySem.W.nsIn K mainGlobals "str" = some none) (z_tuple : PySem.W.nsIn K mainGlobals "tuple" = some none)
    (y_LETTERS : PySem.W.nsIn K mainGlobals "LETTERS" = some (some (.str "abcdefghijklmnopqrstuvwxyz" tk0))) (y_MOST_CARDS : PySem.W.nsIn K mainGlobals "MOST_CARDS" = some (some (.int 40 tk1))) (y_MOST_LETTERS : PySem.W.nsIn K mainGlobals "MOST_LETTERS" = some (some (.int 8 tk2)))
    : ∃ fd : FuncData, (∀ (s : Shared) (v : Value), BindsTo s fd ⟨[v], []⟩ [("script", v)]) ∧ ∀ base : Heap, K.In base → base.Ns mainGlobals mg → FnG P w K mg base 6 fa fd ["script"] (LftSp [] (sp_law K)) := by
  have e := hfa.symm.trans (PySem.W.mg_of X G a16)
  cases e
  have T : Txt mg := ⟨PySem.W.mg_none_of X G z_all, PySem.W.mg_none_of X G z_bool, PySem.W.mg_none_of X G z_enumerate, PySem.W.mg_none_of X G z_int, PySem.W.mg_none_of X G z_isinstance, PySem.W.mg_none_of X G z_len, PySem.W.mg_none_of X G z_list, PySem.W.mg_none_of X G z_max, PySem.W.mg_none_of X G z_min, PySem.W.mg_none_of X G z_range, PySem.W.mg_none_of X G z_repr, PySem.W.mg_none_of X G z_set, PySem.W.mg_none_of X G z_str, PySem.W.mg_none_of X G z_tuple, ⟨_, PySem.W.mg_of X G y_LETTERS⟩, ⟨_, PySem.W.mg_of X G y_MOST_CARDS⟩, ⟨_, PySem.W.mg_of X G y_MOST_LETTERS⟩⟩
  have F0 := fun_mk (st := top 18) l0 c0 k0
  have B0 := F0.binds (ps := ["script"]) fun _ _ _ _ _ _ us hl => match us, hl with | [_], _ => rfl
  have F1 := fun_mk (st := top 19) l1 c1 k1
  have B1 := F1.binds (ps := ["number", "place"]) fun _ _ _ _ _ _ us hl => match us, hl with | [_, _], _ => rfl
  have F2 := fun_mk (st := top 20) l2 c2 k2
  have B2 := F2.binds (ps := ["bag", "many"]) fun _ _ _ _ _ _ us hl => match us, hl with | [_, _], _ => rfl
  have F3 := fun_mk (st := top 21) l3 c3 k3
  have B3 := F3.binds (ps := ["bag", "row"]) fun _ _ _ _ _ _ us hl => match us, hl with | [_, _], _ => rfl
  have F4 := fun_mk (st := top 22) l4 c4 k4
  have B4 := F4.binds (ps := ["bag", "many"]) fun _ _ _ _ _ _ us hl => match us, hl with | [_, _], _ => rfl
  have F5 := fun_mk (st := top 23) l5 c5 k5
  have B5 := F5.binds (ps := ["bag", "most"]) fun _ _ _ _ _ _ us hl => match us, hl with | [_, _], _ => rfl
  have F6 := fun_mk (st := top 24) l6 c6 k6
  have B6 := F6.binds (ps := ["deck"]) fun _ _ _ _ _ _ us hl => match us, hl with | [_], _ => rfl
  have F7 := fun_mk (st := top 11) l7 c7 k7
  have B7 := F7.binds (ps := ["thing"]) fun _ _ _ _ _ _ us hl => match us, hl with | [_], _ => rfl
  have F8 := fun_mk (st := top 13) l8 c8 k8
  have B8 := F8.binds (ps := ["names"]) fun _ _ _ _ _ _ us hl => match us, hl with | [_], _ => rfl
  have F9 := fun_mk (st := top 14) l9 c9 k9
  have B9 := F9.binds (ps := ["names", "row"]) fun _ _ _ _ _ _ us hl => match us, hl with | [_, _], _ => rfl
  have F10 := fun_mk (st := top 15) l10 c10 k10
  have B10 := F10.binds (ps := ["depths", "row"]) fun _ _ _ _ _ _ us hl => match us, hl with | [_, _], _ => rfl
  have F11 := fun_mk (st := top 10) l11 c11 k11
  have B11 := F11.binds (ps := ["thing", "size"]) fun _ _ _ _ _ _ us hl => match us, hl with | [_, _], _ => rfl
  have F12 := fun_mk (st := top 9) l12 c12 k12
  have B12 := F12.binds (ps := ["thing"]) fun _ _ _ _ _ _ us hl => match us, hl with | [_], _ => rfl
  have F13 := fun_mk (st := top 16) l13 c13 k13
  have B13 := F13.binds (ps := ["names", "row", "depths"]) fun _ _ _ _ _ _ us hl => match us, hl with | [_, _, _], _ => rfl
  have F14 := fun_mk (st := top 25) l14 c14 k14
  have B14 := F14.binds (ps := ["bag", "row", "names"]) fun _ _ _ _ _ _ us hl => match us, hl with | [_, _, _], _ => rfl
  have F15 := fun_mk (st := top 26) l15 c15 k15
  have B15 := F15.binds (ps := ["found", "due"]) fun _ _ _ _ _ _ us hl => match us, hl with | [_, _], _ => rfl
  have F16 := fun_mk (st := top 27) l16 c16 k16
  refine ⟨PySem.W.fnOf "law" "law" (defArgs (top 27)) (defBody (top 27)) (defScope (top 27)) .none kV16 dc16 pm16 an16 cd16 ct16, fun s v => .of_eq rfl, fun base _ _ => ?_⟩
  have H0 := has__law_bag (P := P) (w := w) (base := base) T F0 (PySem.W.mg_of X G a0) B0 
  have H1 := has__law_stir (P := P) (w := w) (base := base) T F1 (PySem.W.mg_of X G a1) B1 
  have H2 := has__law_draw (P := P) (w := w) (base := base) T F2 (PySem.W.mg_of X G a2) B2 H1
  have H3 := has__law_mixed (P := P) (w := w) (base := base) T F3 (PySem.W.mg_of X G a3) B3 H2
  have H4 := has__law_names (P := P) (w := w) (base := base) T F4 (PySem.W.mg_of X G a4) B4 H2 H3
  have H5 := has__law_deck (P := P) (w := w) (base := base) T F5 (PySem.W.mg_of X G a5) B5 H2 H4
  have H6 := has__law_slid (P := P) (w := w) (base := base) T F6 (PySem.W.mg_of X G a6) B6 
  have H7 := has_is_name (P := P) (w := w) (base := base) T F7 (PySem.W.mg_of X G a7) B7 
  have H8 := has_names_of (P := P) (w := w) (base := base) T F8 (PySem.W.mg_of X G a8) B8 H7
  have H9 := has_row_of (P := P) (w := w) (base := base) T F9 (PySem.W.mg_of X G a9) B9 H7
  have H10 := has_lets (P := P) (w := w) (base := base) T F10 (PySem.W.mg_of X G a10) B10 
  have H11 := has_is_row (P := P) (w := w) (base := base) T F11 (PySem.W.mg_of X G a11) B11 
  have H12 := has_is_whole (P := P) (w := w) (base := base) T F12 (PySem.W.mg_of X G a12) B12 
  have H13 := has_depths_let (P := P) (w := w) (base := base) T F13 (PySem.W.mg_of X G a13) B13 H8 H9 H10 H11 H12
  have H14 := has__law_bent (P := P) (w := w) (base := base) T F14 (PySem.W.mg_of X G a14) B14 H2
  have H15 := has__law_so (P := P) (w := w) (base := base) T F15 (PySem.W.mg_of X G a15) B15 
  exact ok_law T F16 H0 H2 H5 H6 H13 H14 H15
end LW
end DL

open PySem PySem.W PyProof.Rows in
set_option maxRecDepth 100000 in
set_option maxHeartbeats 0 in
theorem PySem.Challenge.cw_slideback_k55_depths_let_holds : PySem.Challenge.rw_slideback_k55_depths_let.Holds := by
  w_on; o_law; k_head; (case hw => w_witness2)
  k_fill
  refine DL.walkG (l := PySem.Challenge.rw_slideback_k55_depths_let) (n := 63) (k := 6) (x := "script") (sp := fun K => DL.LW.sp_law K) rfl (by decide) rfl ⟨rfl, by decide, by decide⟩ (fun w h Y => PySem.W.kIn_of Y) ?F (fun K => DL.LW.mo_law) (fun K a ns h => DL.LW.law_holds a ns h)
  case F =>
    intro w mg fa h KX G hmg
    refine' DL.LW.all_mk KX G hmg ?a0 ?l0 ?c0 ?k0 ?a1 ?l1 ?c1 ?k1 ?a2 ?l2 ?c2 ?k2 ?a3 ?l3 ?c3 ?k3 ?a4 ?l4 ?c4 ?k4 ?a5 ?l5 ?c5 ?k5 ?a6 ?l6 ?c6 ?k6 ?a7 ?l7 ?c7 ?k7 ?a8 ?l8 ?c8 ?k8 ?a9 ?l9 ?c9 ?k9 ?a10 ?l10 ?c10 ?k10 ?a11 ?l11 ?c11 ?k11 ?a12 ?l12 ?c12 ?k12 ?a13 ?l13 ?c13 ?k13 ?a14 ?l14 ?c14 ?k14 ?a15 ?l15 ?c15 ?k15 ?a16 ?l16 ?c16 ?k16 ?z_all ?z_bool ?z_enumerate ?z_int ?z_isinstance ?z_len ?z_list ?z_max ?z_min ?z_range ?z_repr ?z_set ?z_str ?z_tuple ?y_LETTERS ?y_MOST_CARDS ?y_MOST_LETTERS
    (case a0 => k_is)
    (case l0 => k_is)
    (case c0 => k_is)
    (case k0 => k_is)
    (case a1 => k_is)
    (case l1 => k_is)
    (case c1 => k_is)
    (case k1 => k_is)
    (case a2 => k_is)
    (case l2 => k_is)
    (case c2 => k_is)
    (case k2 => k_is)
    (case a3 => k_is)
    (case l3 => k_is)
    (case c3 => k_is)
    (case k3 => k_is)
    (case a4 => k_is)
    (case l4 => k_is)
    (case c4 => k_is)
    (case k4 => k_is)
    (case a5 => k_is)
    (case l5 => k_is)
    (case c5 => k_is)
    (case k5 => k_is)
    (case a6 => k_is)
    (case l6 => k_is)
    (case c6 => k_is)
    (case k6 => k_is)
    (case a7 => k_is)
    (case l7 => k_is)
    (case c7 => k_is)
    (case k7 => k_is)
    (case a8 => k_is)
    (case l8 => k_is)
    (case c8 => k_is)
    (case k8 => k_is)
    (case a9 => k_is)
    (case l9 => k_is)
    (case c9 => k_is)
    (case k9 => k_is)
    (case a10 => k_is)
    (case l10 => k_is)
    (case c10 => k_is)
    (case k10 => k_is)
    (case a11 => k_is)
    (case l11 => k_is)
    (case c11 => k_is)
    (case k11 => k_is)
    (case a12 => k_is)
    (case l12 => k_is)
    (case c12 => k_is)
    (case k12 => k_is)
    (case a13 => k_is)
    (case l13 => k_is)
    (case c13 => k_is)
    (case k13 => k_is)
    (case a14 => k_is)
    (case l14 => k_is)
    (case c14 => k_is)
    (case k14 => k_is)
    (case a15 => k_is)
    (case l15 => k_is)
    (case c15 => k_is)
    (case k15 => k_is)
    (case a16 => k_is)
    (case l16 => k_is)
    (case c16 => k_is)
    (case k16 => k_is)
    (case z_all => k_is)
    (case z_bool => k_is)
    (case z_enumerate => k_is)
    (case z_int => k_is)
    (case z_isinstance => k_is)
    (case z_len => k_is)
    (case z_list => k_is)
    (case z_max => k_is)
    (case z_min => k_is)
    (case z_range => k_is)
    (case z_repr => k_is)
    (case z_set => k_is)
    (case z_str => k_is)
    (case z_tuple => k_is)
    (case y_LETTERS => k_is)
    (case y_MOST_CARDS => k_is)
    (case y_MOST_LETTERS => k_is)
