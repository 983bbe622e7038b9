import PyProof.Rows.All
import Wide.All
import OpenK.AllK
import Wide.FinOn
import HandS.ForMost
import HandS.ForExc
import HandS.Wide
import HandS.Flow
import HandS.Style
import HandS.IsInst
import HandS.Defaults
import HandS.Zip
import HandS.EndBits
import HandS.Walk
import PyProof.StrBlock2
import HandS.TupAny
import KE.KUnpackStar
import PyProof.P3Eq
import HandS.Small
import HandS.Iter
import HandS.MakeKw
import HandS.Deep
import PySem.Challenge.RW_darkthread_k07_places_and_rounds_turned
set_option Elab.async false
set_option linter.all false
set_option maxRecDepth 100000
set_option maxHeartbeats 8000000
/-! L3: a typed layer of our own over the hand layer: what a reading comes to, said by representations of data. -/
namespace L3
open PySem L2

/-! ### representations -/
structure Rep where
  p : Hp → V → Prop
  m : ∀ {S S' : Hp} {v : V}, Same S S' → p S v → p S' v
structure MRep where
  p : Hp → HO → Prop
  m : ∀ {S S' : Hp} {o : HO}, Same S S' → p S o → p S' o
def All2 (S : Hp) : List Rep → List V → Prop
  | [], [] => True
  | r :: rs, v :: vs => r.p S v ∧ All2 S rs vs
  | _, _ => False
theorem All2.mono {S S' : Hp} (e : Same S S') : ∀ {rs : List Rep} {vs : List V}, All2 S rs vs → All2 S' rs vs
  | [], [], _ => True.intro
  | r :: rs, v :: vs, h => ⟨r.m e h.1, All2.mono e h.2⟩
  | [], _ :: _, h => h.elim
  | _ :: _, [], h => h.elim
theorem All2.len {S : Hp} : ∀ {rs : List Rep} {vs : List V}, All2 S rs vs → vs.length = rs.length
  | [], [], _ => rfl
  | _ :: rs, _ :: vs, h => congrArg Nat.succ (All2.len (rs := rs) (vs := vs) h.2)
  | [], _ :: _, h => h.elim
  | _ :: _, [], h => h.elim
theorem All2.get {S : Hp} : ∀ {rs : List Rep} {vs : List V} {i : Nat} {r : Rep}, All2 S rs vs → rs[i]? = some r → ∃ v, vs[i]? = some v ∧ r.p S v
  | r :: rs, v :: vs, 0, q, h, e => by
    have e' : r = q := Option.some.inj e
    subst e'
    exact ⟨v, rfl, h.1⟩
  | r :: rs, v :: vs, i + 1, q, h, e => All2.get (rs := rs) (vs := vs) (i := i) h.2 e
  | [], [], _, _, _, e => by cases e
  | [], _ :: _, _, _, h, _ => h.elim
  | _ :: _, [], _, _, h, _ => h.elim
theorem All2.getV {S : Hp} : ∀ {rs : List Rep} {vs : List V} {i : Nat} {v : V}, All2 S rs vs → vs[i]? = some v → ∃ r, rs[i]? = some r ∧ r.p S v
  | r :: rs, v :: vs, 0, q, h, e => by
    have e' : v = q := Option.some.inj e
    subst e'
    exact ⟨r, rfl, h.1⟩
  | r :: rs, v :: vs, i + 1, q, h, e => All2.getV (rs := rs) (vs := vs) (i := i) h.2 e
  | [], [], _, _, _, e => by cases e
  | [], _ :: _, _, _, h, _ => h.elim
  | _ :: _, [], _, _, h, _ => h.elim
theorem All2.app {S : Hp} : ∀ {rs qs : List Rep} {vs ws : List V}, All2 S rs vs → All2 S qs ws → All2 S (rs ++ qs) (vs ++ ws)
  | [], _, [], _, _, h => h
  | _ :: rs, _, _ :: vs, _, h, k => ⟨h.1, All2.app (rs := rs) (vs := vs) h.2 k⟩
  | [], _, _ :: _, _, h, _ => h.elim
  | _ :: _, _, [], _, h, _ => h.elim
theorem All2.one {S : Hp} {r : Rep} {v : V} (h : r.p S v) : All2 S [r] [v] := ⟨h, True.intro⟩
theorem All2.take {S : Hp} : ∀ (n : Nat) {rs : List Rep} {vs : List V}, All2 S rs vs → All2 S (rs.take n) (vs.take n)
  | 0, _, _, _ => by simp only [List.take_zero]; exact True.intro
  | n + 1, [], [], _ => True.intro
  | n + 1, _ :: rs, _ :: vs, h => ⟨h.1, All2.take n (rs := rs) (vs := vs) h.2⟩
  | _ + 1, [], _ :: _, h => h.elim
  | _ + 1, _ :: _, [], h => h.elim
theorem All2.drop {S : Hp} : ∀ (n : Nat) {rs : List Rep} {vs : List V}, All2 S rs vs → All2 S (rs.drop n) (vs.drop n)
  | 0, _, _, h => h
  | n + 1, [], [], _ => True.intro
  | n + 1, _ :: rs, _ :: vs, h => All2.drop n (rs := rs) (vs := vs) h.2
  | _ + 1, [], _ :: _, h => h.elim
  | _ + 1, _ :: _, [], h => h.elim
theorem All2.rev {S : Hp} : ∀ {rs : List Rep} {vs : List V}, All2 S rs vs → All2 S rs.reverse vs.reverse
  | [], [], _ => True.intro
  | r :: rs, v :: vs, h => by
    rw [List.reverse_cons, List.reverse_cons]
    exact (All2.rev (rs := rs) (vs := vs) h.2).app (All2.one h.1)
  | [], _ :: _, h => h.elim
  | _ :: _, [], h => h.elim
theorem All2.set {S : Hp} {r : Rep} {v : V} (hr : r.p S v) : ∀ {rs : List Rep} {vs : List V} (i : Nat), All2 S rs vs → All2 S (rs.set i r) (vs.set i v)
  | [], [], _, _ => True.intro
  | _ :: rs, _ :: vs, 0, h => ⟨hr, h.2⟩
  | _ :: rs, _ :: vs, i + 1, h => ⟨h.1, All2.set hr (rs := rs) (vs := vs) i h.2⟩
  | [], _ :: _, _, h => h.elim
  | _ :: _, [], _, h => h.elim
/-- flat representations: one value, no heap -/
theorem All2.flat {S : Hp} {α : Type} {r : α → Rep} {g : α → V} (h : ∀ x v, (r x).p S v → v = g x) : ∀ {l : List α} {vs : List V}, All2 S (l.map r) vs → vs = l.map g
  | [], [], _ => rfl
  | x :: l, v :: vs, k => by
    have e := h x v k.1
    have e2 := All2.flat h (l := l) (vs := vs) k.2
    rw [e, e2]
    rfl
  | [], _ :: _, h => h.elim
  | _ :: _, [], h => h.elim
theorem All2.unflat {S : Hp} {α : Type} {r : α → Rep} {g : α → V} (h : ∀ x, (r x).p S (g x)) : ∀ (l : List α), All2 S (l.map r) (l.map g)
  | [] => True.intro
  | x :: l => ⟨h x, All2.unflat h l⟩

theorem Same.sql {K : PySem.W.Frag} {H H' : Hp} {a : Addr} {xs : List V} (e : Same H H') (h : SqL K H a xs) : SqL K H' a xs := Same.seq e h
theorem Same.sqt {K : PySem.W.Frag} {H H' : Hp} {a : Addr} {xs : List V} (e : Same H H') (h : SqT K H a xs) : SqT K H' a xs := by
  rcases h with (h | ⟨o, h⟩) | h
  · exact .inl (.inl (e _ _ h))
  · exact .inl (.inr ⟨o, e _ _ h⟩)
  · exact .inr h

def iNon : Rep := ⟨fun _ v => v = .non, fun _ h => h⟩
def iBl (b : Bool) : Rep := ⟨fun _ v => v = .bl b, fun _ h => h⟩
def iInt (i : Int) : Rep := ⟨fun _ v => v = .int i, fun _ h => h⟩
def aStr (x : Str) : Rep := ⟨fun _ v => v = .str x, fun _ h => h⟩
def iRef (a : Addr) : Rep := ⟨fun _ v => v = .ref a, fun _ h => h⟩
def iAny : Rep := ⟨fun _ _ => True, fun _ h => h⟩
def iLst (rs : List Rep) : Rep := ⟨fun S v => ∃ a xs, v = .ref a ∧ S a = some (.lst xs) ∧ All2 S rs xs, fun e ⟨a, xs, h1, h2, h3⟩ => ⟨a, xs, h1, e _ _ h2, h3.mono e⟩⟩
/-- a list that is read alone (the script) -/
def iScr (K : PySem.W.Frag) (ns : List Int) : Rep := ⟨fun S v => ∃ a, v = .ref a ∧ SqL K S a (ns.map V.int), fun e ⟨a, h1, h2⟩ => ⟨a, h1, Same.sql e h2⟩⟩
def aTup (K : PySem.W.Frag) (rs : List Rep) : Rep := ⟨fun S v => ∃ a xs, v = .ref a ∧ SqT K S a xs ∧ All2 S rs xs, fun e ⟨a, xs, h1, h2, h3⟩ => ⟨a, xs, h1, Same.sqt e h2, h3.mono e⟩⟩
def mLst (rs : List Rep) : MRep := ⟨fun S o => ∃ xs, o = .lst xs ∧ All2 S rs xs, fun e ⟨xs, h1, h3⟩ => ⟨xs, h1, h3.mono e⟩⟩

/-! ### the symbolic heap -/
abbrev SH := List (Addr × MRep)
abbrev dm (M : SH) : List Addr := M.map (·.1)
abbrev Ct := List (Option Rep)
structure MOk (S H : Hp) (M : SH) : Prop where
  at_ : ∀ a P, (a, P) ∈ M → S a = none ∧ ∃ o, H a = some o ∧ P.p S o
  nd : (dm M).Nodup
structure Stp (S H S2 H2 : Hp) (M M2 : SH) : Prop where
  s : Same S S2
  e : Same S2 H2
  new : ∀ a, S a = none → S2 a ≠ none → H a = none ∨ a ∈ dm M
  fr : ∀ a o, a ∉ dm M → H a = some o → H2 a = some o
  m : MOk S2 H2 M2
  dn : ∀ a ∈ dm M2, a ∈ dm M ∨ H a = none
structure Nv (S H : Hp) (σ : L2.St) (Γ : Ct) (M : SH) : Prop where
  ex : Same S H
  len : σ.length = Γ.length
  sl : ∀ (i : Nat) (R : Rep), Γ[i]? = some (some R) → ∃ v, σ[i]? = some (some v) ∧ R.p S v
  m : MOk S H M

theorem MOk.mem {S H : Hp} {M : SH} (m : MOk S H M) {a : Addr} (h : a ∈ dm M) : S a = none ∧ ∃ o, H a = some o := by
  obtain ⟨⟨b, P⟩, h1, h2⟩ := List.mem_map.mp h
  have e : b = a := h2
  subst e
  obtain ⟨z, o, q, _⟩ := m.at_ b P h1
  exact ⟨z, o, q⟩
theorem Stp.refl {S H : Hp} {M : SH} (e : Same S H) (m : MOk S H M) : Stp S H S H M M :=
  ⟨Same.refl _, e, fun a h1 h2 => absurd h1 h2, fun _ _ _ h => h, m, fun _ h => .inl h⟩
theorem Stp.trans {S H S1 H1 S2 H2 : Hp} {M M1 M2 : SH} (a : Stp S H S1 H1 M M1) (b : Stp S1 H1 S2 H2 M1 M2) : Stp S H S2 H2 M M2 := by
  have back : ∀ c, H1 c = none → H c = none ∨ c ∈ dm M := fun c h => by
    by_cases hc : c ∈ dm M
    · exact .inr hc
    · cases q : H c with
      | none => exact .inl rfl
      | some o => rw [a.fr c o hc q] at h; cases h
  refine ⟨a.s.trans b.s, b.e, fun c h1 h2 => ?_, fun c o h1 h2 => ?_, b.m, fun c h => ?_⟩
  · by_cases h3 : S1 c = none
    · rcases b.new c h3 h2 with h | h
      · exact back c h
      · exact (a.dn c h).symm
    · exact a.new c h1 h3
  · refine b.fr c o (fun z => ?_) (a.fr c o h1 h2)
    rcases a.dn c z with z | z
    · exact h1 z
    · rw [h2] at z; cases z
  · rcases b.dn c h with h | h
    · exact a.dn c h
    · exact (back c h).symm
theorem Nv.step {S H S2 H2 : Hp} {σ : L2.St} {Γ : Ct} {M M2 : SH} (I : Nv S H σ Γ M) (st : Stp S H S2 H2 M M2) : Nv S2 H2 σ Γ M2 :=
  ⟨st.e, I.len, fun i R h => let ⟨v, h1, h2⟩ := I.sl i R h; ⟨v, h1, R.m st.s h2⟩, st.m⟩
theorem Nv.set {S H : Hp} {σ : L2.St} {Γ : Ct} {M : SH} (I : Nv S H σ Γ M) (j : Nat) {v : V} {R : Rep} (h : R.p S v) : Nv S H (σ.set j (some v)) (Γ.set j (some R)) M := by
  refine ⟨I.ex, by simp [I.len], fun i Q e => ?_, I.m⟩
  by_cases hj : j = i
  · subst hj
    have hl : j < Γ.length := by
      have := (List.getElem?_eq_some_iff.mp e).1
      simpa using this
    rw [List.getElem?_set_self hl] at e
    cases e
    exact ⟨v, List.getElem?_set_self (by rw [I.len]; exact hl), h⟩
  · rw [List.getElem?_set_ne hj] at e ⊢
    exact I.sl i Q e
theorem Nv.weak {S H : Hp} {σ : L2.St} {Γ Γ' : Ct} {M : SH} (I : Nv S H σ Γ M) (hl : Γ'.length = Γ.length) (h : ∀ (i : Nat) (R : Rep), Γ'[i]? = some (some R) → Γ[i]? = some (some R)) : Nv S H σ Γ' M :=
  ⟨I.ex, I.len.trans hl.symm, fun i R e => I.sl i R (h i R e), I.m⟩
/-- framing -/
theorem Stp.frame {S H S2 H2 : Hp} {M M2 F : SH} (st : Stp S H S2 H2 M M2) (m : MOk S H (M ++ F)) : Stp S H S2 H2 (M ++ F) (M2 ++ F) := by
  have nd := m.nd
  have eM : dm (M ++ F) = dm M ++ dm F := List.map_append
  have eM2 : dm (M2 ++ F) = dm M2 ++ dm F := List.map_append
  rw [eM, List.nodup_append] at nd
  obtain ⟨n1, n2, n3⟩ := nd
  have hF : ∀ a, a ∈ dm F → S a = none ∧ (∃ o, H a = some o) ∧ a ∉ dm M := fun a h => by
    obtain ⟨z, o⟩ := m.mem (a := a) (by rw [eM]; exact List.mem_append_right _ h)
    exact ⟨z, o, fun q => n3 a q a h rfl⟩
  refine ⟨st.s, st.e, fun a h1 h2 => ?_, fun a o h1 h2 => ?_, ⟨fun a P h => ?_, ?_⟩, fun a h => ?_⟩
  · rcases st.new a h1 h2 with h | h
    · exact .inl h
    · exact .inr (by rw [eM]; exact List.mem_append_left _ h)
  · exact st.fr a o (fun z => h1 (by rw [eM]; exact List.mem_append_left _ z)) h2
  · rcases List.mem_append.mp h with h | h
    · exact st.m.at_ a P h
    · have ha : a ∈ dm F := List.mem_map.mpr ⟨(a, P), h, rfl⟩
      obtain ⟨z, _, z3⟩ := hF a ha
      obtain ⟨_, o, q1, q2⟩ := m.at_ a P (List.mem_append_right _ h)
      refine ⟨?_, o, st.fr a o z3 q1, P.m st.s q2⟩
      cases q : S2 a with
      | none => rfl
      | some u =>
        rcases st.new a z (by rw [q]; exact fun c => by cases c) with w | w
        · rw [w] at q1; cases q1
        · exact absurd w z3
  · rw [eM2, List.nodup_append]
    refine ⟨st.m.nd, n2, fun a h1 b h2 e => ?_⟩
    subst e
    obtain ⟨_, ⟨o, q⟩, z3⟩ := hF a h2
    rcases st.dn a h1 with w | w
    · exact z3 w
    · rw [w] at q; cases q
  · rw [eM2] at h
    rw [eM]
    rcases List.mem_append.mp h with h | h
    · rcases st.dn a h with w | w
      · exact .inl (List.mem_append_left _ w)
      · exact .inr w
    · exact .inl (List.mem_append_right _ h)
theorem MOk.left {S H : Hp} {M F : SH} (m : MOk S H (M ++ F)) : MOk S H M := by
  refine ⟨fun a P h => m.at_ a P (List.mem_append_left _ h), ?_⟩
  have nd := m.nd
  rw [show dm (M ++ F) = dm M ++ dm F from List.map_append, List.nodup_append] at nd
  exact nd.1
theorem MOk.perm {S H : Hp} {M M' : SH} (m : MOk S H M) (h : M.Perm M') : MOk S H M' :=
  ⟨fun a P e => m.at_ a P (h.symm.subset e), (h.map _).nodup_iff.mp m.nd⟩
theorem Stp.permL {S H S2 H2 : Hp} {M M' M2 : SH} (st : Stp S H S2 H2 M' M2) (h : M.Perm M') : Stp S H S2 H2 M M2 := by
  have e : ∀ a, a ∈ dm M ↔ a ∈ dm M' := fun a => (h.map _).mem_iff
  exact ⟨st.s, st.e, fun a h1 h2 => by rw [e a]; exact st.new a h1 h2, fun a o h1 h2 => st.fr a o (fun z => h1 ((e a).mpr z)) h2, st.m, fun a h1 => by rw [e a]; exact st.dn a h1⟩
theorem Stp.permR {S H S2 H2 : Hp} {M M2 M2' : SH} (st : Stp S H S2 H2 M M2) (h : M2.Perm M2') : Stp S H S2 H2 M M2' :=
  ⟨st.s, st.e, st.new, st.fr, st.m.perm h, fun a h1 => st.dn a ((h.map _).mem_iff.mpr h1)⟩

/-! ### a new object: kept in the stable part, or as a mutable one -/
theorem Same.newS {S H : Hp} {p : Addr} {o : HO} (e : Same S H) (h : H p = none) : Same S (upd S p o) := fun a u q => by
  rw [upd_ne (ne_of_none (e _ _ q) h)]; exact q
theorem Stp.newS {S H : Hp} {M : SH} {p : Addr} {o : HO} (e : Same S H) (m : MOk S H M) (h : H p = none) : Stp S H (upd S p o) (upd H p o) M M := by
  have nm : ∀ a, a ∈ dm M → a ≠ p := fun a ha z => by
    obtain ⟨_, o, q⟩ := m.mem ha
    rw [z, h] at q; cases q
  refine ⟨Same.newS e h, fun a u q => ?_, fun a h1 h2 => ?_, fun a u _ q => ?_, ⟨fun a P hp => ?_, m.nd⟩, fun _ h => .inl h⟩
  · by_cases ha : a = p
    · subst ha; rw [upd_same] at q ⊢; exact q
    · rw [upd_ne ha] at q ⊢; exact e _ _ q
  · by_cases ha : a = p
    · subst ha; exact .inl h
    · rw [upd_ne ha] at h2; exact absurd h1 h2
  · rw [upd_ne (ne_of_none q h)]; exact q
  · obtain ⟨z, u, q1, q2⟩ := m.at_ a P hp
    have ha := nm a (List.mem_map.mpr ⟨(a, P), hp, rfl⟩)
    exact ⟨by rw [upd_ne ha]; exact z, u, by rw [upd_ne ha]; exact q1, P.m (Same.newS e h) q2⟩
theorem Stp.newM {S H : Hp} {M : SH} {p : Addr} {o : HO} {P : MRep} (e : Same S H) (m : MOk S H M) (h : H p = none) (hP : P.p S o) : Stp S H S (upd H p o) M (M ++ [(p, P)]) := by
  have hS : S p = none := by
    cases q : S p with
    | none => rfl
    | some u => rw [e _ _ q] at h; cases h
  have nm : ∀ a, a ∈ dm M → a ≠ p := fun a ha z => by
    obtain ⟨_, o, q⟩ := m.mem ha
    rw [z, h] at q; cases q
  refine ⟨Same.refl _, fun a u q => ?_, fun a h1 h2 => absurd h1 h2, fun a u _ q => ?_, ⟨fun a P' hp => ?_, ?_⟩, fun a ha => ?_⟩
  · rw [upd_ne (ne_of_none (e _ _ q) h)]; exact e _ _ q
  · rw [upd_ne (ne_of_none q h)]; exact q
  · rcases List.mem_append.mp hp with hp | hp
    · obtain ⟨z, u, q1, q2⟩ := m.at_ a P' hp
      have ha := nm a (List.mem_map.mpr ⟨(a, P'), hp, rfl⟩)
      exact ⟨z, u, by rw [upd_ne ha]; exact q1, q2⟩
    · have e1 : (a, P') = (p, P) := List.mem_singleton.mp hp
      cases e1
      exact ⟨hS, o, upd_same, hP⟩
  · rw [show dm (M ++ [(p, P)]) = dm M ++ [p] from List.map_append, List.nodup_append]
    refine ⟨m.nd, by simp, fun a h1 b h2 => ?_⟩
    have e1 : b = p := List.mem_singleton.mp h2
    subst e1
    exact nm a h1
  · rw [show dm (M ++ [(p, P)]) = dm M ++ [p] from List.map_append] at ha
    rcases List.mem_append.mp ha with ha | ha
    · exact .inl ha
    · have e1 : a = p := List.mem_singleton.mp ha
      subst e1
      exact .inr h
/-- a mutable object written -/
theorem Stp.wrM {S H : Hp} {A B : SH} {a : Addr} {P P' : MRep} {o : HO} (e : Same S H) (m : MOk S H (A ++ (a, P) :: B)) (hP : P'.p S o) : Stp S H S (upd H a o) (A ++ (a, P) :: B) (A ++ (a, P') :: B) := by
  have dme : ∀ Q : MRep, dm (A ++ (a, Q) :: B) = dm A ++ a :: dm B := fun Q => by simp [dm]
  have ha : a ∈ dm (A ++ (a, P) :: B) := by rw [dme]; simp
  obtain ⟨hS, _⟩ := m.mem ha
  have nd := m.nd
  rw [dme] at nd
  have nd2 : a ∉ dm A ∧ a ∉ dm B := by
    rw [List.nodup_append] at nd
    obtain ⟨_, n2, n3⟩ := nd
    exact ⟨fun h => n3 a h a (List.mem_cons_self ..) rfl, (List.nodup_cons.mp n2).1⟩
  refine ⟨Same.refl _, fun b u q => ?_, fun b h1 h2 => absurd h1 h2, fun b u h1 q => ?_, ⟨fun b Q hq => ?_, ?_⟩, fun b hb => .inl (by rw [dme] at hb ⊢; exact hb)⟩
  · have hb : b ≠ a := fun z => by rw [z, hS] at q; cases q
    rw [upd_ne hb]; exact e _ _ q
  · have hb : b ≠ a := fun z => h1 (by rw [z]; exact ha)
    rw [upd_ne hb]; exact q
  · have old : ∀ Q, b ≠ a → (b, Q) ∈ A ++ (a, P) :: B → S b = none ∧ ∃ o_1, upd H a o b = some o_1 ∧ Q.p S o_1 := fun Q hb hq => by
      obtain ⟨z, u, q1, q2⟩ := m.at_ b Q hq
      exact ⟨z, u, by rw [upd_ne hb]; exact q1, q2⟩
    rcases List.mem_append.mp hq with hq | hq
    · refine old Q (fun z => ?_) (List.mem_append_left _ hq)
      rw [z] at hq
      exact nd2.1 (List.mem_map.mpr ⟨_, hq, rfl⟩)
    · rcases List.mem_cons.mp hq with hq | hq
      · cases hq
        exact ⟨hS, o, upd_same, hP⟩
      · refine old Q (fun z => ?_) (List.mem_append_right _ (List.mem_cons_of_mem _ hq))
        rw [z] at hq
        exact nd2.2 (List.mem_map.mpr ⟨_, hq, rfl⟩)
  · rw [dme]; exact nd
/-- a mutable object becomes stable -/
theorem Stp.fz {S H : Hp} {A B : SH} {a : Addr} {P : MRep} {o : HO} (e : Same S H) (m : MOk S H (A ++ (a, P) :: B)) (ho : H a = some o) : Stp S H (upd S a o) H (A ++ (a, P) :: B) (A ++ B) := by
  have dme : dm (A ++ (a, P) :: B) = dm A ++ a :: dm B := by simp [dm]
  have dme2 : dm (A ++ B) = dm A ++ dm B := by simp [dm]
  have ha : a ∈ dm (A ++ (a, P) :: B) := by rw [dme]; simp
  obtain ⟨hS, _⟩ := m.mem ha
  have nd := m.nd
  rw [dme] at nd
  have nd2 : a ∉ dm A ∧ a ∉ dm B := by
    rw [List.nodup_append] at nd
    obtain ⟨_, n2, n3⟩ := nd
    exact ⟨fun h => n3 a h a (List.mem_cons_self ..) rfl, (List.nodup_cons.mp n2).1⟩
  have sm : Same S (upd S a o) := fun b u q => by
    have hb : b ≠ a := fun z => by rw [z, hS] at q; cases q
    rw [upd_ne hb]; exact q
  refine ⟨sm, fun b u q => ?_, fun b h1 h2 => ?_, fun _ _ _ q => q, ⟨fun b Q hq => ?_, ?_⟩, fun b hb => .inl ?_⟩
  · by_cases hb : b = a
    · subst hb; rw [upd_same] at q; rw [ho]; exact q
    · rw [upd_ne hb] at q; exact e _ _ q
  · by_cases hb : b = a
    · subst hb; exact .inr ha
    · rw [upd_ne hb] at h2; exact absurd h1 h2
  · have hq' : (b, Q) ∈ A ++ (a, P) :: B := by
      rcases List.mem_append.mp hq with h | h
      · exact List.mem_append_left _ h
      · exact List.mem_append_right _ (List.mem_cons_of_mem _ h)
    have hb : b ≠ a := fun z => by
      rw [z] at hq
      rcases List.mem_append.mp hq with h | h
      · exact nd2.1 (List.mem_map.mpr ⟨_, h, rfl⟩)
      · exact nd2.2 (List.mem_map.mpr ⟨_, h, rfl⟩)
    obtain ⟨z, u, q1, q2⟩ := m.at_ b Q hq'
    exact ⟨by rw [upd_ne hb]; exact z, u, q1, Q.m sm q2⟩
  · rw [dme2]
    rw [List.nodup_append] at nd ⊢
    obtain ⟨n1, n2, n3⟩ := nd
    exact ⟨n1, (List.nodup_cons.mp n2).2, fun x h1 y h2 => n3 x h1 y (List.mem_cons_of_mem _ h2)⟩
  · rw [dme2] at hb
    rw [dme]
    rcases List.mem_append.mp hb with h | h
    · exact List.mem_append_left _ h
    · exact List.mem_append_right _ (List.mem_cons_of_mem _ h)
end L3

namespace L3
open PySem L2

/-! ### exceptions of our own classes: the class, its fields -/
structure XR where
  cls : Addr
  fs : List (Str × Rep)
def XR.p (x : XR) (S : Hp) (cls : Value) (d : Option Addr) : Prop :=
  cls = .ref x.cls ∧ ∃ dd vs, d = some dd ∧ S dd = some (.xd vs) ∧ vs.map (·.1) = x.fs.map (·.1) ∧ All2 S (x.fs.map (·.2)) (vs.map (·.2))
abbrev KR := Rep → SH → Prop
abbrev KX := XR → SH → Prop
def Out (S H : Hp) (M : SH) (K : KR) (Q : VK) : Prop := ∀ v S2 H2 R M2, K R M2 → Stp S H S2 H2 M M2 → R.p S2 v → Q v H2
def OutX (S H : Hp) (M : SH) (X : KX) (E : XK) : Prop := ∀ cls d S2 H2 x M2, X x M2 → Stp S H S2 H2 M M2 → x.p S2 cls d → E cls d H2
theorem Out.step {S H S1 H1 : Hp} {M M1 : SH} {K : KR} {Q : VK} (o : Out S H M K Q) (st : Stp S H S1 H1 M M1) : Out S1 H1 M1 K Q :=
  fun v S2 H2 R M2 k st2 p => o v S2 H2 R M2 k (st.trans st2) p
theorem OutX.step {S H S1 H1 : Hp} {M M1 : SH} {X : KX} {E : XK} (o : OutX S H M X E) (st : Stp S H S1 H1 M M1) : OutX S1 H1 M1 X E :=
  fun c d S2 H2 x M2 k st2 p => o c d S2 H2 x M2 k (st.trans st2) p
abbrev X0 : KX := fun _ _ => False

/-! ### what readings come to -/
def Ev (E : XK) (te : TE) (Γ : Ct) (M : SH) (K : KR) (X : KX) : Prop := ∀ σ S H Q, Nv S H σ Γ M → Out S H M K Q → OutX S H M X E → te σ H Q
def Ep (E : XK) (te : TE) (Γ : Ct) (M : SH) (R : Rep) : Prop := ∀ (K : KR) (X : KX), K R M → Ev E te Γ M K X
def Et (E : XK) (tt : TT) (Γ : Ct) (M : SH) (K : Bool → SH → Prop) (X : KX) : Prop := ∀ σ S H Q, Nv S H σ Γ M → (∀ b S2 H2 M2, K b M2 → Stp S H S2 H2 M M2 → Q b H2) → OutX S H M X E → tt σ H Q
def Etp (E : XK) (tt : TT) (Γ : Ct) (M : SH) (b : Bool) : Prop := ∀ (K : Bool → SH → Prop) (X : KX), K b M → Et E tt Γ M K X
def Ea (E : XK) (ta : TA) (Γ : Ct) (M : SH) (K : List Rep → SH → Prop) (X : KX) : Prop := ∀ σ S H Q, Nv S H σ Γ M → (∀ vs S2 H2 Rs M2, K Rs M2 → Stp S H S2 H2 M M2 → All2 S2 Rs vs → Q vs H2) → OutX S H M X E → ta σ H Q
def Eap (E : XK) (ta : TA) (Γ : Ct) (M : SH) (Rs : List Rep) : Prop := ∀ (K : List Rep → SH → Prop) (X : KX), K Rs M → Ea E ta Γ M K X
/-- by values: two places, one place, a list -/
def O2 (r : R2) (R1 R2 : Rep) (M : SH) (K : KR) : Prop := ∀ x y S H Q, Same S H → MOk S H M → R1.p S x → R2.p S y → Out S H M K Q → r x y H Q
def O2p (r : R2) (R1 R2 : Rep) (M : SH) (R : Rep) : Prop := ∀ K : KR, K R M → O2 r R1 R2 M K
def O1 (r : V → Hp → VK → Prop) (R1 : Rep) (M : SH) (K : KR) : Prop := ∀ x S H Q, Same S H → MOk S H M → R1.p S x → Out S H M K Q → r x H Q
def O1p (r : V → Hp → VK → Prop) (R1 : Rep) (M : SH) (R : Rep) : Prop := ∀ K : KR, K R M → O1 r R1 M K
def Ol (r : List V → Hp → VK → Prop) (Rs : List Rep) (M : SH) (K : KR) : Prop := ∀ xs S H Q, Same S H → MOk S H M → All2 S Rs xs → Out S H M K Q → r xs H Q
def Olp (r : List V → Hp → VK → Prop) (Rs : List Rep) (M : SH) (R : Rep) : Prop := ∀ K : KR, K R M → Ol r Rs M K
/-- a method of a built-in type -/
def Om (r : V → List V → Hp → VK → Prop) (R1 : Rep) (Rs : List Rep) (M : SH) (K : KR) : Prop := ∀ x xs S H Q, Same S H → MOk S H M → R1.p S x → All2 S Rs xs → Out S H M K Q → r x xs H Q
def Omp (r : V → List V → Hp → VK → Prop) (R1 : Rep) (Rs : List Rep) (M : SH) (R : Rep) : Prop := ∀ K : KR, K R M → Om r R1 Rs M K

section
variable {E : XK} {K : PySem.W.Frag} {Γ : Ct} {M : SH} {k : KR} {X : KX} {R R1 R2 : Rep} {te ta tb : TE} {t u : TT} {r : L2.R2}
theorem Ep.ev (h : Ep E te Γ M R) (q : k R M) : Ev E te Γ M k X := h k X q
theorem Etp.et {kb : Bool → SH → Prop} {b : Bool} (h : Etp E t Γ M b) (q : kb b M) : Et E t Γ M kb X := h kb X q
theorem Ep.to (h : Ep E te Γ M R) (e : R = R1) : Ep E te Γ M R1 := e ▸ h
theorem Etp.to {b c : Bool} (h : Etp E t Γ M b) (e : b = c) : Etp E t Γ M c := e ▸ h
theorem Ep.wk (h : Ep E te Γ M R) (e : ∀ S v, R.p S v → R1.p S v) : Ep E te Γ M R1 := fun k X q σ S H Q I o ox =>
  h (fun R' M' => R' = R ∧ M' = M) X ⟨rfl, rfl⟩ σ S H Q I (fun v S2 H2 R' M2 ⟨e1, e2⟩ st p => by
    subst e1; subst e2
    exact o v S2 H2 R1 _ q st (e _ _ p)) ox
theorem Ev.mono {k' : KR} (h : Ev E te Γ M k X) (e : ∀ R M, k R M → k' R M) : Ev E te Γ M k' X := fun σ S H Q I o ox =>
  h σ S H Q I (fun v S2 H2 R M2 q st p => o v S2 H2 R M2 (e _ _ q) st p) ox
theorem Ev.wkX {X' : KX} (h : Ev E te Γ M k X) (e : ∀ x M, X x M → X' x M) : Ev E te Γ M k X' := fun σ S H Q I o ox =>
  h σ S H Q I o fun c d S2 H2 x M2 q st p => ox c d S2 H2 x M2 (e _ _ q) st p
theorem Ep.ctx {Γ' : Ct} (h : Ep E te Γ M R) (hl : Γ'.length = Γ.length) (hw : ∀ (i : Nat) (R : Rep), Γ[i]? = some (some R) → Γ'[i]? = some (some R)) : Ep E te Γ' M R := fun k X q σ S H Q I o ox =>
  h k X q σ S H Q (I.weak hl.symm hw) o ox

/-! ### names, constants -/
theorem ev_var {i : Nat} (h : Γ[i]? = some (some R)) (q : k R M) : Ev E (tVar i) Γ M k X := fun σ S H Q I o _ => by
  obtain ⟨v, h1, h2⟩ := I.sl i R h
  exact ⟨v, h1, o v S H R M q (Stp.refl I.ex I.m) h2⟩
theorem ep_var {i : Nat} (h : Γ[i]? = some (some R)) : Ep E (tVar i) Γ M R := fun _ _ q => ev_var h q
theorem ep_c {v : V} (h : ∀ S, R.p S v) : Ep E (tC v) Γ M R := fun _ _ q σ S H Q I o _ => o v S H R M q (Stp.refl I.ex I.m) (h S)
theorem ep_int {i : Int} : Ep E (tC (.int i)) Γ M (iInt i) := ep_c fun _ => rfl
theorem ep_str {z : Str} : Ep E (tC (.str z)) Γ M (aStr z) := ep_c fun _ => rfl
theorem ep_bl {b : Bool} : Ep E (tC (.bl b)) Γ M (iBl b) := ep_c fun _ => rfl
theorem ep_non : Ep E (tC .non) Γ M iNon := ep_c fun _ => rfl

/-! ### operators -/
theorem ev_op (h : Ev E ta Γ M (fun R1 M1 => Ev E tb Γ M1 (fun R2 M2 => O2 r R1 R2 M2 k) X) X) : Ev E (tOp r ta tb) Γ M k X := fun σ S H Q I o ox =>
  h σ S H _ I (fun x S1 H1 R1 M1 h1 st1 p1 => h1 σ S1 H1 _ (I.step st1) (fun y S2 H2 R2 M2 h2 st2 p2 =>
    h2 x y S2 H2 Q st2.e st2.m (R1.m st2.s p1) p2 (o.step (st1.trans st2))) (ox.step st1)) ox
theorem ep_op (ha : Ep E ta Γ M R1) (hb : Ep E tb Γ M R2) (hr : O2p r R1 R2 M R) : Ep E (tOp r ta tb) Γ M R := fun _ _ q => ev_op (ha _ _ (hb _ _ (hr _ q)))
theorem ev_un {ru : V → Hp → VK → Prop} (h : Ev E ta Γ M (fun R1 M1 => O1 ru R1 M1 k) X) : Ev E (tUn ru ta) Γ M k X := fun σ S H Q I o ox =>
  h σ S H _ I (fun x S1 H1 R1 M1 h1 st1 p1 => h1 x S1 H1 Q st1.e st1.m p1 (o.step st1)) ox
theorem ep_un {ru : V → Hp → VK → Prop} (ha : Ep E ta Γ M R1) (hr : O1p ru R1 M R) : Ep E (tUn ru ta) Γ M R := fun _ _ q => ev_un (ha _ _ (hr _ q))
theorem o2_val (h : ∀ x y S H, Same S H → MOk S H M → R1.p S x → R2.p S y → ∃ v, R.p S v ∧ ∀ Q : VK, Q v H → r x y H Q) : O2p r R1 R2 M R := fun _ q x y S H Q e m h1 h2 o => by
  obtain ⟨v, p, g⟩ := h x y S H e m h1 h2
  exact g Q (o v S H R M q (Stp.refl e m) p)
theorem o1_val {ru : V → Hp → VK → Prop} (h : ∀ x S H, Same S H → MOk S H M → R1.p S x → ∃ v, R.p S v ∧ ∀ Q : VK, Q v H → ru x H Q) : O1p ru R1 M R := fun _ q x S H Q e m h1 o => by
  obtain ⟨v, p, g⟩ := h x S H e m h1
  exact g Q (o v S H R M q (Stp.refl e m) p)
theorem ol_val {rl : List V → Hp → VK → Prop} {Rs : List Rep} (h : ∀ xs S H, Same S H → MOk S H M → All2 S Rs xs → ∃ v, R.p S v ∧ ∀ Q : VK, Q v H → rl xs H Q) : Olp rl Rs M R := fun _ q xs S H Q e m h1 o => by
  obtain ⟨v, p, g⟩ := h xs S H e m h1
  exact g Q (o v S H R M q (Stp.refl e m) p)
theorem om_val {rm : V → List V → Hp → VK → Prop} {Rs : List Rep} (h : ∀ x xs S H, Same S H → MOk S H M → R1.p S x → All2 S Rs xs → ∃ v, R.p S v ∧ ∀ Q : VK, Q v H → rm x xs H Q) : Omp rm R1 Rs M R := fun _ q x xs S H Q e m h1 h2 o => by
  obtain ⟨v, p, g⟩ := h x xs S H e m h1 h2
  exact g Q (o v S H R M q (Stp.refl e m) p)
theorem o_I0 {g : Int → Int → V} {i j : Int} (hR : ∀ S, R.p S (g i j)) : O2p (rI0 g) (iInt i) (iInt j) M R := o2_val fun x y S H _ _ h1 h2 => by
  cases h1; cases h2
  exact ⟨g i j, hR S, fun Q q => ⟨i, j, rfl, rfl, q⟩⟩
theorem o_I {C : Int → Int → Prop} {g : Int → Int → V} {i j : Int} (hc : C i j) (hR : ∀ S, R.p S (g i j)) : O2p (rI C g) (iInt i) (iInt j) M R := o2_val fun x y S H _ _ h1 h2 => by
  cases h1; cases h2
  exact ⟨g i j, hR S, fun Q q => ⟨i, j, rfl, rfl, hc, q⟩⟩
variable {i j : Int}
theorem o_add : O2p (rI0 fun i j => .int (i + j)) (iInt i) (iInt j) M (iInt (i + j)) := o_I0 fun _ => rfl
theorem o_sub : O2p (rI0 fun i j => .int (i - j)) (iInt i) (iInt j) M (iInt (i - j)) := o_I0 fun _ => rfl
theorem o_lt : O2p (rI0 fun i j => .bl (decide (i < j))) (iInt i) (iInt j) M (iBl (decide (i < j))) := o_I0 fun _ => rfl
theorem o_le : O2p (rI0 fun i j => .bl (decide (i ≤ j))) (iInt i) (iInt j) M (iBl (decide (i ≤ j))) := o_I0 fun _ => rfl
theorem o_gt : O2p (rI0 fun i j => .bl (decide (j < i))) (iInt i) (iInt j) M (iBl (decide (j < i))) := o_I0 fun _ => rfl
theorem o_ge : O2p (rI0 fun i j => .bl (decide (j ≤ i))) (iInt i) (iInt j) M (iBl (decide (j ≤ i))) := o_I0 fun _ => rfl
theorem o_mul (hc : CMul i j) : O2p (rI CMul fun i j => .int (i * j)) (iInt i) (iInt j) M (iInt (i * j)) := o_I hc fun _ => rfl
theorem o_mulW (hc : CMulW i j) : O2p (rI CMulW fun i j => .int (i * j)) (iInt i) (iInt j) M (iInt (i * j)) := o_I hc fun _ => rfl
theorem o_fdivW (hc : CDivW i j) : O2p (rI CDivW fun i j => .int (i / j)) (iInt i) (iInt j) M (iInt (i / j)) := o_I hc fun _ => rfl
theorem o_mod (hc : 0 < j) : O2p (rI (fun _ j => 0 < j) fun i j => .int (i % j)) (iInt i) (iInt j) M (iInt (i % j)) := o_I hc fun _ => rfl
theorem o_pow (hc : CPow i j) : O2p (rI CPow fun i j => .int (i ^ j.toNat)) (iInt i) (iInt j) M (iInt (i ^ j.toNat)) := o_I hc fun _ => rfl
theorem o_neg : O1p (rU fun i => .int (-i)) (iInt i) M (iInt (-i)) := o1_val fun x S H _ _ h1 => by
  cases h1
  exact ⟨_, rfl, fun Q q => ⟨i, rfl, q⟩⟩
/-! == and != of flat things -/
theorem o_eqI : O2p rEq (iInt i) (iInt j) M (iBl (decide (i = j))) := o2_val fun x y S H _ _ h1 h2 => by
  cases h1; cases h2
  exact ⟨_, rfl, fun Q q => ⟨rfl, by rw [show decide (V.int i = V.int j) = decide (i = j) by rw [dec_int, Bool.beq_eq_decide_eq]]; exact q⟩⟩
theorem o_neI : O2p rNe (iInt i) (iInt j) M (iBl (!decide (i = j))) := o2_val fun x y S H _ _ h1 h2 => by
  cases h1; cases h2
  exact ⟨_, rfl, fun Q q => ⟨rfl, by rw [show decide (V.int i = V.int j) = decide (i = j) by rw [dec_int, Bool.beq_eq_decide_eq]]; exact q⟩⟩
theorem o_eqS {a b : Str} : O2p rEq (aStr a) (aStr b) M (iBl (decide (a = b))) := o2_val fun x y S H _ _ h1 h2 => by
  cases h1; cases h2
  exact ⟨_, rfl, fun Q q => ⟨rfl, by rw [show decide (V.str a = V.str b) = decide (a = b) by rw [dec_str, Bool.beq_eq_decide_eq]]; exact q⟩⟩
theorem o_neS {a b : Str} : O2p rNe (aStr a) (aStr b) M (iBl (!decide (a = b))) := o2_val fun x y S H _ _ h1 h2 => by
  cases h1; cases h2
  exact ⟨_, rfl, fun Q q => ⟨rfl, by rw [show decide (V.str a = V.str b) = decide (a = b) by rw [dec_str, Bool.beq_eq_decide_eq]]; exact q⟩⟩
theorem o_eqB {a b : Bool} : O2p rEq (iBl a) (iBl b) M (iBl (a == b)) := o2_val fun x y S H _ _ h1 h2 => by
  cases h1; cases h2
  exact ⟨_, rfl, fun Q q => ⟨rfl, by rw [dec_bl]; exact q⟩⟩
theorem o_neB {a b : Bool} : O2p rNe (iBl a) (iBl b) M (iBl (!(a == b))) := o2_val fun x y S H _ _ h1 h2 => by
  cases h1; cases h2
  exact ⟨_, rfl, fun Q q => ⟨rfl, by rw [dec_bl]; exact q⟩⟩
/-! texts -/
theorem o_addS {a b : Str} (h : a.length + b.length ≤ 16000000) : O2p (fun x y H Q => ∃ i j, x = .str i ∧ y = .str j ∧ i.length + j.length ≤ sizeLine ∧ Q (.str (i ++ j)) H) (aStr a) (aStr b) M (aStr (a ++ b)) := o2_val fun x y S H _ _ h1 h2 => by
  cases h1; cases h2
  exact ⟨_, rfl, fun Q q => ⟨a, b, rfl, rfl, by rw [sizeLine_eq]; omega, q⟩⟩
theorem o_inSign {c : Nat} {z : Str} : O2p (fun x y H Q => ∃ (c : Nat) (z : Str), x = .str ⟨#[c]⟩ ∧ y = .str z ∧ Q (.bl (decide (c ∈ z.cps.toList))) H) (aStr ⟨#[c]⟩) (aStr z) M (iBl (decide (c ∈ z.cps.toList))) := o2_val fun x y S H _ _ h1 h2 => by
  cases h1; cases h2
  exact ⟨_, rfl, fun Q q => ⟨c, z, rfl, rfl, q⟩⟩

/-! ### tests -/
theorem et_test {kb : Bool → SH → Prop} (h : Ev E te Γ M (fun R M1 => ∃ b, R = iBl b ∧ kb b M1) X) : Et E (tTest te) Γ M kb X := fun σ S H Q I o ox =>
  h σ S H _ I (fun v S2 H2 R M2 ⟨b, e, q⟩ st p => by
    subst e; cases p
    exact ⟨b, rfl, o b S2 H2 M2 q st⟩) ox
theorem et_tB {kb : Bool → SH → Prop} (h : Ev E te Γ M (fun R M1 => ∃ b, R = iBl b ∧ kb b M1) X) : Et E (tB te) Γ M kb X := fun σ S H Q I o ox =>
  h σ S H _ I (fun v S2 H2 R M2 ⟨b, e, q⟩ st p => by
    subst e; cases p
    exact ⟨b, rfl, o b S2 H2 M2 q st⟩) ox
theorem etp_test {b : Bool} (h : Ep E te Γ M (iBl b)) : Etp E (tTest te) Γ M b := fun _ _ q => et_test (h _ _ ⟨b, rfl, q⟩)
theorem etp_tB {b : Bool} (h : Ep E te Γ M (iBl b)) : Etp E (tB te) Γ M b := fun _ _ q => et_tB (h _ _ ⟨b, rfl, q⟩)
theorem et_and {kb : Bool → SH → Prop} (h : Et E t Γ M (fun b M1 => if b = true then Et E u Γ M1 kb X else kb false M1) X) : Et E (tAnd t u) Γ M kb X := fun σ S H Q I o ox =>
  h σ S H _ I (fun b S2 H2 M2 q st => by
    cases b with
    | true =>
      have q' : Et E u Γ M2 kb X := by simpa using q
      show u σ H2 Q
      exact q' σ S2 H2 Q (I.step st) (fun c S3 H3 M3 q3 st3 => o c S3 H3 M3 q3 (st.trans st3)) (ox.step st)
    | false =>
      have q' : kb false M2 := by simpa using q
      exact o false S2 H2 M2 q' st) ox
theorem et_or {kb : Bool → SH → Prop} (h : Et E t Γ M (fun b M1 => if b = true then kb true M1 else Et E u Γ M1 kb X) X) : Et E (tOr t u) Γ M kb X := fun σ S H Q I o ox =>
  h σ S H _ I (fun b S2 H2 M2 q st => by
    cases b with
    | false =>
      have q' : Et E u Γ M2 kb X := by simpa using q
      show u σ H2 Q
      exact q' σ S2 H2 Q (I.step st) (fun c S3 H3 M3 q3 st3 => o c S3 H3 M3 q3 (st.trans st3)) (ox.step st)
    | true =>
      have q' : kb true M2 := by simpa using q
      exact o true S2 H2 M2 q' st) ox
theorem et_not {kb : Bool → SH → Prop} (h : Et E t Γ M (fun b M1 => kb (!b) M1) X) : Et E (tNot t) Γ M kb X := fun σ S H Q I o ox =>
  h σ S H _ I (fun b S2 H2 M2 q st => o (!b) S2 H2 M2 q st) ox
theorem etp_and {a b : Bool} (h1 : Etp E t Γ M a) (h2 : a = true → Etp E u Γ M b) : Etp E (tAnd t u) Γ M (a && b) := fun _ _ q => et_and (h1 _ _ (by
  cases a with
  | true => simpa using h2 rfl _ _ q
  | false => simpa using q))
theorem etp_or {a b : Bool} (h1 : Etp E t Γ M a) (h2 : a = false → Etp E u Γ M b) : Etp E (tOr t u) Γ M (a || b) := fun _ _ q => et_or (h1 _ _ (by
  cases a with
  | false => simpa using h2 rfl _ _ q
  | true => simpa using q))
theorem etp_not {a : Bool} (h1 : Etp E t Γ M a) : Etp E (tNot t) Γ M (!a) := fun _ _ q => et_not (h1 _ _ q)
/-! and, or, not as values -/
theorem ev_andV (h : Ev E ta Γ M (fun R M1 => ∃ b, R = iBl b ∧ if b = true then Ev E tb Γ M1 k X else k (iBl false) M1) X) : Ev E (tAndV ta tb) Γ M k X := fun σ S H Q I o ox =>
  h σ S H _ I (fun v S2 H2 R M2 ⟨b, e, q⟩ st p => by
    subst e; cases p
    refine ⟨b, rfl, ?_⟩
    cases b with
    | true =>
      have q' : Ev E tb Γ M2 k X := by simpa using q
      show tb σ H2 Q
      exact q' σ S2 H2 Q (I.step st) (o.step st) (ox.step st)
    | false =>
      have q' : k (iBl false) M2 := by simpa using q
      exact o _ S2 H2 (iBl false) M2 q' st rfl) ox
theorem ev_orV (h : Ev E ta Γ M (fun R M1 => ∃ b, R = iBl b ∧ if b = true then k (iBl true) M1 else Ev E tb Γ M1 k X) X) : Ev E (tOrV ta tb) Γ M k X := fun σ S H Q I o ox =>
  h σ S H _ I (fun v S2 H2 R M2 ⟨b, e, q⟩ st p => by
    subst e; cases p
    refine ⟨b, rfl, ?_⟩
    cases b with
    | false =>
      have q' : Ev E tb Γ M2 k X := by simpa using q
      show tb σ H2 Q
      exact q' σ S2 H2 Q (I.step st) (o.step st) (ox.step st)
    | true =>
      have q' : k (iBl true) M2 := by simpa using q
      exact o _ S2 H2 (iBl true) M2 q' st rfl) ox
theorem ep_andV {a b : Bool} (h1 : Ep E ta Γ M (iBl a)) (h2 : a = true → Ep E tb Γ M (iBl b)) : Ep E (tAndV ta tb) Γ M (iBl (a && b)) := fun _ _ q => ev_andV (h1 _ _ ⟨a, rfl, by
  cases a with
  | true => simpa using h2 rfl _ _ q
  | false => simpa using q⟩)
theorem ep_orV {a b : Bool} (h1 : Ep E ta Γ M (iBl a)) (h2 : a = false → Ep E tb Γ M (iBl b)) : Ep E (tOrV ta tb) Γ M (iBl (a || b)) := fun _ _ q => ev_orV (h1 _ _ ⟨a, rfl, by
  cases a with
  | false => simpa using h2 rfl _ _ q
  | true => simpa using q⟩)
theorem ep_notV {a : Bool} (h1 : Ep E ta Γ M (iBl a)) : Ep E (tNotV ta) Γ M (iBl (!a)) := fun k X q σ S H Q I o ox =>
  h1 (fun R' M' => R' = iBl a ∧ M' = M) X ⟨rfl, rfl⟩ σ S H _ I (fun v S2 H2 R M2 ⟨e1, e2⟩ st p => by
    subst e1; subst e2; cases p
    exact ⟨a, rfl, o _ S2 H2 (iBl (!a)) _ q st rfl⟩) ox
theorem ev_if (h : Et E t Γ M (fun b M1 => if b = true then Ev E ta Γ M1 k X else Ev E tb Γ M1 k X) X) : Ev E (tIf t ta tb) Γ M k X := fun σ S H Q I o ox =>
  h σ S H _ I (fun b S2 H2 M2 q st => by
    cases b with
    | true =>
      have q' : Ev E ta Γ M2 k X := by simpa using q
      show ta σ H2 Q
      exact q' σ S2 H2 Q (I.step st) (o.step st) (ox.step st)
    | false =>
      have q' : Ev E tb Γ M2 k X := by simpa using q
      show tb σ H2 Q
      exact q' σ S2 H2 Q (I.step st) (o.step st) (ox.step st)) ox
theorem ep_if {b : Bool} (h : Etp E t Γ M b) (h1 : b = true → Ep E ta Γ M R) (h2 : b = false → Ep E tb Γ M R) : Ep E (tIf t ta tb) Γ M R := fun _ _ q => ev_if (h _ _ (by
  cases b with
  | true => simpa using h1 rfl _ _ q
  | false => simpa using h2 rfl _ _ q))
/-- a chain a op b op' c -/
theorem ev_chain {r' : L2.R2} {tc : TE} (h : Ev E ta Γ M (fun R1 M1 => Ev E tb Γ M1 (fun R2 M2 => O2 r R1 R2 M2 fun R3 M3 => ∃ b, R3 = iBl b ∧ if b = true then Ev E tc Γ M3 (fun R4 M4 => O2 r' R2 R4 M4 k) X else k (iBl false) M3) X) X) : Ev E (tChain r r' ta tb tc) Γ M k X := fun σ S H Q I o ox =>
  h σ S H _ I (fun x S1 H1 R1 M1 h1 st1 p1 => h1 σ S1 H1 _ (I.step st1) (fun y S2 H2 R2 M2 h2 st2 p2 =>
    h2 x y S2 H2 _ st2.e st2.m (R1.m st2.s p1) p2 fun z S3 H3 R3 M3 ⟨b, e, q⟩ st3 p3 => by
      subst e; cases p3
      refine ⟨b, rfl, ?_⟩
      have s3 := (st1.trans st2).trans st3
      cases b with
      | true =>
        have q' : Ev E tc Γ M3 (fun R4 M4 => O2 r' R2 R4 M4 k) X := by simpa using q
        rw [if_pos rfl]
        exact q' σ S3 H3 _ (I.step s3) (fun w S4 H4 R4 M4 h4 st4 p4 => h4 y w S4 H4 Q st4.e st4.m (R2.m (st3.s.trans st4.s) p2) p4 (o.step (s3.trans st4))) (ox.step s3)
      | false =>
        have q' : k (iBl false) M3 := by simpa using q
        rw [if_neg Bool.false_ne_true]
        exact o _ S3 H3 (iBl false) M3 q' s3 rfl) (ox.step st1)) ox
theorem ep_chain {r' : L2.R2} {tc : TE} {R4 : Rep} {a b : Bool} (ha : Ep E ta Γ M R1) (hb : Ep E tb Γ M R2) (hr : O2p r R1 R2 M (iBl a)) (hc : a = true → Ep E tc Γ M R4) (hr' : a = true → O2p r' R2 R4 M (iBl b)) : Ep E (tChain r r' ta tb tc) Γ M (iBl (a && b)) := fun _ _ q =>
  ev_chain (ha _ _ (hb _ _ (hr _ ⟨a, rfl, by
    cases a with
    | true => simpa using hc rfl _ _ (hr' rfl _ q)
    | false => simpa using q⟩)))

/-! ### arguments -/
variable {tr : TA} {Rs : List Rep}
theorem ea_nil {ka : List Rep → SH → Prop} (q : ka [] M) : Ea E tNil Γ M ka X := fun σ S H Q I o _ => o [] S H [] M q (Stp.refl I.ex I.m) True.intro
theorem ea_cons {ka : List Rep → SH → Prop} (h : Ev E ta Γ M (fun R M1 => Ea E tr Γ M1 (fun Rs M2 => ka (R :: Rs) M2) X) X) : Ea E (tCons ta tr) Γ M ka X := fun σ S H Q I o ox =>
  h σ S H _ I (fun x S1 H1 R1 M1 h1 st1 p1 => h1 σ S1 H1 _ (I.step st1) (fun xs S2 H2 Rs M2 h2 st2 p2 => o (x :: xs) S2 H2 (R1 :: Rs) M2 h2 (st1.trans st2) ⟨R1.m st2.s p1, p2⟩) (ox.step st1)) ox
theorem eap_nil : Eap E tNil Γ M [] := fun _ _ q => ea_nil q
theorem eap_cons (h : Ep E ta Γ M R) (h2 : Eap E tr Γ M Rs) : Eap E (tCons ta tr) Γ M (R :: Rs) := fun _ _ q => ea_cons (h _ _ (h2 _ _ q))
/-! displays -/
theorem sz_le {n : Nat} (h : n ≤ 1000000) : n ≤ sizeLine := by rw [sizeLine_eq]; omega
theorem sz_lt {n : Nat} (h : n ≤ 1000000) : n < sizeLine := by rw [sizeLine_eq]; omega
theorem ev_lst (h : Ea E tr Γ M (fun Rs M1 => Rs.length ≤ 1000000 ∧ k (iLst Rs) M1) X) : Ev E (tLst tr) Γ M k X := fun σ S H Q I o ox =>
  h σ S H _ I (fun xs S1 H1 Rs M1 ⟨hl, q⟩ st p => ⟨sz_le (by rw [p.len]; exact hl), fun a ha => o (.ref a) (upd S1 a (.lst xs)) _ (iLst Rs) M1 q (st.trans (Stp.newS st.e st.m ha))
    ⟨a, xs, rfl, upd_same, p.mono (Same.newS (Same.refl _) (st.e.free ha))⟩⟩) ox
theorem ep_lst (h : Eap E tr Γ M Rs) (hl : Rs.length ≤ 1000000) : Ep E (tLst tr) Γ M (iLst Rs) := fun _ _ q => ev_lst (h _ _ ⟨hl, q⟩)
theorem ev_tup (h : Ea E tr Γ M (fun Rs M1 => Rs.length ≤ 1000000 ∧ k (aTup K Rs) M1) X) : Ev E (tTup tr) Γ M k X := fun σ S H Q I o ox =>
  h σ S H _ I (fun xs S1 H1 Rs M1 ⟨hl, q⟩ st p => ⟨sz_le (by rw [p.len]; exact hl), fun a ha => o (.ref a) (upd S1 a (.tup xs)) _ (aTup K Rs) M1 q (st.trans (Stp.newS st.e st.m ha))
    ⟨a, xs, rfl, SqT.of upd_same, p.mono (Same.newS (Same.refl _) (st.e.free ha))⟩⟩) ox
theorem ep_tup (h : Eap E tr Γ M Rs) (hl : Rs.length ≤ 1000000) : Ep E (tTup tr) Γ M (aTup K Rs) := fun _ _ q => ev_tup (h _ _ ⟨hl, q⟩)
/-- a list that is to be changed -/
theorem ev_lstM (h : Ea E tr Γ M (fun Rs M1 => Rs.length ≤ 1000000 ∧ ∀ a, k (iRef a) (M1 ++ [(a, mLst Rs)])) X) : Ev E (tLst tr) Γ M k X := fun σ S H Q I o ox =>
  h σ S H _ I (fun xs S1 H1 Rs M1 ⟨hl, q⟩ st p => ⟨sz_le (by rw [p.len]; exact hl), fun a ha => o (.ref a) S1 _ (iRef a) _ (q a) (st.trans (Stp.newM st.e st.m ha ⟨xs, rfl, p⟩)) rfl⟩) ox

/-! ### subscripts -/
theorem atI_map {α β : Type} {f : α → β} {l : List α} {i : Int} {x : α} (h : atI l i = some x) : atI (l.map f) i = some (f x) := by
  obtain ⟨j, h1, h2, h3, h4, h5⟩ := atI_get h
  unfold atI at h ⊢
  rw [List.length_map]
  cases e : ixN l.length i with
  | none => rw [e] at h; cases h
  | some j' =>
    rw [e] at h
    have h' : l[j']? = some x := h
    show (l.map f)[j']? = some (f x)
    rw [List.getElem?_map, h']
    rfl
theorem All2.atI {S : Hp} {rs : List Rep} {vs : List V} (p : All2 S rs vs) {i : Int} {r : Rep} (h : L2.atI rs i = some r) : ∃ v, L2.atI vs i = some v ∧ r.p S v := by
  unfold L2.atI at h ⊢
  rw [p.len]
  cases e : ixN rs.length i with
  | none => rw [e] at h; cases h
  | some j =>
    rw [e] at h
    obtain ⟨v, h1, h2⟩ := p.get (i := j) h
    exact ⟨v, h1, h2⟩
theorem o_ixL {rs : List Rep} (h : atI rs i = some R) : O2p (rIxL K) (iLst rs) (iInt i) M R := o2_val fun x y S H e _ h1 h2 => by
  obtain ⟨a, xs, rfl, q1, q2⟩ := h1
  cases h2
  obtain ⟨v, h3, h4⟩ := q2.atI h
  exact ⟨v, h4, fun Q q => ⟨a, xs, i, v, rfl, rfl, SqL.of (e _ _ q1), h3, q⟩⟩
theorem o_ixT {rs : List Rep} (h : atI rs i = some R) : O2p (rIxT K) (aTup K rs) (iInt i) M R := o2_val fun x y S H e _ h1 h2 => by
  obtain ⟨a, xs, rfl, q1, q2⟩ := h1
  cases h2
  obtain ⟨v, h3, h4⟩ := q2.atI h
  exact ⟨v, h4, fun Q q => ⟨a, xs, i, v, rfl, rfl, Same.sqt e q1, h3, q⟩⟩
theorem o_ixS {z : Str} {c : Nat} (hz : z.length ≤ 1000000) (h : atI z.cps.toList i = some c) : O2p rIxS (aStr z) (iInt i) M (aStr ⟨#[c]⟩) := o2_val fun x y S H e _ h1 h2 => by
  cases h1; cases h2
  exact ⟨_, rfl, fun Q q => ⟨z, i, c, rfl, rfl, sz_le hz, h, q⟩⟩
theorem o_ixM {a : Addr} {rs : List Rep} (hm : (a, mLst rs) ∈ M) (h : atI rs i = some R) : O2p (rIxL K) (iRef a) (iInt i) M R := o2_val fun x y S H e m h1 h2 => by
  cases h1; cases h2
  obtain ⟨_, o, ho, xs, rfl, q2⟩ := m.at_ _ _ hm
  obtain ⟨v, h3, h4⟩ := q2.atI h
  exact ⟨v, h4, fun Q q => ⟨a, xs, i, v, rfl, rfl, SqL.of ho, h3, q⟩⟩
theorem o_or1 {r r' : L2.R2} (h : O2p r R1 R2 M R) : O2p (fun x y H Q => r x y H Q ∨ r' x y H Q) R1 R2 M R := fun k q x y S H Q e m h1 h2 o => .inl (h k q x y S H Q e m h1 h2 o)
theorem o_or2 {r r' : L2.R2} (h : O2p r' R1 R2 M R) : O2p (fun x y H Q => r x y H Q ∨ r' x y H Q) R1 R2 M R := fun k q x y S H Q e m h1 h2 o => .inr (h k q x y S H Q e m h1 h2 o)

/-! ### built-ins by name -/
theorem ev_cb {rl : List V → Hp → VK → Prop} (h : Ea E tr Γ M (fun Rs M1 => Ol rl Rs M1 k) X) : Ev E (tCB rl tr) Γ M k X := fun σ S H Q I o ox =>
  h σ S H _ I (fun xs S1 H1 Rs M1 h1 st p => h1 xs S1 H1 Q st.e st.m p (o.step st)) ox
theorem ep_cb {rl : List V → Hp → VK → Prop} (h : Eap E tr Γ M Rs) (hr : Olp rl Rs M R) : Ep E (tCB rl tr) Γ M R := fun _ _ q => ev_cb (h _ _ (hr _ q))
def rLn (K : PySem.W.Frag) : List V → Hp → VK → Prop := fun xs H Q => ∃ x n, xs = [x] ∧ LenV K x H n ∧ Q (.int n) H
theorem all2_1 {S : Hp} {R : Rep} {xs : List V} (h : All2 S [R] xs) : ∃ v, xs = [v] ∧ R.p S v := by
  match xs, h with
  | [v], h => exact ⟨v, rfl, h.1⟩
  | [], h => exact h.elim
  | _ :: _ :: _, h => exact h.2.elim
theorem all2_2 {S : Hp} {R R' : Rep} {xs : List V} (h : All2 S [R, R'] xs) : ∃ v w, xs = [v, w] ∧ R.p S v ∧ R'.p S w := by
  match xs, h with
  | [v, w], h => exact ⟨v, w, rfl, h.1, h.2.1⟩
  | [], h => exact h.elim
  | [_], h => exact h.2.elim
  | _ :: _ :: _ :: _, h => exact h.2.2.elim
theorem c_lenL {rs : List Rep} : Olp (rLn K) [iLst rs] M (iInt rs.length) := ol_val fun xs S H e _ h => by
  obtain ⟨v, rfl, a, ys, rfl, q1, q2⟩ := all2_1 h
  exact ⟨.int rs.length, rfl, fun Q q => ⟨_, rs.length, rfl, .inl ⟨ys, SqL.of (e _ _ q1), q2.len.symm⟩, q⟩⟩
theorem c_lenT {rs : List Rep} : Olp (rLn K) [aTup K rs] M (iInt rs.length) := ol_val fun xs S H e _ h => by
  obtain ⟨v, rfl, a, ys, rfl, q1, q2⟩ := all2_1 h
  exact ⟨.int rs.length, rfl, fun Q q => ⟨_, rs.length, rfl, .inr ⟨ys, Same.sqt e q1, q2.len.symm⟩, q⟩⟩
theorem c_lenS {z : Str} (hz : z.length ≤ 1000000) : Olp (rLn K) [aStr z] M (iInt z.length) := ol_val fun xs S H e _ h => by
  obtain ⟨v, rfl, h1⟩ := all2_1 h
  cases h1
  exact ⟨_, rfl, fun Q q => ⟨_, z.length, rfl, ⟨sz_le hz, rfl⟩, q⟩⟩
theorem c_lenM {a : Addr} {rs : List Rep} (hm : (a, mLst rs) ∈ M) : Olp (rLn K) [iRef a] M (iInt rs.length) := ol_val fun xs S H e m h => by
  obtain ⟨v, rfl, h1⟩ := all2_1 h
  cases h1
  obtain ⟨_, o, ho, ys, rfl, q2⟩ := m.at_ _ _ hm
  exact ⟨_, rfl, fun Q q => ⟨_, rs.length, rfl, .inl ⟨ys, SqL.of ho, q2.len.symm⟩, q⟩⟩
theorem c_max2 : Olp (fun xs H Q => ∃ i j, xs = [.int i, .int j] ∧ Q (.int (if j > i then j else i)) H) [iInt i, iInt j] M (iInt (max i j)) := ol_val fun xs S H e _ h => by
  obtain ⟨v, w, rfl, h1, h2⟩ := all2_2 h
  cases h1; cases h2
  refine ⟨_, rfl, fun Q q => ⟨i, j, rfl, ?_⟩⟩
  have : (if j > i then j else i) = max i j := by
    split <;> omega
  rw [this]
  exact q
end
end L3

namespace L3
open PySem L2

/-! ### statements -/
structure EndT where
  nx : Ct → SH → Prop
  rt : KR
  bk : Ct → SH → Prop := fun _ _ => False
  ct : Ct → SH → Prop := fun _ _ => False
  ex : KX := X0
abbrev KC := Ct → SH → Prop
def OutS (S H : Hp) (M : SH) (k : KC) (q : L2.St → Hp → Prop) : Prop := ∀ σ2 S2 H2 Γ2 M2, k Γ2 M2 → Stp S H S2 H2 M M2 → Nv S2 H2 σ2 Γ2 M2 → q σ2 H2
theorem OutS.step {S H S1 H1 : Hp} {M M1 : SH} {k : KC} {q : L2.St → Hp → Prop} (o : OutS S H M k q) (st : Stp S H S1 H1 M M1) : OutS S1 H1 M1 k q :=
  fun σ2 S2 H2 Γ2 M2 a st2 I => o σ2 S2 H2 Γ2 M2 a (st.trans st2) I
structure EndOk (S H : Hp) (M : SH) (D : EndT) (D0 : Ends) (E : XK) : Prop where
  nx : OutS S H M D.nx D0.nx
  rt : Out S H M D.rt D0.rt
  bk : OutS S H M D.bk D0.bk
  ct : OutS S H M D.ct D0.ct
  ex : OutX S H M D.ex E
theorem EndOk.step {S H S1 H1 : Hp} {M M1 : SH} {D : EndT} {D0 : Ends} {E : XK} (o : EndOk S H M D D0 E) (st : Stp S H S1 H1 M M1) : EndOk S1 H1 M1 D D0 E :=
  ⟨o.nx.step st, o.rt.step st, o.bk.step st, o.ct.step st, o.ex.step st⟩
def St (E : XK) (t : TS) (Γ : Ct) (M : SH) (D : EndT) : Prop := ∀ σ S H D0, Nv S H σ Γ M → EndOk S H M D D0 E → t D0 σ H

/-! ### targets -/
def Tg (g : TG) (R : Rep) (Γ : Ct) (M : SH) (vs : List Nat) (k : KC) : Prop := ∀ v σ S H Q, Nv S H σ Γ M → R.p S v → (∀ σ2 S2 H2 Γ2 M2, k Γ2 M2 → Stp S H S2 H2 M M2 → Nv S2 H2 σ2 Γ2 M2 → (vs ≠ [] → wipe σ2 vs = wipe σ vs) → Q σ2 H2) → g v σ H Q
def Tgs (g : TGs) (Rs : List Rep) (Γ : Ct) (M : SH) (vs : List Nat) (k : KC) : Prop := ∀ xs σ S H Q, Nv S H σ Γ M → All2 S Rs xs → (∀ σ2 S2 H2 Γ2 M2, k Γ2 M2 → Stp S H S2 H2 M M2 → Nv S2 H2 σ2 Γ2 M2 → (vs ≠ [] → wipe σ2 vs = wipe σ vs) → Q σ2 H2) → g xs σ H Q
theorem wipe_set {σ : L2.St} {j : Nat} {x : Option V} : ∀ {vs : List Nat}, j ∈ vs → wipe (σ.set j x) vs = wipe σ vs
  | [], h => by cases h
  | v :: vs, h => by
    unfold wipe
    by_cases hv : j = v
    · subst hv
      by_cases h2 : j ∈ vs
      · rw [wipe_set h2]
      · have aux : ∀ {vs : List Nat}, j ∉ vs → wipe (σ.set j x) vs = (wipe σ vs).set j x := by
          intro vs
          induction vs with
          | nil => intro _; rfl
          | cons w ws ih =>
            intro hn
            unfold wipe
            rw [ih fun z => hn (List.mem_cons_of_mem _ z), List.set_comm _ _ (fun z => hn (by rw [z]; exact List.mem_cons_self ..))]
        rw [aux h2, List.set_set]
    · rcases List.mem_cons.mp h with e | h
      · exact absurd e hv
      · rw [wipe_set h]
section
variable {E : XK} {K : PySem.W.Frag} {Γ : Ct} {M : SH} {k : KC} {X : KX} {R R1 R2 : Rep} {te ta tb : TE} {vs : List Nat} {D : EndT} {t u : TS} {c : TT}
theorem tg_name {j : Nat} (q : k (Γ.set j (some R)) M) (hj : vs = [] ∨ j ∈ vs := by first | exact .inl rfl | exact .inr (by decide)) : Tg (gName j) R Γ M vs k := fun v σ S H Q I p o =>
  o _ S H _ M q (Stp.refl I.ex I.m) (I.set j p) fun hv => wipe_set (hj.resolve_left hv)
theorem tgs_nil (q : k Γ M) : Tgs gNil [] Γ M vs k := fun xs σ S H Q I p o => by
  match xs, p with
  | [], _ => exact ⟨rfl, o σ S H Γ M q (Stp.refl I.ex I.m) I fun _ => rfl⟩
  | _ :: _, p => exact p.elim
theorem tgs_cons {g : TG} {gs : TGs} {Rs : List Rep} (h : Tg g R Γ M vs fun Γ1 M1 => Tgs gs Rs Γ1 M1 vs k) : Tgs (gCons g gs) (R :: Rs) Γ M vs k := fun xs σ S H Q I p o => by
  match xs, p with
  | [], p => exact p.elim
  | x :: xs, p =>
    refine ⟨x, xs, rfl, h x σ S H _ I p.1 fun σ1 S1 H1 Γ1 M1 q st I1 w1 => q xs σ1 S1 H1 Q I1 (All2.mono st.s p.2) fun σ2 S2 H2 Γ2 M2 q2 st2 I2 w2 => o σ2 S2 H2 Γ2 M2 q2 (st.trans st2) I2 fun z => (w2 z).trans (w1 z)⟩
theorem tg_tup {gs : TGs} {Rs : List Rep} {n : Nat} (hn : Rs.length = n) (h : Tgs gs Rs Γ M vs k) : Tg (gTup K n gs) (aTup K Rs) Γ M vs k := fun v σ S H Q I p o => by
  obtain ⟨a, xs, rfl, q1, q2⟩ := p
  exact ⟨a, xs, rfl, Same.sqt I.ex q1, by rw [q2.len]; exact hn, h xs σ S H Q I q2 o⟩

/-! ### simple statements -/
theorem st_seq (h : St E t Γ M { D with nx := fun Γ1 M1 => St E u Γ1 M1 D }) : St E (tSeq t u) Γ M D := fun σ S H D0 I o =>
  h σ S H { D0 with nx := u D0 } I ⟨fun σ2 S2 H2 Γ2 M2 q st I2 => q σ2 S2 H2 D0 I2 (o.step st), o.rt, o.bk, o.ct, o.ex⟩
theorem st_next (q : D.nx Γ M) : St E tNext Γ M D := fun σ S H D0 I o => o.nx σ S H Γ M q (Stp.refl I.ex I.m) I
theorem st_brk (q : D.bk Γ M) : St E tBreak Γ M D := fun σ S H D0 I o => o.bk σ S H Γ M q (Stp.refl I.ex I.m) I
theorem st_cont (q : D.ct Γ M) : St E tCont Γ M D := fun σ S H D0 I o => o.ct σ S H Γ M q (Stp.refl I.ex I.m) I
theorem st_asg {j : Nat} (h : Ev E te Γ M (fun R M1 => D.nx (Γ.set j (some R)) M1) D.ex) : St E (tAsg te (gName j)) Γ M D := fun σ S H D0 I o =>
  h σ S H _ I (fun v S2 H2 R M2 q st p => o.nx _ S2 H2 _ M2 q st ((I.step st).set j p)) o.ex
/-- any target -/
theorem st_asgT {g : TG} (h : Ev E te Γ M (fun R M1 => Tg g R Γ M1 vs D.nx) D.ex) : St E (tAsg te g) Γ M D := fun σ S H D0 I o =>
  h σ S H _ I (fun v S2 H2 R M2 q st p => q v σ S2 H2 _ (I.step st) p fun σ3 S3 H3 Γ3 M3 q3 st3 I3 _ => o.nx σ3 S3 H3 Γ3 M3 q3 (st.trans st3) I3) o.ex
theorem st_drop (h : Ev E te Γ M (fun _ M1 => D.nx Γ M1) D.ex) : St E (tDrop te) Γ M D := fun σ S H D0 I o =>
  h σ S H _ I (fun v S2 H2 R M2 q st p => o.nx σ S2 H2 Γ M2 q st (I.step st)) o.ex
theorem st_ret (h : Ev E te Γ M D.rt D.ex) : St E (tRet te) Γ M D := fun σ S H D0 I o => h σ S H _ I o.rt o.ex
theorem st_retN (h : D.rt iNon M) : St E tRetN Γ M D := fun σ S H D0 I o => o.rt .non S H iNon M h (Stp.refl I.ex I.m) rfl
theorem st_if (h : Et E c Γ M (fun b M1 => if b = true then St E t Γ M1 D else St E u Γ M1 D) D.ex) : St E (tIfS c t u) Γ M D := fun σ S H D0 I o =>
  h σ S H _ I (fun b S2 H2 M2 q st => by
    cases b with
    | true =>
      have q' : St E t Γ M2 D := by simpa using q
      exact q' σ S2 H2 D0 (I.step st) (o.step st)
    | false =>
      have q' : St E u Γ M2 D := by simpa using q
      exact q' σ S2 H2 D0 (I.step st) (o.step st)) o.ex
theorem st_ifp {b : Bool} (h : Etp E c Γ M b) (h1 : b = true → St E t Γ M D) (h2 : b = false → St E u Γ M D) : St E (tIfS c t u) Γ M D := st_if (h _ _ (by
  cases b with
  | true => simpa using h1 rfl
  | false => simpa using h2 rfl))
theorem st_par {i j : Nat} {ta : TA} (h : Ea E ta Γ M (fun Rs M1 => ∃ R1 R2, Rs = [R1, R2] ∧ D.nx ((Γ.set i (some R1)).set j (some R2)) M1) D.ex) : St E (tPar i j ta) Γ M D := fun σ S H D0 I o =>
  h σ S H _ I (fun xs S2 H2 Rs M2 ⟨R1, R2, e, q⟩ st p => by
    subst e
    obtain ⟨v, w, rfl, p1, p2⟩ := all2_2 p
    exact ⟨v, w, rfl, o.nx _ S2 H2 _ M2 q st (((I.step st).set i p1).set j p2)⟩) o.ex
theorem st_never {D : EndT} (h : False) : St E tNever Γ M D := h.elim
/-- a word between a statement and the rest -/
theorem st_mono {D' : EndT} (h : St E t Γ M D') (h1 : ∀ Γ M, D'.nx Γ M → D.nx Γ M) (h2 : ∀ R M, D'.rt R M → D.rt R M) (h3 : ∀ Γ M, D'.bk Γ M → D.bk Γ M) (h4 : ∀ Γ M, D'.ct Γ M → D.ct Γ M) (h5 : ∀ x M, D'.ex x M → D.ex x M) : St E t Γ M D := fun σ S H D0 I o =>
  h σ S H D0 I ⟨fun a b c d e q => o.nx a b c d e (h1 _ _ q), fun a b c d e q => o.rt a b c d e (h2 _ _ q), fun a b c d e q => o.bk a b c d e (h3 _ _ q), fun a b c d e q => o.ct a b c d e (h4 _ _ q), fun a b c d e f q => o.ex a b c d e f (h5 _ _ q)⟩
theorem st_cut (J : KC) (h : St E t Γ M { D with nx := J }) (h2 : ∀ Γ1 M1, J Γ1 M1 → St E u Γ1 M1 D) : St E (tSeq t u) Γ M D :=
  st_seq (st_mono h (fun Γ1 M1 q => h2 Γ1 M1 q) (fun _ _ q => q) (fun _ _ q => q) (fun _ _ q => q) (fun _ _ q => q))
/-- what is known of slots may be forgotten -/
theorem st_ctx {Γ' : Ct} (h : St E t Γ M D) (hl : Γ'.length = Γ.length) (hw : ∀ (i : Nat) (R : Rep), Γ[i]? = some (some R) → Γ'[i]? = some (some R)) : St E t Γ' M D := fun σ S H D0 I o =>
  h σ S H D0 (I.weak hl.symm hw) o

/-! ### what is walked -/
def TW (J : It) (n : Nat) (S1 : Hp) (rs : Nat → Rep → Prop) : Prop := ∃ G Y, Walk J n G Y ∧ (∀ Sx H, Same S1 Sx → Same Sx H → G H) ∧
  ∀ i H x H', i < n → Y i H x H' → ∀ Sx Mx, Same S1 Sx → Same Sx H → MOk Sx H Mx → ∃ S' r, Stp Sx H S' H' Mx Mx ∧ rs i r ∧ r.p S' x
def Ti (E : XK) (wi : TI) (Γ : Ct) (M : SH) (k : Nat → (Nat → Rep → Prop) → SH → Prop) (X : KX) : Prop := ∀ σ S H R, Nv S H σ Γ M → (∀ J S1 H1 n rs M1, k n rs M1 → Stp S H S1 H1 M M1 → TW J n S1 rs → R J H1) → OutX S H M X E → wi σ H R
def Tip (E : XK) (wi : TI) (Γ : Ct) (M : SH) (n : Nat) (rs : Nat → Rep → Prop) : Prop := ∀ (k : Nat → (Nat → Rep → Prop) → SH → Prop) (X : KX), k n rs M → Ti E wi Γ M k X
theorem tw_list {S1 : Hp} {a : Addr} {xs : List V} {rl : List Rep} (h : S1 a = some (.lst xs)) (p : All2 S1 rl xs) : TW (Itl K a) rl.length S1 (fun i r => rl[i]? = some r) := by
  refine ⟨_, _, by have w := walk_list (K := K) (a := a) (xs := xs); rw [p.len] at w; exact w, fun Sx H e1 e2 => SqL.of ((e1.trans e2) _ _ h), fun i H x H' hi y Sx Mx e1 e2 m => ?_⟩
  obtain ⟨rfl, hx⟩ := y
  obtain ⟨r, h1, h2⟩ := p.getV hx
  exact ⟨Sx, r, Stp.refl e2 m, h1, r.m e1 h2⟩
theorem tw_tup {S1 : Hp} {a : Addr} {xs : List V} {rl : List Rep} (h : SqT K S1 a xs) (p : All2 S1 rl xs) : TW (Itt K a) rl.length S1 (fun i r => rl[i]? = some r) := by
  refine ⟨_, _, by have w := walk_tup (K := K) (a := a) (xs := xs); rw [p.len] at w; exact w, fun Sx H e1 e2 => Same.sqt (e1.trans e2) h, fun i H x H' hi y Sx Mx e1 e2 m => ?_⟩
  obtain ⟨rfl, hx⟩ := y
  obtain ⟨r, h1, h2⟩ := p.getV hx
  exact ⟨Sx, r, Stp.refl e2 m, h1, r.m e1 h2⟩
theorem tw_range {S1 : Hp} {lo : Int} {n : Nat} : TW (Itr lo n) n S1 (fun i r => r = iInt (lo + (i : Nat))) :=
  ⟨_, _, walk_range, fun _ _ _ _ => True.intro, fun i H x H' hi y Sx Mx e1 e2 m => by
    obtain ⟨rfl, rfl⟩ := y
    exact ⟨Sx, _, Stp.refl e2 m, rfl, rfl⟩⟩
theorem tw_str {S1 : Hp} {z : Str} : TW (Its z) z.cps.size S1 (fun i r => ∃ c, z.cps[i]? = some c ∧ r = aStr ⟨#[c]⟩) :=
  ⟨_, _, walk_str, fun _ _ _ _ => True.intro, fun i H x H' hi y Sx Mx e1 e2 m => by
    obtain ⟨rfl, c, h1, rfl⟩ := y
    exact ⟨Sx, _, Stp.refl e2 m, ⟨c, h1, rfl⟩, rfl⟩⟩
theorem tw_pair {J : It} {n : Nat} {S1 : Hp} {G : Hp → Prop} {f g : Nat → Option V} {rs qs : Nat → Rep → Prop} (w : Walk J n G (YPair f g)) (hG : ∀ Sx H, Same S1 Sx → Same Sx H → G H)
    (hf : ∀ i x, i < n → f i = some x → ∃ r, rs i r ∧ r.p S1 x) (hg : ∀ i x, i < n → g i = some x → ∃ r, qs i r ∧ r.p S1 x) : TW J n S1 (fun i r => ∃ r1 r2, rs i r1 ∧ qs i r2 ∧ r = aTup K [r1, r2]) :=
  ⟨G, _, w, hG, fun i H x H' hi y Sx Mx e1 e2 m => by
    obtain ⟨T, u, v, rfl, hT, rfl, h1, h2⟩ := y
    obtain ⟨r1, a1, b1⟩ := hf i u hi h1
    obtain ⟨r2, a2, b2⟩ := hg i v hi h2
    have e3 : Same S1 (upd Sx T (.tup [u, v])) := e1.trans (Same.newS (Same.refl _) (e2.free hT))
    exact ⟨upd Sx T (.tup [u, v]), _, Stp.newS e2 m hT, ⟨r1, r2, a1, a2, rfl⟩, T, [u, v], rfl, SqT.of upd_same, r1.m e3 b1, r2.m e3 b2, True.intro⟩⟩
theorem ti_list {tl : TE} {ki : Nat → (Nat → Rep → Prop) → SH → Prop} (h : Ev E tl Γ M (fun R M1 => ∃ rl, R = iLst rl ∧ ki rl.length (fun i r => rl[i]? = some r) M1) X) : Ti E (iList K tl) Γ M ki X := fun σ S H R I o ox =>
  h σ S H _ I (fun v S2 H2 R' M2 ⟨rl, e, q⟩ st p => by
    subst e
    obtain ⟨a, xs, rfl, p1, p2⟩ := p
    exact ⟨a, rfl, ⟨xs, SqL.of (st.e _ _ p1)⟩, o _ S2 H2 _ _ M2 q st (tw_list p1 p2)⟩) ox
theorem ti_tup {tl : TE} {ki : Nat → (Nat → Rep → Prop) → SH → Prop} (h : Ev E tl Γ M (fun R M1 => ∃ rl, R = aTup K rl ∧ ki rl.length (fun i r => rl[i]? = some r) M1) X) : Ti E (L2.iTup K tl) Γ M ki X := fun σ S H R I o ox =>
  h σ S H _ I (fun v S2 H2 R' M2 ⟨rl, e, q⟩ st p => by
    subst e
    obtain ⟨a, xs, rfl, p1, p2⟩ := p
    exact ⟨a, rfl, ⟨xs, Same.sqt st.e p1⟩, o _ S2 H2 _ _ M2 q st (tw_tup p1 p2)⟩) ox
end
end L3

namespace L3
open PySem L2 RZ PyProof.Rows
section
variable {E : XK} {K : PySem.W.Frag} {Γ : Ct} {M : SH} {k : KR} {X : KX} {R R1 R2 : Rep} {te ta tb tl : TE} {vs : List Nat} {D : EndT} {t u : TS} {c tt : TT} {tr : TA} {wi : TI} {n : Nat} {rs : Nat → Rep → Prop}
theorem tip_list {rl : List Rep} (h : Ep E tl Γ M (iLst rl)) : Tip E (iList K tl) Γ M rl.length (fun i r => rl[i]? = some r) := fun _ _ q => ti_list (h _ _ ⟨rl, rfl, q⟩)
theorem tip_tup {rl : List Rep} (h : Ep E tl Γ M (aTup K rl)) : Tip E (L2.iTup K tl) Γ M rl.length (fun i r => rl[i]? = some r) := fun _ _ q => ti_tup (h _ _ ⟨rl, rfl, q⟩)
theorem ti_rng1 {ki : Nat → (Nat → Rep → Prop) → SH → Prop} (h : Ea E tr Γ M (fun Rs M1 => ∃ m : Nat, Rs = [iInt m] ∧ m ≤ 1000000 ∧ ki m (fun i r => r = iInt (i : Nat)) M1) X) : Ti E (iRng1 tr) Γ M ki X := fun σ S H R I o ox =>
  h σ S H _ I (fun xs S2 H2 Rs M2 ⟨m, e, hm, q⟩ st p => by
    subst e
    obtain ⟨v, rfl, p1⟩ := all2_1 p
    cases p1
    refine ⟨(m : Int), rfl, by omega, by omega, o _ S2 H2 m _ M2 q st ?_⟩
    have w := tw_range (S1 := S2) (lo := 0) (n := m)
    simp only [Int.zero_add] at w
    exact w) ox
theorem tip_rng1 {m : Nat} (h : Ep E ta Γ M (iInt m)) (hm : m ≤ 1000000) : Tip E (iRng1 (tCons ta tNil)) Γ M m (fun i r => r = iInt (i : Nat)) := fun _ _ q => ti_rng1 (eap_cons h eap_nil _ _ ⟨m, rfl, hm, q⟩)
theorem ti_rng2 {ki : Nat → (Nat → Rep → Prop) → SH → Prop} (h : Ea E tr Γ M (fun Rs M1 => ∃ lo hi : Int, Rs = [iInt lo, iInt hi] ∧ -1000000 ≤ lo ∧ lo ≤ 1000000 ∧ -1000000 ≤ hi ∧ hi ≤ 1000000 ∧ ki (hi - lo).toNat (fun i r => r = iInt (lo + (i : Nat))) M1) X) : Ti E (iRng2 tr) Γ M ki X := fun σ S H R I o ox =>
  h σ S H _ I (fun xs S2 H2 Rs M2 ⟨lo, hi, e, h1, h2, h3, h4, q⟩ st p => by
    subst e
    obtain ⟨v, w, rfl, p1, p2⟩ := all2_2 p
    cases p1; cases p2
    exact ⟨lo, hi, rfl, ⟨by omega, by omega, by omega, by omega⟩, o _ S2 H2 _ _ M2 q st tw_range⟩) ox
theorem tip_rng2 {lo hi : Int} (h : Ep E ta Γ M (iInt lo)) (h' : Ep E tb Γ M (iInt hi)) (h1 : -1000000 ≤ lo) (h2 : lo ≤ 1000000) (h3 : -1000000 ≤ hi) (h4 : hi ≤ 1000000) : Tip E (iRng2 (tCons ta (tCons tb tNil))) Γ M (hi - lo).toNat (fun i r => r = iInt (lo + (i : Nat))) :=
  fun _ _ q => ti_rng2 (eap_cons h (eap_cons h' eap_nil) _ _ ⟨lo, hi, rfl, h1, h2, h3, h4, q⟩)
theorem tip_str {z : Str} (h : Ep E te Γ M (aStr z)) : Tip E (L2.iStr te) Γ M z.cps.size (fun i r => ∃ c, z.cps[i]? = some c ∧ r = aStr ⟨#[c]⟩) := fun ki X q σ S H R I o ox =>
  h (fun R' M' => R' = aStr z ∧ M' = M) X ⟨rfl, rfl⟩ σ S H _ I (fun v S2 H2 R' M2 ⟨e1, e2⟩ st p => by
    subst e1; subst e2; cases p
    exact ⟨z, rfl, o _ S2 H2 _ _ _ q st tw_str⟩) ox
theorem tip_enum {rl : List Rep} (h : Ep E tl Γ M (iLst rl)) : Tip E (iEnum K (tCons tl tNil)) Γ M rl.length (fun i r => ∃ r1 r2, r1 = iInt (i : Nat) ∧ rl[i]? = some r2 ∧ r = aTup K [r1, r2]) := fun ki X q σ S H R I o ox =>
  eap_cons h eap_nil (fun Rs M' => Rs = [iLst rl] ∧ M' = M) X ⟨rfl, rfl⟩ σ S H _ I (fun xs S2 H2 Rs M2 ⟨e1, e2⟩ st p => by
    subst e1; subst e2
    obtain ⟨v, rfl, a, ys, rfl, p1, p2⟩ := all2_1 p
    refine ⟨a, ys, rfl, SqL.of (st.e _ _ p1), o _ S2 H2 _ _ _ q st ?_⟩
    have w := walk_enum (K := K) (a := a) (xs := ys)
    rw [p2.len] at w
    exact tw_pair w (fun Sx H e1 e2 => SqL.of ((e1.trans e2) _ _ p1)) (fun i x hi hx => ⟨_, rfl, (Option.some.inj hx).symm⟩) (fun i x hi hx => by
      obtain ⟨r, h1, h2⟩ := p2.getV hx
      exact ⟨r, h1, h2⟩)) ox
theorem tip_zipL {r1 r2 : List Rep} (h : Ep E ta Γ M (iLst r1)) (h' : Ep E tb Γ M (iLst r2)) (hn : n = min r1.length r2.length) : Tip E (iZipA K (tCons ta (tCons tb tNil))) Γ M n (fun i r => ∃ q1 q2, r1[i]? = some q1 ∧ r2[i]? = some q2 ∧ r = aTup K [q1, q2]) := fun ki X q σ S H R I o ox =>
  eap_cons h (eap_cons h' eap_nil) (fun Rs M' => Rs = [iLst r1, iLst r2] ∧ M' = M) X ⟨rfl, rfl⟩ σ S H _ I (fun xs S2 H2 Rs M2 ⟨e1, e2⟩ st p => by
    subst e1; subst e2
    obtain ⟨v, w, rfl, ⟨a, ys, rfl, p1, p2⟩, b, zs, rfl, p3, p4⟩ := all2_2 p
    refine ⟨a, b, ys, zs, rfl, .inl ⟨SqL.of (st.e _ _ p1), SqL.of (st.e _ _ p3), o _ S2 H2 _ _ _ q st ?_⟩⟩
    exact tw_pair (walk_zip (by rw [p2.len, p4.len]; exact hn)) (fun Sx H e1 e2 => ⟨SqL.of ((e1.trans e2) _ _ p1), SqL.of ((e1.trans e2) _ _ p3)⟩) (fun i x hi hx => p2.getV hx) (fun i x hi hx => p4.getV hx)) ox
theorem walk_zipTT {a b : Addr} {xs ys : List V} {n : Nat} (hn : n = min xs.length ys.length) : Walk (ItzT K a b) n (fun H => SqT K H a xs ∧ SqT K H b ys) (YPair (fun i => xs[i]?) (fun i => ys[i]?)) := by
  subst hn
  refine ⟨fun i _ hi q => ?_, fun _ q => ⟨xs, ys, q.1, q.2, by omega⟩, fun i H v H' _ q y => ?_⟩
  · have h1 : i < xs.length := by omega
    have h2 : i < ys.length := by omega
    exact ⟨xs, ys, xs[i], ys[i], q.1, q.2, by simp [h1], by simp [h2]⟩
  · obtain ⟨T, x, z, h1, h2, h3, h4, h5⟩ := y
    exact ⟨T, x, z, h1, h2, h3, h4 xs q.1, h5 ys q.2⟩
theorem tip_zipT {r1 r2 : List Rep} (h : Ep E ta Γ M (aTup K r1)) (h' : Ep E tb Γ M (aTup K r2)) (hn : n = min r1.length r2.length) : Tip E (iZipA K (tCons ta (tCons tb tNil))) Γ M n (fun i r => ∃ q1 q2, r1[i]? = some q1 ∧ r2[i]? = some q2 ∧ r = aTup K [q1, q2]) := fun ki X q σ S H R I o ox =>
  eap_cons h (eap_cons h' eap_nil) (fun Rs M' => Rs = [aTup K r1, aTup K r2] ∧ M' = M) X ⟨rfl, rfl⟩ σ S H _ I (fun xs S2 H2 Rs M2 ⟨e1, e2⟩ st p => by
    subst e1; subst e2
    obtain ⟨v, w, rfl, ⟨a, ys, rfl, p1, p2⟩, b, zs, rfl, p3, p4⟩ := all2_2 p
    refine ⟨a, b, ys, zs, rfl, .inr ⟨Same.sqt st.e p1, Same.sqt st.e p3, o _ S2 H2 _ _ _ q st ?_⟩⟩
    exact tw_pair (walk_zipTT (by rw [p2.len, p4.len]; exact hn)) (fun Sx H e1 e2 => ⟨Same.sqt (e1.trans e2) p1, Same.sqt (e1.trans e2) p3⟩) (fun i x hi hx => p2.getV hx) (fun i x hi hx => p4.getV hx)) ox

/-! ### loops -/
theorem st_for {g : TG} (h : Ti E wi Γ M (fun n rs M1 => ∃ J : Nat → KC, J 0 Γ M1 ∧ (∀ i r Γ1 M1, i < n → rs i r → J i Γ1 M1 → Tg g r Γ1 M1 [] fun Γ2 M2 => St E t Γ2 M2 { D with nx := J (i + 1), ct := J (i + 1), bk := D.nx }) ∧ ∀ Γ1 M1, J n Γ1 M1 → D.nx Γ1 M1) D.ex) : St E (tFor wi g t) Γ M D := fun σ S H D0 I o =>
  h σ S H _ I (fun J S1 H1 n rs M1 ⟨V, v0, vs, vd⟩ st w => by
    obtain ⟨G, Y, wk, hG, hY⟩ := w
    refine for_it wk (fun i σ' H' => ∃ Sx Γx Mx, Nv Sx H' σ' Γx Mx ∧ Stp S1 H1 Sx H' M1 Mx ∧ V i Γx Mx) ⟨S1, Γ, M1, I.step st, Stp.refl st.e st.m, v0⟩ (fun i σ' H' _ ⟨Sx, Γx, Mx, Ix, sx, _⟩ => hG Sx H' sx.s Ix.ex) ?_ ?_
    · rintro i x σ' H' H'' hi ⟨Sx, Γx, Mx, Ix, sx, vx⟩ y
      obtain ⟨S', r, s', hr, pr⟩ := hY i H' x H'' hi y Sx Mx sx.s Ix.ex Ix.m
      refine vs i r Γx Mx hi hr vx x σ' S' H'' _ (Ix.step s') pr fun σ2 S2 H2 Γ2 M2 q st2 I2 _ => ?_
      have s2 := (sx.trans s').trans st2
      exact q σ2 S2 H2 _ I2 ⟨fun σ3 S3 H3 Γ3 M3 q3 st3 I3 => ⟨S3, Γ3, M3, I3, s2.trans st3, q3⟩, (o.step (st.trans s2)).rt, (o.step (st.trans s2)).nx, fun σ3 S3 H3 Γ3 M3 q3 st3 I3 => ⟨S3, Γ3, M3, I3, s2.trans st3, q3⟩, (o.step (st.trans s2)).ex⟩
    · rintro σ' H' ⟨Sx, Γx, Mx, Ix, sx, vx⟩
      exact o.nx σ' Sx H' Γx Mx (vd Γx Mx vx) (st.trans sx) Ix) o.ex
theorem st_while (W : Nat → KC) (m0 : Nat) (h0 : W m0 Γ M) (hs : ∀ m Γ1 M1, W m Γ1 M1 → Et E c Γ1 M1 (fun b M2 => if b = true then St E t Γ1 M2 { D with nx := fun Γ2 M3 => ∃ m', m' < m ∧ W m' Γ2 M3, ct := fun Γ2 M3 => ∃ m', m' < m ∧ W m' Γ2 M3, bk := D.nx } else D.nx Γ1 M2) D.ex) : St E (tWhile c t) Γ M D := fun σ S H D0 I o => by
  refine ⟨fun m σ' H' => ∃ Sx Γx Mx, Nv Sx H' σ' Γx Mx ∧ Stp S H Sx H' M Mx ∧ W m Γx Mx, ⟨m0, S, Γ, M, I, Stp.refl I.ex I.m, h0⟩, ?_⟩
  rintro m σ' H' ⟨Sx, Γx, Mx, Ix, sx, wx⟩
  refine hs m Γx Mx wx σ' Sx H' _ Ix (fun b S2 H2 M2 q st => ?_) (o.step sx).ex
  have s2 := sx.trans st
  cases b with
  | true =>
    rw [if_pos rfl] at q
    rw [if_pos rfl]
    refine ⟨fun σ3 H3 => ∃ m', m' < m ∧ ∃ Sx Γx Mx, Nv Sx H3 σ3 Γx Mx ∧ Stp S H Sx H3 M Mx ∧ W m' Γx Mx, fun _ _ z => z, q σ' S2 H2 _ (Ix.step st) ⟨fun σ3 S3 H3 Γ3 M3 ⟨m', hm, q3⟩ st3 I3 => ⟨m', hm, S3, Γ3, M3, I3, s2.trans st3, q3⟩, (o.step s2).rt, (o.step s2).nx, fun σ3 S3 H3 Γ3 M3 ⟨m', hm, q3⟩ st3 I3 => ⟨m', hm, S3, Γ3, M3, I3, s2.trans st3, q3⟩, (o.step s2).ex⟩⟩
  | false =>
    rw [if_neg Bool.false_ne_true] at q
    rw [if_neg Bool.false_ne_true]
    exact o.nx σ' S2 H2 Γx M2 q s2 (Ix.step st)

/-! ### comprehensions -/
def wipeC (Γ : Ct) : List Nat → Ct
  | [] => Γ
  | v :: vs => (wipeC Γ vs).set v none
theorem Nv.un {S H : Hp} {σ : L2.St} (I : Nv S H σ Γ M) (j : Nat) : Nv S H (σ.set j none) (Γ.set j none) M := by
  refine ⟨I.ex, by simp [I.len], fun i Q e => ?_, I.m⟩
  by_cases hj : j = i
  · subst hj
    have hl : j < Γ.length := by
      have := (List.getElem?_eq_some_iff.mp e).1
      simpa using this
    rw [List.getElem?_set_self hl] at e
    cases e
  · rw [List.getElem?_set_ne hj] at e ⊢
    exact I.sl i Q e
theorem Nv.wipe {S H : Hp} {σ : L2.St} (I : Nv S H σ Γ M) : ∀ vs : List Nat, Nv S H (L2.wipe σ vs) (wipeC Γ vs) M
  | [] => I
  | v :: vs => (Nv.wipe I vs).un v
/-- what is made so far stands at D, mutable -/
theorem ev_lc {g : TG} (hv : vs ≠ []) (h : Ti E wi Γ M (fun n rs M1 => n ≤ 1000000 ∧ ∃ J : Nat → List Rep → SH → Prop, J 0 [] M1 ∧ (∀ i r acc M2, i < n → rs i r → acc.length ≤ i → J i acc M2 →
      Tg g r (wipeC Γ vs) M2 vs fun Γ3 M3 => Et E tt Γ3 M3 (fun b M4 => if b = true then Ev E te Γ3 M4 (fun R M5 => J (i + 1) (acc ++ [R]) M5) X0 else J (i + 1) acc M4) X0) ∧ ∀ acc M2, acc.length ≤ n → J n acc M2 → k (iLst acc) M2) X) : Ev E (tLc wi g tt te vs) Γ M k X := fun σ S H Q I o ox =>
  h σ S H _ I (fun Jt S1 H1 n rs M1 ⟨hn, V, v0, vs', vd⟩ st w Dl hD => by
    obtain ⟨G, Y, wk, hG, hY⟩ := w
    have s0 := st.trans (Stp.newM (o := .lst []) (P := mLst []) st.e st.m hD ⟨[], rfl, True.intro⟩)
    refine lc_it wk (fun i H' => ∃ Sx Mx acc, Same Sx H' ∧ Stp S H Sx H' M (Mx ++ [(Dl, mLst acc)]) ∧ Same S1 Sx ∧ acc.length ≤ i ∧ V i acc Mx) ⟨S1, M1, [], s0.e, s0, Same.refl _, Nat.zero_le _, v0⟩ (fun i H' _ ⟨Sx, Mx, acc, ex, _, s1, _⟩ => hG Sx H' s1 ex) ?_ ?_
    · rintro i x H' H'' hi ⟨Sx, Mx, acc, ex, sx, s1, la, vx⟩ y
      obtain ⟨S', r, s', hr, pr⟩ := hY i H' x H'' hi y Sx (Mx ++ [(Dl, mLst acc)]) s1 ex sx.m
      have I' : Nv S' H'' (L2.wipe σ vs) (wipeC Γ vs) Mx := by
        have := (I.step (sx.trans s')).wipe vs
        exact ⟨this.ex, this.len, this.sl, this.m.left⟩
      have m' : MOk S' H'' (Mx ++ [(Dl, mLst acc)]) := s'.m
      refine vs' i r acc Mx hi hr la vx x (L2.wipe σ vs) S' H'' _ I' pr fun σ2 S2 H2 Γ2 M2 q st2 I2 w2 => ⟨?_, ?_⟩
      · rw [w2 hv]
        have aux : ∀ us : List Nat, (∀ u ∈ us, u ∈ vs) → L2.wipe (L2.wipe σ vs) us = L2.wipe σ vs := by
          have un : ∀ u ∈ vs, (L2.wipe σ vs).set u none = L2.wipe σ vs := by
            intro u hu
            have gen : ∀ ws : List Nat, u ∈ ws → (L2.wipe σ ws).set u none = L2.wipe σ ws := by
              intro ws
              induction ws with
              | nil => intro z; cases z
              | cons w ws ih =>
                intro z
                show ((L2.wipe σ ws).set w none).set u none = (L2.wipe σ ws).set w none
                by_cases e : w = u
                · subst e; rw [List.set_set]
                · rcases List.mem_cons.mp z with z | z
                  · exact absurd z.symm e
                  · rw [List.set_comm _ _ e, ih z]
            exact gen vs hu
          intro us
          induction us with
          | nil => intro _; rfl
          | cons u us ih =>
            intro hu
            show (L2.wipe (L2.wipe σ vs) us).set u none = L2.wipe σ vs
            rw [ih fun z hz => hu z (List.mem_cons_of_mem _ hz)]
            exact un u (hu u (List.mem_cons_self ..))
        exact aux vs fun _ h => h
      · have sf2 := st2.frame m'
        refine q σ2 S2 H2 _ I2 (fun b S3 H3 M3 q3 st3 => ?_) (fun _ _ _ _ _ _ z => z.elim)
        have sf3 := st3.frame sf2.m
        cases b with
        | true =>
          rw [if_pos rfl] at q3
          rw [if_pos rfl]
          refine q3 σ2 S3 H3 _ (I2.step st3) (fun z S4 H4 R4 M4 q4 st4 p4 => ?_) (fun _ _ _ _ _ _ z => z.elim)
          have sf4 := st4.frame sf3.m
          have tot := (((sx.trans s').trans sf2).trans sf3).trans sf4
          obtain ⟨_, ob, ho, xs, rfl, pa⟩ := tot.m.at_ Dl (mLst acc) (List.mem_append_right _ (List.mem_singleton.mpr rfl))
          have wr := Stp.wrM (A := M4) (B := []) (a := Dl) (P := mLst acc) (P' := mLst (acc ++ [R4])) (o := .lst (xs ++ [z])) tot.e tot.m ⟨_, rfl, pa.app (All2.one p4)⟩
          refine ⟨xs, ho, by rw [pa.len]; exact sz_lt (by omega), S4, M4, acc ++ [R4], wr.e, tot.trans wr, ?_, by simp; omega, q4⟩
          exact s1.trans (s'.s.trans (sf2.s.trans (sf3.s.trans sf4.s)))
        | false =>
          rw [if_neg Bool.false_ne_true] at q3
          rw [if_neg Bool.false_ne_true]
          exact ⟨S3, M3, acc, sf3.e, ((sx.trans s').trans sf2).trans sf3, s1.trans (s'.s.trans (sf2.s.trans sf3.s)), by omega, q3⟩
    · rintro H' ⟨Sx, Mx, acc, ex, sx, s1, la, vx⟩
      obtain ⟨_, ob, ho, xs, rfl, pa⟩ := sx.m.at_ Dl (mLst acc) (List.mem_append_right _ (List.mem_singleton.mpr rfl))
      have fz := Stp.fz (A := Mx) (B := []) ex sx.m ho
      have fin := sx.trans fz
      rw [List.append_nil] at fin
      exact o (.ref Dl) _ H' (iLst acc) Mx (vd acc Mx la vx) fin ⟨Dl, xs, rfl, upd_same, pa.mono fz.s⟩) ox
theorem et_yes {kb : Bool → SH → Prop} (q : kb true M) : Et E tYes Γ M kb X := fun σ S H Q I o _ => o true S H M q (Stp.refl I.ex I.m)
theorem etp_yes : Etp E tYes Γ M true := fun _ _ q => et_yes q
/-- the turns below n with f, told by v -/
def given {α : Type} (n : Nat) (f : Nat → Bool) (v : Nat → α) : List α := ((List.range n).filter f).map v
theorem given_yes {α : Type} {n : Nat} {f : Nat → Bool} {v : Nat → α} (h : f n = true) : given (n + 1) f v = given n f v ++ [v n] := by
  unfold given
  rw [List.range_succ, List.filter_append, List.map_append, List.filter_cons, if_pos h]
  rfl
theorem given_no {α : Type} {n : Nat} {f : Nat → Bool} {v : Nat → α} (h : f n = false) : given (n + 1) f v = given n f v := by
  unfold given
  rw [List.range_succ, List.filter_append, List.map_append, List.filter_cons, if_neg (by rw [h]; decide)]
  simp
theorem given_list {α β : Type} (l : List α) (f : α → Bool) (v : α → β) (d : α) : given l.length (fun i => f (l.getD i d)) (fun i => v (l.getD i d)) = (l.filter f).map v := by
  have gen : ∀ m, m ≤ l.length → given m (fun i => f (l.getD i d)) (fun i => v (l.getD i d)) = ((l.take m).filter f).map v := by
    intro m
    induction m with
    | zero => intro _; rfl
    | succ m ih =>
      intro hm
      have ih' := ih (by omega)
      have hlt : m < l.length := by omega
      have e1 : l.getD m d = l[m] := by simp [hlt]
      have e2 : l.take (m + 1) = l.take m ++ [l[m]] := by rw [List.take_succ]; simp [hlt]
      cases hf : f l[m] with
      | true => rw [given_yes (by rw [e1]; exact hf), ih', e2, List.filter_append, List.map_append, e1]; simp [hf]
      | false => rw [given_no (by rw [e1]; exact hf), ih', e2, List.filter_append, List.map_append]; simp [hf]
  rw [gen l.length (Nat.le_refl _), List.take_length]
theorem ep_lc {g : TG} (hv : vs ≠ []) (hi : Tip E wi Γ M n rs) (hn : n ≤ 1000000) (f : Nat → Bool) (v : Nat → Rep)
    (h : ∀ i r, i < n → rs i r → Tg g r (wipeC Γ vs) M vs fun Γ3 M3 => M3 = M ∧ Etp E tt Γ3 M (f i) ∧ (f i = true → Ep E te Γ3 M (v i))) : Ep E (tLc wi g tt te vs) Γ M (iLst (given n f v)) := fun k X q =>
  ev_lc hv (hi _ _ ⟨hn, fun i acc M2 => given i f v = acc ∧ M = M2, ⟨rfl, rfl⟩, fun i r acc M2 hlt hr _ ⟨e1, e2⟩ => by
    subst e1; subst e2
    refine fun x σ S H Q I p o => h i r hlt hr x σ S H Q I p fun σ2 S2 H2 Γ2 M3 ⟨e3, h1, h2⟩ st I2 w2 => ?_
    subst e3
    refine o σ2 S2 H2 Γ2 _ (h1 _ _ ?_) st I2 w2
    cases hf : f i with
    | true => simpa using h2 hf _ _ ⟨given_yes hf, rfl⟩
    | false => simpa using given_no (v := v) hf, fun acc M2 _ ⟨e1, e2⟩ => by
    subst e1; subst e2
    exact q⟩)
/-- over a list of data, the target one name -/
theorem ep_lcL {α β : Type} {l : List α} {e : α → Rep} {j : Nat} {p : α → Bool} {q : α → β} {e' : β → Rep} (hi : Ep E tl Γ M (iLst (l.map e))) (hn : l.length ≤ 1000000) (hj : j ∈ vs)
    (ht : ∀ x ∈ l, Etp E tt ((wipeC Γ vs).set j (some (e x))) M (p x)) (he : ∀ x ∈ l, p x = true → Ep E te ((wipeC Γ vs).set j (some (e x))) M (e' (q x))) : Ep E (tLc (iList K tl) (gName j) tt te vs) Γ M (iLst (((l.filter p).map q).map e')) := by
  cases l with
  | nil =>
    refine Ep.to (R := iLst (given (([] : List α).map e).length (fun _ => true) (fun _ => iNon))) (ep_lc (fun z => by rw [z] at hj; cases hj) (tip_list hi) (by simp) (fun _ => true) (fun _ => iNon) (fun i r hi _ => by simp at hi)) ?_
    rfl
  | cons d l' =>
    refine Ep.to (R := iLst (given ((d :: l').map e).length (fun i => p ((d :: l').getD i d)) (fun i => e' (q ((d :: l').getD i d))))) (ep_lc (fun z => by rw [z] at hj; cases hj) (tip_list hi) (by simpa using hn) (fun i => p ((d :: l').getD i d)) (fun i => e' (q ((d :: l').getD i d))) (fun i r hi hr => ?_)) ?_
    · rw [List.getElem?_map] at hr
      have hi' : i < (d :: l').length := by simpa using hi
      rw [List.getElem?_eq_getElem hi'] at hr
      have hx : (d :: l').getD i d = (d :: l')[i] := by rw [List.getD_eq_getElem?_getD, List.getElem?_eq_getElem hi']; rfl
      have hm : (d :: l')[i] ∈ (d :: l') := List.getElem_mem hi'
      cases hr
      rw [hx]
      exact tg_name ⟨rfl, ht _ hm, fun z => he _ hm z⟩ (.inr hj)
    · congr 1
      have := given_list (d :: l') p (fun x => e' (q x)) d
      rw [List.length_map, this, List.map_map]
      rfl
/-- .. over a tuple -/
theorem ep_lcT {α β : Type} {l : List α} {e : α → Rep} {j : Nat} {p : α → Bool} {q : α → β} {e' : β → Rep} (hi : Ep E tl Γ M (aTup K (l.map e))) (hn : l.length ≤ 1000000) (hj : j ∈ vs)
    (ht : ∀ x ∈ l, Etp E tt ((wipeC Γ vs).set j (some (e x))) M (p x)) (he : ∀ x ∈ l, p x = true → Ep E te ((wipeC Γ vs).set j (some (e x))) M (e' (q x))) : Ep E (tLc (L2.iTup K tl) (gName j) tt te vs) Γ M (iLst (((l.filter p).map q).map e')) := by
  cases l with
  | nil =>
    refine Ep.to (R := iLst (given (([] : List α).map e).length (fun _ => true) (fun _ => iNon))) (ep_lc (fun z => by rw [z] at hj; cases hj) (tip_tup hi) (by simp) (fun _ => true) (fun _ => iNon) (fun i r hi _ => by simp at hi)) ?_
    rfl
  | cons d l' =>
    refine Ep.to (R := iLst (given ((d :: l').map e).length (fun i => p ((d :: l').getD i d)) (fun i => e' (q ((d :: l').getD i d))))) (ep_lc (fun z => by rw [z] at hj; cases hj) (tip_tup hi) (by simpa using hn) (fun i => p ((d :: l').getD i d)) (fun i => e' (q ((d :: l').getD i d))) (fun i r hi hr => ?_)) ?_
    · rw [List.getElem?_map] at hr
      have hi' : i < (d :: l').length := by simpa using hi
      rw [List.getElem?_eq_getElem hi'] at hr
      have hx : (d :: l').getD i d = (d :: l')[i] := by rw [List.getD_eq_getElem?_getD, List.getElem?_eq_getElem hi']; rfl
      have hm : (d :: l')[i] ∈ (d :: l') := List.getElem_mem hi'
      cases hr
      rw [hx]
      exact tg_name ⟨rfl, ht _ hm, fun z => he _ hm z⟩ (.inr hj)
    · congr 1
      have := given_list (d :: l') p (fun x => e' (q x)) d
      rw [List.length_map, this, List.map_map]
      rfl

/-! ### promises, typed -/
abbrev TSp := List Rep → SH → KR → KX → Prop
def spT (ts : TSp) : Sp := fun vs H Q E => ∃ S Rs M k X, ts Rs M k X ∧ Same S H ∧ MOk S H M ∧ All2 S Rs vs ∧ Out S H M k Q ∧ OutX S H M X E
theorem spT_in {ts : TSp} {S H : Hp} {vs : List V} {Rs : List Rep} {Mf Fr : SH} {E' : XK} {Q : VK} (h : ts Rs Mf (fun R M2 => k R (M2 ++ Fr)) (fun x M2 => X x (M2 ++ Fr))) (e : Same S H) (m : MOk S H (Mf ++ Fr)) (p : All2 S Rs vs) (o : Out S H (Mf ++ Fr) k Q) (ox : OutX S H (Mf ++ Fr) X E') : spT ts vs H Q E' :=
  ⟨S, Rs, Mf, _, _, h, e, m.left, p, fun v S2 H2 R M2 q st pr => o v S2 H2 R _ q (st.frame m) pr, fun c d S2 H2 x M2 q st px => ox c d S2 H2 x _ q (st.frame m) px⟩
theorem ev_call {ts : TSp} {dvs : List V} {Ds : List Rep} (hd : ∀ S, All2 S Ds dvs) (h : Ea E tr Γ M (fun Rs M1 => ∃ Mf Fr, M1 = Mf ++ Fr ∧ ts (Rs ++ Ds) Mf (fun R M2 => k R (M2 ++ Fr)) (fun x M2 => X x (M2 ++ Fr))) X) : Ev E (tCall (spT ts) dvs E tr) Γ M k X := fun σ S H Q I o ox =>
  h σ S H _ I (fun xs S1 H1 Rs M1 ⟨Mf, Fr, e, q⟩ st p => by
    subst e
    exact spT_in q st.e st.m (p.app (hd S1)) (o.step st) (ox.step st)) ox
/-- .. that raises nothing here -/
theorem ev_call0 {ts : TSp} {dvs : List V} {Ds : List Rep} (hd : ∀ S, All2 S Ds dvs) (h : Ea E tr Γ M (fun Rs M1 => ∃ Mf Fr, M1 = Mf ++ Fr ∧ ts (Rs ++ Ds) Mf (fun R M2 => k R (M2 ++ Fr)) X0) X) : Ev E (tCall (spT ts) dvs E0 tr) Γ M k X := fun σ S H Q I o ox =>
  h σ S H _ I (fun xs S1 H1 Rs M1 ⟨Mf, Fr, e, q⟩ st p => by
    subst e
    exact spT_in (X := X0) q st.e st.m (p.app (hd S1)) (o.step st) (fun _ _ _ _ _ _ z => z.elim)) ox
/-- a def that only reckons: no mutable object, nothing raised -/
def pureTs {α : Type} (args : α → List Rep) (pre : α → Prop) (res : α → Rep) : TSp := fun Rs M k _ => ∃ x, Rs = args x ∧ pre x ∧ M = [] ∧ k (res x) []
theorem ep_callP {α : Type} {args : α → List Rep} {pre : α → Prop} {res : α → Rep} {Rs : List Rep} (x : α) (h : Eap E tr Γ M Rs) (ha : Rs = args x) (hp : pre x) : Ep E (tCall (spT (pureTs args pre res)) [] E0 tr) Γ M (res x) := fun k X q =>
  ev_call0 (Ds := []) (fun _ => True.intro) (h _ _ ⟨[], M, rfl, x, by rw [List.append_nil]; exact ha, hp, rfl, q⟩)
section
variable {P : Program} {w : World} {mg : Str → Option Value} {base : Heap}
def startC (N : List Str) (Rs : List Rep) : Ct := Rs.map some ++ List.replicate (N.length - Rs.length) none
theorem nv_start {S H : Hp} {N : List Str} {Rs : List Rep} {vs : List V} (e : Same S H) (m : MOk S H M) (p : All2 S Rs vs) : Nv S H (L2.start N vs) (startC N Rs) M := by
  refine ⟨e, by simp [L2.start, startC, p.len], fun i R h => ?_, m⟩
  unfold startC at h
  unfold L2.start
  have hl := p.len
  by_cases hi : i < Rs.length
  · rw [List.getElem?_append_left (by simpa using hi), List.getElem?_map] at h
    rw [List.getElem?_append_left (by simpa [hl] using hi), List.getElem?_map]
    cases q : Rs[i]? with
    | none => rw [q] at h; cases h
    | some r =>
      rw [q] at h
      cases h
      obtain ⟨v, h1, h2⟩ := p.get q
      exact ⟨v, by rw [h1]; rfl, h2⟩
  · rw [List.getElem?_append_right (by simpa using hi), List.getElem?_replicate] at h
    split at h <;> cases h
theorem okT {x qual : Str} {st : Stmt} {f : Addr} {fd : FuncData} {N ps : List Str} {kk : Nat} {ts : TSp} (F : Fun K x qual st f fd) (S : FnScope N ps (defScope st)) (len : ∀ Rs M k X, ts Rs M k X → Rs.length = ps.length)
    (hbody : ∀ (cdv : Value) (A : Around) (outer : List PySem.Env) (s : Shared) (H : Hp) (E : XK), Room kk (A.deeper (envOfC qual (defScope st) s.heap.objs.size f cdv)) →
      ∃ t, PSs (cxOf CX0 P w K mg base N qual (defScope st) f cdv A outer s H E).nox (defBody st) t ∧ ∀ Rs M k X, ts Rs M k X → St E t (startC N Rs) M { nx := fun _ M' => k iNon M', rt := k, ex := X }) : FnOk P w K mg base CX0 (kk + 1) f fd ps (spT ts) := by
  refine F.ok S (fun vs H Q E h => ?_) (fun cdv A outer s H vs Q E hr h => ?_)
  · obtain ⟨_, Rs, M, k, X, h1, _, _, p, _⟩ := h
    exact p.len.trans (len Rs M k X h1)
  · obtain ⟨t, h1, h2⟩ := hbody cdv A outer s H E hr
    obtain ⟨S0, Rs, M, k, X, h3, e, m, p, o, ox⟩ := h
    exact ⟨t, h1, h2 Rs M k X h3 _ S0 H _ (nv_start e m p) ⟨fun σ2 S2 H2 Γ2 M2 q st I2 => o .non S2 H2 iNon M2 q st rfl, o, fun _ _ _ _ _ z => z.elim, fun _ _ _ _ _ z => z.elim, ox⟩⟩
theorem okTX {x qual : Str} {st : Stmt} {f : Addr} {fd : FuncData} {N ps : List Str} {kk : Nat} {ts : TSp} (F : Fun K x qual st f fd) (S : FnScope N ps (defScope st)) (len : ∀ Rs M k X, ts Rs M k X → Rs.length = ps.length)
    (hbody : ∀ (cdv : Value) (A : Around) (outer : List PySem.Env) (s : Shared) (H : Hp) (E : XK), Room kk (A.deeper (envOfC qual (defScope st) s.heap.objs.size f cdv)) →
      ∃ t, PSs (cxOf (L2.CX P w) P w K mg base N qual (defScope st) f cdv A outer s H E) (defBody st) t ∧ ∀ Rs M k X, ts Rs M k X → St E t (startC N Rs) M { nx := fun _ M' => k iNon M', rt := k, ex := X }) : FnOk P w K mg base (L2.CX P w) (kk + 1) f fd ps (spT ts) := by
  refine F.okX S (fun vs H Q E h => ?_) (fun cdv A outer s H vs Q E hr h => ?_)
  · obtain ⟨_, Rs, M, k, X, h1, _, _, p, _⟩ := h
    exact p.len.trans (len Rs M k X h1)
  · obtain ⟨t, h1, h2⟩ := hbody cdv A outer s H E hr
    obtain ⟨S0, Rs, M, k, X, h3, e, m, p, o, ox⟩ := h
    exact ⟨t, h1, h2 Rs M k X h3 _ S0 H _ (nv_start e m p) ⟨fun σ2 S2 H2 Γ2 M2 q st I2 => o .non S2 H2 iNon M2 q st rfl, o, fun _ _ _ _ _ z => z.elim, fun _ _ _ _ _ z => z.elim, ox⟩⟩
end
end
end L3

namespace L3
open PySem L2 RZ PyProof.Rows

/-! ### data -/
mutual
def iDat (K : PySem.W.Frag) : PyData → Rep
  | .none => iNon
  | .bool b => iBl b
  | .int i => iInt i
  | .str s => aStr s
  | .list ds => iLst (iDats K ds)
  | .tuple ds => aTup K (iDats K ds)
  | .dict _ => ⟨fun _ _ => False, fun _ h => h⟩
def iDats (K : PySem.W.Frag) : List PyData → List Rep
  | [] => []
  | d :: ds => iDat K d :: iDats K ds
end
theorem iDats_map (K : PySem.W.Frag) : ∀ ds : List PyData, iDats K ds = ds.map (iDat K)
  | [] => by simp [iDats]
  | d :: ds => by simp [iDats, iDats_map K ds]
theorem dat_list (K : PySem.W.Frag) (ds : List PyData) : iLst (ds.map (iDat K)) = iDat K (.list ds) := by rw [iDat, iDats_map]
theorem dat_tuple (K : PySem.W.Frag) (ds : List PyData) : aTup K (ds.map (iDat K)) = iDat K (.tuple ds) := by rw [iDat, iDats_map]
theorem dat_int (K : PySem.W.Frag) (i : Int) : iInt i = iDat K (.int i) := by rw [iDat]
theorem dat_str (K : PySem.W.Frag) (s : Str) : aStr s = iDat K (.str s) := by rw [iDat]
theorem dat_bl (K : PySem.W.Frag) (b : Bool) : iBl b = iDat K (.bool b) := by rw [iDat]
theorem dat_non (K : PySem.W.Frag) : iNon = iDat K .none := by rw [iDat]
theorem dat_lst {K : PySem.W.Frag} {rs : List Rep} {ds : List PyData} (h : rs = ds.map (iDat K)) : iLst rs = iDat K (.list ds) := by rw [h, dat_list]
theorem dat_tup {K : PySem.W.Frag} {rs : List Rep} {ds : List PyData} (h : rs = ds.map (iDat K)) : aTup K rs = iDat K (.tuple ds) := by rw [h, dat_tuple]
theorem dat_maps {α : Type} {K : PySem.W.Frag} {r : α → Rep} {g : α → PyData} (h : ∀ x, r x = iDat K (g x)) (l : List α) : l.map r = (l.map g).map (iDat K) := by
  rw [List.map_map]
  exact List.map_congr_left fun x _ => h x
theorem dats_cons {K : PySem.W.Frag} {r : Rep} {rs : List Rep} {d : PyData} {ds : List PyData} (h : r = iDat K d) (hs : rs = ds.map (iDat K)) : r :: rs = (d :: ds).map (iDat K) := by rw [h, hs]; rfl
theorem dats_nil {K : PySem.W.Frag} : ([] : List Rep) = ([] : List PyData).map (iDat K) := rfl
mutual
theorem iDat_dp (K : PySem.W.Frag) {S : Hp} : ∀ (d : PyData) {v : V}, (iDat K d).p S v → Dp K S v d
  | .none, v, h => by
    unfold iDat at h
    cases h
    exact .non
  | .bool b, v, h => by
    unfold iDat at h
    cases h
    exact .bl b
  | .int i, v, h => by
    unfold iDat at h
    cases h
    exact .int i
  | .str s, v, h => by
    unfold iDat at h
    cases h
    exact .str s
  | .list ds, v, h => by
    unfold iDat at h
    obtain ⟨a, xs, rfl, h1, h2⟩ := h
    exact .lst (SqL.of h1) (iDats_dp K ds h2)
  | .tuple ds, v, h => by
    unfold iDat at h
    obtain ⟨a, xs, rfl, h1, h2⟩ := h
    exact .tup h1 (iDats_dp K ds h2)
  | .dict _, v, h => by
    unfold iDat at h
    exact h.elim
theorem iDats_dp (K : PySem.W.Frag) {S : Hp} : ∀ (ds : List PyData) {vs : List V}, All2 S (iDats K ds) vs → DpAll K S vs ds
  | [], [], _ => .nil
  | [], _ :: _, h => by
    unfold iDats at h
    exact h.elim
  | d :: ds, [], h => by
    unfold iDats at h
    exact h.elim
  | d :: ds, v :: vs, h => by
    unfold iDats at h
    exact .cons (iDat_dp K d h.1) (iDats_dp K ds h.2)
end
section
variable {E : XK} {K : PySem.W.Frag} {Γ : Ct} {M : SH} {k : KR} {X : KX} {R R1 R2 : Rep} {te ta tb tl : TE} {vs : List Nat} {D : EndT} {t u : TS} {c tt : TT} {tr : TA}
mutual
theorem Dp.mono {K : PySem.W.Frag} {S S' : Hp} (e : Same S S') : ∀ {v : V} {d : PyData}, Dp K S v d → Dp K S' v d
  | _, _, .non => .non
  | _, _, .bl b => .bl b
  | _, _, .int i => .int i
  | _, _, .str x => .str x
  | _, _, .lst h hs => .lst (Same.sql e h) (DpAll.mono e hs)
  | _, _, .tup h hs => .tup (Same.sqt e h) (DpAll.mono e hs)
theorem DpAll.mono {K : PySem.W.Frag} {S S' : Hp} (e : Same S S') : ∀ {vs : List V} {ds : List PyData}, DpAll K S vs ds → DpAll K S' vs ds
  | _, _, .nil => .nil
  | _, _, .cons h hs => .cons (Dp.mono e h) (DpAll.mono e hs)
end
theorem o_eqD {d e : PyData} (h1 : SeqAt.shaped d = true) (h2 : SeqAt.shaped e = true) : O2p (rEqD K) (iDat K d) (iDat K e) M (iBl (PyData.eqv d e)) := o2_val fun x y S H ex _ p1 p2 =>
  ⟨_, rfl, fun Q q => ⟨d, e, Dp.mono ex (iDat_dp K d p1), Dp.mono ex (iDat_dp K e p2), h1, h2, q⟩⟩
theorem o_neD {d e : PyData} (h1 : SeqAt.shaped d = true) (h2 : SeqAt.shaped e = true) : O2p (rNeD K) (iDat K d) (iDat K e) M (iBl (!PyData.eqv d e)) := o2_val fun x y S H ex _ p1 p2 =>
  ⟨_, rfl, fun Q q => ⟨d, e, Dp.mono ex (iDat_dp K d p1), Dp.mono ex (iDat_dp K e p2), h1, h2, q⟩⟩
theorem O2p.as (h : O2p r R1 R2 M R) {R1' R2' : Rep} (e1 : R1' = R1) (e2 : R2' = R2) : O2p r R1' R2' M R := by rw [e1, e2]; exact h

/-! ### new lists and tuples by operators -/
theorem o2_newL {r : L2.R2} {rs : List Rep} (h : ∀ x y S H, Same S H → MOk S H M → R1.p S x → R2.p S y → ∃ xs, All2 S rs xs ∧ ∀ Q : VK, (∀ p, H p = none → Q (.ref p) (upd H p (.lst xs))) → r x y H Q) : O2p r R1 R2 M (iLst rs) := fun _ q x y S H Q e m h1 h2 o => by
  obtain ⟨xs, p, g⟩ := h x y S H e m h1 h2
  exact g Q fun a ha => o (.ref a) (upd S a (.lst xs)) _ (iLst rs) M q (Stp.newS e m ha) ⟨a, xs, rfl, upd_same, p.mono (Same.newS (Same.refl _) (e.free ha))⟩
theorem o_cat {r1 r2 : List Rep} (h : r1.length + r2.length ≤ 1000000) : O2p rCat (iLst r1) (iLst r2) M (iLst (r1 ++ r2)) := o2_newL fun x y S H e _ h1 h2 => by
  obtain ⟨a, xs, rfl, q1, q2⟩ := h1
  obtain ⟨b, ys, rfl, q3, q4⟩ := h2
  exact ⟨xs ++ ys, q2.app q4, fun Q q => ⟨a, b, xs, ys, rfl, rfl, e _ _ q1, e _ _ q3, by rw [q2.len, q4.len]; exact sz_le h, q⟩⟩
theorem ol_newL {rl : List V → Hp → VK → Prop} {Rs rs : List Rep} (h : ∀ xs S H, Same S H → MOk S H M → All2 S Rs xs → ∃ ys, All2 S rs ys ∧ ∀ Q : VK, (∀ p, H p = none → Q (.ref p) (upd H p (.lst ys))) → rl xs H Q) : Olp rl Rs M (iLst rs) := fun _ q xs S H Q e m h1 o => by
  obtain ⟨ys, p, g⟩ := h xs S H e m h1
  exact g Q fun a ha => o (.ref a) (upd S a (.lst ys)) _ (iLst rs) M q (Stp.newS e m ha) ⟨a, ys, rfl, upd_same, p.mono (Same.newS (Same.refl _) (e.free ha))⟩
theorem ol_newT {rl : List V → Hp → VK → Prop} {Rs rs : List Rep} (h : ∀ xs S H, Same S H → MOk S H M → All2 S Rs xs → ∃ ys, All2 S rs ys ∧ ∀ Q : VK, (∀ p, H p = none → Q (.ref p) (upd H p (.tup ys))) → rl xs H Q) : Olp rl Rs M (aTup K rs) := fun _ q xs S H Q e m h1 o => by
  obtain ⟨ys, p, g⟩ := h xs S H e m h1
  exact g Q fun a ha => o (.ref a) (upd S a (.tup ys)) _ (aTup K rs) M q (Stp.newS e m ha) ⟨a, ys, rfl, SqT.of upd_same, p.mono (Same.newS (Same.refl _) (e.free ha))⟩
def rListOf (K : PySem.W.Frag) : List V → Hp → VK → Prop := fun xs H Q => ∃ p ys, xs = [.ref p] ∧ (SqL K H p ys ∨ SqT K H p ys) ∧ ∀ l, H l = none → Q (.ref l) (upd H l (.lst ys))
def rTupOf (K : PySem.W.Frag) : List V → Hp → VK → Prop := fun xs H Q => ∃ p ys, xs = [.ref p] ∧ ((SqL K H p ys ∧ ∀ l, H l = none → Q (.ref l) (upd H l (.tup ys))) ∨ (SqT K H p ys ∧ Q (.ref p) H))
theorem c_listL {rs : List Rep} : Olp (rListOf K) [iLst rs] M (iLst rs) := ol_newL fun xs S H e _ h => by
  obtain ⟨v, rfl, a, ys, rfl, q1, q2⟩ := all2_1 h
  exact ⟨ys, q2, fun Q q => ⟨a, ys, rfl, .inl (SqL.of (e _ _ q1)), q⟩⟩
theorem c_listT {rs : List Rep} : Olp (rListOf K) [aTup K rs] M (iLst rs) := ol_newL fun xs S H e _ h => by
  obtain ⟨v, rfl, a, ys, rfl, q1, q2⟩ := all2_1 h
  exact ⟨ys, q2, fun Q q => ⟨a, ys, rfl, .inr (Same.sqt e q1), q⟩⟩
theorem c_tupL {rs : List Rep} : Olp (rTupOf K) [iLst rs] M (aTup K rs) := ol_newT fun xs S H e _ h => by
  obtain ⟨v, rfl, a, ys, rfl, q1, q2⟩ := all2_1 h
  exact ⟨ys, q2, fun Q q => ⟨a, ys, rfl, .inl ⟨SqL.of (e _ _ q1), q⟩⟩⟩
theorem c_tupT {rs : List Rep} : Olp (rTupOf K) [aTup K rs] M (aTup K rs) := ol_val fun xs S H e _ h => by
  obtain ⟨v, rfl, a, ys, rfl, q1, q2⟩ := all2_1 h
  exact ⟨.ref a, ⟨a, ys, rfl, q1, q2⟩, fun Q q => ⟨a, ys, rfl, .inr ⟨Same.sqt e q1, q⟩⟩⟩
/-- list(..) as a new object that is to be changed -/
theorem ev_listM {rs : List Rep} (h : Ev E ta Γ M (fun R M1 => (R = iLst rs ∨ R = aTup K rs) ∧ ∀ a, k (iRef a) (M1 ++ [(a, mLst rs)])) X) : Ev E (tCB (rListOf K) (tCons ta tNil)) Γ M k X := fun σ S H Q I o ox =>
  h σ S H _ I (fun v S1 H1 R M1 ⟨hR, q⟩ st p => by
    rcases hR with e | e
    · subst e
      obtain ⟨a, xs, rfl, q1, q2⟩ := p
      exact ⟨a, xs, rfl, .inl (SqL.of (st.e _ _ q1)), fun l hl => o (.ref l) S1 _ (iRef l) _ (q l) (st.trans (Stp.newM st.e st.m hl ⟨xs, rfl, q2⟩)) rfl⟩
    · subst e
      obtain ⟨a, xs, rfl, q1, q2⟩ := p
      exact ⟨a, xs, rfl, .inr (Same.sqt st.e q1), fun l hl => o (.ref l) S1 _ (iRef l) _ (q l) (st.trans (Stp.newM st.e st.m hl ⟨xs, rfl, q2⟩)) rfl⟩) ox

/-! ### slices -/
def Eo (E : XK) (to : TO) (Γ : Ct) (M : SH) (o : Option Int) : Prop := ∀ σ S H (Q : Option Int → Hp → Prop), Nv S H σ Γ M → (∀ S2 H2, Stp S H S2 H2 M M → Q o H2) → to σ H Q
theorem eo_none : Eo E tNoPart Γ M none := fun σ S H Q I o => o S H (Stp.refl I.ex I.m)
theorem eo_some {i : Int} (h : Ep E te Γ M (iInt i)) (hE : ∀ c d H, E c d H → False := by first | (intro _ _ _ h; exact h.elim) | assumption) : Eo E (tPart te) Γ M (some i) := fun σ S H Q I o =>
  h (fun R M' => R = iInt i ∧ M' = M) X0 ⟨rfl, rfl⟩ σ S H _ I (fun v S2 H2 R M2 ⟨e1, e2⟩ st p => by
    subst e1; subst e2; cases p
    exact ⟨i, rfl, o S2 H2 st⟩) (fun _ _ _ _ _ _ z => z.elim)
theorem eo_someX {i : Int} (h : Ep E te Γ M (iInt i)) : Eo E (tPart te) Γ M (some i) := fun σ S H Q I o =>
  h (fun R M' => R = iInt i ∧ M' = M) X0 ⟨rfl, rfl⟩ σ S H _ I (fun v S2 H2 R M2 ⟨e1, e2⟩ st p => by
    subst e1; subst e2; cases p
    exact ⟨i, rfl, o S2 H2 st⟩) (fun _ _ _ _ _ _ z => z.elim)
/-- what a slice leaves -/
def cutL {α : Type} (l : List α) (lo hi : Option Int) : List α := (l.drop (HT.sIx l.length 0 lo)).take (HT.sIx l.length l.length hi - HT.sIx l.length 0 lo)
theorem All2.cut {S : Hp} {rs : List Rep} {xs : List V} (h : All2 S rs xs) (lo hi : Option Int) : All2 S (cutL rs lo hi) (cutV xs lo hi) := by
  unfold cutL cutV
  rw [h.len]
  exact (h.drop _).take _
theorem cutL_map {α β : Type} (f : α → β) (l : List α) (lo hi : Option Int) : cutL (l.map f) lo hi = (cutL l lo hi).map f := by
  unfold cutL
  rw [List.length_map, List.map_take, List.map_drop]
theorem ep_sl {r : V → Option Int → Option Int → Hp → VK → Prop} {tlo thi : TO} {lo hi : Option Int} (h : Ep E te Γ M R1) (h1 : Eo E tlo Γ M lo) (h2 : Eo E thi Γ M hi) (hr : ∀ k : KR, k R M → ∀ x S H Q, Same S H → MOk S H M → R1.p S x → Out S H M k Q → r x lo hi H Q) : Ep E (tSl r te tlo thi) Γ M R := fun k X q σ S H Q I o ox =>
  h (fun R' M' => R' = R1 ∧ M' = M) X ⟨rfl, rfl⟩ σ S H _ I (fun v S1 H1 R' M1 ⟨e1, e2⟩ st p => by
    subst e1; subst e2
    exact h1 σ S1 H1 _ (I.step st) fun S2 H2 st2 => h2 σ S2 H2 _ (I.step (st.trans st2)) fun S3 H3 st3 =>
      hr k q v S3 H3 Q st3.e st3.m (R'.m (st2.s.trans st3.s) p) (o.step ((st.trans st2).trans st3))) ox
theorem s_list {rs : List Rep} {lo hi : Option Int} : ∀ k : KR, k (iLst (cutL rs lo hi)) M → ∀ x S H Q, Same S H → MOk S H M → (iLst rs).p S x → Out S H M k Q → rSlL K x lo hi H Q := fun k q x S H Q e m p o => by
  obtain ⟨a, xs, rfl, q1, q2⟩ := p
  exact ⟨a, xs, rfl, SqL.of (e _ _ q1), fun b hb => o (.ref b) (upd S b (.lst (cutV xs lo hi))) _ _ M q (Stp.newS e m hb) ⟨b, _, rfl, upd_same, (q2.cut lo hi).mono (Same.newS (Same.refl _) (e.free hb))⟩⟩
theorem s_scr {ns : List Int} {lo hi : Option Int} : ∀ k : KR, k (iLst ((cutL ns lo hi).map iInt)) M → ∀ x S H Q, Same S H → MOk S H M → (iScr K ns).p S x → Out S H M k Q → rSlL K x lo hi H Q := fun k q x S H Q e m p o => by
  obtain ⟨a, rfl, q1⟩ := p
  refine ⟨a, _, rfl, Same.sql e q1, fun b hb => o (.ref b) (upd S b (.lst (cutV (ns.map V.int) lo hi))) _ _ M q (Stp.newS e m hb) ⟨b, _, rfl, upd_same, ?_⟩⟩
  rw [← cutL_map]
  exact ((All2.unflat (S := S) (r := iInt) (g := V.int) (fun _ => rfl) ns).cut lo hi).mono (Same.newS (Same.refl _) (e.free hb))
theorem s_str {z : Str} {lo hi : Option Int} (hz : z.length ≤ 1000000) : ∀ k : KR, k (aStr (cutS z lo hi)) M → ∀ x S H Q, Same S H → MOk S H M → (aStr z).p S x → Out S H M k Q → rSlS x lo hi H Q := fun k q x S H Q e m p o => by
  cases p
  exact ⟨z, rfl, sz_le hz, o _ S H _ M q (Stp.refl e m) rfl⟩
theorem ep_rev {rs : List Rep} (h : Ep E te Γ M (iLst rs)) : Ep E (tRevL K te) Γ M (iLst rs.reverse) := fun k X q σ S H Q I o ox =>
  h (fun R' M' => R' = iLst rs ∧ M' = M) X ⟨rfl, rfl⟩ σ S H _ I (fun v S1 H1 R' M1 ⟨e1, e2⟩ st p => by
    subst e1; subst e2
    obtain ⟨a, xs, rfl, q1, q2⟩ := p
    exact ⟨a, xs, rfl, SqL.of (st.e _ _ q1), fun b hb => o (.ref b) (upd S1 b (.lst xs.reverse)) _ (iLst rs.reverse) _ q (st.trans (Stp.newS st.e st.m hb)) ⟨b, _, rfl, upd_same, q2.rev.mono (Same.newS (Same.refl _) (st.e.free hb))⟩⟩) ox

/-! ### all, any, in -/
theorem c_all {bs : List Bool} : Olp (rAll K) [iLst (bs.map iBl)] M (iBl (bs.all id)) := ol_val fun xs S H e _ h => by
  obtain ⟨v, rfl, a, ys, rfl, q1, q2⟩ := all2_1 h
  rw [All2.flat (r := iBl) (g := V.bl) (fun _ _ h => h) q2] at q1
  exact ⟨_, rfl, fun Q q => ⟨a, bs, rfl, SqL.of (e _ _ q1), q⟩⟩
theorem c_any {bs : List Bool} : Olp (rAny K) [iLst (bs.map iBl)] M (iBl (bs.any id)) := ol_val fun xs S H e _ h => by
  obtain ⟨v, rfl, a, ys, rfl, q1, q2⟩ := all2_1 h
  rw [All2.flat (r := iBl) (g := V.bl) (fun _ _ h => h) q2] at q1
  exact ⟨_, rfl, fun Q q => ⟨a, bs, rfl, SqL.of (e _ _ q1), q⟩⟩
theorem inV_str (x : Str) : ∀ l : List Str, inV (.str x) (l.map V.str) = decide (x ∈ l)
  | [] => by simp [inV]
  | y :: l => by
    have ih := inV_str x l
    unfold inV at ih ⊢
    rw [List.map_cons, List.any_cons, ih]
    have e : eqV (V.str y) (V.str x) = decide (x = y) := by
      unfold eqV
      by_cases h : x = y
      · subst h; simp
      · have h' : ¬ y = x := fun z => h z.symm
        simp [h, h']
    rw [e]
    by_cases h : x = y
    · simp [h]
    · simp [h]
theorem all_flat_str (l : List Str) : (l.map V.str).all flatV = true := by
  rw [List.all_eq_true]
  intro v hv
  obtain ⟨x, _, rfl⟩ := List.mem_map.mp hv
  rfl
theorem o_inS {x : Str} {l : List Str} : O2p (rIn K false) (aStr x) (iLst (l.map aStr)) M (iBl (decide (x ∈ l))) := o2_val fun v y S H e _ h1 h2 => by
  cases h1
  obtain ⟨a, xs, rfl, q1, q2⟩ := h2
  rw [All2.flat (r := aStr) (g := V.str) (fun _ _ h => h) q2] at q1
  exact ⟨_, rfl, fun Q q => ⟨a, _, rfl, .inl (SqL.of (e _ _ q1)), rfl, all_flat_str l, by rw [if_neg Bool.false_ne_true, inV_str]; exact q⟩⟩
theorem o_ninS {x : Str} {l : List Str} : O2p (rIn K true) (aStr x) (iLst (l.map aStr)) M (iBl (!decide (x ∈ l))) := o2_val fun v y S H e _ h1 h2 => by
  cases h1
  obtain ⟨a, xs, rfl, q1, q2⟩ := h2
  rw [All2.flat (r := aStr) (g := V.str) (fun _ _ h => h) q2] at q1
  exact ⟨_, rfl, fun Q q => ⟨a, _, rfl, .inl (SqL.of (e _ _ q1)), rfl, all_flat_str l, by rw [if_pos rfl, inV_str]; exact q⟩⟩
theorem o_isN (d : Bool) (h : ∀ S v, R.p S v → decide (v = V.non) = d) : O2p (fun x y H Q => y = .non ∧ Q (.bl (decide (x = .non))) H) R iNon M (iBl d) := o2_val fun x y S H _ _ h1 h2 => by
  cases h2
  exact ⟨_, rfl, fun Q q => ⟨rfl, by rw [h S x h1]; exact q⟩⟩
theorem o_notN (d : Bool) (h : ∀ S v, R.p S v → decide (v = V.non) = d) : O2p (fun x y H Q => y = .non ∧ Q (.bl (!decide (x = .non))) H) R iNon M (iBl (!d)) := o2_val fun x y S H _ _ h1 h2 => by
  cases h2
  exact ⟨_, rfl, fun Q q => ⟨rfl, by rw [h S x h1]; exact q⟩⟩

/-! ### texts -/
theorem om_join {z : Str} {l : List Str} (hz : (l.map (·.length)).sum + l.length * z.length ≤ 16000000) : Omp (fun x xs H Q => ∃ a p, ∃ ys : List Str, x = .str a ∧ xs = [.ref p] ∧ (SqL K H p (ys.map V.str) ∨ SqT K H p (ys.map V.str)) ∧
    (ys.map (·.length)).sum + ys.length * a.length ≤ 16777216 ∧ Q (.str (Txt.join a ys)) H) (aStr z) [iLst (l.map aStr)] M (aStr (Txt.join z l)) := om_val fun x xs S H e _ h1 h2 => by
  cases h1
  obtain ⟨v, rfl, a, ys, rfl, q1, q2⟩ := all2_1 h2
  rw [All2.flat (r := aStr) (g := V.str) (fun _ _ h => h) q2] at q1
  exact ⟨_, rfl, fun Q q => ⟨z, a, l, rfl, rfl, .inl (SqL.of (e _ _ q1)), by omega, q⟩⟩
theorem ev_tM1 {r : V → List V → Hp → VK → Prop} (h : Ev E ta Γ M (fun R M1 => ∃ z, R = aStr z ∧ Ev E te Γ M1 (fun R2 M2 => Om r (aStr z) [R2] M2 k) X) X) : Ev E (tM1 r ta te) Γ M k X := fun σ S H Q I o ox =>
  h σ S H _ I (fun v S1 H1 R1 M1 ⟨z, e, q⟩ st p => by
    subst e
    have p' := p
    cases p
    exact ⟨⟨z, rfl⟩, q σ S1 H1 _ (I.step st) (fun y S2 H2 R2 M2 q2 st2 p2 => q2 _ _ S2 H2 Q st2.e st2.m ((aStr z).m st2.s p') ⟨p2, True.intro⟩ (o.step (st.trans st2))) (ox.step st)⟩) ox
theorem ep_tM1 {r : V → List V → Hp → VK → Prop} {z : Str} (h : Ep E ta Γ M (aStr z)) (h2 : Ep E te Γ M R2) (hr : Omp r (aStr z) [R2] M R) : Ep E (tM1 r ta te) Γ M R := fun k X q => ev_tM1 (h _ _ ⟨z, rfl, h2 _ _ (hr _ q)⟩)
theorem op_mulS {X : Cx} : OpR X (binaryOp .Mult) (fun x y H Q => ∃ z n, x = .str z ∧ y = .int n ∧ MulOk z n ∧ Q (.str (Txt.mul z n)) H) := by
  intro pins s σ H x y v u Q I rx ry h
  obtain ⟨z, n, rfl, rfl, hm, q⟩ := h
  obtain ⟨t, rfl⟩ := rx
  obtain ⟨t', rfl⟩ := ry
  exact SB.mul hm fun t2 k => ⟨.str _, H, I.tok k, ⟨_, rfl⟩, q⟩
theorem mulOk_01 {z : Str} {n : Int} (h0 : 0 ≤ n) (h1 : n ≤ 1) : MulOk z n := by
  refine ⟨by simp; omega, fun h2 h3 => ?_, fun h2 h3 => ?_⟩
  · have : n = 1 := by omega
    subst this
    simp at h3
  · have : n = 1 := by omega
    subst this
    simp at h3
theorem o_mulS {z : Str} {n : Int} (h : MulOk z n) : O2p (fun x y H Q => ∃ z n, x = .str z ∧ y = .int n ∧ MulOk z n ∧ Q (.str (Txt.mul z n)) H) (aStr z) (iInt n) M (aStr (Txt.mul z n)) := o2_val fun x y S H _ _ h1 h2 => by
  cases h1; cases h2
  exact ⟨_, rfl, fun Q q => ⟨z, n, rfl, rfl, h, q⟩⟩

/-! ### mutable lists -/
/-- f(l, ..) of a list's method -/
theorem ev_bm {T : String} {r : V → List V → Hp → VK → Prop} (h : Ev E ta Γ M (fun R1 M1 => (∀ x S H, Same S H → MOk S H M1 → R1.p S x → tyV K T x H) ∧ Ea E tr Γ M1 (fun Rs M2 => Om r R1 Rs M2 k) X) X) : Ev E (tBM K T r ta tr) Γ M k X := fun σ S H Q I o ox =>
  h σ S H _ I (fun v S1 H1 R1 M1 ⟨ty, q⟩ st p => ⟨ty v S1 H1 st.e st.m p, q σ S1 H1 _ (I.step st) (fun ys S2 H2 Rs M2 q2 st2 p2 => q2 v ys S2 H2 Q st2.e st2.m (R1.m st2.s p) p2 (o.step (st.trans st2))) (ox.step st)⟩) ox
theorem ev_bm0 {T : String} {r : V → List V → Hp → VK → Prop} (h : Ev E ta Γ M (fun R1 M1 => (∀ x S H, Same S H → MOk S H M1 → R1.p S x → tyV K T x H) ∧ Om r R1 [] M1 k) X) : Ev E (tBM0 K T r ta) Γ M k X := fun σ S H Q I o ox =>
  h σ S H _ I (fun v S1 H1 R1 M1 ⟨ty, q⟩ st p => ⟨ty v S1 H1 st.e st.m p, q v [] S1 H1 Q st.e st.m p True.intro (o.step st)⟩) ox
theorem ty_mLst {a : Addr} {rs : List Rep} (hm : (a, mLst rs) ∈ M) : ∀ x S H, Same S H → MOk S H M → (iRef a).p S x → tyV K "list" x H := fun x S H e m p => by
  cases p
  obtain ⟨_, o, ho, xs, rfl, _⟩ := m.at_ _ _ hm
  exact .inl ⟨rfl, xs, SqL.of ho⟩
theorem ty_lst {rs : List Rep} : ∀ x S H, Same S H → MOk S H M → (iLst rs).p S x → tyV K "list" x H := fun x S H e m p => by
  obtain ⟨a, xs, rfl, q1, q2⟩ := p
  exact .inl ⟨rfl, xs, SqL.of (e _ _ q1)⟩
/-- l.append(e), l at place A of the symbolic heap -/
theorem om_append {A B : SH} {a : Addr} {rs : List Rep} (hl : rs.length < 1000000) (q : k iNon (A ++ (a, mLst (rs ++ [R])) :: B)) : Om rAppend (iRef a) [R] (A ++ (a, mLst rs) :: B) k := fun x xs S H Q e m h1 h2 o => by
  cases h1
  obtain ⟨v, rfl, p⟩ := all2_1 h2
  obtain ⟨_, ob, ho, ys, rfl, py⟩ := m.at_ a (mLst rs) (by simp)
  exact ⟨a, ys, v, rfl, rfl, ho, by rw [py.len]; exact sz_lt (by omega), o .non S _ iNon _ q (Stp.wrM e m ⟨_, rfl, py.app (All2.one p)⟩) rfl⟩
theorem om_reverse {A B : SH} {a : Addr} {rs : List Rep} (q : k iNon (A ++ (a, mLst rs.reverse) :: B)) : Om rReverse (iRef a) [] (A ++ (a, mLst rs) :: B) k := fun x xs S H Q e m h1 h2 o => by
  cases h1
  have : xs = [] := by
    cases xs with
    | nil => rfl
    | cons _ _ => exact h2.elim
  subst this
  obtain ⟨_, ob, ho, ys, rfl, py⟩ := m.at_ a (mLst rs) (by simp)
  exact ⟨a, ys, rfl, rfl, ho, o .non S _ iNon _ q (Stp.wrM e m ⟨_, rfl, py.rev⟩) rfl⟩
theorem om_clear {A B : SH} {a : Addr} {rs : List Rep} (q : k iNon (A ++ (a, mLst []) :: B)) : Om rClear (iRef a) [] (A ++ (a, mLst rs) :: B) k := fun x xs S H Q e m h1 h2 o => by
  cases h1
  have : xs = [] := by
    cases xs with
    | nil => rfl
    | cons _ _ => exact h2.elim
  subst this
  obtain ⟨_, ob, ho, ys, rfl, py⟩ := m.at_ a (mLst rs) (by simp)
  exact ⟨a, ys, rfl, rfl, ho, o .non S _ iNon _ q (Stp.wrM e m ⟨_, rfl, True.intro⟩) rfl⟩
theorem om_extend {A B : SH} {a : Addr} {rs qs : List Rep} (hl : rs.length + qs.length ≤ 1000000) (q : k iNon (A ++ (a, mLst (rs ++ qs)) :: B)) : Om rExtend (iRef a) [iLst qs] (A ++ (a, mLst rs) :: B) k := fun x xs S H Q e m h1 h2 o => by
  cases h1
  obtain ⟨v, rfl, b, zs, rfl, hb, pz⟩ := all2_1 h2
  obtain ⟨_, ob, ho, ys, rfl, py⟩ := m.at_ a (mLst rs) (by simp)
  exact ⟨a, b, ys, zs, rfl, rfl, ho, e _ _ hb, by rw [py.len, pz.len]; exact sz_le hl, o .non S _ iNon _ q (Stp.wrM e m ⟨_, rfl, py.app pz⟩) rfl⟩
/-- l[i] = v -/
theorem tg_subM {A B : SH} {a : Addr} {rs : List Rep} {to ti : TE} {i : Int} {j : Nat} {kc : KC} (ho : Ep E0 to Γ (A ++ (a, mLst rs) :: B) (iRef a)) (hi : Ep E0 ti Γ (A ++ (a, mLst rs) :: B) (iInt i)) (hj : ixN rs.length i = some j) (q : kc Γ (A ++ (a, mLst (rs.set j R)) :: B)) : Tg (gSub to ti rSetL) R Γ (A ++ (a, mLst rs) :: B) vs kc := fun v σ S H Q I p o =>
  ho (fun R' M' => R' = iRef a ∧ M' = A ++ (a, mLst rs) :: B) X0 ⟨rfl, rfl⟩ σ S H _ I (fun x S1 H1 R1 M1 ⟨e1, e2⟩ st p1 => by
    subst e1; subst e2; cases p1
    exact hi (fun R' M' => R' = iInt i ∧ M' = A ++ (a, mLst rs) :: B) X0 ⟨rfl, rfl⟩ σ S1 H1 _ (I.step st) (fun y S2 H2 R2 M2 ⟨e1, e2⟩ st2 p2 => by
      subst e1; subst e2; cases p2
      have s2 := st.trans st2
      obtain ⟨_, ob, hob, ys, rfl, py⟩ := s2.m.at_ a (mLst rs) (by simp)
      have w := Stp.wrM (P' := mLst (rs.set j R)) s2.e s2.m ⟨_, rfl, py.set (R.m s2.s p) j⟩
      exact ⟨a, ys, i, j, rfl, rfl, hob, by rw [py.len]; exact hj, o σ S2 _ Γ _ q (s2.trans w) (I.step (s2.trans w)) fun _ => rfl⟩) (fun _ _ _ _ _ _ z => z.elim)) (fun _ _ _ _ _ _ z => z.elim)

/-! ### the symbolic heap: opened, closed, made stable -/
theorem st_perm {M' : SH} (h : M.Perm M') (q : St E t Γ M' D) : St E t Γ M D := fun σ S H D0 I o =>
  q σ S H D0 ⟨I.ex, I.len, I.sl, I.m.perm h⟩ ⟨fun a b c d e k st I2 => o.nx a b c d e k (st.permL h) I2, fun a b c d e k st p => o.rt a b c d e k (st.permL h) p, fun a b c d e k st I2 => o.bk a b c d e k (st.permL h) I2, fun a b c d e k st I2 => o.ct a b c d e k (st.permL h) I2, fun a b c d e f k st p => o.ex a b c d e f k (st.permL h) p⟩
/-- the slots' and the heap's words weakened -/
theorem Stp.wkL {S H S2 H2 : Hp} {A B M2 : SH} {a : Addr} {P P' : MRep} (st : Stp S H S2 H2 (A ++ (a, P') :: B) M2) : Stp S H S2 H2 (A ++ (a, P) :: B) M2 := by
  have e : dm (A ++ (a, P) :: B) = dm (A ++ (a, P') :: B) := by simp [dm]
  exact ⟨st.s, st.e, fun b h1 h2 => by rw [e]; exact st.new b h1 h2, fun b o h1 h2 => st.fr b o (by rw [← e]; exact h1) h2, st.m, fun b hb => by rw [e]; exact st.dn b hb⟩
theorem MOk.re {S H : Hp} {A B : SH} {a : Addr} {P P' : MRep} (m : MOk S H (A ++ (a, P) :: B)) (h : ∀ o, P.p S o → P'.p S o) : MOk S H (A ++ (a, P') :: B) := by
  have e : dm (A ++ (a, P) :: B) = dm (A ++ (a, P') :: B) := by simp [dm]
  refine ⟨fun b Q hq => ?_, by rw [← e]; exact m.nd⟩
  rcases List.mem_append.mp hq with hq | hq
  · exact m.at_ b Q (List.mem_append_left _ hq)
  · rcases List.mem_cons.mp hq with hq | hq
    · cases hq
      obtain ⟨z, o, ho, p⟩ := m.at_ a P (by simp)
      exact ⟨z, o, ho, h o p⟩
    · exact m.at_ b Q (List.mem_append_right _ (List.mem_cons_of_mem _ hq))
theorem st_open {α : Type} {A B : SH} {a : Addr} {P : MRep} (P' : α → MRep) (h : ∀ S o, P.p S o → ∃ x, (P' x).p S o) (q : ∀ x, St E t Γ (A ++ (a, P' x) :: B) D) : St E t Γ (A ++ (a, P) :: B) D := fun σ S H D0 I o => by
  obtain ⟨_, ob, ho, p⟩ := I.m.at_ a P (by simp)
  obtain ⟨x, px⟩ := h S ob p
  have m' : MOk S H (A ++ (a, P' x) :: B) := by
    have e : dm (A ++ (a, P) :: B) = dm (A ++ (a, P' x) :: B) := by simp [dm]
    have m := I.m
    refine ⟨fun b Q hq => ?_, by rw [← e]; exact m.nd⟩
    rcases List.mem_append.mp hq with hq | hq
    · exact m.at_ b Q (List.mem_append_left _ hq)
    · rcases List.mem_cons.mp hq with hq | hq
      · cases hq
        exact ⟨(m.at_ a P (by simp)).1, ob, ho, px⟩
      · exact m.at_ b Q (List.mem_append_right _ (List.mem_cons_of_mem _ hq))
  exact q x σ S H D0 ⟨I.ex, I.len, I.sl, m'⟩ ⟨fun a b c d e k st I2 => o.nx a b c d e k st.wkL I2, fun a b c d e k st p => o.rt a b c d e k st.wkL p, fun a b c d e k st I2 => o.bk a b c d e k st.wkL I2, fun a b c d e k st I2 => o.ct a b c d e k st.wkL I2, fun a b c d e f k st p => o.ex a b c d e f k st.wkL p⟩
/-- the ends may be said of a weaker heap -/
def KR.dn (k : KR) : KR := fun R M => ∃ A B a, ∃ P P' : MRep, M = A ++ (a, P) :: B ∧ (∀ S o, P.p S o → P'.p S o) ∧ k R (A ++ (a, P') :: B)
theorem out_dn {S H : Hp} {Q : VK} (o : Out S H M k Q) : Out S H M (KR.dn k) Q := fun v S2 H2 R M2 ⟨A, B, a, P, P', e, h, q⟩ st p => by
  subst e
  refine o v S2 H2 R _ q ⟨st.s, st.e, st.new, st.fr, st.m.re (h S2), fun b hb => ?_⟩ p
  have e : dm (A ++ (a, P') :: B) = dm (A ++ (a, P) :: B) := by simp [dm]
  exact st.dn b (by rw [← e]; exact hb)
theorem ev_dn (h : Ev E te Γ M (KR.dn k) X) : Ev E te Γ M k X := fun σ S H Q I o ox => h σ S H Q I (out_dn o) ox
theorem st_close {D' : EndT} {A B : SH} {a : Addr} {P P' : MRep} (h : ∀ S o, P.p S o → P'.p S o) (q : St E t Γ (A ++ (a, P') :: B) D) : St E t Γ (A ++ (a, P) :: B) D := fun σ S H D0 I o =>
  q σ S H D0 ⟨I.ex, I.len, I.sl, I.m.re (h S)⟩ ⟨fun a b c d e k st I2 => o.nx a b c d e k st.wkL I2, fun a b c d e k st p => o.rt a b c d e k st.wkL p, fun a b c d e k st I2 => o.bk a b c d e k st.wkL I2, fun a b c d e k st I2 => o.ct a b c d e k st.wkL I2, fun a b c d e f k st p => o.ex a b c d e f k st.wkL p⟩
/-- a mutable list whose name is read as a value is stable from then on -/
theorem ev_fzL {A B : SH} (h : Ev E te Γ M (fun R M1 => ∃ a rs A B, R = iRef a ∧ M1 = A ++ (a, mLst rs) :: B ∧ k (iLst rs) (A ++ B)) X) : Ev E te Γ M k X := fun σ S H Q I o ox =>
  h σ S H Q I (fun v S2 H2 R M2 ⟨a, rs, A, B, e1, e2, q⟩ st p => by
    subst e1; subst e2; cases p
    obtain ⟨_, ob, ho, xs, rfl, px⟩ := st.m.at_ a (mLst rs) (by simp)
    have f := Stp.fz st.e st.m ho
    exact o (.ref a) _ H2 (iLst rs) _ q (st.trans f) ⟨a, xs, rfl, upd_same, px.mono f.s⟩) ox
/-- slots that hold it are told anew -/
theorem st_fzL {A B : SH} {a : Addr} {rs : List Rep} (h : ∀ Γ' : Ct, Γ' = Γ.map (fun r => r) → St E t Γ' (A ++ B) D) : St E t Γ (A ++ (a, mLst rs) :: B) D := fun σ S H D0 I o => by
  obtain ⟨_, ob, ho, xs, rfl, px⟩ := I.m.at_ a (mLst rs) (by simp)
  have f := Stp.fz I.ex I.m ho
  exact h Γ (by simp) σ _ H D0 (I.step f) (o.step f)
/-- .. slot i holds a stable list from then on -/
theorem st_fzS {A B : SH} {a : Addr} {rs : List Rep} {i : Nat} (hi : Γ[i]? = some (some (iRef a))) (h : St E t (Γ.set i (some (iLst rs))) (A ++ B) D) : St E t Γ (A ++ (a, mLst rs) :: B) D := fun σ S H D0 I o => by
  obtain ⟨_, ob, ho, xs, rfl, px⟩ := I.m.at_ a (mLst rs) (by simp)
  have f := Stp.fz I.ex I.m ho
  have I2 := I.step f
  obtain ⟨v, h1, h2⟩ := I.sl i _ hi
  cases h2
  have I3 : Nv (upd S a (.lst xs)) H σ (Γ.set i (some (iLst rs))) (A ++ B) := by
    refine ⟨I2.ex, by rw [List.length_set]; exact I2.len, fun j R e => ?_, I2.m⟩
    by_cases hj : i = j
    · subst hj
      have hl : i < Γ.length := (List.getElem?_eq_some_iff.mp hi).1
      rw [List.getElem?_set_self hl] at e
      cases e
      exact ⟨.ref a, h1, a, xs, rfl, upd_same, px.mono f.s⟩
    · rw [List.getElem?_set_ne hj] at e
      exact I2.sl j R e
  exact h σ _ H D0 I3 (o.step f)
theorem ite_b {b : Bool} {P Q : Prop} (h1 : b = true → P) (h2 : b = false → Q) : if b = true then P else Q := by
  cases b with
  | true => simpa using h1 rfl
  | false => simpa using h2 rfl
end

/-- a comprehension's target of two names -/
theorem blk_tup2 {X : Cx} {i j : Nat} {x y : Str} {scope : Scope} {px py tpos : Pos} {kk : Nat} (hN : X.N.Nodup) (hc : X.calm = true := by rfl) (hi : X.N[i]? = some x := by rfl) (hj : X.N[j]? = some y := by rfl)
    (hx : ∀ C cl, (compEnvC scope cl C X.env).scope.names.lookup x = some .local := by intro _ _; rfl) (hy : ∀ C cl, (compEnvC scope cl C X.env).scope.names.lookup y = some .local := by intro _ _; rfl) (s : Shared) (H : Hp) (C : Addr) (cl : List (Str × Addr)) (fp : List Addr) :
    PG (X.blk s H scope (compEnvC scope cl C X.env) fp) (.Tuple [.Name x px, .Name y py] kk tpos) (gTup X.K 2 (gCons (gName i) (gCons (gName j) gNil))) :=
  pg_tup (X := X.blk s H scope (compEnvC scope cl C X.env) fp) hc (pgs_cons (pg_name hN hi (.inl (hx C cl)) (.inr (hx C cl))) (pgs_cons (pg_name hN hj (.inl (hy C cl)) (.inr (hy C cl))) pgs_nil))
/-- a module's constant -/
theorem pe_gc {X : Cx} {x : Str} {v : V} {pos : Pos} (hg : Gl X x) (h : ∃ u, X.mg x = some u ∧ RelV v u) (hd : (x == ("__debug__" : Str)) = false := by decide) : PE X (.Name x pos) (tC v) := by
  obtain ⟨u, h1, h2⟩ := h
  exact pe_glob hg h1 h2 hd
/-! ### what may be called by its name -/
structure Cl (P : Program) (w : World) (K : PySem.W.Frag) (mg : Str → Option Value) (base : Heap) (CX : CXT) (k : Nat) (x : Str) (ts : TSp) (dvs : List V) : Prop where
  ex : ∃ (f : Addr) (fd : FuncData) (ps : List Str) (ds : List Value), FnOk P w K mg base CX k f fd ps (spT ts) ∧ mg x = some (.ref f) ∧ PySem.W.keepIn K (.ref f) = true ∧ Binds K fd ps ds ∧ Vals dvs ds
section
variable {X : Cx} {CX : CXT} {k j : Nat} {x : Str} {ts : TSp} {dvs : List V} {p pos : Pos} {e : Expr} {es : List Expr} {t : TA} {E : XK}
theorem pe_cl (c : Cl X.prog X.w X.K X.mg X.base CX k x ts dvs) (hr : Room j X.A) (hk : k ≤ j) (hx : Passes CX X E) (hg : Gl X x) (ha : PA X (e :: es) t)
    (hdb : (x == ("__debug__" : Str)) = false := by decide) (he : starEach (e :: es) X.env = (false, eval e X.env) :: starEach es X.env := by rfl) (hpl : (backTo pos (starEach es X.env)).any (·.1) = false := by rfl) :
    PE X (.Call (.Name x p) (e :: es) [] pos) (tCall (spT ts) dvs E t) := by
  obtain ⟨f, fd, ps, ds, F, hm, kp, b, d⟩ := c.ex
  exact pe_call F (hr.mono hk) hg hm kp b d hx ha hdb he hpl
theorem pe_cl0 (c : Cl X.prog X.w X.K X.mg X.base CX k x ts dvs) (hr : Room j X.A) (hk : k ≤ j) (hx : Passes CX X E) (hg : Gl X x)
    (hdb : (x == ("__debug__" : Str)) = false := by decide) : PE X (.Call (.Name x p) [] [] pos) (tCall (spT ts) dvs E tNil) := by
  obtain ⟨f, fd, ps, ds, F, hm, kp, b, d⟩ := c.ex
  exact pe_call0 F (hr.mono hk) hg hm kp b d hx hdb
end
section
variable {P : Program} {w : World} {K : PySem.W.Frag} {mg : Str → Option Value} {base : Heap}
/-- a def of the top without defaults -/
structure Df (K : PySem.W.Frag) (mg : Str → Option Value) (x : Str) (st : Stmt) (ps : List Str) (f : Addr) (fd : FuncData) : Prop where
  fn : Fun K x x st f fd
  mg : mg x = some (.ref f)
  bd : Binds K fd ps []
theorem cl_of {x : Str} {st : Stmt} {ps : List Str} {f : Addr} {fd : FuncData} {CX : CXT} {k : Nat} {ts : TSp} (d : Df K mg x st ps f fd) (F : FnOk P w K mg base CX k f fd ps (spT ts)) : Cl P w K mg base CX k x ts [] :=
  ⟨f, fd, ps, [], F, d.mg, d.fn.kp, d.bd, .nil⟩
theorem Cl.imp {x : Str} {CX : CXT} {k : Nat} {ts ts' : TSp} {dvs : List V} (c : Cl P w K mg base CX k x ts dvs) (h : ∀ Rs M k X, ts' Rs M k X → ts Rs M k X) : Cl P w K mg base CX k x ts' dvs := by
  obtain ⟨f, fd, ps, ds, F, hm, kp, b, d⟩ := c.ex
  refine ⟨f, fd, ps, ds, F.imp fun vs H Q E q => ?_, hm, kp, b, d⟩
  obtain ⟨S, Rs, M, k, X, h1, r⟩ := q
  exact ⟨S, Rs, M, k, X, h _ _ _ _ h1, r⟩
theorem Cl.mono {x : Str} {CX : CXT} {k j : Nat} {ts : TSp} {dvs : List V} (c : Cl P w K mg base CX k x ts dvs) (h : k ≤ j) : Cl P w K mg base CX j x ts dvs := by
  obtain ⟨f, fd, ps, ds, F, hm, kp, b, d⟩ := c.ex
  exact ⟨f, fd, ps, ds, F.mono h, hm, kp, b, d⟩
end
/-- the built-in names that the program's top leaves alone -/
structure Bt (mg : Str → Option Value) : Prop where
  len : mg "len" = none
  range : mg "range" = none
  list : mg "list" = none
  tuple : mg "tuple" = none
  max : mg "max" = none
  min : mg "min" = none
  all : mg "all" = none
  any : mg "any" = none
  zip : mg "zip" = none
  enumerate : mg "enumerate" = none
  isinstance : mg "isinstance" = none
  str : mg "str" = none
  int : mg "int" = none
  bool : mg "bool" = none
  sorted : mg "sorted" = none
  sum : mg "sum" = none
  repr : mg "repr" = none
  dict : mg "dict" = none
  set : mg "set" = none
/-! ### comprehensions over a text, over a range -/
section
variable {E : XK} {K : PySem.W.Frag} {Γ : Ct} {M : SH} {te ta tb tl : TE} {vs : List Nat} {tt : TT}
theorem given_all {α β : Type} (l : List α) (v : α → β) (d : α) : given l.length (fun _ => true) (fun i => v (l.getD i d)) = l.map v := by
  have := given_list l (fun _ => true) v d
  rw [this]
  congr 1
  simp
theorem ep_lcS {β : Type} {z : Str} {j : Nat} {g : Nat → β} {e' : β → Rep} (hi : Ep E tl Γ M (aStr z)) (hz : z.length ≤ 1000000) (hj : j ∈ vs)
    (he : ∀ c ∈ z.cps.toList, Ep E te ((wipeC Γ vs).set j (some (aStr ⟨#[c]⟩))) M (e' (g c))) : Ep E (tLc (L2.iStr tl) (gName j) tYes te vs) Γ M (iLst ((z.cps.toList.map g).map e')) := by
  refine Ep.to (R := iLst (given z.cps.size (fun _ => true) (fun i => e' (g (z.cps.toList.getD i 0))))) (ep_lc (fun z => by rw [z] at hj; cases hj) (tip_str hi) hz (fun _ => true) (fun i => e' (g (z.cps.toList.getD i 0))) (fun i r hi hr => ?_)) ?_
  · obtain ⟨c, hc, rfl⟩ := hr
    have h1 : z.cps.toList[i]? = some c := by rw [Array.getElem?_toList]; exact hc
    have h2 : z.cps.toList.getD i 0 = c := by rw [List.getD_eq_getElem?_getD, h1]; rfl
    rw [h2]
    exact tg_name ⟨rfl, etp_yes, fun _ => he c (List.mem_of_getElem? h1)⟩ (.inr hj)
  · congr 1
    have := given_all z.cps.toList (fun c => e' (g c)) 0
    rw [Array.length_toList] at this
    rw [this, List.map_map]
    rfl
end
end L3

namespace L3
open PySem L2 RZ PyProof.Rows
/-! ### the box of draws -/
structure BoxV where
  ns : List Int
  pos : Int
  big : Int
  seed : Int
  cnt : Int
  h1 : 0 ≤ pos
  h2 : 0 ≤ big
  h3 : 0 ≤ seed
  h4 : seed < 2147483629
  h5 : ns.length ≤ 1000
def BoxV.l (x : BoxV) : List Rep := [iLst (x.ns.map iInt), iInt x.pos, iInt x.big, iInt x.seed, iInt x.cnt]
def mBox : MRep := ⟨fun S o => ∃ x : BoxV, (mLst x.l).p S o, fun e ⟨x, h⟩ => ⟨x, (mLst x.l).m e h⟩⟩
def tsDraw : TSp := fun Rs M k _ => ∃ b n, Rs = [iRef b, iInt n] ∧ 0 < n ∧ n < 2 ^ 100 ∧ M = [(b, mBox)] ∧ ∀ r : Int, 0 ≤ r → r < n → k (iInt r) [(b, mBox)]
def tsBox (K : PySem.W.Frag) : TSp := fun Rs M k _ => ∃ ns, Rs = [iScr K ns] ∧ ns.length ≤ 63 ∧ M = [] ∧ ∀ b, k (iRef b) [(b, mBox)]
section
variable {E : XK} {K : PySem.W.Frag} {Γ : Ct} {M : SH} {k : KR} {X : KX} {R R1 R2 : Rep} {te ta tb tl : TE} {vs : List Nat} {D : EndT} {t u : TS} {c tt : TT} {tr : TA}
theorem o_ixH {i : Int} {a : Addr} {rs : List Rep} {F : SH} (h : atI rs i = some R) : O2p (rIxL K) (iRef a) (iInt i) ((a, mLst rs) :: F) R := o_ixM (List.mem_cons_self ..) h
theorem c_lenH {a : Addr} {rs : List Rep} {F : SH} : Olp (rLn K) [iRef a] ((a, mLst rs) :: F) (iInt rs.length) := c_lenM (List.mem_cons_self ..)
theorem st_dn (h : St E t Γ M { D with rt := KR.dn D.rt }) : St E t Γ M D := fun σ S H D0 I o => h σ S H D0 I ⟨o.nx, out_dn o.rt, o.bk, o.ct, o.ex⟩
theorem kdn {A B : SH} {a : Addr} {P P' : MRep} (h : ∀ S o, P.p S o → P'.p S o) (q : k R (A ++ (a, P') :: B)) : KR.dn k R (A ++ (a, P) :: B) := ⟨A, B, a, P, P', rfl, h, q⟩
/-- a call with the box and nothing else that is mutable, as the rest stands -/
theorem ev_callB {ts : TSp} {b : Addr} {F : SH} (h : Ea E tr Γ M (fun Rs M1 => ∃ F, M1 = (b, mBox) :: F ∧ ts Rs [(b, mBox)] (fun R M2 => k R (M2 ++ F)) X0) X) : Ev E (tCall (spT ts) [] E0 tr) Γ M k X :=
  ev_call0 (Ds := []) (fun _ => True.intro) (fun σ S H Q I o ox => h σ S H Q I (fun vs S2 H2 Rs M2 ⟨F, e, q⟩ st p => o vs S2 H2 Rs M2 ⟨[(b, mBox)], F, e, by rw [List.append_nil]; exact q⟩ st p) ox)
/-- a draw -/
theorem ev_draw {b : Addr} {n : Int} {F : SH} (h0 : Γ[0]? = Γ[0]?) (hb : Ep E ta Γ ((b, mBox) :: F) (iRef b)) (hn : Ep E tb Γ ((b, mBox) :: F) (iInt n)) (h1 : 0 < n) (h2 : n < 2 ^ 100) (q : ∀ r : Int, 0 ≤ r → r < n → k (iInt r) ((b, mBox) :: F)) :
    Ev E (tCall (spT tsDraw) [] E0 (tCons ta (tCons tb tNil))) Γ ((b, mBox) :: F) k X :=
  ev_callB (b := b) (F := F) (eap_cons hb (eap_cons hn eap_nil) _ _ ⟨F, rfl, b, n, rfl, h1, h2, rfl, fun r a b => q r a b⟩)
theorem at_some {α : Type} (l : List α) {r : Int} (h0 : 0 ≤ r) (h1 : r < l.length) : ∃ x, atI l r = some x ∧ x ∈ l := by
  have h : r.toNat < l.length := by omega
  refine ⟨l[r.toNat], ?_, List.getElem_mem h⟩
  have := atI_nat (xs := l) (j := r.toNat) (v := l[r.toNat]) (by simp)
  rwa [show ((r.toNat : Nat) : Int) = r by omega] at this
end
/-- draw one of a list, a tuple, a text -/
def tsOf (K : PySem.W.Frag) : TSp := fun Rs M k _ =>
  (∃ b rs, Rs = [iRef b, iLst rs] ∧ 0 < rs.length ∧ rs.length ≤ 1000000 ∧ M = [(b, mBox)] ∧ ∀ r ∈ rs, k r [(b, mBox)]) ∨
  (∃ b rs, Rs = [iRef b, aTup K rs] ∧ 0 < rs.length ∧ rs.length ≤ 1000000 ∧ M = [(b, mBox)] ∧ ∀ r ∈ rs, k r [(b, mBox)]) ∨
  (∃ b z, Rs = [iRef b, aStr z] ∧ 0 < z.length ∧ z.length ≤ 1000000 ∧ M = [(b, mBox)] ∧ ∀ c ∈ z.cps.toList, k (aStr ⟨#[c]⟩) [(b, mBox)])
end L3

namespace L3
open PySem L2 RZ PyProof.Rows
/-! ### isinstance -/
def iTy (n : String) : Rep := ⟨fun _ v => v = .ty n, fun _ h => h⟩
def iTupS (rs : List Rep) : Rep := ⟨fun S v => ∃ a xs, v = .ref a ∧ S a = some (.tup xs) ∧ All2 S rs xs, fun e ⟨a, xs, h1, h2, h3⟩ => ⟨a, xs, h1, e _ _ h2, h3.mono e⟩⟩
section
variable {E : XK} {K : PySem.W.Frag} {Γ : Ct} {M : SH} {k : KR} {X : KX} {R R1 R2 : Rep} {te ta tb tl : TE} {vs : List Nat} {D : EndT} {t u : TS} {c tt : TT} {tr : TA}
theorem ep_ty {n : String} : Ep E (tC (.ty n)) Γ M (iTy n) := ep_c fun _ => rfl
theorem ep_tupS {Rs : List Rep} (h : Eap E tr Γ M Rs) (hl : Rs.length ≤ 1000000) : Ep E (tTup tr) Γ M (iTupS Rs) := fun k X q σ S H Q I o ox =>
  h (fun Rs' M' => Rs' = Rs ∧ M' = M) X ⟨rfl, rfl⟩ σ S H _ I (fun xs S1 H1 Rs' M1 ⟨e1, e2⟩ st p => by
    subst e1; subst e2
    exact ⟨sz_le (by rw [p.len]; exact hl), fun a ha => o (.ref a) (upd S1 a (.tup xs)) _ _ _ q (st.trans (Stp.newS st.e st.m ha))
      ⟨a, xs, rfl, upd_same, p.mono (Same.newS (Same.refl _) (st.e.free ha))⟩⟩) ox
/-- R tells the type -/
def IsT (K : PySem.W.Frag) (R : Rep) (T : String) : Prop := ∀ S H v, Same S H → R.p S v → TyX K H v (.type T)
theorem isT_int {i : Int} : IsT K (iInt i) "int" := fun S H v _ p => by cases p; exact .base (.int i)
theorem isT_str {x : Str} : IsT K (aStr x) "str" := fun S H v _ p => by cases p; exact .base (.str x)
theorem isT_bl {b : Bool} : IsT K (iBl b) "bool" := fun S H v _ p => by cases p; exact .base (.bl b)
theorem isT_non : IsT K iNon "NoneType" := fun S H v _ p => by cases p; exact .base .non
theorem isT_lst {rs : List Rep} : IsT K (iLst rs) "list" := fun S H v e p => by
  obtain ⟨a, xs, rfl, h, _⟩ := p
  exact .base (.lst (e _ _ h))
theorem isT_tup {rs : List Rep} : IsT K (aTup K rs) "tuple" := fun S H v e p => by
  obtain ⟨a, xs, rfl, h, _⟩ := p
  rcases h with (h | ⟨o, h⟩) | ⟨o, its, n, h, hc, _⟩
  · exact .base (.tup (e _ _ h))
  · exact .fTuple (e _ _ h)
  · exact .kTuple h hc
theorem c_isi {T n : String} {b : Bool} (h : IsT K R T) (hb : kitB T n = some b) : Olp (rIsi K) [R, iTy n] M (iBl b) := ol_val fun xs S H e _ p => by
  obtain ⟨v, w, rfl, p1, p2⟩ := all2_2 p
  cases p2
  exact ⟨_, rfl, fun Q q => ⟨v, .ty n, _, _, b, rfl, .ty n, h S H v e p1, kit_ty hb, q⟩⟩
theorem kitAny2 {t c1 c2 : Value} {b1 b2 : Bool} (h1 : PySem.W.kitOne K t c1 = some b1) (h2 : PySem.W.kitOne K t c2 = some b2) : PySem.W.kitAny K t [c1, c2] = some (b1 || b2) := by
  unfold PySem.W.kitAny
  rw [h1]
  cases b1 with
  | true => rfl
  | false =>
    show (PySem.W.kitAny K t [c2]) = _
    unfold PySem.W.kitAny
    rw [h2]
    cases b2 <;> rfl
theorem c_isi2 {T n m : String} {b1 b2 : Bool} (h : IsT K R T) (hb : kitB T n = some b1) (hb2 : kitB T m = some b2) : Olp (rIsiT K) [R, iTupS [iTy n, iTy m]] M (iBl (b1 || b2)) := ol_val fun xs S H e _ p => by
  obtain ⟨v, w, rfl, p1, a, ys, rfl, h1, p2⟩ := all2_2 p
  obtain ⟨y1, y2, rfl, q1, q2⟩ := all2_2 p2
  cases q1; cases q2
  exact ⟨_, rfl, fun Q q => ⟨v, a, [.ty n, .ty m], _, [.type n, .type m], _, rfl, e _ _ h1, .cons (.ty n) (.cons (.ty m) .nil), h S H v e p1, kitAny2 (kit_ty hb) (kit_ty hb2), q⟩⟩
end
/-! ### data that the law's own likeness takes -/
inductive Fit : Nat → PyData → Prop
  | non {n : Nat} : Fit (n + 1) .none
  | bl {n : Nat} (b : Bool) : Fit (n + 1) (.bool b)
  | int {n : Nat} (i : Int) : Fit (n + 1) (.int i)
  | str {n : Nat} (s : Str) : Fit (n + 1) (.str s)
  | list {n : Nat} {ds : List PyData} (hl : ds.length ≤ 1000000) (h : ∀ d ∈ ds, Fit n d) : Fit (n + 1) (.list ds)
  | tup {n : Nat} {ds : List PyData} (hl : ds.length ≤ 1000000) (h : ∀ d ∈ ds, Fit n d) : Fit (n + 1) (.tuple ds)
def tsLike (K : PySem.W.Frag) (n : Nat) : TSp := pureTs (fun d : PyData => [iDat K d, iDat K d]) (Fit n) (fun _ => iBl true)
theorem iDats_get (K : PySem.W.Frag) {ds : List PyData} {i : Nat} {r : Rep} (h : (iDats K ds)[i]? = some r) : ∃ d ∈ ds, r = iDat K d := by
  rw [iDats_map, List.getElem?_map] at h
  cases q : ds[i]? with
  | none => rw [q] at h; cases h
  | some d =>
    rw [q] at h
    exact ⟨d, List.mem_of_getElem? q, (Option.some.inj h).symm⟩
theorem iDats_len (K : PySem.W.Frag) (ds : List PyData) : (iDats K ds).length = ds.length := by rw [iDats_map, List.length_map]
theorem given_true (n : Nat) : given n (fun _ => true) (fun _ => iBl true) = (List.replicate n true).map iBl := by
  unfold given
  rw [List.map_replicate]
  have : (List.range n).filter (fun _ => true) = List.range n := by simp
  rw [this]
  apply List.ext_getElem
  · simp
  · simp
theorem all_true (n : Nat) : (List.replicate n true).all id = true := by simp
theorem cl_false {P : Program} {w : World} {K : PySem.W.Frag} {mg : Str → Option Value} {base : Heap} {x : Str} {st : Stmt} {ps : List Str} {f : Addr} {fd : FuncData} {CX : CXT} {k : Nat} {ts : TSp} (d : Df K mg x st ps f fd) (h : ∀ Rs M k X, ¬ ts Rs M k X) : Cl P w K mg base CX k x ts [] :=
  cl_of d ⟨fun vs H Q E ⟨_, Rs, M, k, X, q, _⟩ => (h Rs M k X q).elim, fun A outer s H args us vs Q E _ _ _ _ ⟨_, Rs, M, k, X, q, _⟩ => (h Rs M k X q).elim⟩
/-- the law's own call -/
theorem law_in {K : PySem.W.Frag} {ts : TSp} {H : Hp} {a : Addr} {ns : List Int} (hS : SqL K H a (ns.map V.int)) (h : ts [iScr K ns] [] (fun R _ => R = iBl true) X0) : spT ts [.ref a] H (fun v _ => v = .bl true) (fun _ _ _ => False) :=
  ⟨H, [iScr K ns], [], _, _, h, Same.refl _, ⟨fun _ _ h => absurd h List.not_mem_nil, List.nodup_nil⟩, ⟨⟨a, rfl, hS⟩, True.intro⟩, fun v S2 H2 R M2 e st p => by subst e; exact p, fun _ _ _ _ _ _ z => z.elim⟩
end L3

namespace L3
open PySem L2 RZ PyProof.Rows
/-! ### a list or a tuple, walked -/
def iSeq (K : PySem.W.Frag) (tl : TE) : TI := fun σ H R => tl σ H fun x H1 => (∃ a, x = .ref a ∧ (∃ xs, SqL K H1 a xs) ∧ R (Itl K a) H1) ∨ ∃ a, x = .ref a ∧ (∃ xs, SqT K H1 a xs) ∧ R (Itt K a) H1
section
variable {X : Cx} {tg : Expr}
theorem walk_new {pins : List (Addr × Obj)} {σ : L2.St} {H : Hp} {s : Shared} {R : It → Hp → Prop} {J : It} {o : Obj} {tn : Nat → Heap → Prop} (I : Inv X pins σ H s) (T : Turn X.prog X.w X.K tg J [s.heap.objs.size] s.heap.objs.size tn) (h0 : tn 0 (s.heap.push o)) (q : R J H) :
    PIE X pins σ tg R (.ref s.heap.objs.size) { s with heap := s.heap.push o } := by
  have Ik : Inv X pins σ H { s with heap := s.heap.push o, toks := s.toks } := I.kept fun _ _ z => Heap.get?_push_of_some _ z
  refine ⟨_, _, _, J, H, rfl, Ik, T, h0, ?_, q⟩
  intro c hc
  rw [List.mem_singleton.mp hc]
  exact I.fpOk (Nat.le_refl _) (I.hok.fresh (Nat.le_refl _))
theorem pi_seq {l : Expr} {tl : TE} (hl : PE X l tl) : PI X tg l (iSeq X.K tl) := ⟨fun pins s σ H R I h => by
  refine thn (hl.run pins s σ H _ I h) fun v s1 hx => ?_
  obtain ⟨x, H1, I1, r1, hc⟩ := hx
  rcases hc with ⟨a, rfl, ⟨xs, hs⟩, q⟩ | ⟨a, rfl, ⟨xs, hs⟩, q⟩
  · cases r1
    obtain ⟨its, _, pl, _⟩ := I1.list hs
    exact wpAny_pyIter_list pl.isList (walk_new I1 (turn_list a _) ⟨_, Heap.get?_push_size _ rfl, rfl, rfl⟩ q)
  · cases r1
    obtain ⟨its, _, pt, _⟩ := I1.tuple hs
    exact wpAny_pyIter_tuple (show s1.heap.IsTuple a its.toArray from pt) (walk_new I1 (turn_tuple a _) ⟨_, Heap.get?_push_size _ rfl, rfl, rfl⟩ q)⟩
end
section
variable {E : XK} {K : PySem.W.Frag} {Γ : Ct} {M : SH} {k : KR} {X : KX} {R R1 R2 : Rep} {te ta tb tc tl : TE} {vs : List Nat} {D : EndT} {t u : TS} {c tt : TT} {tr : TA}
/-- a list or a tuple of these -/
def aSeq (K : PySem.W.Frag) (rs : List Rep) : Rep := ⟨fun S v => (iLst rs).p S v ∨ (aTup K rs).p S v, fun e h => h.elim (fun z => .inl ((iLst rs).m e z)) (fun z => .inr ((aTup K rs).m e z))⟩
theorem seq_l {rs : List Rep} (S : Hp) (v : V) (h : (iLst rs).p S v) : (aSeq K rs).p S v := .inl h
theorem seq_t {rs : List Rep} (S : Hp) (v : V) (h : (aTup K rs).p S v) : (aSeq K rs).p S v := .inr h
theorem tip_seq {rl : List Rep} (h : Ep E tl Γ M (aSeq K rl)) : Tip E (iSeq K tl) Γ M rl.length (fun i r => rl[i]? = some r) := fun ki X q σ S H R I o ox =>
  h (fun R' M' => R' = aSeq K rl ∧ M' = M) X ⟨rfl, rfl⟩ σ S H _ I (fun v S2 H2 R' M2 ⟨e1, e2⟩ st p => by
    subst e1; subst e2
    rcases p with ⟨a, xs, rfl, p1, p2⟩ | ⟨a, xs, rfl, p1, p2⟩
    · exact .inl ⟨a, rfl, ⟨xs, SqL.of (st.e _ _ p1)⟩, o _ S2 H2 _ _ _ q st (tw_list p1 p2)⟩
    · exact .inr ⟨a, rfl, ⟨xs, Same.sqt st.e p1⟩, o _ S2 H2 _ _ _ q st (tw_tup p1 p2)⟩) ox
theorem c_lenQ {rs : List Rep} : Olp (rLn K) [aSeq K rs] M (iInt rs.length) := fun k q xs S H Q e m h o => by
  obtain ⟨v, rfl, h1⟩ := all2_1 h
  rcases h1 with h1 | h1
  · exact c_lenL k q [v] S H Q e m ⟨h1, True.intro⟩ o
  · exact c_lenT k q [v] S H Q e m ⟨h1, True.intro⟩ o
theorem o_ixQ {rs : List Rep} {i : Int} (h : atI rs i = some R) : O2p (rIx K) (aSeq K rs) (iInt i) M R := fun k q x y S H Q e m h1 h2 o => by
  rcases h1 with h1 | h1
  · exact Or.inl (o_ixL (K := K) h k q x y S H Q e m h1 h2 o)
  · exact Or.inr (Or.inl (o_ixT h k q x y S H Q e m h1 h2 o))
theorem c_tupQ {rs : List Rep} : Olp (rTupOf K) [aSeq K rs] M (aTup K rs) := fun k q xs S H Q e m h o => by
  obtain ⟨v, rfl, h1⟩ := all2_1 h
  rcases h1 with h1 | h1
  · exact c_tupL k q [v] S H Q e m ⟨h1, True.intro⟩ o
  · exact c_tupT k q [v] S H Q e m ⟨h1, True.intro⟩ o
theorem c_listQ {rs : List Rep} : Olp (rListOf K) [aSeq K rs] M (iLst rs) := fun k q xs S H Q e m h o => by
  obtain ⟨v, rfl, h1⟩ := all2_1 h
  rcases h1 with h1 | h1
  · exact c_listL k q [v] S H Q e m ⟨h1, True.intro⟩ o
  · exact c_listT k q [v] S H Q e m ⟨h1, True.intro⟩ o
theorem o_rep2 {rs : List Rep} (h : rs.length ≤ 400000) : O2p rRep (iLst rs) (iInt 2) M (iLst (rs ++ rs)) := o2_newL fun x y S H e _ h1 h2 => by
  obtain ⟨a, xs, rfl, q1, q2⟩ := h1
  cases h2
  refine ⟨xs ++ xs, q2.app q2, fun Q q => ⟨a, 2, xs, rfl, rfl, e _ _ q1, by decide, by decide, ?_, fun p hp => ?_⟩⟩
  · rw [q2.len]; exact sz_le (by show rs.length * 2 ≤ 1000000; omega)
  · have : (List.replicate (2 : Int).toNat xs).flatten = xs ++ xs := by
      show (List.replicate 2 xs).flatten = xs ++ xs
      simp [List.replicate]
    rw [this]
    exact q p hp
theorem iLst_app1 {rs : List Rep} : (rs ++ [R]).length = rs.length + 1 := by simp
/-! ### ranges with a step -/
theorem ti_rng3 {ki : Nat → (Nat → Rep → Prop) → SH → Prop} (h : Ea E tr Γ M (fun Rs M1 => ∃ (i j c : Int) (n : Nat), Rs = [iInt i, iInt j, iInt c] ∧ RgC i j c n ∧ ki n (fun t r => r = iInt (i + (t : Nat) * c)) M1) X) : Ti E (iRng3 tr) Γ M ki X := fun σ S H R I o ox =>
  h σ S H _ I (fun xs S2 H2 Rs M2 ⟨i, j, c, n, e, hr, q⟩ st p => by
    subst e
    match xs, p with
    | [], p => exact p.elim
    | [_], p => exact p.2.elim
    | [_, _], p => exact p.2.2.elim
    | _ :: _ :: _ :: _ :: _, p => exact p.2.2.2.elim
    | [v1, v2, v3], p =>
      obtain ⟨p1, p2, p3, _⟩ := p
      cases p1; cases p2; cases p3
      exact ⟨i, j, c, n, rfl, hr, o _ S2 H2 n _ M2 q st ⟨_, _, walk_rangeC, fun _ _ _ _ => True.intro, fun t H x H' _ y Sx Mx _ e2 m => by
        obtain ⟨rfl, rfl⟩ := y
        exact ⟨Sx, _, Stp.refl e2 m, rfl, rfl⟩⟩⟩) ox
theorem tip_rng3 {i j c : Int} {n : Nat} (h1 : Ep E ta Γ M (iInt i)) (h2 : Ep E tb Γ M (iInt j)) (h3 : Ep E tc Γ M (iInt c)) (hr : RgC i j c n) : Tip E (iRng3 (tCons ta (tCons tb (tCons tc tNil)))) Γ M n (fun t r => r = iInt (i + (t : Nat) * c)) :=
  fun _ _ q => ti_rng3 (eap_cons h1 (eap_cons h2 (eap_cons h3 eap_nil)) _ _ ⟨i, j, c, n, rfl, hr, q⟩)
theorem rangeSize_mul {a : Int} {n : Nat} (ha : 0 < a) : Builtin.Range.rangeSize a (a * n + 1) a = n := by
  unfold Builtin.Range.rangeSize
  rw [if_pos (show a > 0 from ha)]
  by_cases h : n = 0
  · subst h
    rw [if_neg (by simp; omega)]
    rfl
  · have hn : (1 : Int) ≤ n := by omega
    have h2 : a * 1 ≤ a * n := Int.mul_le_mul_of_nonneg_left hn (by omega)
    rw [if_pos (by omega)]
    have e : a * (n : Int) + 1 - a - 1 = a * ((n : Int) - 1) := by rw [Int.mul_sub, Int.mul_one]; omega
    first
      | (rw [e, Int.mul_ediv_cancel_left _ (by omega)]; omega)
      | (rw [show (a * (n : Int) + 1 - 1 - a) = a * ((n : Int) - 1) by rw [Int.mul_sub, Int.mul_one]; omega, Int.mul_ediv_cancel_left _ (by omega)]; omega)
theorem rgC_mul {a : Int} {n : Nat} (ha : 0 < a) (h1 : a < 1000000000) (h2 : a * n ≤ 1000000000000) : RgC a (a * n + 1) a n := by
  refine ⟨by omega, by omega, ?_, rangeSize_mul ha⟩
  unfold Builtin.Range.small
  rw [rangeSize_mul ha]
  simp only [Builtin.Range.rangeFitsLong, Bool.and_eq_true, Bool.or_eq_true, decide_eq_true_eq, beq_iff_eq]
  have h3 : (0 : Int) ≤ a * n := Int.mul_nonneg (by omega) (by omega)
  have h4 : (n : Int) ≤ a * n := by
    have : 1 * (n : Int) ≤ a * n := Int.mul_le_mul_of_nonneg_right (by omega) (by omega)
    omega
  refine ⟨by omega, .inr ?_⟩
  rw [if_pos (show a > 0 from ha)]
  simp only [Bool.and_eq_true, decide_eq_true_eq]
  omega
end
end L3

namespace L3
open PySem L2 RZ PyProof.Rows
section
variable {E : XK} {K : PySem.W.Frag} {Γ : Ct} {M : SH} {k : KR} {X : KX} {R R1 R2 : Rep} {te ta tb tc tl : TE} {vs : List Nat} {D : EndT} {t u : TS} {c tt : TT} {tr : TA}
theorem ev_int {i : Int} (q : k (iInt i) M) : Ev E (tC (.int i)) Γ M k X := ep_int _ _ q
theorem ev_str {z : Str} (q : k (aStr z) M) : Ev E (tC (.str z)) Γ M k X := ep_str _ _ q
theorem ev_bl {b : Bool} (q : k (iBl b) M) : Ev E (tC (.bl b)) Γ M k X := ep_bl _ _ q
theorem ev_non (q : k iNon M) : Ev E (tC .non) Γ M k X := ep_non _ _ q
theorem ev_ty {n : String} (q : k (iTy n) M) : Ev E (tC (.ty n)) Γ M k X := ep_ty _ _ q
theorem ev_notV (h : Ev E ta Γ M (fun R M1 => ∃ b, R = iBl b ∧ k (iBl (!b)) M1) X) : Ev E (tNotV ta) Γ M k X := fun σ S H Q I o ox =>
  h σ S H _ I (fun v S2 H2 R M2 ⟨b, e, q⟩ st p => by
    subst e; cases p
    exact ⟨b, rfl, o _ S2 H2 (iBl (!b)) _ q st rfl⟩) ox
theorem ev_call_at {sp : Sp} {dvs : List V} {E' : XK} (h : Ev E (tCall sp dvs E' tr) Γ M k X) : Ev E (tCall sp dvs E' tr) Γ M k X := h
theorem ev_varM {i : Nat} (h : ∃ R, Γ[i]? = some (some R) ∧ k R M) : Ev E (tVar i) Γ M k X := let ⟨_, h1, h2⟩ := h; ev_var h1 h2
theorem k_at {i : Nat} {P : Rep → Prop} (h : Γ[i]? = some (some R)) (q : P R) : ∃ R, Γ[i]? = some (some R) ∧ P R := ⟨R, h, q⟩
/-- the words of the walk -/
theorem k_b {b : Bool} {P : Bool → Prop} (h : P b) : ∃ c, iBl b = iBl c ∧ P c := ⟨b, rfl, h⟩
theorem k_len {n : Nat} {P : Prop} (hn : n ≤ 1000000) (h : P) : n ≤ 1000000 ∧ P := ⟨hn, h⟩
theorem k_par {P : Rep → Rep → Prop} (h : P R1 R2) : ∃ A B, [R1, R2] = [A, B] ∧ P A B := ⟨_, _, rfl, h⟩
theorem k_str {z : Str} {P : Str → Prop} (h : P z) : ∃ c, aStr z = aStr c ∧ P c := ⟨z, rfl, h⟩
theorem k_lst {rs : List Rep} {P : List Rep → Prop} (h : P rs) : ∃ c, iLst rs = iLst c ∧ P c := ⟨rs, rfl, h⟩
theorem k_tup {rs : List Rep} {P : List Rep → Prop} (h : P rs) : ∃ c, aTup K rs = aTup K c ∧ P c := ⟨rs, rfl, h⟩
theorem k_t {P Q : Prop} (h : P) : if true = true then P else Q := by simpa using h
theorem k_f {P Q : Prop} (h : Q) : if false = true then P else Q := by simpa using h
theorem k_nt {P Q : Prop} (h : Q) : if (!true) = true then P else Q := by simpa using h
theorem k_nf {P Q : Prop} (h : P) : if (!false) = true then P else Q := by simpa using h
theorem cmul_at {a b : Int} (h : CMul a b) : CMul a b := h
theorem nle_at {a b : Nat} (h : a ≤ b) : a ≤ b := h
theorem ile_at {a b : Int} (h : a ≤ b) : a ≤ b := h
theorem ilt_at {a b : Int} (h : a < b) : a < b := h
theorem ol_at {rl : List V → Hp → VK → Prop} {Rs : List Rep} (h : Ol rl Rs M k) : Ol rl Rs M k := h
theorem o1_at {r : V → Hp → VK → Prop} (h : O1 r R1 M k) : O1 r R1 M k := h
theorem o2_at {r : L2.R2} (h : O2 r R1 R2 M k) : O2 r R1 R2 M k := h
theorem ep_at (h : ∀ (k : KR) (X : KX), k R M → Ev E te Γ M k X) : Ep E te Γ M R := h
theorem etp_at {b : Bool} (h : ∀ (k : Bool → SH → Prop) (X : KX), k b M → Et E c Γ M k X) : Etp E c Γ M b := h
theorem eap_at {Rs : List Rep} (h : ∀ (k : List Rep → SH → Prop) (X : KX), k Rs M → Ea E tr Γ M k X) : Eap E tr Γ M Rs := h
/-- weaker words of arguments -/
def LeS (a b : List Rep) : Prop := ∀ S vs, All2 S a vs → All2 S b vs
theorem leS_rfl {a : List Rep} : LeS a a := fun _ _ h => h
theorem leS_nil : LeS [] [] := fun _ _ h => h
theorem leS_cons {a b : List Rep} (h : ∀ S v, R1.p S v → R2.p S v) (h2 : LeS a b) : LeS (R1 :: a) (R2 :: b) := fun S vs p => by
  match vs, p with
  | [], p => exact p.elim
  | v :: vs, p => exact ⟨h S v p.1, h2 S vs p.2⟩
theorem leS_seqL {rs : List Rep} : LeS [iLst rs] [aSeq K rs] := leS_cons seq_l leS_nil
theorem leS_seqT {rs : List Rep} : LeS [aTup K rs] [aSeq K rs] := leS_cons seq_t leS_nil
/-- a call of a def that only reckons -/
theorem ev_callP0 {α : Type} {args : α → List Rep} {pre : α → Prop} {res : α → Rep} (h : Ea E tr Γ M (fun Rs M1 => ∃ x, LeS Rs (args x) ∧ pre x ∧ k (res x) M1) X) : Ev E (tCall (spT (pureTs args pre res)) [] E0 tr) Γ M k X :=
  ev_call0 (Ds := []) (fun _ => True.intro) fun σ S H Q I o ox => h σ S H Q I (fun vs S2 H2 Rs M2 ⟨x, e, hp, q⟩ st p => o vs S2 H2 (args x) M2 ⟨[], M2, rfl, x, by rw [List.append_nil], hp, rfl, q⟩ st (e S2 vs p)) ox
/-- a def that changes nothing, with several ends -/
def pureK (sp : List Rep → (Rep → Prop) → Prop) : TSp := fun Rs M k _ => M = [] ∧ sp Rs fun R => k R []
theorem ev_callK {sp : List Rep → (Rep → Prop) → Prop} (h : Ea E tr Γ M (fun Rs M1 => ∃ Rs', LeS Rs Rs' ∧ sp Rs' fun R => k R M1) X) : Ev E (tCall (spT (pureK sp)) [] E0 tr) Γ M k X :=
  ev_call0 (Ds := []) (fun _ => True.intro) fun σ S H Q I o ox => h σ S H Q I (fun vs S2 H2 Rs M2 ⟨Rs', e, q⟩ st p => o vs S2 H2 Rs' M2 ⟨[], M2, rfl, rfl, by rw [List.append_nil]; exact q⟩ st (e S2 vs p)) ox
/-- a def that draws, and changes nothing else -/
def boxK (sp : List Rep → (Rep → Prop) → Prop) : TSp := fun Rs M k _ => ∃ b Rs', Rs = iRef b :: Rs' ∧ M = [(b, mBox)] ∧ sp Rs' fun R => k R [(b, mBox)]
theorem ev_callB2 {sp : List Rep → (Rep → Prop) → Prop} (h : Ea E tr Γ M (fun Rs M1 => ∃ b Rs0 F, Rs = iRef b :: Rs0 ∧ M1 = (b, mBox) :: F ∧ ∃ Rs', LeS Rs0 Rs' ∧ sp Rs' fun R => k R M1) X) : Ev E (tCall (spT (boxK sp)) [] E0 tr) Γ M k X :=
  ev_call0 (Ds := []) (fun _ => True.intro) fun σ S H Q I o ox => h σ S H Q I (fun vs S2 H2 Rs M2 ⟨b, Rs0, F, e, eM, Rs', le, q⟩ st p => o vs S2 H2 (iRef b :: Rs') M2 ⟨[(b, mBox)], F, by rw [eM]; rfl, b, Rs', by rw [List.append_nil], rfl, by rw [eM] at q; exact q⟩ st (by
    subst e
    match vs, p with
    | [], p => exact p.elim
    | v :: vs, p => exact ⟨p.1, le S2 vs p.2⟩)) ox
theorem k_box {b : Addr} {Rs : List Rep} {F : SH} {P : Addr → List Rep → SH → Prop} (h : P b Rs F) : ∃ c Rs0 G, iRef b :: Rs = iRef c :: Rs0 ∧ (b, mBox) :: F = (c, mBox) :: G ∧ P c Rs0 G := ⟨b, Rs, F, rfl, rfl, h⟩
def tsOf2 (K : PySem.W.Frag) : TSp := boxK fun Rs q =>
  (∃ rs, Rs = [iLst rs] ∧ 0 < rs.length ∧ rs.length ≤ 1000000 ∧ ∀ r ∈ rs, q r) ∨
  (∃ rs, Rs = [aTup K rs] ∧ 0 < rs.length ∧ rs.length ≤ 1000000 ∧ ∀ r ∈ rs, q r) ∨
  (∃ z : Str, Rs = [aStr z] ∧ 0 < z.length ∧ z.length ≤ 1000000 ∧ ∀ c ∈ z.cps.toList, q (aStr ⟨#[c]⟩))
/-- a call, all of the symbolic heap handed over -/
theorem ev_callT {ts : TSp} (h : Ea E tr Γ M (fun Rs M1 => ∃ Mf Fr, M1 = Mf ++ Fr ∧ ts Rs Mf (fun R M2 => k R (M2 ++ Fr)) X0) X) : Ev E (tCall (spT ts) [] E0 tr) Γ M k X :=
  ev_call0 (Ds := []) (fun _ => True.intro) fun σ S H Q I o ox => h σ S H Q I (fun vs S2 H2 Rs M2 ⟨Mf, Fr, e, q⟩ st p => o vs S2 H2 Rs M2 ⟨Mf, Fr, e, by rw [List.append_nil]; exact q⟩ st p) ox
/-- a draw, the box first in the heap -/
theorem ev_draw0 (h : Ea E tr Γ M (fun Rs M1 => ∃ b n F, Rs = [iRef b, iInt n] ∧ M1 = (b, mBox) :: F ∧ 0 < n ∧ n < 2 ^ 100 ∧ ∀ r : Int, 0 ≤ r → r < n → k (iInt r) M1) X) : Ev E (tCall (spT tsDraw) [] E0 tr) Γ M k X :=
  ev_callT fun σ S H Q I o ox => h σ S H Q I (fun vs S2 H2 Rs M2 ⟨b, n, F, e, eM, h1, h2, q⟩ st p => o vs S2 H2 Rs M2 ⟨[(b, mBox)], F, by rw [eM]; rfl, b, n, e, h1, h2, rfl, fun r r0 r1 => by
    have := q r r0 r1
    rw [eM] at this
    exact this⟩ st p) ox
theorem k_draw {b : Addr} {n : Int} {F : SH} {P : Addr → Int → SH → Prop} (hn : 0 < n ∧ n < 2 ^ 100) (h : P b n F) : ∃ c m G, [iRef b, iInt n] = [iRef c, iInt m] ∧ (b, mBox) :: F = (c, mBox) :: G ∧ 0 < m ∧ m < 2 ^ 100 ∧ P c m G := ⟨b, n, F, rfl, rfl, hn.1, hn.2, h⟩
theorem k_nat {n : Int} {P : Int → Prop} (h : ∀ r : Nat, (r : Int) < n → P r) : ∀ r : Int, 0 ≤ r → r < n → P r := fun r h0 h1 => by
  obtain ⟨m, rfl⟩ := Int.eq_ofNat_of_zero_le h0
  exact h m h1
theorem ev_rev (h : Ev E te Γ M (fun R M1 => ∃ rs, R = iLst rs ∧ k (iLst rs.reverse) M1) X) : Ev E (tRevL K te) Γ M k X := fun σ S H Q I o ox =>
  h σ S H _ I (fun v S1 H1 R' M1 ⟨rs, e, q⟩ st p => by
    subst e
    obtain ⟨a, xs, rfl, q1, q2⟩ := p
    exact ⟨a, xs, rfl, SqL.of (st.e _ _ q1), fun b hb => o (.ref b) (upd S1 b (.lst xs.reverse)) _ (iLst rs.reverse) _ q (st.trans (Stp.newS st.e st.m hb)) ⟨b, _, rfl, upd_same, q2.rev.mono (Same.newS (Same.refl _) (st.e.free hb))⟩⟩) ox
/-- a part of a list, of a text: the bounds read ahead -/
theorem ev_sl {r : V → Option Int → Option Int → Hp → VK → Prop} {tlo thi : TO} {lo hi : Option Int} (h1 : ∀ M, Eo E tlo Γ M lo) (h2 : ∀ M, Eo E thi Γ M hi) (h : Ev E te Γ M (fun R1 M1 => ∀ x S H Q, Same S H → MOk S H M1 → R1.p S x → Out S H M1 k Q → r x lo hi H Q) X) : Ev E (tSl r te tlo thi) Γ M k X := fun σ S H Q I o ox =>
  h σ S H _ I (fun v S1 H1 R' M1 q st p =>
    h1 M1 σ S1 H1 _ (I.step st) fun S2 H2 st2 => h2 M1 σ S2 H2 _ (I.step (st.trans st2)) fun S3 H3 st3 =>
      q v S3 H3 Q st3.e st3.m (R'.m (st2.s.trans st3.s) p) (o.step ((st.trans st2).trans st3))) ox
end
/-! ### loops with a word of their own; slots forgotten -/
inductive Wk : Ct → Ct → Prop
  | nil : Wk [] []
  | no {c : Option Rep} {a b : Ct} : Wk a b → Wk (none :: a) (c :: b)
  | so {R : Rep} {a b : Ct} : Wk a b → Wk (some R :: a) (some R :: b)
theorem Wk.len {a b : Ct} (h : Wk a b) : b.length = a.length := by
  induction h with
  | nil => rfl
  | no _ ih => simp [ih]
  | so _ ih => simp [ih]
theorem Wk.at {a b : Ct} (h : Wk a b) : ∀ (i : Nat) (R : Rep), a[i]? = some (some R) → b[i]? = some (some R) := by
  induction h with
  | nil => intro i R e; simp at e
  | no _ ih =>
    intro i R e
    cases i with
    | zero => simp at e
    | succ i => simpa using ih i R (by simpa using e)
  | so _ ih =>
    intro i R e
    cases i with
    | zero => simpa using e
    | succ i => simpa using ih i R (by simpa using e)
theorem Wk.refl : ∀ a : Ct, Wk a a
  | [] => .nil
  | none :: a => .no (Wk.refl a)
  | some _ :: a => .so (Wk.refl a)
section
variable {E : XK} {K : PySem.W.Frag} {Γ Γ0 : Ct} {M : SH} {k : KR} {X : KX} {R : Rep} {te : TE} {vs : List Nat} {D : EndT} {t : TS} {c : TT} {wi : TI} {g : TG}
theorem st_wk (w : Wk Γ0 Γ) (h : St E t Γ0 M D) : St E t Γ M D := st_ctx h w.len w.at
theorem tg_wk {kc : KC} (w : Wk Γ0 Γ) (h : Tg g R Γ0 M vs kc) : Tg g R Γ M vs kc := fun v σ S H Q I p o => h v σ S H Q (I.weak w.len.symm w.at) p o
theorem ev_wk (w : Wk Γ0 Γ) (h : Ev E te Γ0 M k X) : Ev E te Γ M k X := fun σ S H Q I o ox => h σ S H Q (I.weak w.len.symm w.at) o ox
theorem et_wk {kb : Bool → SH → Prop} (w : Wk Γ0 Γ) (h : Et E c Γ0 M kb X) : Et E c Γ M kb X := fun σ S H Q I o ox => h σ S H Q (I.weak w.len.symm w.at) o ox
def LJ {α : Type} (P : α → Prop) (G : α → Ct) (N : α → SH) : KC := fun Γ M => ∃ a, P a ∧ Wk (G a) Γ ∧ M = N a
theorem lj {α : Type} {P : α → Prop} {G : α → Ct} {N : α → SH} (a : α) (h1 : P a) (h2 : Wk (G a) Γ) (h3 : M = N a) : LJ P G N Γ M := ⟨a, h1, h2, h3⟩
/-- what is walked, the words of the loop behind it -/
def FJ (E : XK) (g : TG) (t : TS) (D : EndT) (α : Type) (Γ : Ct) (n : Nat) (rs : Nat → Rep → Prop) (M : SH) : Prop :=
  ∃ (P : Nat → α → Prop) (G : α → Ct) (N : α → SH), LJ (P 0) G N Γ M ∧ (∀ i r a, i < n → rs i r → P i a → Tg g r (G a) (N a) [] fun Γ2 M2 => St E t Γ2 M2 { D with nx := LJ (P (i + 1)) G N, ct := LJ (P (i + 1)) G N, bk := D.nx }) ∧ ∀ a Γ1, P n a → Wk (G a) Γ1 → D.nx Γ1 (N a)
theorem st_forG (α : Type) (h : Ti E wi Γ M (FJ E g t D α Γ) D.ex) : St E (tFor wi g t) Γ M D := st_for fun σ S H R I o ox =>
  h σ S H R I (fun J S1 H1 n rs M1 ⟨P, G, N, h0, h1, h2⟩ st w => o J S1 H1 n rs M1 ⟨fun i => LJ (P i) G N, h0, fun i r Γ1 M1 hi hr ⟨a, ha, hw, hm⟩ => by
    subst hm
    exact tg_wk hw (h1 i r a hi hr ha), fun Γ1 M1 ⟨a, ha, hw, hm⟩ => by
    subst hm
    exact h2 a Γ1 ha hw⟩ st w) ox
theorem st_whileG (α : Type) (P : Nat → α → Prop) (G : α → Ct) (N : α → SH) (m0 : Nat) (h0 : LJ (P m0) G N Γ M) (hs : ∀ m a, P m a → Et E c (G a) (N a) (fun b M2 => if b = true then St E t (G a) M2 { D with nx := fun Γ2 M3 => ∃ m', m' < m ∧ LJ (P m') G N Γ2 M3, ct := fun Γ2 M3 => ∃ m', m' < m ∧ LJ (P m') G N Γ2 M3, bk := D.nx } else ∀ Γ1, Wk (G a) Γ1 → D.nx Γ1 M2) D.ex) : St E (tWhile c t) Γ M D :=
  st_while (fun m => LJ (P m) G N) m0 h0 fun m Γ1 M1 ⟨a, ha, hw, hm⟩ => by
    subst hm
    refine et_wk hw fun σ S H Q I o ox => hs m a ha σ S H Q I (fun b S2 H2 M2 q st => o b S2 H2 M2 ?_ st) ox
    cases b with
    | true =>
      rw [if_pos rfl] at q ⊢
      exact st_wk hw q
    | false =>
      rw [if_neg Bool.false_ne_true] at q ⊢
      exact q Γ1 hw
end
theorem given_len {α : Type} {n : Nat} {f : Nat → Bool} {v : Nat → α} : (given n f v).length ≤ n := by
  unfold given
  rw [List.length_map]
  exact Nat.le_trans (List.length_filter_le _ _) (by simp)
theorem given_none {α : Type} {n : Nat} {f : Nat → Bool} {v : Nat → α} (h : ∀ i, i < n → f i = false) : given n f v = [] := by
  unfold given
  rw [List.map_eq_nil_iff, List.filter_eq_nil_iff]
  intro j hj
  rw [h j (List.mem_range.mp hj)]
  decide
theorem atI_0 {α : Type} {x : α} {l : List α} : atI (x :: l) 0 = some x := atI_nat (xs := x :: l) (j := 0) (v := x) (by simp)
/-! ### likeness -/
def FitAll (n : Nat) (ds : List PyData) : Prop := ∀ d ∈ ds, Fit n d
theorem fitA_nil {n : Nat} : FitAll n [] := fun _ h => by cases h
theorem fitA_cons {n : Nat} {d : PyData} {ds : List PyData} (h : Fit n d) (h2 : FitAll n ds) : FitAll n (d :: ds) := fun x hx => by
  rcases List.mem_cons.mp hx with e | e
  · rw [e]; exact h
  · exact h2 x e
theorem fitA_map {n : Nat} {α : Type} {g : α → PyData} {l : List α} (h : ∀ x ∈ l, Fit n (g x)) : FitAll n (l.map g) := fun d hd => by
  obtain ⟨x, hx, rfl⟩ := List.mem_map.mp hd
  exact h x hx
theorem fitA_app {n : Nat} {ds es : List PyData} (h : FitAll n ds) (h2 : FitAll n es) : FitAll n (ds ++ es) := fun d hd => by
  rcases List.mem_append.mp hd with e | e
  · exact h d e
  · exact h2 d e
theorem fit_l {n : Nat} {ds : List PyData} (h : FitAll n ds) (hl : ds.length ≤ 1000000) : Fit (n + 1) (.list ds) := .list hl h
theorem fit_t {n : Nat} {ds : List PyData} (h : FitAll n ds) (hl : ds.length ≤ 1000000) : Fit (n + 1) (.tuple ds) := .tup hl h
theorem k_like {K : PySem.W.Frag} {R1 R2 : Rep} {d : PyData} {P : Prop} (h2 : R2 = iDat K d) (h1 : R1 = iDat K d) (hf : Fit 7 d) (q : P) : ∃ x, LeS [R1, R2] [iDat K x, iDat K x] ∧ Fit 7 x ∧ P := ⟨d, by rw [h1, h2]; exact leS_rfl, hf, q⟩
/-- the written part, as the trees name it -/
theorem cxK {CX : CXT} {P : Program} {w : World} {K : PySem.W.Frag} {mg : Str → Option Value} {base : Heap} {N : List Str} {qual : Str} {scope : Scope} {f : Addr} {cd : Value} {A : Around} {outer : List PySem.Env} {s : Shared} {H : Hp} {E : XK} : (cxOf CX P w K mg base N qual scope f cd A outer s H E).nox.K = K := rfl
theorem cxKX {CX : CXT} {P : Program} {w : World} {K : PySem.W.Frag} {mg : Str → Option Value} {base : Heap} {N : List Str} {qual : Str} {scope : Scope} {f : Addr} {cd : Value} {A : Around} {outer : List PySem.Env} {s : Shared} {H : Hp} {E : XK} : (cxOf CX P w K mg base N qual scope f cd A outer s H E).K = K := rfl
end L3

namespace L3
open PySem PySem.Spec PySem.W L2 RZ PyProof.Rows
/-! ### first, *rest = a list or a tuple -/
/-- what the spreading of one head and a rest asks of the thing spread: it is iterable, its iterator gives x, then all the others -/
structure Spread (P : Program) (w : World) (A : Around) (E : Value → Shared → Prop) (s : Shared) (v x : Value) (rest : List Value) : Prop where
  ok : ∀ Q : Bool → Shared → Prop, Q false s → wpAny (model P w) A (notIterableAtAll v) Q E s
  go : ∃ (J0 J1 : Addr → Heap → Prop),
    (∀ Q : Value → Shared → Prop, (∀ (it : Addr) (h : Heap), (∀ b o, s.heap.get? b = some o → h.get? b = some o) → J0 it h → Q (.ref it) { s with heap := h }) → wpAny (model P w) A (pyIter v) Q E s) ∧
    (∀ (it : Addr) (h0 : Heap) (Q : List Value → Shared → Prop), (∀ b o, s.heap.get? b = some o → h0.get? b = some o) → J0 it h0 → (∀ h : Heap, (∀ b o, s.heap.get? b = some o → h.get? b = some o) → J1 it h → Q [x] { s with heap := h }) → wpAny (model P w) A (draw (.ref it) 1) Q E { s with heap := h0 }) ∧
    (∀ (it : Addr) (h1 : Heap) (Q : List Value → Shared → Prop), (∀ b o, s.heap.get? b = some o → h1.get? b = some o) → J1 it h1 → (∀ (h : Heap) (tk : Nat), (∀ b o, s.heap.get? b = some o → h.get? b = some o) → Q rest { s with heap := h, toks := tk }) → wpAny (model P w) A (collect (.ref it)) Q E { s with heap := h1 })
theorem Spread.run {P : Program} {w : World} {A : Around} {E : Value → Shared → Prop} {s : Shared} {v x : Value} {rest : List Value} (sp : Spread P w A E s v x rest) (hz : rest.length ≤ 16000) {Q : List Value → Shared → Prop}
    (h : ∀ (h' : Heap) (tk : Nat), (∀ b o, s.heap.get? b = some o → h'.get? b = some o) → Q [x, .ref h'.objs.size] { s with heap := h'.push { cls := .type "list", data := .seq rest.toArray }, toks := tk }) : wpAny (model P w) A (unpackItems v 2 (some 1)) Q E s := by
  obtain ⟨J0, J1, g0, g1, g2⟩ := sp.go
  have hlast : ∀ (h1 : Heap) (tk : Nat), (∀ b o, s.heap.get? b = some o → h1.get? b = some o) →
      wpAny (model P w) A (newList (rest.take (rest.length - 0)) >>= fun d => pure ([x] ++ [d] ++ rest.drop (rest.length - 0))) Q E { s with heap := h1, toks := tk } := fun h1 tk k1 => by
    rw [Nat.sub_zero, List.take_length, List.drop_length]
    exact wpAny_bind (wpAny_newList (s := { s with heap := h1, toks := tk }) (wpAny_pure (h h1 tk k1)) (by rw [sizeLine_eq]; omega))
  unfold unpackItems
  refine wpAny_bind (sp.ok _ ?_)
  rw [if_neg Bool.false_ne_true]
  refine wpAny_bind (wpAny_holding (g0 _ fun it h0 k0 j0 => ?_))
  refine wpAny_bind (wpAny_holding (g1 it h0 _ k0 j0 fun h1 k1 j1 => ?_))
  rw [if_neg (show ¬ [x].length < 1 from Nat.lt_irrefl 1)]
  refine wpAny_bind (wpAny_holding (g2 it h1 _ k1 j1 fun h2 tk k2 => ?_))
  show wpAny _ _ (if rest.length < 0 then _ else _) _ _ _
  rw [if_neg (Nat.not_lt_zero _)]
  exact hlast h2 tk k2
theorem one_of {items : Array Value} {x : Value} {rest : List Value} (e : items.toList = x :: rest) : (items.toList.drop 0).take 1 = [x] ∧ items.toList.drop 1 = rest ∧ 1 ≤ items.size := by
  refine ⟨by rw [e]; rfl, by rw [e]; rfl, ?_⟩
  rw [← Array.length_toList, e]
  exact Nat.succ_le_succ (Nat.zero_le _)
section
variable {P : Program} {w : World} {A : Around} {E : Value → Shared → Prop} {s : Shared} {l : Addr} {items : Array Value} {x : Value} {rest : List Value}
theorem spread_list (hl : s.heap.IsList l items) (hh : A.handled = none) (e : items.toList = x :: rest) (hz : items.size ≤ 16384) : Spread P w A E s (.ref l) x rest := by
  obtain ⟨e1, e2, e3⟩ := one_of e
  have hne : l ≠ s.heap.objs.size := let ⟨_, ho, _⟩ := hl; Nat.ne_of_lt (Heap.lt_size ho)
  have far : ∀ b o, s.heap.get? b = some o → b ≠ s.heap.objs.size := fun b o q => Nat.ne_of_lt (Heap.lt_size q)
  refine ⟨fun Q q => ?_, fun it h => it = s.heap.objs.size ∧ h.IsListIter it l 0 ∧ h.IsList l items, fun it h => it = s.heap.objs.size ∧ h.IsListIter it l 1 ∧ h.IsList l items, fun Q q => ?_, fun it h0 Q k0 j0 q => ?_, fun it h1 Q k1 j1 q => ?_⟩
  · unfold notIterableAtAll
    exact wpAny_bind (wpAny_specialOf hl.typeIs slot_list_iter.lookup (wpAny_pure q))
  · exact wpAny_pyIter_list hl (q _ _ (fun b o k => Heap.get?_push_of_some _ k) ⟨rfl, ⟨_, Heap.get?_push_size _ rfl, rfl, rfl⟩, hl.push _⟩)
  · obtain ⟨rfl, i0, l0⟩ := j0
    refine kun_draw hne 1 0 _ _ i0 l0 (by omega) fun h1 i1 s1 => ?_
    rw [e1]
    exact q h1 (fun b o k => s1.extBut b o (far b o k) (k0 b o k)) ⟨rfl, i1, l0.extBut s1.extBut hne⟩
  · obtain ⟨rfl, i1, l1⟩ := j1
    have iz : s.heap.objs.size < h1.objs.size := let ⟨_, ho, _⟩ := i1; Heap.lt_size ho
    have lz : l < h1.objs.size := let ⟨_, ho, _⟩ := l1; Heap.lt_size ho
    refine kun_collect (s := { s with heap := h1 }) (T := "list_iterator") (.inr (.inr (.inl rfl))) (Walks.list (A := A.in1) hh s.heap.objs.size l hne items) (fun j u st => st.1.typeIs) (k := 1) e3 ⟨i1, l1⟩ iz lz (fun h2 tk k2 => ?_) (by rw [sizeLine_eq]; omega)
    rw [e2]
    exact q h2 tk fun b o k => k2 b o (far b o k) (k1 b o k)
theorem spread_tup (hl : IsTup s.heap l items) (hh : A.handled = none) (e : items.toList = x :: rest) (hz : items.size ≤ 16384) : Spread P w A E s (.ref l) x rest := by
  obtain ⟨e1, e2, e3⟩ := one_of e
  have hne : l ≠ s.heap.objs.size := let ⟨_, ho, _⟩ := hl; Nat.ne_of_lt (Heap.lt_size ho)
  have far : ∀ b o, s.heap.get? b = some o → b ≠ s.heap.objs.size := fun b o q => Nat.ne_of_lt (Heap.lt_size q)
  refine ⟨fun Q q => ?_, fun it h => it = s.heap.objs.size ∧ IsTupIter h it l 0 ∧ IsTup h l items, fun it h => it = s.heap.objs.size ∧ IsTupIter h it l 1 ∧ IsTup h l items, fun Q q => ?_, fun it h0 Q k0 j0 q => ?_, fun it h1 Q k1 j1 q => ?_⟩
  · unfold notIterableAtAll
    exact wpAny_bind (wpAny_specialOf hl.typeIs slot_tuple_iter.lookup (wpAny_pure q))
  · exact iter_tuple hl (q _ _ (fun b o k => Heap.get?_push_of_some _ k) ⟨rfl, ⟨_, Heap.get?_push_size _ rfl, rfl, rfl⟩, hl.push _⟩)
  · obtain ⟨rfl, i0, l0⟩ := j0
    refine draw_tuple hne 1 0 _ _ i0 l0 (by omega) fun h1 i1 s1 => ?_
    rw [e1]
    exact q h1 (fun b o k => s1.extBut b o (far b o k) (k0 b o k)) ⟨rfl, i1, l0.extBut s1.extBut hne⟩
  · obtain ⟨rfl, i1, l1⟩ := j1
    have iz : s.heap.objs.size < h1.objs.size := let ⟨_, ho, _⟩ := i1; Heap.lt_size ho
    have lz : l < h1.objs.size := let ⟨_, ho, _⟩ := l1; Heap.lt_size ho
    refine kun_collect (s := { s with heap := h1 }) (T := "tuple_iterator") (.inr (.inr (.inr rfl))) (Walks.tuple (A := A.in1) hh s.heap.objs.size l hne items) (fun j u st => st.1.typeIs) (k := 1) e3 ⟨i1, l1⟩ iz lz (fun h2 tk k2 => ?_) (by rw [sizeLine_eq]; omega)
    rw [e2]
    exact q h2 tk fun b o k => k2 b o (far b o k) (k1 b o k)
end
def gStar (K : PySem.W.Frag) (t : TGs) : TG := fun v σ H Q => ∃ a x xs, v = .ref a ∧ (SqL K H a (x :: xs) ∨ SqT K H a (x :: xs)) ∧ xs.length ≤ 16000 ∧ ∀ p, H p = none → t [x, .ref p] σ (upd H p (.lst xs)) Q
section
variable {X : Cx} {e0 e1 : Expr} {t : TGs} {sp pos : Pos} {kk : Nat}
theorem pg_star2 (hc : X.calm = true) (h : PGs X [e0, e1] t) (hst : (assignEach [e0, .Starred e1 sp] X.env).findIdx? (·.1) = some 1 := by rfl) (hm : (assignEach [e0, .Starred e1 sp] X.env).map (·.2) = (assignEach [e0, e1] X.env).map (·.2) := by rfl) (hl : (assignEach [e0, .Starred e1 sp] X.env).length = 2 := by rfl) : PG X (.Tuple [e0, .Starred e1 sp] kk pos) (gStar X.K t) := by
  refine ⟨fun pins s σ H v u Q I r hw => ?_⟩
  obtain ⟨a, x, xs, e1', hq, hlen, hw⟩ := hw
  subst e1'
  cases r
  rw [assign_Tuple]
  refine wpAny_bind (wpAny_standAt ?_)
  unfold unpack
  rw [hl, hst, hm]
  have go : ∀ (x0 : Value) (its : List Value), RelV x x0 → Vals xs its → ∀ (h' : Heap) tk, (∀ b o, s.heap.get? b = some o → h'.get? b = some o) →
      wpAny (model X.prog X.w) X.A (assignInOrder ((assignEach [e0, e1] X.env).map (·.2)) [x0, .ref h'.objs.size]) (fun _ s' => ∃ σ' H', Inv X pins σ' H' s' ∧ Q σ' H') X.xe { s with heap := h'.push { cls := .type "list", data := .seq its.toArray }, toks := tk } := by
    intro x0 its rx r h' tk hk
    have I1 : Inv X pins σ H { s with heap := h', toks := tk } := I.kept (t' := tk) hk
    have hf : H h'.objs.size = none := I1.hok.fresh (Nat.le_refl _)
    have I2 : Inv X pins σ (upd H h'.objs.size (.lst xs)) { s with heap := h'.push { cls := .type "list", data := .seq its.toArray }, toks := tk } :=
      I1.laid (t' := tk) (fun b u e => Heap.get?_push_of_some _ e) (Nat.le_refl _) ⟨by rw [sizeLine_eq]; omega, its, 0, r, Heap.get?_push_size _ rfl⟩
    exact h.run pins _ σ _ [x, .ref h'.objs.size] _ Q I2 (.cons rx (.cons rfl .nil)) (hw _ hf)
  rcases hq with hq | hq
  · obtain ⟨its, r, pl, _⟩ := I.list hq
    cases r with
    | cons rx r =>
      rename_i x0 its
      have hz : its.length ≤ 16000 := by rw [← r.length]; exact hlen
      exact wpAny_bind (wpAny_holding ((spread_list (x := x0) (rest := its) pl.isList (I.ok.hd hc) (by simp) (by simp; omega)).run hz fun h' tk hk => go x0 its rx r h' tk hk))
  · obtain ⟨its, r, pt, _⟩ := I.tuple hq
    cases r with
    | cons rx r =>
      rename_i x0 its
      have hz : its.length ≤ 16000 := by rw [← r.length]; exact hlen
      exact wpAny_bind (wpAny_holding ((spread_tup (x := x0) (rest := its) pt (I.ok.hd hc) (by simp) (by simp; omega)).run hz fun h' tk hk => go x0 its rx r h' tk hk))
end
section
variable {K : PySem.W.Frag} {Γ : Ct} {M : SH} {R : Rep} {vs : List Nat} {k : KC} {g0 g1 : TG}
theorem tg_star_at {gs : TGs} (h : Tg (gStar K gs) R Γ M vs k) : Tg (gStar K gs) R Γ M vs k := h
theorem tg_star {rs : List Rep} (hl : rs.length ≤ 16000) (h : Tgs (gCons g0 (gCons g1 gNil)) [R, iLst rs] Γ M vs k) (R' : Rep) (hR : R' = iLst (R :: rs) ∨ R' = aTup K (R :: rs) ∨ R' = aSeq K (R :: rs)) : Tg (gStar K (gCons g0 (gCons g1 gNil))) R' Γ M vs k := fun v σ S H Q I p o => by
  have go : ∀ a (xs : List V), v = .ref a → (SqL K H a xs ∨ SqT K H a xs) → All2 S (R :: rs) xs → gStar K (gCons g0 (gCons g1 gNil)) v σ H Q := by
    intro a xs e hq p2
    match xs, p2 with
    | [], p2 => exact p2.elim
    | x :: xs, p2 =>
      refine ⟨a, x, xs, e, hq, by rw [All2.len p2.2]; exact hl, fun q hq => ?_⟩
      have st := Stp.newS (o := .lst xs) I.ex I.m hq
      exact h [x, .ref q] σ _ _ Q (I.step st) ⟨R.m st.s p2.1, ⟨q, xs, rfl, upd_same, All2.mono st.s p2.2⟩, True.intro⟩ fun σ2 S2 H2 Γ2 M2 q2 st2 I2 w2 => o σ2 S2 H2 Γ2 M2 q2 (st.trans st2) I2 w2
  rcases hR with e | e | e
  · subst e
    obtain ⟨a, xs, e, q1, q2⟩ := p
    exact go a xs e (.inl (SqL.of (I.ex _ _ q1))) q2
  · subst e
    obtain ⟨a, xs, e, q1, q2⟩ := p
    exact go a xs e (.inr (Same.sqt I.ex q1)) q2
  · subst e
    rcases p with ⟨a, xs, e, q1, q2⟩ | ⟨a, xs, e, q1, q2⟩
    · exact go a xs e (.inl (SqL.of (I.ex _ _ q1))) q2
    · exact go a xs e (.inr (Same.sqt I.ex q1)) q2
end
end L3

namespace L3
open PySem L2 RZ PyProof.Rows
section
variable {E : XK} {K : PySem.W.Frag} {Γ : Ct} {M : SH} {k : KR} {X : KX} {R R1 R2 : Rep} {te ta tb tc tl : TE} {vs : List Nat} {D : EndT} {t u : TS} {c tt : TT} {tr : TA}
/-! ### slices, read from the left -/
def EoC (E : XK) (to : TO) (Γ : Ct) (M : SH) (ko : Option Int → SH → Prop) : Prop := ∀ σ S H (Q : Option Int → Hp → Prop), Nv S H σ Γ M → (∀ o S2 H2 M2, ko o M2 → Stp S H S2 H2 M M2 → Q o H2) → to σ H Q
theorem eoc_none {ko : Option Int → SH → Prop} (h : ko none M) : EoC E tNoPart Γ M ko := fun σ S H Q I o => o none S H M h (Stp.refl I.ex I.m)
theorem eoc_some {ko : Option Int → SH → Prop} (h : Ev E te Γ M (fun R M1 => ∃ i, R = iInt i ∧ ko (some i) M1) X0) : EoC E (tPart te) Γ M ko := fun σ S H Q I o =>
  h σ S H _ I (fun v S2 H2 R M2 ⟨i, e, q⟩ st p => by
    subst e; cases p
    exact ⟨i, rfl, o (some i) S2 H2 M2 q st⟩) (fun _ _ _ _ _ _ z => z.elim)
theorem k_int {i : Int} {P : Int → Prop} (h : P i) : ∃ j, iInt i = iInt j ∧ P j := ⟨i, rfl, h⟩
def Os (r : V → Option Int → Option Int → Hp → VK → Prop) (R : Rep) (lo hi : Option Int) (M : SH) (k : KR) : Prop := ∀ x S H Q, Same S H → MOk S H M → R.p S x → Out S H M k Q → r x lo hi H Q
theorem ev_slC {r : V → Option Int → Option Int → Hp → VK → Prop} {tlo thi : TO} (h : Ev E te Γ M (fun R1 M1 => EoC E tlo Γ M1 fun lo M2 => EoC E thi Γ M2 fun hi M3 => Os r R1 lo hi M3 k) X) : Ev E (tSl r te tlo thi) Γ M k X := fun σ S H Q I o ox =>
  h σ S H _ I (fun v S1 H1 R' M1 q st p => q σ S1 H1 _ (I.step st) fun lo S2 H2 M2 q2 st2 => q2 σ S2 H2 _ (I.step (st.trans st2)) fun hi S3 H3 M3 q3 st3 =>
    q3 v S3 H3 Q st3.e st3.m (R'.m (st2.s.trans st3.s) p) (o.step ((st.trans st2).trans st3))) ox
theorem os_list {rs : List Rep} {lo hi : Option Int} (q : k (iLst (cutL rs lo hi)) M) : Os (rSlL K) (iLst rs) lo hi M k := fun x S H Q e m p o => s_list k q x S H Q e m p o
theorem os_str {z : Str} {lo hi : Option Int} (hz : z.length ≤ 1000000) (q : k (aStr (cutS z lo hi)) M) : Os rSlS (aStr z) lo hi M k := fun x S H Q e m p o => s_str hz k q x S H Q e m p o
theorem os_tup {rs : List Rep} {lo hi : Option Int} (q : k (aTup K (cutL rs lo hi)) M) : Os (rSlA K) (aTup K rs) lo hi M k := fun x S H Q e m p o => by
  obtain ⟨a, xs, rfl, h1, h2⟩ := p
  refine ⟨a, xs, rfl, Same.sqt e h1, fun ⟨c1, c2⟩ => ?_, fun _ b hb => ?_⟩
  · refine o (.ref a) S H _ M q (Stp.refl e m) ⟨a, xs, rfl, h1, ?_⟩
    have e2 : cutL rs lo hi = rs := by
      unfold cutL
      rw [← h2.len, c1, c2, Nat.sub_zero, List.drop_zero]
      exact List.take_of_length_le (by rw [h2.len]; exact Nat.le_refl _)
    rw [e2]
    exact h2
  · exact o (.ref b) (upd S b (.tup (cutV xs lo hi))) _ _ M q (Stp.newS e m hb) ⟨b, _, rfl, SqT.of upd_same, (h2.cut lo hi).mono (Same.newS (Same.refl _) (e.free hb))⟩
theorem cutL_drop {α : Type} (l : List α) (n : Nat) : cutL l (some (n : Int)) none = l.drop n := by
  unfold cutL
  rw [HT.sIx_nat, HT.sIx_none]
  by_cases h : n ≤ l.length
  · rw [Nat.min_eq_left h]
    exact List.take_of_length_le (by rw [List.length_drop]; omega)
  · rw [Nat.min_eq_right (by omega), List.drop_of_length_le (Nat.le_refl _), List.drop_of_length_le (by omega)]
    simp
theorem cutL_take {α : Type} (l : List α) (n : Nat) : cutL l none (some (n : Int)) = l.take n := by
  unfold cutL
  rw [HT.sIx_nat, HT.sIx_none, List.drop_zero, Nat.sub_zero]
  by_cases h : n ≤ l.length
  · rw [Nat.min_eq_left h]
  · rw [Nat.min_eq_right (by omega), List.take_of_length_le (Nat.le_refl _), List.take_of_length_le (by omega)]
theorem cutL_last {α : Type} (l : List α) : cutL l none (some (-1)) = l.dropLast := by
  unfold cutL
  have e : HT.sIx l.length l.length (some (-1)) = l.length - 1 := by
    show (if (-1 : Int) < 0 then ((-1 : Int) + (l.length : Int)).toNat else min (-1 : Int).toNat l.length) = _
    rw [if_pos (show (-1 : Int) < 0 by decide)]
    omega
  rw [e, HT.sIx_none, List.drop_zero, Nat.sub_zero, List.dropLast_eq_take]
theorem cutL_1 {α : Type} (l : List α) : cutL l (some 1) none = l.drop 1 := cutL_drop l 1
theorem cutL_2 {α : Type} (l : List α) : cutL l (some 2) none = l.drop 2 := cutL_drop l 2
theorem cutL_t1 {α : Type} (l : List α) : cutL l none (some 1) = l.take 1 := cutL_take l 1
theorem cutL_t2 {α : Type} (l : List α) : cutL l none (some 2) = l.take 2 := cutL_take l 2
theorem Wk.trans {a b : Ct} (h : Wk a b) : ∀ {c : Ct}, Wk b c → Wk a c := by
  induction h with
  | nil => intro c h; exact h
  | no _ ih =>
    intro c h
    cases h with
    | no h => exact .no (ih h)
    | so h => exact .no (ih h)
  | so _ ih =>
    intro c h
    cases h with
    | so h => exact .so (ih h)
theorem k_ofL {rs : List Rep} {q : Rep → Prop} (h0 : 0 < rs.length) (h1 : rs.length ≤ 1000000) (h : ∀ r ∈ rs, q r) : ∃ Rs', LeS [iLst rs] Rs' ∧ ((∃ rs, Rs' = [iLst rs] ∧ 0 < rs.length ∧ rs.length ≤ 1000000 ∧ ∀ r ∈ rs, q r) ∨
  (∃ rs, Rs' = [aTup K rs] ∧ 0 < rs.length ∧ rs.length ≤ 1000000 ∧ ∀ r ∈ rs, q r) ∨
  (∃ z : Str, Rs' = [aStr z] ∧ 0 < z.length ∧ z.length ≤ 1000000 ∧ ∀ c ∈ z.cps.toList, q (aStr ⟨#[c]⟩))) := ⟨_, leS_rfl, .inl ⟨rs, rfl, h0, h1, h⟩⟩
theorem k_ofT {rs : List Rep} {q : Rep → Prop} (h0 : 0 < rs.length) (h1 : rs.length ≤ 1000000) (h : ∀ r ∈ rs, q r) : ∃ Rs', LeS [aTup K rs] Rs' ∧ ((∃ rs, Rs' = [iLst rs] ∧ 0 < rs.length ∧ rs.length ≤ 1000000 ∧ ∀ r ∈ rs, q r) ∨
  (∃ rs, Rs' = [aTup K rs] ∧ 0 < rs.length ∧ rs.length ≤ 1000000 ∧ ∀ r ∈ rs, q r) ∨
  (∃ z : Str, Rs' = [aStr z] ∧ 0 < z.length ∧ z.length ≤ 1000000 ∧ ∀ c ∈ z.cps.toList, q (aStr ⟨#[c]⟩))) := ⟨_, leS_rfl, .inr (.inl ⟨rs, rfl, h0, h1, h⟩)⟩
theorem k_ofS {z : Str} {q : Rep → Prop} (h0 : 0 < z.length) (h1 : z.length ≤ 1000000) (h : ∀ c ∈ z.cps.toList, q (aStr ⟨#[c]⟩)) : ∃ Rs', LeS [aStr z] Rs' ∧ ((∃ rs, Rs' = [iLst rs] ∧ 0 < rs.length ∧ rs.length ≤ 1000000 ∧ ∀ r ∈ rs, q r) ∨
  (∃ rs, Rs' = [aTup K rs] ∧ 0 < rs.length ∧ rs.length ≤ 1000000 ∧ ∀ r ∈ rs, q r) ∨
  (∃ z : Str, Rs' = [aStr z] ∧ 0 < z.length ∧ z.length ≤ 1000000 ∧ ∀ c ∈ z.cps.toList, q (aStr ⟨#[c]⟩))) := ⟨_, leS_rfl, .inr (.inr ⟨z, rfl, h0, h1, h⟩)⟩
theorem k_map {α : Type} {f : α → Rep} {l : List α} {P : Rep → Prop} (h : ∀ x ∈ l, P (f x)) : ∀ r ∈ l.map f, P r := fun r hr => by
  obtain ⟨x, hx, rfl⟩ := List.mem_map.mp hr
  exact h x hx
/-! ### tuples put together -/
theorem o_catT {r1 r2 : List Rep} (h : r1.length + r2.length ≤ 1000000) : O2p (rCatA K) (aTup K r1) (aTup K r2) M (aTup K (r1 ++ r2)) := fun k q x y S H Q e m h1 h2 o => by
  obtain ⟨a, xs, rfl, q1, q2⟩ := h1
  obtain ⟨b, ys, rfl, q3, q4⟩ := h2
  have q5 := q2.app q4
  refine ⟨a, b, xs, ys, rfl, rfl, Same.sqt e q1, Same.sqt e q3, by rw [q2.len, q4.len]; exact sz_le h, fun hx => ?_, fun _ hy => ?_, fun _ _ p hp => ?_⟩
  · subst hx
    exact o (.ref b) S H _ M q (Stp.refl e m) ⟨b, ys, rfl, q3, q5⟩
  · subst hy
    rw [List.append_nil] at q5
    exact o (.ref a) S H _ M q (Stp.refl e m) ⟨a, xs, rfl, q1, q5⟩
  · exact o (.ref p) (upd S p (.tup (xs ++ ys))) _ _ M q (Stp.newS e m hp) ⟨p, _, rfl, SqT.of upd_same, q5.mono (Same.newS (Same.refl _) (e.free hp))⟩
/-! ### lists that are changed, by their place in the symbolic heap -/
theorem at_split : ∀ {M : SH} {i : Nat} {a : Addr} {P P' : MRep}, M[i]? = some (a, P) → M = M.take i ++ (a, P) :: M.drop (i + 1) ∧ M.set i (a, P') = M.take i ++ (a, P') :: M.drop (i + 1)
  | [], i, a, P, P', h => by simp at h
  | x :: M, 0, a, P, P', h => by
    have e : x = (a, P) := by simpa using h
    subst e
    exact ⟨rfl, rfl⟩
  | x :: M, i + 1, a, P, P', h => by
    obtain ⟨h1, h2⟩ := at_split (M := M) (i := i) (P' := P') (by simpa using h)
    exact ⟨by simpa using h1, by simpa using h2⟩
theorem at_mem {M : SH} {i : Nat} {x : Addr × MRep} (h : M[i]? = some x) : x ∈ M := List.mem_of_getElem? h
theorem ev_append (h : Ev E ta Γ M (fun R1 M1 => ∃ (a : Addr) (i : Nat) (rs : List Rep), R1 = iRef a ∧ M1[i]? = some (a, mLst rs) ∧ Ea E tr Γ M1 (fun Rs M2 => ∃ (R : Rep) (j : Nat) (rs : List Rep), Rs = [R] ∧ M2[j]? = some (a, mLst rs) ∧ rs.length < 1000000 ∧ k iNon (M2.set j (a, mLst (rs ++ [R])))) X) X) : Ev E (tBM K "list" rAppend ta tr) Γ M k X :=
  ev_bm fun σ S H Q I o ox => h σ S H Q I (fun v S2 H2 R M2 ⟨a, i, rs, e, hm, q⟩ st p => by
    subst e
    refine o v S2 H2 (iRef a) M2 ⟨ty_mLst (at_mem hm), fun σ S H Q I o ox => q σ S H Q I (fun vs S2 H2 Rs M2 ⟨R, j, rs, e, hj, hl, q⟩ st p => ?_) ox⟩ st p
    subst e
    refine o vs S2 H2 [R] M2 ?_ st p
    obtain ⟨e1, e2⟩ := at_split (P' := mLst (rs ++ [R])) hj
    rw [e2] at q
    rw [e1]
    exact om_append hl q) ox
theorem k_app {a : Addr} {M : SH} {i : Nat} {rs : List Rep} {P : Addr → Prop} (hm : M[i]? = some (a, mLst rs)) (h : P a) : ∃ (b : Addr) (i : Nat) (rs : List Rep), iRef a = iRef b ∧ M[i]? = some (b, mLst rs) ∧ P b := ⟨a, i, rs, rfl, hm, h⟩
theorem k_app2_at {a : Addr} {M : SH} {P : Rep → Nat → List Rep → Prop} (h : ∃ (R' : Rep) (j : Nat) (rs : List Rep), [R] = [R'] ∧ M[j]? = some (a, mLst rs) ∧ rs.length < 1000000 ∧ P R' j rs) : ∃ (R' : Rep) (j : Nat) (rs : List Rep), [R] = [R'] ∧ M[j]? = some (a, mLst rs) ∧ rs.length < 1000000 ∧ P R' j rs := h
theorem nlt_at {a b : Nat} (h : a < b) : a < b := h
theorem k_app2 {a : Addr} {M : SH} {j : Nat} {rs : List Rep} {P : Rep → Nat → List Rep → Prop} (hm : M[j]? = some (a, mLst rs)) (hl : rs.length < 1000000) (h : P R j rs) : ∃ (R' : Rep) (j : Nat) (rs : List Rep), [R] = [R'] ∧ M[j]? = some (a, mLst rs) ∧ rs.length < 1000000 ∧ P R' j rs := ⟨R, j, rs, rfl, hm, hl, h⟩
/-- x = [], a list that is to be changed -/
theorem st_asgM {j : Nat} (h : ∀ a, D.nx (Γ.set j (some (iRef a))) (M ++ [(a, mLst [])])) : St E (tAsg (tLst tNil) (gName j)) Γ M D := st_asg (ev_lstM (ea_nil ⟨by simp, fun a => h a⟩))
/-- a list that was changed is told, and stays from then on -/
theorem ev_told (h : Ev E te Γ M (fun R M1 => ∃ (a : Addr) (i : Nat) (rs : List Rep), R = iRef a ∧ M1[i]? = some (a, mLst rs) ∧ k (iLst rs) (M1.eraseIdx i)) X) : Ev E te Γ M k X := ev_fzL (A := []) (B := []) fun σ S H Q I o ox => h σ S H Q I (fun v S2 H2 R M2 ⟨a, i, rs, e, hm, q⟩ st p => by
  refine o v S2 H2 R M2 ⟨a, rs, M2.take i, M2.drop (i + 1), e, (at_split (P' := mLst rs) hm).1, ?_⟩ st p
  rwa [← List.eraseIdx_eq_take_drop_succ]) ox
theorem st_told {i j : Nat} {a : Addr} {rs : List Rep} (hj : Γ[j]? = some (some (iRef a))) (hm : M[i]? = some (a, mLst rs)) (h : St E t (Γ.set j (some (iLst rs))) (M.eraseIdx i) D) : St E t Γ M D := by
  have e := (at_split (P' := mLst rs) hm).1
  rw [e]
  refine st_fzS (i := j) hj ?_
  rwa [← List.eraseIdx_eq_take_drop_succ]
/-! ### calls with defaults, by keywords -/
theorem ev_callPD {α : Type} {args : α → List Rep} {pre : α → Prop} {res : α → Rep} {dvs : List V} {Ds : List Rep} (hd : ∀ S, All2 S Ds dvs) (h : Ea E tr Γ M (fun Rs M1 => ∃ x, LeS (Rs ++ Ds) (args x) ∧ pre x ∧ k (res x) M1) X) : Ev E (tCall (spT (pureTs args pre res)) dvs E0 tr) Γ M k X := fun σ S H Q I o ox =>
  h σ S H _ I (fun xs S1 H1 Rs M1 ⟨x, le, hp, q⟩ st p => by
    refine spT_in (Mf := []) (Fr := M1) (Rs := args x) (X := X0) (k := k) ⟨x, rfl, hp, rfl, q⟩ st.e st.m (le S1 _ (p.app (hd S1))) (o.step st) (fun _ _ _ _ _ _ z => z.elim)) ox
theorem ev_callKP {α : Type} {args : α → List Rep} {pre : α → Prop} {res : α → Rep} {n m : Nat} {tk : TA} {gV : List V → List V → List V} {gR : List Rep → List Rep → List Rep} (hg : ∀ S Rs Zs vs zs, All2 S Rs vs → All2 S Zs zs → All2 S (gR Rs Zs) (gV vs zs))
    (h : Ea E tr Γ M (fun Rs M1 => Rs.length = n ∧ Ea E tk Γ M1 (fun Zs M2 => Zs.length = m ∧ ∃ x, LeS (gR Rs Zs) (args x) ∧ pre x ∧ k (res x) M2) X) X) : Ev E (tCallN n m (spT (pureTs args pre res)) gV E0 tr tk) Γ M k X := fun σ S H Q I o ox =>
  h σ S H _ I (fun vs S1 H1 Rs M1 ⟨e1, q⟩ st p => q σ S1 H1 _ (I.step st) (fun zs S2 H2 Zs M2 ⟨e2, x, le, hp, q2⟩ st2 p2 => by
    refine ⟨p.len.trans e1, p2.len.trans e2, ?_⟩
    refine spT_in (Mf := []) (Fr := M2) (Rs := args x) (X := X0) (k := k) ⟨x, rfl, hp, rfl, q2⟩ st2.e st2.m (le S2 _ (hg S2 Rs Zs vs zs (p.mono st2.s) p2)) (o.step (st.trans st2)) (fun _ _ _ _ _ _ z => z.elim)) (ox.step st)) ox
theorem ev_callPDi {α : Type} {args : α → List Rep} {pre : α → Prop} {res : α → Rep} {i : Int} (h : Ea E tr Γ M (fun Rs M1 => ∃ x, LeS (Rs ++ [iInt i]) (args x) ∧ pre x ∧ k (res x) M1) X) : Ev E (tCall (spT (pureTs args pre res)) [.int i] E0 tr) Γ M k X :=
  ev_callPD (Ds := [iInt i]) (fun _ => ⟨rfl, True.intro⟩) h
theorem ev_callN_at {n m : Nat} {sp : Sp} {gV : List V → List V → List V} {tk : TA} (h : Ev E (tCallN n m sp gV E0 tr tk) Γ M k X) : Ev E (tCallN n m sp gV E0 tr tk) Γ M k X := h
theorem k_leneq {a b : Nat} {P : Prop} (e : a = b) (h : P) : a = b ∧ P := ⟨e, h⟩
theorem all2_gapp (S : Hp) (Rs Zs : List Rep) (vs zs : List V) (h : All2 S Rs vs) (h2 : All2 S Zs zs) : All2 S (Rs ++ Zs) (vs ++ zs) := h.app h2
end
/-! ### what may be called by its name, keywords handed over -/
structure ClN (P : Program) (w : World) (K : PySem.W.Frag) (mg : Str → Option Value) (base : Heap) (CX : CXT) (k : Nat) (x : Str) (ts : TSp) (n : Nat) (ks : List Str) (gV : List V → List V → List V) : Prop where
  ex : ∃ (f : Addr) (fd : FuncData) (ps : List Str) (g : List Value → List Value → List Value), FnOk P w K mg base CX k f fd ps (spT ts) ∧ mg x = some (.ref f) ∧ PySem.W.keepIn K (.ref f) = true ∧ KBn K fd ps n ks g gV
section
variable {X : Cx} {CX : CXT} {k j n : Nat} {x : Str} {ts : TSp} {p pos : Pos} {e : Expr} {es : List Expr} {t tk : TA} {E : XK} {ks : List Str} {gV : List V → List V → List V} {kws : List Keyword}
theorem pe_clN (c : ClN X.prog X.w X.K X.mg X.base CX k x ts n ks gV) (hr : Room j X.A) (hk : k ≤ j) (hx : Passes CX X E) (hg : Gl X x) (ha : PA X (e :: es) t) (hkw : PK X kws tk)
    (hall : (backToKw pos (keywordEach kws X.env)).all (·.1.isSome) = true := by rfl) (hks : (backToKw pos (keywordEach kws X.env)).filterMap (·.1) = ks := by rfl)
    (hdb : (x == ("__debug__" : Str)) = false := by decide) (he : starEach (e :: es) X.env = (false, eval e X.env) :: starEach es X.env := by rfl)
    (hpl : ((backTo pos (starEach (e :: es) X.env)).any (·.1) || (backToKw pos (keywordEach kws X.env)).any (·.1.isNone)) = false := by rfl) :
    PE X (.Call (.Name x p) (e :: es) kws pos) (tCallN n ks.length (spT ts) gV E t tk) := by
  obtain ⟨f, fd, ps, g, F, hm, kp, b⟩ := c.ex
  exact pe_callN F (hr.mono hk) hg hm kp b hx ha hkw hall hks hdb he hpl
end
/-! ### texts as data -/
theorem shaped_str {z : Str} (h : ∀ c ∈ z.cps.toList, c < 1114112) : PyData.canLay0 (.str z) = true := by
  unfold PyData.canLay0
  show z.cps.all (· < 0x110000) = true
  rw [Array.all_eq_true']
  intro c hc
  exact decide_eq_true (h c (Array.mem_toList_iff.mpr hc))
theorem canAll {ds : List PyData} (h : ∀ d ∈ ds, PyData.canLay0 d = true) : PyData.canLayAll0 ds = true := by
  induction ds with
  | nil => rfl
  | cons d ds ih =>
    unfold PyData.canLayAll0
    rw [h d (List.mem_cons_self ..), ih fun x hx => h x (List.mem_cons_of_mem _ hx)]
    rfl
def Shp (n : Nat) (d : PyData) : Prop := PyData.canLay0 d = true ∧ PyData.depth d ≤ n
theorem depthAll_le {n : Nat} {ds : List PyData} (h : ∀ d ∈ ds, PyData.depth d ≤ n) : PyData.depthAll ds ≤ n := by
  induction ds with
  | nil => exact Nat.zero_le _
  | cons d ds ih =>
    unfold PyData.depthAll
    exact Nat.max_le.mpr ⟨h d (List.mem_cons_self ..), ih fun x hx => h x (List.mem_cons_of_mem _ hx)⟩
def StrOk (z : Str) : Prop := ∀ c ∈ z.cps.toList, c < 1114112
theorem shp_str {n : Nat} {z : Str} (h : StrOk z) : Shp n (.str z) := ⟨shaped_str h, by unfold PyData.depth; exact Nat.zero_le _⟩
theorem shp_int {n : Nat} {i : Int} : Shp n (.int i) := ⟨by unfold PyData.canLay0; rfl, by unfold PyData.depth; exact Nat.zero_le _⟩
theorem shp_bl {n : Nat} {b : Bool} : Shp n (.bool b) := ⟨by unfold PyData.canLay0; rfl, by unfold PyData.depth; exact Nat.zero_le _⟩
theorem shp_non {n : Nat} : Shp n .none := ⟨by unfold PyData.canLay0; rfl, by unfold PyData.depth; exact Nat.zero_le _⟩
theorem shp_list {n : Nat} {ds : List PyData} (h : ∀ d ∈ ds, Shp n d) : Shp (n + 1) (.list ds) := ⟨by unfold PyData.canLay0; exact canAll fun d hd => (h d hd).1, by unfold PyData.depth; exact Nat.succ_le_succ (depthAll_le fun d hd => (h d hd).2)⟩
theorem shp_tup {n : Nat} {ds : List PyData} (h : ∀ d ∈ ds, Shp n d) : Shp (n + 1) (.tuple ds) := ⟨by unfold PyData.canLay0; exact canAll fun d hd => (h d hd).1, by unfold PyData.depth; exact Nat.succ_le_succ (depthAll_le fun d hd => (h d hd).2)⟩
theorem Shp.ok {d : PyData} (h : Shp 64 d) : SeqAt.shaped d = true := by
  unfold SeqAt.shaped
  rw [Bool.and_eq_true]
  exact ⟨h.1, decide_eq_true h.2⟩
theorem shp_strs {n : Nat} {l : List Str} (h : ∀ z ∈ l, StrOk z) : ∀ d ∈ l.map PyData.str, Shp n d := fun d hd => by
  obtain ⟨z, hz, rfl⟩ := List.mem_map.mp hd
  exact shp_str (h z hz)
theorem o_neSame {K : PySem.W.Frag} {M : SH} {k : KR} {R1 R2 : Rep} {d : PyData} (hs : SeqAt.shaped d = true) (h1 : R1 = iDat K d) (h2 : R2 = iDat K d) (q : k (iBl false) M) : O2 (rNeD K) R1 R2 M k := by
  rw [h1, h2]
  refine o_neD hs hs k ?_
  rw [SeqAt.eqv_refl d (SeqAt.canLay_of_shaped hs)]
  exact q
theorem o_eqSame {K : PySem.W.Frag} {M : SH} {k : KR} {R1 R2 : Rep} {d : PyData} (hs : SeqAt.shaped d = true) (h1 : R1 = iDat K d) (h2 : R2 = iDat K d) (q : k (iBl true) M) : O2 (rEqD K) R1 R2 M k := by
  rw [h1, h2]
  refine o_eqD hs hs k ?_
  rw [SeqAt.eqv_refl d (SeqAt.canLay_of_shaped hs)]
  exact q
end L3

namespace L3
open PySem L2 RZ PyProof.Rows
/-! ### objects of own classes -/
abbrev FR := List (Str × Rep)
structure InsOk (S : Hp) (fs : FR) (vs : List (Str × V)) : Prop where
  nm : vs.map (·.1) = fs.map (·.1)
  al : All2 S (fs.map (·.2)) (vs.map (·.2))
theorem InsOk.mono {S S' : Hp} {fs : FR} {vs : List (Str × V)} (h : InsOk S fs vs) (e : Same S S') : InsOk S' fs vs := ⟨h.nm, h.al.mono e⟩
def iObj (C : Addr) (fs : FR) : Rep := ⟨fun S v => ∃ a dx vs, v = .ref a ∧ S a = some (.ins C dx vs) ∧ InsOk S fs vs, fun e ⟨a, dx, vs, h1, h2, h3⟩ => ⟨a, dx, vs, h1, e _ _ h2, h3.mono e⟩⟩
def mObj (C : Addr) (fs : FR) : MRep := ⟨fun S o => ∃ dx vs, o = .ins C dx vs ∧ InsOk S fs vs, fun e ⟨dx, vs, h1, h2⟩ => ⟨dx, vs, h1, h2.mono e⟩⟩
theorem InsOk.look {S : Hp} : ∀ {fs : FR} {vs : List (Str × V)}, InsOk S fs vs → ∀ f, (fs.lookup f = none → vs.lookup f = none) ∧ ∀ R, fs.lookup f = some R → ∃ v, vs.lookup f = some v ∧ R.p S v
  | [], [], _, f => ⟨fun _ => rfl, fun R e => by cases e⟩
  | [], _ :: _, h, f => by have := h.nm; simp at this
  | _ :: _, [], h, f => by have := h.nm; simp at this
  | (g, R) :: fs, (g', v) :: vs, h, f => by
    have e : g' = g := by have := h.nm; simp at this; exact this.1
    subst e
    have ih := InsOk.look (fs := fs) (vs := vs) ⟨by have := h.nm; simp at this; exact this, h.al.2⟩ f
    rw [List.lookup_cons, List.lookup_cons]
    by_cases hf : (f == g') = true
    · rw [hf]
      refine ⟨fun z => (nomatch z), fun R' z => ?_⟩
      have e : R = R' := Option.some.inj z
      subst e
      exact ⟨v, rfl, h.al.1⟩
    · rw [show (f == g') = false by simpa using hf]
      exact ih
def putR (f : Str) (R : Rep) : FR → FR
  | [] => [(f, R)]
  | (g, Q) :: r => if g = f then (g, R) :: r else (g, Q) :: putR f R r
theorem InsOk.put {S : Hp} {f : Str} {R : Rep} {v : V} (hR : R.p S v) : ∀ {fs : FR} {vs : List (Str × V)}, InsOk S fs vs → InsOk S (putR f R fs) (putF f v vs)
  | [], [], _ => ⟨rfl, hR, True.intro⟩
  | [], _ :: _, h => by have := h.nm; simp at this
  | _ :: _, [], h => by have := h.nm; simp at this
  | (g, Q) :: fs, (g', x) :: vs, h => by
    have e : g' = g := by have := h.nm; simp at this; exact this.1
    subst e
    have t : InsOk S fs vs := ⟨by have := h.nm; simp at this; exact this, h.al.2⟩
    unfold putR putF
    by_cases hf : g' = f
    · rw [if_pos hf, if_pos hf]
      exact ⟨by simpa using t.nm, hR, t.al⟩
    · rw [if_neg hf, if_neg hf]
      have ih := InsOk.put (f := f) hR t
      exact ⟨by simpa using ih.nm, h.al.1, ih.al⟩
theorem InsOk.len {S : Hp} {fs : FR} {vs : List (Str × V)} (h : InsOk S fs vs) : vs.length = fs.length := by
  have := congrArg List.length h.nm
  simpa using this
theorem Stp.wrAt {S H : Hp} {M : SH} {j : Nat} {a : Addr} {P P' : MRep} {o : HO} (hj : M[j]? = some (a, P)) (e : Same S H) (m : MOk S H M) (hP : P'.p S o) : Stp S H S (upd H a o) M (M.set j (a, P')) := by
  obtain ⟨e1, e2⟩ := at_split (P' := P') hj
  rw [e2]
  generalize M.take j = A at *
  generalize M.drop (j + 1) = B at *
  subst e1
  exact Stp.wrM e m hP
/-- an object, stable or in the symbolic heap -/
def HasO (M : SH) (R : Rep) (C : Addr) (fs : FR) : Prop := R = iObj C fs ∨ ∃ (a : Addr) (i : Nat), R = iRef a ∧ M[i]? = some (a, mObj C fs)
theorem HasO.get {M : SH} {R : Rep} {C : Addr} {fs : FR} (h : HasO M R C fs) {S H : Hp} {v : V} (e : Same S H) (m : MOk S H M) (p : R.p S v) : ∃ a dx vs, v = .ref a ∧ H a = some (.ins C dx vs) ∧ InsOk S fs vs := by
  rcases h with h | ⟨a, i, h, hm⟩
  · subst h
    obtain ⟨a, dx, vs, h1, h2, h3⟩ := p
    exact ⟨a, dx, vs, h1, e _ _ h2, h3⟩
  · subst h
    cases p
    obtain ⟨_, o, ho, dx, vs, rfl, h3⟩ := m.at_ _ _ (at_mem hm)
    exact ⟨a, dx, vs, rfl, ho, h3⟩
section
variable {E : XK} {K : PySem.W.Frag} {Γ : Ct} {M : SH} {k : KR} {X : KX} {R R1 R2 : Rep} {te ta tb tc tl tv : TE} {vs : List Nat} {D : EndT} {t u : TS} {c tt : TT} {tr : TA} {C : Addr} {f : Str}
theorem ho_s {fs : FR} : HasO M (iObj C fs) C fs := .inl rfl
theorem ho_m {fs : FR} {a : Addr} {i : Nat} (h : M[i]? = some (a, mObj C fs)) : HasO M (iRef a) C fs := .inr ⟨a, i, rfl, h⟩
theorem ev_fld (hc : Cls K C) (hn : NoAttr K C f) (h : Ev E ta Γ M (fun R M1 => ∃ fs, HasO M1 R C fs ∧ ∃ Rf, fs.lookup f = some Rf ∧ k Rf M1) X) : Ev E (tFld K ta f) Γ M k X := fun σ S H Q I o ox =>
  h σ S H _ I (fun v S1 H1 R M1 ⟨fs, ho, Rf, hf, q⟩ st p => by
    obtain ⟨a, dx, vs, e, ha, hi⟩ := ho.get st.e st.m p
    obtain ⟨w, hw, pw⟩ := (hi.look f).2 Rf hf
    exact ⟨a, C, dx, vs, w, e, ha, hc, hn, hw, o w S1 H1 Rf M1 q st pw⟩) ox
theorem k_fldS {fs : FR} {Rf : Rep} {P : Rep → Prop} (hf : fs.lookup f = some Rf) (h : P Rf) : ∃ fs', HasO M (iObj C fs) C fs' ∧ ∃ Rf, fs'.lookup f = some Rf ∧ P Rf := ⟨fs, .inl rfl, Rf, hf, h⟩
theorem k_fldM {fs : FR} {Rf : Rep} {a : Addr} {i : Nat} {P : Rep → Prop} (hm : M[i]? = some (a, mObj C fs)) (hf : fs.lookup f = some Rf) (h : P Rf) : ∃ fs', HasO M (iRef a) C fs' ∧ ∃ Rf, fs'.lookup f = some Rf ∧ P Rf := ⟨fs, .inr ⟨a, i, rfl, hm⟩, Rf, hf, h⟩
theorem st_fld (hc : Cls K C) (hn : NoAttr K C f) (h : Ev E tv Γ M (fun R1 M1 => Ev E ta Γ M1 (fun R2 M2 => ∃ (a : Addr) (j : Nat) (fs : FR), R2 = iRef a ∧ M2[j]? = some (a, mObj C fs) ∧ fs.length < 1000 ∧ D.nx Γ (M2.set j (a, mObj C (putR f R1 fs)))) D.ex) D.ex) : St E (sFld K ta tv f) Γ M D := fun σ S H D0 I o =>
  h σ S H _ I (fun v S1 H1 R1 M1 q1 st1 p1 => q1 σ S1 H1 _ (I.step st1) (fun x S2 H2 R2 M2 ⟨a, j, fs, e, hj, hl, q⟩ st2 p2 => by
    subst e
    cases p2
    have st := st1.trans st2
    obtain ⟨_, ob, ho, dx, vs, rfl, hi⟩ := st.m.at_ _ _ (at_mem hj)
    have wr := Stp.wrAt (P' := mObj C (putR f R1 fs)) (o := .ins C dx (putF f v vs)) hj st.e st.m ⟨dx, _, rfl, hi.put (R1.m st2.s p1)⟩
    exact ⟨a, C, dx, vs, rfl, ho, hc, hn, by rw [hi.len]; exact hl, o.nx σ S2 _ Γ _ q (st.trans wr) ((I.step st).step wr)⟩) (o.ex.step st1)) o.ex
/-! ### methods that change nothing; making -/
theorem erase_perm : ∀ {M : SH} {i : Nat} {x : Addr × MRep}, M[i]? = some x → M.Perm (x :: M.eraseIdx i)
  | [], i, x, h => by simp at h
  | y :: M, 0, x, h => by
    have e : y = x := by simpa using h
    subst e
    exact List.Perm.refl _
  | y :: M, i + 1, x, h => by
    have ih := erase_perm (M := M) (i := i) (x := x) (by simpa using h)
    exact (List.Perm.cons y ih).trans (List.Perm.swap x y _)
/-- a def, a method that changes nothing that is there -/
def roK (sp : SH → List Rep → (Rep → Prop) → Prop) : TSp := fun Rs M k _ => sp M Rs fun R => k R M
theorem ev_callRO {sp : SH → List Rep → (Rep → Prop) → Prop} (h : Ea E tr Γ M (fun Rs M1 => ∃ Rs', LeS Rs Rs' ∧ sp M1 Rs' fun R => k R M1) X) : Ev E (tCall (spT (roK sp)) [] E0 tr) Γ M k X := fun σ S H Q I o ox =>
  h σ S H _ I (fun xs S1 H1 Rs M1 ⟨Rs', le, q⟩ st p => by
    rw [List.append_nil]
    exact ⟨S1, Rs', M1, k, X0, q, st.e, st.m, le S1 _ p, o.step st, fun _ _ _ _ _ _ z => z.elim⟩) ox
def methK (C : Addr) (sp : SH → FR → List Rep → (Rep → Prop) → Prop) : TSp := fun Rs M k _ => ∃ R Rs' fs, Rs = R :: Rs' ∧ HasO M R C fs ∧ sp M fs Rs' fun R => k R M
theorem ev_methK {m : Str} {sp : SH → FR → List Rep → (Rep → Prop) → Prop} (h : Ev E ta Γ M (fun R M1 => ∃ fs, HasO M1 R C fs ∧ fs.lookup m = none ∧ Ea E tr Γ M1 (fun Rs M2 => HasO M2 R C fs ∧ ∃ Rs', LeS Rs Rs' ∧ sp M2 fs Rs' fun R' => k R' M2) X) X) : Ev E (tMeth C m (spT (methK C sp)) [] E0 ta tr) Γ M k X := fun σ S H Q I o ox =>
  h σ S H _ I (fun v S1 H1 R M1 ⟨fs, ho, hm, q⟩ st p => by
    obtain ⟨a, dx, vs, e, ha, hi⟩ := ho.get st.e st.m p
    refine ⟨a, dx, vs, e, ha, (hi.look m).1 hm, q σ S1 H1 _ (I.step st) (fun xs S2 H2 Rs M2 ⟨ho2, Rs', le, q2⟩ st2 p2 => ?_) (ox.step st)⟩
    rw [List.append_nil]
    exact ⟨S2, R :: Rs', M2, k, X0, ⟨R, Rs', fs, rfl, ho2, q2⟩, st2.e, st2.m, ⟨R.m st2.s p, le S2 _ p2⟩, o.step (st.trans st2), fun _ _ _ _ _ _ z => z.elim⟩) ox
def initK (C : Addr) (sp : List Rep → (FR → Prop) → Prop) : TSp := fun Rs M k _ => ∃ a Rs', Rs = iRef a :: Rs' ∧ M = [(a, mObj C [])] ∧ ∃ Z : FR → Prop, sp Rs' Z ∧ ∀ fs, Z fs → k iNon [(a, mObj C fs)]
theorem ev_make {sp : List Rep → (FR → Prop) → Prop} {dvs : List V} {Ds : List Rep} (hd : ∀ S, All2 S Ds dvs) (h : Ea E tr Γ M (fun Rs M1 => ∃ Rs', LeS (Rs ++ Ds) Rs' ∧ sp Rs' fun fs => k (iObj C fs) M1) X) : Ev E (tMake C (spT (initK C sp)) dvs E0 tr) Γ M k X := fun σ S H Q I o ox =>
  h σ S H _ I (fun xs S1 H1 Rs M1 ⟨Rs', le, q⟩ st p x dx hx hdx hne => by
    have s1 := Stp.newS (o := .own x) st.e st.m hdx
    have hx1 : upd H1 dx (.own x) x = none := by rw [upd_ne (Ne.symm hne)]; exact hx
    have s2 := Stp.newM (P := mObj C []) (o := .ins C dx []) s1.e s1.m hx1 ⟨dx, [], rfl, rfl, True.intro⟩
    have st2 := (st.trans s1).trans s2
    have pm : (M1 ++ [(x, mObj C [])]).Perm ([(x, mObj C [])] ++ M1) := List.perm_append_comm
    refine spT_in (ts := initK C sp) (Mf := [(x, mObj C [])]) (Fr := M1) (Rs := iRef x :: Rs') (X := X0) (k := fun R' M' => R' = iNon ∧ ∃ fs, M' = [(x, mObj C fs)] ++ M1 ∧ k (iObj C fs) M1) ⟨x, Rs', rfl, rfl, _, q, fun fs z => ⟨rfl, fs, rfl, z⟩⟩ s2.e (st2.m.perm pm) ⟨rfl, le _ _ ((p.mono s1.s).app (hd _))⟩ (fun w S3 H3 R3 M3 ⟨e3, fs, e4, q3⟩ st3 p3 => ?_) (fun _ _ _ _ _ _ z => z.elim)
    subst e3
    subst e4
    cases p3
    obtain ⟨_, ob, ho, dx', vs, rfl, hi⟩ := st3.m.at_ x (mObj C fs) (by simp)
    have fz := Stp.fz (A := []) (B := M1) (P := mObj C fs) st3.e st3.m ho
    exact ⟨rfl, o (.ref x) _ H3 (iObj C fs) M1 q3 ((st2.trans (st3.permL pm)).trans fz) ⟨x, dx', vs, rfl, upd_same, hi.mono fz.s⟩⟩) ox
/-! ### a list, however it stands -/
def HasL (K : PySem.W.Frag) (M : SH) (R : Rep) (rs : List Rep) : Prop := R = iLst rs ∨ R = aTup K rs ∨ R = aSeq K rs ∨ ∃ (a : Addr) (i : Nat), R = iRef a ∧ M[i]? = some (a, mLst rs)
theorem HasL.get {rs : List Rep} (h : HasL K M R rs) {S H : Hp} {v : V} (e : Same S H) (m : MOk S H M) (p : R.p S v) : ∃ a xs, v = .ref a ∧ (SqL K H a xs ∨ SqT K H a xs) ∧ All2 S rs xs := by
  rcases h with h | h | h | ⟨a, i, h, hm⟩
  · subst h
    obtain ⟨a, xs, e1, q1, q2⟩ := p
    exact ⟨a, xs, e1, .inl (SqL.of (e _ _ q1)), q2⟩
  · subst h
    obtain ⟨a, xs, e1, q1, q2⟩ := p
    exact ⟨a, xs, e1, .inr (Same.sqt e q1), q2⟩
  · subst h
    rcases p with ⟨a, xs, e1, q1, q2⟩ | ⟨a, xs, e1, q1, q2⟩
    · exact ⟨a, xs, e1, .inl (SqL.of (e _ _ q1)), q2⟩
    · exact ⟨a, xs, e1, .inr (Same.sqt e q1), q2⟩
  · subst h
    cases p
    obtain ⟨_, o, ho, xs, rfl, q2⟩ := m.at_ _ _ (at_mem hm)
    exact ⟨a, xs, rfl, .inl (SqL.of ho), q2⟩
theorem o_inG {x : Str} {l : List Str} (h : HasL K M R (l.map aStr)) : O2p (rIn K false) (aStr x) R M (iBl (decide (x ∈ l))) := o2_val fun v y S H e m h1 h2 => by
  cases h1
  obtain ⟨a, xs, rfl, q1, q2⟩ := h.get e m h2
  rw [All2.flat (r := aStr) (g := V.str) (fun _ _ h => h) q2] at q1
  exact ⟨_, rfl, fun Q q => ⟨a, _, rfl, q1, rfl, all_flat_str l, by rw [if_neg Bool.false_ne_true, inV_str]; exact q⟩⟩
theorem o_ninG {x : Str} {l : List Str} (h : HasL K M R (l.map aStr)) : O2p (rIn K true) (aStr x) R M (iBl (!decide (x ∈ l))) := o2_val fun v y S H e m h1 h2 => by
  cases h1
  obtain ⟨a, xs, rfl, q1, q2⟩ := h.get e m h2
  rw [All2.flat (r := aStr) (g := V.str) (fun _ _ h => h) q2] at q1
  exact ⟨_, rfl, fun Q q => ⟨a, _, rfl, q1, rfl, all_flat_str l, by rw [if_pos rfl, inV_str]; exact q⟩⟩
theorem c_lenG {rs : List Rep} (h : HasL K M R rs) : Olp (rLn K) [R] M (iInt rs.length) := ol_val fun xs S H e m p => by
  obtain ⟨v, rfl, p1⟩ := all2_1 p
  obtain ⟨a, ys, rfl, q1, q2⟩ := h.get e m p1
  rcases q1 with q1 | q1
  · exact ⟨_, rfl, fun Q q => ⟨_, rs.length, rfl, .inl ⟨ys, q1, q2.len.symm⟩, q⟩⟩
  · exact ⟨_, rfl, fun Q q => ⟨_, rs.length, rfl, .inr ⟨ys, q1, q2.len.symm⟩, q⟩⟩
/-! ### dicts whose keys are pairs of texts, all True -/
def pkV (p : Str × Str) : List Key × V := ([.inr p.1, .inr p.2], .bl true)
def iPD (ps : List (Str × Str)) : Rep := ⟨fun S v => ∃ a, v = .ref a ∧ S a = some (.dT (ps.map pkV)), fun e ⟨a, h1, h2⟩ => ⟨a, h1, e _ _ h2⟩⟩
def mPD (ps : List (Str × Str)) : MRep := ⟨fun _ o => o = .dT (ps.map pkV), fun _ h => h⟩
def HasP (M : SH) (R : Rep) (ps : List (Str × Str)) : Prop := R = iPD ps ∨ ∃ (a : Addr) (i : Nat), R = iRef a ∧ M[i]? = some (a, mPD ps)
theorem HasP.get {ps : List (Str × Str)} (h : HasP M R ps) {S H : Hp} {v : V} (e : Same S H) (m : MOk S H M) (p : R.p S v) : ∃ a, v = .ref a ∧ H a = some (.dT (ps.map pkV)) := by
  rcases h with h | ⟨a, i, h, hm⟩
  · subst h
    obtain ⟨a, h1, h2⟩ := p
    exact ⟨a, h1, e _ _ h2⟩
  · subst h
    cases p
    obtain ⟨_, o, ho, q⟩ := m.at_ _ _ (at_mem hm)
    cases q
    exact ⟨a, rfl, ho⟩
theorem valV_pk (p : Str × Str) : ∀ ps : List (Str × Str), (valV (ps.map pkV) [Sum.inr p.1, Sum.inr p.2]).isSome = decide (p ∈ ps)
  | [] => by simp [valV]
  | q :: ps => by
    rw [List.map_cons]
    by_cases e : q = p
    · subst e
      rw [show valV (pkV q :: ps.map pkV) [Sum.inr q.1, Sum.inr q.2] = some (pkV q).2 from valV_pos (p := pkV q) rfl]
      simp
    · have ne : ¬ (pkV q).1 = [Sum.inr p.1, Sum.inr p.2] := fun z => e (by
        have : ([Sum.inr q.1, Sum.inr q.2] : List Key) = [Sum.inr p.1, Sum.inr p.2] := z
        simp at this
        exact Prod.ext this.1 this.2)
      rw [valV_neg ne, valV_pk p ps]
      have : ¬ p = q := fun z => e z.symm
      simp [this]
def putP (ps : List (Str × Str)) (p : Str × Str) : List (Str × Str) := if p ∈ ps then ps else ps ++ [p]
theorem putK_pk (ps : List (Str × Str)) (p : Str × Str) : putK (ps.map pkV) [Sum.inr p.1, Sum.inr p.2] (.bl true) = (putP ps p).map pkV := by
  unfold putK putP
  rw [valV_any, valV_pk]
  by_cases h : p ∈ ps
  · rw [if_pos (by simpa using h), if_pos h, List.map_map]
    refine List.map_congr_left fun q _ => ?_
    show (if (pkV q).1 = _ then ((pkV q).1, V.bl true) else pkV q) = pkV q
    split <;> rfl
  · rw [if_neg (by simpa using h), if_neg h, List.map_append]
    rfl
theorem ev_dinP {tx ty td : TE} (h : Ea E (tCons tx (tCons ty tNil)) Γ M (fun Rs M1 => ∃ a b, Rs = [aStr a, aStr b] ∧ Ev E td Γ M1 (fun R M2 => ∃ ps, HasP M2 R ps ∧ k (iBl (decide ((a, b) ∈ ps))) M2) X) X) : Ev E (tDIn (tTup (tCons tx (tCons ty tNil))) td) Γ M k X := fun σ S H Q I o ox => by
  unfold tDIn tTup
  exact h σ S H _ I (fun xs S1 H1 Rs M1 ⟨a, b, e, q⟩ st p => by
    subst e
    obtain ⟨v, w, rfl, p1, p2⟩ := all2_2 p
    cases p1; cases p2
    refine ⟨sz_le (by simp), fun T hT => ?_⟩
    have s2 := Stp.newS (o := .tup [.str a, .str b]) st.e st.m hT
    exact q σ _ _ _ (I.step (st.trans s2)) (fun y S3 H3 R M3 ⟨ps, hp, q3⟩ st3 p3 => by
      obtain ⟨d, rfl, hd⟩ := hp.get st3.e st3.m p3
      have eb : H3 T = some (.tup ([Sum.inr a, Sum.inr b].map kV)) := st3.e _ _ (st3.s _ _ upd_same)
      refine ⟨d, _, rfl, DGet.t hd eb, ?_⟩
      rw [valV_pk (a, b)]
      exact (o.step (st.trans s2)) _ S3 H3 _ M3 q3 st3 rfl) (ox.step (st.trans s2))) ox
theorem ev_dnewT (h : ∀ a, k (iRef a) (M ++ [(a, mPD [])])) : Ev E tDNewT Γ M k X := fun σ S H Q I o ox p hp =>
  o (.ref p) S _ (iRef p) _ (h p) (Stp.newM (P := mPD []) I.ex I.m hp rfl) rfl
/-- d[a, b] = True -/
theorem tg_putP {to tx ty : TE} {kc : KC} (h : Ev E0 to Γ M (fun R M1 => ∃ d, R = iRef d ∧ Ea E0 (tCons tx (tCons ty tNil)) Γ M1 (fun Rs M2 => ∃ (a b : Str) (i : Nat) (ps : List (Str × Str)), Rs = [aStr a, aStr b] ∧ M2[i]? = some (d, mPD ps) ∧ ps.length < 1000000 ∧ kc Γ (M2.set i (d, mPD (putP ps (a, b))))) X0) X0) : Tg (gSub to (tTup (tCons tx (tCons ty tNil))) rSetD) (iBl true) Γ M vs kc := fun v σ S H Q I p o => by
  cases p
  refine h σ S H _ I (fun x S1 H1 R M1 ⟨d, e, q⟩ st p1 => ?_) (fun _ _ _ _ _ _ z => z.elim)
  subst e
  cases p1
  refine q σ S1 H1 _ (I.step st) (fun xs S2 H2 Rs M2 ⟨a, b, i, ps, e, hm, hl, q2⟩ st2 p2 => ?_) (fun _ _ _ _ _ _ z => z.elim)
  subst e
  obtain ⟨v, w, rfl, p3, p4⟩ := all2_2 p2
  cases p3; cases p4
  refine ⟨sz_le (by simp), fun T hT => ?_⟩
  have s12 := st.trans st2
  have s3 := Stp.newS (o := .tup [.str a, .str b]) s12.e s12.m hT
  obtain ⟨_, o', ho, qd⟩ := s3.m.at_ _ _ (at_mem hm)
  cases qd
  have w := Stp.wrAt (P' := mPD (putP ps (a, b))) (o := .dT (putK (ps.map pkV) [Sum.inr a, Sum.inr b] (.bl true))) hm s3.e s3.m (congrArg HO.dT (putK_pk ps (a, b)))
  refine ⟨d, _, rfl, DPut.t (k := [Sum.inr a, Sum.inr b]) ho (upd_same) (by rw [List.length_map]; exact sz_lt (by omega)), ?_⟩
  exact o σ _ _ Γ _ q2 ((s12.trans s3).trans w) (I.step ((s12.trans s3).trans w)) fun _ => rfl
theorem st_asg2 {g1 g2 : TG} (h : Ev E te Γ M (fun R M1 => Tg g1 R Γ M1 [] fun Γ1 M2 => Tg g2 R Γ1 M2 [] D.nx) D.ex) : St E (tAsg2 te g1 g2) Γ M D := fun σ S H D0 I o =>
  h σ S H _ I (fun v S2 H2 R M2 q st p => q v σ S2 H2 _ (I.step st) p fun σ3 S3 H3 Γ3 M3 q3 st3 I3 _ => q3 v σ3 S3 H3 _ I3 (R.m st3.s p) fun σ4 S4 H4 Γ4 M4 q4 st4 I4 _ => o.nx σ4 S4 H4 Γ4 M4 q4 ((st.trans st3).trans st4) I4) o.ex
/-! ### what was changed, and stays from then on: told by a field -/
theorem InsOk.re {S : Hp} {f : Str} {R R' : Rep} (hr : ∀ v, R.p S v → R'.p S v) : ∀ {fs : FR} {vs : List (Str × V)}, InsOk S fs vs → fs.lookup f = some R → InsOk S (putR f R' fs) vs
  | [], _, _, hf => by cases hf
  | _ :: _, [], h, _ => by have := h.nm; simp at this
  | (g, Q) :: fs, (g', x) :: vs, h, hf => by
    have e : g' = g := by have := h.nm; simp at this; exact this.1
    subst e
    have t : InsOk S fs vs := ⟨by have := h.nm; simp at this; exact this, h.al.2⟩
    rw [List.lookup_cons] at hf
    unfold putR
    by_cases hg : g' = f
    · subst hg
      rw [show (g' == g') = true from beq_self_eq_true g'] at hf
      have e : Q = R := Option.some.inj hf
      subst e
      rw [if_pos rfl]
      exact ⟨by simpa using t.nm, hr x h.al.1, t.al⟩
    · rw [show (f == g') = false from beq_eq_false_iff_ne.mpr fun z => hg z.symm] at hf
      rw [if_neg hg]
      have ih := InsOk.re hr t hf
      exact ⟨by simpa using ih.nm, h.al.1, ih.al⟩
theorem Stp.re {S H : Hp} {M : SH} {j : Nat} {a : Addr} {P P' : MRep} (hj : M[j]? = some (a, P)) (e : Same S H) (m : MOk S H M) (h : ∀ o, P.p S o → P'.p S o) : Stp S H S H M (M.set j (a, P')) := by
  obtain ⟨e1, e2⟩ := at_split (P' := P') hj
  rw [e2]
  generalize M.take j = A at *
  generalize M.drop (j + 1) = B at *
  subst e1
  have ed : dm (A ++ (a, P) :: B) = dm (A ++ (a, P') :: B) := by simp [dm]
  exact ⟨Same.refl _, e, fun b h1 h2 => absurd h1 h2, fun _ _ _ h => h, m.re h, fun b hb => .inl (by rw [ed]; exact hb)⟩
theorem Stp.fzAt {S H : Hp} {M : SH} {i : Nat} {a : Addr} {P : MRep} {o : HO} (hi : M[i]? = some (a, P)) (e : Same S H) (m : MOk S H M) (ho : H a = some o) : Stp S H (upd S a o) H M (M.eraseIdx i) := by
  have e1 := (at_split (P' := P) hi).1
  rw [List.eraseIdx_eq_take_drop_succ]
  generalize M.take i = A at *
  generalize M.drop (i + 1) = B at *
  subst e1
  exact Stp.fz e m ho
theorem Nv.cont {S H S2 H2 : Hp} {σ : L2.St} {M M2 : SH} (I : Nv S H σ Γ M) (st : Stp S H S2 H2 M M2) {t : TS} {D0 : Ends} (o : EndOk S H M D D0 E) (h : St E t Γ M2 D) (hH : H2 = H) : t D0 σ H := by
  have := h σ S2 H2 D0 (I.step st) (o.step st)
  rw [hH] at this
  exact this
theorem st_fzF {i j : Nat} {l x : Addr} {rs : List Rep} {fs : FR} {f : Str} (hl : M[i]? = some (l, mLst rs)) (hx : (M.eraseIdx i)[j]? = some (x, mObj C fs)) (hf : fs.lookup f = some (iRef l)) (h : St E t Γ ((M.eraseIdx i).set j (x, mObj C (putR f (iLst rs) fs))) D) : St E t Γ M D := fun σ S H D0 I o => by
  obtain ⟨_, ob, ho, xs, rfl, px⟩ := I.m.at_ l (mLst rs) (at_mem hl)
  have f1 := Stp.fzAt hl I.ex I.m ho
  have f2 := Stp.re (P' := mObj C (putR f (iLst rs) fs)) hx f1.e f1.m fun o ⟨dx, vs, e, hi⟩ => ⟨dx, vs, e, hi.re (fun v p => by cases p; exact ⟨l, xs, rfl, upd_same, px.mono f1.s⟩) hf⟩
  exact I.cont (f1.trans f2) o h rfl
theorem st_fzP {i j : Nat} {l x : Addr} {ps : List (Str × Str)} {fs : FR} {f : Str} (hl : M[i]? = some (l, mPD ps)) (hx : (M.eraseIdx i)[j]? = some (x, mObj C fs)) (hf : fs.lookup f = some (iRef l)) (h : St E t Γ ((M.eraseIdx i).set j (x, mObj C (putR f (iPD ps) fs))) D) : St E t Γ M D := fun σ S H D0 I o => by
  obtain ⟨_, ob, ho, px⟩ := I.m.at_ l (mPD ps) (at_mem hl)
  cases px
  have f1 := Stp.fzAt hl I.ex I.m ho
  have f2 := Stp.re (P' := mObj C (putR f (iPD ps) fs)) hx f1.e f1.m fun o ⟨dx, vs, e, hi⟩ => ⟨dx, vs, e, hi.re (fun v p => by cases p; exact ⟨l, rfl, upd_same⟩) hf⟩
  exact I.cont (f1.trans f2) o h rfl
end
end L3

namespace L3
open PySem L2 RZ PyProof.Rows
/-! ### methods, classes, as they may be called -/
structure ClM (P : Program) (w : World) (K : PySem.W.Frag) (mg : Str → Option Value) (base : Heap) (CX : CXT) (k : Nat) (C : Addr) (m : Str) (ts : TSp) (dvs : List V) : Prop where
  cl : Cls K C
  ex : ∃ (f : Addr) (fd : FuncData) (ps : List Str) (ds : List Value), FnOk P w K mg base CX k f fd ps (spT ts) ∧ Meth K C m f ∧ Binds K fd ps ds ∧ Vals dvs ds
structure ClI (P : Program) (w : World) (K : PySem.W.Frag) (mg : Str → Option Value) (base : Heap) (CX : CXT) (k : Nat) (C : Addr) (x : Str) (ts : TSp) (dvs : List V) : Prop where
  ex : ∃ (f : Addr) (fd : FuncData) (ps : List Str) (ds : List Value), FnOk P w K mg base CX k f fd ps (spT ts) ∧ Mk K C f ∧ mg x = some (.ref C) ∧ Binds K fd ps ds ∧ Vals dvs ds
structure ClIN (P : Program) (w : World) (K : PySem.W.Frag) (mg : Str → Option Value) (base : Heap) (CX : CXT) (k : Nat) (C : Addr) (x : Str) (ts : TSp) (n : Nat) (ks : List Str) (gV : List V → List V → List V) : Prop where
  ex : ∃ (f : Addr) (fd : FuncData) (ps : List Str) (g : List Value → List Value → List Value), FnOk P w K mg base CX k f fd ps (spT ts) ∧ Mk K C f ∧ mg x = some (.ref C) ∧ KBn K fd ps (n + 1) ks g gV
section
variable {X : Cx} {CX : CXT} {k j n : Nat} {C : Addr} {x m : Str} {ts : TSp} {dvs : List V} {p pos apos : Pos} {o e : Expr} {es : List Expr} {t tk : TA} {ta : TE} {E : XK} {ks : List Str} {gV : List V → List V → List V} {kws : List Keyword}
theorem pe_clM {pl : Sem Bool} (c : ClM X.prog X.w X.K X.mg X.base CX k C m ts dvs) (hr : Room j X.A) (hk : k ≤ j) (hx : Passes CX X E) (he : PE X o ta) (ha : PA X (e :: es) t)
    (hst : starEach (e :: es) X.env = (false, eval e X.env) :: starEach es X.env := by rfl) (hpl : (backTo pos (starEach es X.env)).any (·.1) = false := by rfl)
    (ht : eval (.Call (.Attribute o m apos) (e :: es) [] pos) X.env = (do
      let ov ← eval o X.env
      standAt apos.atName
      let (f, first) ← holding [ov] (getMethod ov m pl)
      callWith pos f first (backTo pos (starEach (e :: es) X.env)) (backToKw pos (keywordEach [] X.env))) := by rfl) :
    PE X (.Call (.Attribute o m apos) (e :: es) [] pos) (tMeth C m (spT ts) dvs E ta t) := by
  obtain ⟨f, fd, ps, ds, F, hm, b, d⟩ := c.ex
  exact pe_meth he c.cl hm F (hr.mono hk) b d hx ha hst hpl ht
theorem pe_clM0 {pl : Sem Bool} (c : ClM X.prog X.w X.K X.mg X.base CX k C m ts dvs) (hr : Room j X.A) (hk : k ≤ j) (hx : Passes CX X E) (he : PE X o ta)
    (ht : eval (.Call (.Attribute o m apos) [] [] pos) X.env = (do
      let ov ← eval o X.env
      standAt apos.atName
      let (f, first) ← holding [ov] (getMethod ov m pl)
      callWith pos f first (backTo pos (starEach [] X.env)) (backToKw pos (keywordEach [] X.env))) := by rfl) :
    PE X (.Call (.Attribute o m apos) [] [] pos) (tMeth C m (spT ts) dvs E ta tNil) := by
  obtain ⟨f, fd, ps, ds, F, hm, b, d⟩ := c.ex
  exact pe_meth0 he c.cl hm F (hr.mono hk) b d hx ht
theorem pe_clI (c : ClI X.prog X.w X.K X.mg X.base CX k C x ts dvs) (hr : Room j X.A) (hk : k + 1 ≤ j) (hx : Passes CX X E) (hg : Gl X x) (ha : PA X (e :: es) t)
    (hdb : (x == ("__debug__" : Str)) = false := by decide) (he : starEach (e :: es) X.env = (false, eval e X.env) :: starEach es X.env := by rfl) (hpl : (backTo pos (starEach es X.env)).any (·.1) = false := by rfl) :
    PE X (.Call (.Name x p) (e :: es) [] pos) (tMake C (spT ts) dvs E t) := by
  obtain ⟨f, fd, ps, ds, F, M, hm, b, d⟩ := c.ex
  exact pe_make M F (hr.mono hk) hg hm b d hx ha hdb he hpl
theorem pe_clI0 (c : ClI X.prog X.w X.K X.mg X.base CX k C x ts dvs) (hr : Room j X.A) (hk : k + 1 ≤ j) (hx : Passes CX X E) (hg : Gl X x) (hdb : (x == ("__debug__" : Str)) = false := by decide) :
    PE X (.Call (.Name x p) [] [] pos) (tMake C (spT ts) dvs E tNil) := by
  obtain ⟨f, fd, ps, ds, F, M, hm, b, d⟩ := c.ex
  exact pe_make0 M F (hr.mono hk) hg hm b d hx hdb
theorem pe_clIN (c : ClIN X.prog X.w X.K X.mg X.base CX k C x ts n ks gV) (hr : Room j X.A) (hk : k + 1 ≤ j) (hx : Passes CX X E) (hg : Gl X x) (ha : PA X (e :: es) t) (hkw : PK X kws tk)
    (hall : (backToKw pos (keywordEach kws X.env)).all (·.1.isSome) = true := by rfl) (hks : (backToKw pos (keywordEach kws X.env)).filterMap (·.1) = ks := by rfl)
    (hdb : (x == ("__debug__" : Str)) = false := by decide) (he : starEach (e :: es) X.env = (false, eval e X.env) :: starEach es X.env := by rfl)
    (hpl : ((backTo pos (starEach (e :: es) X.env)).any (·.1) || (backToKw pos (keywordEach kws X.env)).any (·.1.isNone)) = false := by rfl) :
    PE X (.Call (.Name x p) (e :: es) kws pos) (tMakeN C n ks.length (spT ts) gV E t tk) := by
  obtain ⟨f, fd, ps, g, F, M, hm, b⟩ := c.ex
  exact pe_makeN M F (hr.mono hk) hg hm b hx ha hkw hall hks hdb he hpl
theorem castOp {K : PySem.W.Frag} {g : Value → Value → Sem Value} {r : PySem.W.Frag → L2.R2} (h : X.K = K) (o : OpR X g (r X.K)) : OpR X g (r K) := h ▸ o
theorem castIx {K : PySem.W.Frag} {r : PySem.W.Frag → L2.R2} (h : X.K = K) (o : IxR X (r X.K)) : IxR X (r K) := h ▸ o
theorem castSl {K : PySem.W.Frag} {r : PySem.W.Frag → V → Option Int → Option Int → Hp → VK → Prop} (h : X.K = K) (o : L2.SlR X (r X.K)) : L2.SlR X (r K) := h ▸ o
theorem castCall {K : PySem.W.Frag} {v : Value} {r : PySem.W.Frag → List V → Hp → VK → Prop} (h : X.K = K) (o : CallR X v (r X.K)) : CallR X v (r K) := h ▸ o
theorem pe_fldK {K : PySem.W.Frag} {f : Str} (h : X.K = K) (he : PE X e ta) (hb : attributeBase e f X.env (eval e X.env) = eval e X.env) : PE X (.Attribute e f pos) (tFld K ta f) := h ▸ pe_fld he hb
theorem pt_orr {e : Expr} {t1 t2 : TT} (h1 : PT X e t1) (h2 : PT X e t2) : PT X e (fun σ H Q => t1 σ H Q ∨ t2 σ H Q) := ⟨fun pins s σ H Q I h => h.elim (h1.run pins s σ H Q I) (h2.run pins s σ H Q I)⟩
theorem pc_or {op : CmpOp} {a b : Expr} {t1 t2 : TE} (h1 : PC X op a b t1) (h2 : PC X op a b t2) : PC X op a b (fun σ H Q => t1 σ H Q ∨ t2 σ H Q) := ⟨fun pins s σ H Q I h => h.elim (h1.run pins s σ H Q I) (h2.run pins s σ H Q I)⟩
end
section
variable {P : Program} {w : World} {K : PySem.W.Frag} {mg : Str → Option Value} {base : Heap}
theorem okTD {x qual : Str} {params : Arguments} {body : List Stmt} {scope : Scope} {dvs : List V} {kws : List (Str × V)} {f : Addr} {fd : FuncData} {N ps : List Str} {kk : Nat} {ts : TSp} (F : FunD K x qual params body scope dvs kws f fd) (S : FnScope N ps scope) (len : ∀ Rs M k X, ts Rs M k X → Rs.length = ps.length)
    (hbody : ∀ (cdv : Value) (A : Around) (outer : List PySem.Env) (s : Shared) (H : Hp) (E : XK), Room kk (A.deeper (envOfC qual scope s.heap.objs.size f cdv)) →
      ∃ t, PSs (cxOf CX0 P w K mg base N qual scope f cdv A outer s H E).nox body t ∧ ∀ Rs M k X, ts Rs M k X → St E t (startC N Rs) M { nx := fun _ M' => k iNon M', rt := k, ex := X }) : FnOk P w K mg base CX0 (kk + 1) f fd ps (spT ts) := by
  refine F.ok S (fun vs H Q E h => ?_) (fun cdv A outer s H vs Q E hr h => ?_)
  · obtain ⟨_, Rs, M, k, X, h1, _, _, p, _⟩ := h
    exact p.len.trans (len Rs M k X h1)
  · obtain ⟨t, h1, h2⟩ := hbody cdv A outer s H E hr
    obtain ⟨S0, Rs, M, k, X, h3, e, m, p, o, ox⟩ := h
    exact ⟨t, h1.nox, h2 Rs M k X h3 _ S0 H _ (nv_start e m p) ⟨fun σ2 S2 H2 Γ2 M2 q st I2 => o .non S2 H2 iNon M2 q st rfl, o, fun _ _ _ _ _ z => z.elim, fun _ _ _ _ _ z => z.elim, ox⟩⟩
end
section
variable {E : XK} {K : PySem.W.Frag} {Γ : Ct} {M : SH} {k : KR} {X : KX} {R R1 R2 : Rep} {te ta tb tc tl tv : TE} {vs : List Nat} {D : EndT} {t u : TS} {c tt : TT} {tr : TA} {C : Addr} {f : Str}
theorem st_nevr : St E tNever Γ M D ↔ St E tNever Γ M D := Iff.rfl
theorem ev_or1 {t1 t2 : TE} (h : Ev E t1 Γ M k X) : Ev E (fun σ H Q => t1 σ H Q ∨ t2 σ H Q) Γ M k X := fun σ S H Q I o ox => .inl (h σ S H Q I o ox)
theorem ev_or2 {t1 t2 : TE} (h : Ev E t2 Γ M k X) : Ev E (fun σ H Q => t1 σ H Q ∨ t2 σ H Q) Γ M k X := fun σ S H Q I o ox => .inr (h σ S H Q I o ox)
theorem et_or1 {t1 t2 : TT} {kb : Bool → SH → Prop} (h : Et E t1 Γ M kb X) : Et E (fun σ H Q => t1 σ H Q ∨ t2 σ H Q) Γ M kb X := fun σ S H Q I o ox => .inl (h σ S H Q I o ox)
theorem et_or2 {t1 t2 : TT} {kb : Bool → SH → Prop} (h : Et E t2 Γ M kb X) : Et E (fun σ H Q => t1 σ H Q ∨ t2 σ H Q) Γ M kb X := fun σ S H Q I o ox => .inr (h σ S H Q I o ox)
theorem ev_meth_at {sp : Sp} {dvs : List V} {E' : XK} {m : Str} (h : Ev E (tMeth C m sp dvs E' ta tr) Γ M k X) : Ev E (tMeth C m sp dvs E' ta tr) Γ M k X := h
theorem ev_make_at {sp : Sp} {dvs : List V} {E' : XK} (h : Ev E (tMake C sp dvs E' tr) Γ M k X) : Ev E (tMake C sp dvs E' tr) Γ M k X := h
theorem ev_make3 {sp : List Rep → (FR → Prop) → Prop} (h : Ea E tr Γ M (fun Rs M1 => ∃ Rs', LeS Rs Rs' ∧ sp Rs' fun fs => k (iObj C fs) M1) X) : Ev E (tMake C (spT (initK C sp)) [] E0 tr) Γ M k X :=
  ev_make (Ds := []) (fun _ => True.intro) fun σ S H Q I o ox => h σ S H Q I (fun vs S2 H2 Rs M2 ⟨Rs', le, q⟩ st p => o vs S2 H2 Rs M2 ⟨Rs', by rw [List.append_nil]; exact le, q⟩ st p) ox
theorem k_methS {m : Str} {fs : FR} {P : FR → Prop} (hm : fs.lookup m = none) (h : P fs) : ∃ fs', HasO M (iObj C fs) C fs' ∧ fs'.lookup m = none ∧ P fs' := ⟨fs, .inl rfl, hm, h⟩
theorem k_methM {m : Str} {fs : FR} {a : Addr} {i : Nat} {P : FR → Prop} (hi : M[i]? = some (a, mObj C fs)) (hm : fs.lookup m = none) (h : P fs) : ∃ fs', HasO M (iRef a) C fs' ∧ fs'.lookup m = none ∧ P fs' := ⟨fs, .inr ⟨a, i, rfl, hi⟩, hm, h⟩
theorem k_ho2S {fs : FR} {P : Prop} (h : P) : HasO M (iObj C fs) C fs ∧ P := ⟨.inl rfl, h⟩
theorem k_ho2M {fs : FR} {a : Addr} {i : Nat} {P : Prop} (hi : M[i]? = some (a, mObj C fs)) (h : P) : HasO M (iRef a) C fs ∧ P := ⟨.inr ⟨a, i, rfl, hi⟩, h⟩
theorem k_ho3 {fs : FR} {P : Prop} (hi : HasO M R C fs) (h : P) : HasO M R C fs ∧ P := ⟨hi, h⟩
theorem k_fldG {fs : FR} {Rf : Rep} {P : Rep → Prop} (ho : HasO M R C fs) (hf : fs.lookup f = some Rf) (h : P Rf) : ∃ fs', HasO M R C fs' ∧ ∃ Rf, fs'.lookup f = some Rf ∧ P Rf := ⟨fs, ho, Rf, hf, h⟩
theorem k_methG {m : Str} {fs : FR} {P : FR → Prop} (ho : HasO M R C fs) (hm : fs.lookup m = none) (h : P fs) : ∃ fs', HasO M R C fs' ∧ fs'.lookup m = none ∧ P fs' := ⟨fs, ho, hm, h⟩
theorem k_set {a : Addr} {j : Nat} {fs : FR} {P : Addr → Nat → FR → Prop} (hm : M[j]? = some (a, mObj C fs)) (hl : fs.length < 1000) (h : P a j fs) : ∃ (b : Addr) (j : Nat) (fs : FR), iRef a = iRef b ∧ M[j]? = some (b, mObj C fs) ∧ fs.length < 1000 ∧ P b j fs := ⟨a, j, fs, rfl, hm, hl, h⟩
theorem k_pd {ps : List (Str × Str)} {P : List (Str × Str) → Prop} (hp : HasP M R ps) (h : P ps) : ∃ ps', HasP M R ps' ∧ P ps' := ⟨ps, hp, h⟩
theorem k_ss {a b : Str} {P : Str → Str → Prop} (h : P a b) : ∃ c d, [aStr a, aStr b] = [aStr c, aStr d] ∧ P c d := ⟨a, b, rfl, h⟩
theorem k_le {Rs : List Rep} {P : List Rep → Prop} (h : P Rs) : ∃ Rs', LeS Rs Rs' ∧ P Rs' := ⟨Rs, leS_rfl, h⟩
/-! ### dicts whose keys are texts -/
structure DkOk (S : Hp) (kvs : FR) (vs : List (Key × V)) : Prop where
  nm : vs.map (·.1) = kvs.map fun p => (Sum.inr p.1 : Key)
  al : All2 S (kvs.map (·.2)) (vs.map (·.2))
theorem DkOk.mono {S S' : Hp} {kvs : FR} {vs : List (Key × V)} (h : DkOk S kvs vs) (e : Same S S') : DkOk S' kvs vs := ⟨h.nm, h.al.mono e⟩
theorem DkOk.len {S : Hp} {kvs : FR} {vs : List (Key × V)} (h : DkOk S kvs vs) : vs.length = kvs.length := by
  have := congrArg List.length h.nm
  simpa using this
theorem DkOk.look {S : Hp} : ∀ {kvs : FR} {vs : List (Key × V)}, DkOk S kvs vs → ∀ z : Str, (kvs.lookup z = none → valV vs (.inr z) = none) ∧ ∀ R, kvs.lookup z = some R → ∃ v, valV vs (.inr z) = some v ∧ R.p S v
  | [], [], _, z => ⟨fun _ => rfl, fun R e => by cases e⟩
  | [], _ :: _, h, z => by have := h.nm; simp at this
  | _ :: _, [], h, z => by have := h.nm; simp at this
  | (g, R) :: kvs, (g', v) :: vs, h, z => by
    have e : g' = .inr g := by have := h.nm; simp at this; exact this.1
    subst e
    have ih := DkOk.look (kvs := kvs) (vs := vs) ⟨by have := h.nm; simp at this; exact this, h.al.2⟩ z
    rw [List.lookup_cons]
    by_cases hf : g = z
    · subst hf
      rw [beq_self_eq_true]
      refine ⟨fun z => (nomatch z), fun R' z => ?_⟩
      have e : R = R' := Option.some.inj z
      subst e
      exact ⟨v, valV_pos rfl, h.al.1⟩
    · rw [show (z == g) = false from beq_eq_false_iff_ne.mpr fun w => hf w.symm]
      rw [valV_neg (p := ((Sum.inr g : Key), v)) (fun w => hf (Sum.inr.inj w))]
      exact ih
def iDF (kvs : FR) : Rep := ⟨fun S v => ∃ a o vs, v = .ref a ∧ S a = some (.frz o (.dK vs)) ∧ DkOk S kvs vs, fun e ⟨a, o, vs, h1, h2, h3⟩ => ⟨a, o, vs, h1, e _ _ h2, h3.mono e⟩⟩
def mDK (kvs : FR) : MRep := ⟨fun S o => ∃ vs, o = .dK vs ∧ DkOk S kvs vs, fun e ⟨vs, h1, h2⟩ => ⟨vs, h1, h2.mono e⟩⟩
def HasD (M : SH) (R : Rep) (kvs : FR) : Prop := R = iDF kvs ∨ ∃ (a : Addr) (i : Nat), R = iRef a ∧ M[i]? = some (a, mDK kvs)
theorem HasD.get {kvs : FR} (h : HasD M R kvs) {S H : Hp} {v : V} (e : Same S H) (m : MOk S H M) (p : R.p S v) : ∃ a vs, v = .ref a ∧ Rd H a (.dK vs) ∧ DkOk S kvs vs := by
  rcases h with h | ⟨a, i, h, hm⟩
  · subst h
    obtain ⟨a, o, vs, h1, h2, h3⟩ := p
    exact ⟨a, vs, h1, .inr ⟨o, e _ _ h2⟩, h3⟩
  · subst h
    cases p
    obtain ⟨_, o, ho, vs, rfl, h3⟩ := m.at_ _ _ (at_mem hm)
    exact ⟨a, vs, rfl, .inl ho, h3⟩
theorem ev_dinD {ty td : TE} (h : Ev E ty Γ M (fun R1 M1 => ∃ z, R1 = aStr z ∧ Ev E td Γ M1 (fun R M2 => ∃ kvs, HasD M2 R kvs ∧ k (iBl (kvs.lookup z).isSome) M2) X) X) : Ev E (tDIn ty td) Γ M k X := fun σ S H Q I o ox =>
  h σ S H _ I (fun v S1 H1 R1 M1 ⟨z, e, q⟩ st p => by
    subst e
    cases p
    exact q σ S1 H1 _ (I.step st) (fun y S2 H2 R M2 ⟨kvs, hd, q2⟩ st2 p2 => by
      obtain ⟨a, vs, rfl, hr, ok⟩ := hd.get st2.e st2.m p2
      refine ⟨a, valV vs (.inr z), rfl, .inl ⟨vs, .inr z, hr, rfl, rfl⟩, ?_⟩
      have e : (valV vs (.inr z)).isSome = (kvs.lookup z).isSome := by
        cases hl : kvs.lookup z with
        | none => rw [(ok.look z).1 hl]; rfl
        | some R => obtain ⟨w, hw, _⟩ := (ok.look z).2 R hl; rw [hw]; rfl
      rw [e]
      exact (o.step st) _ S2 H2 _ M2 q2 st2 rfl) (ox.step st)) ox
theorem ev_dgetD {ty td : TE} (h : Ev E td Γ M (fun R1 M1 => ∃ Rd : Rep, Rd = R1 ∧ Ev E ty Γ M1 (fun R2 M2 => ∃ z kvs, R2 = aStr z ∧ HasD M2 R1 kvs ∧ ∃ R, kvs.lookup z = some R ∧ k R M2) X) X) : Ev E (tDGet td ty) Γ M k X := fun σ S H Q I o ox =>
  h σ S H _ I (fun x S1 H1 R1 M1 ⟨_, _, q⟩ st p => q σ S1 H1 _ (I.step st) (fun y S2 H2 R2 M2 ⟨z, kvs, e, hd, R, hl, q2⟩ st2 p2 => by
    subst e
    cases p2
    obtain ⟨a, vs, rfl, hr, ok⟩ := hd.get st2.e st2.m (R1.m st2.s p)
    obtain ⟨w, hw, pw⟩ := (ok.look z).2 R hl
    exact ⟨a, w, rfl, .inl ⟨vs, .inr z, hr, rfl, hw.symm⟩, (o.step st) w S2 H2 R M2 q2 st2 pw⟩) (ox.step st)) ox
theorem ev_dnewK (h : ∀ a, k (iRef a) (M ++ [(a, mDK [])])) : Ev E tDNewK Γ M k X := fun σ S H Q I o ox p hp =>
  o (.ref p) S _ (iRef p) _ (h p) (Stp.newM (P := mDK []) I.ex I.m hp ⟨[], rfl, rfl, True.intro⟩) rfl
theorem st_fldM (hc : Cls K C) (hn : NoAttr K C f) (h : ∀ l, Ev E ta Γ (M ++ [(l, mLst [])]) (fun R2 M2 => ∃ (a : Addr) (j : Nat) (fs : FR), R2 = iRef a ∧ M2[j]? = some (a, mObj C fs) ∧ fs.length < 1000 ∧ D.nx Γ (M2.set j (a, mObj C (putR f (iRef l) fs)))) D.ex) : St E (sFld K ta (tLst tNil) f) Γ M D :=
  st_fld hc hn (ev_lstM (ea_nil ⟨by simp, fun l => h l⟩))
theorem st_fldT (hc : Cls K C) (hn : NoAttr K C f) (h : ∀ l, Ev E ta Γ (M ++ [(l, mPD [])]) (fun R2 M2 => ∃ (a : Addr) (j : Nat) (fs : FR), R2 = iRef a ∧ M2[j]? = some (a, mObj C fs) ∧ fs.length < 1000 ∧ D.nx Γ (M2.set j (a, mObj C (putR f (iRef l) fs)))) D.ex) : St E (sFld K ta tDNewT f) Γ M D :=
  st_fld hc hn (ev_dnewT fun l => h l)
theorem st_fldK (hc : Cls K C) (hn : NoAttr K C f) (h : ∀ l, Ev E ta Γ (M ++ [(l, mDK [])]) (fun R2 M2 => ∃ (a : Addr) (j : Nat) (fs : FR), R2 = iRef a ∧ M2[j]? = some (a, mObj C fs) ∧ fs.length < 1000 ∧ D.nx Γ (M2.set j (a, mObj C (putR f (iRef l) fs)))) D.ex) : St E (sFld K ta tDNewK f) Γ M D :=
  st_fld hc hn (ev_dnewK fun l => h l)
theorem k_ref {d : Addr} {P : Addr → Prop} (h : P d) : ∃ e, iRef d = iRef e ∧ P e := ⟨d, rfl, h⟩
theorem k_put {a b : Str} {d : Addr} {i : Nat} {ps : List (Str × Str)} {P : Str → Str → Nat → List (Str × Str) → Prop} (hm : M[i]? = some (d, mPD ps)) (hl : ps.length < 1000000) (h : P a b i ps) : ∃ (a' b' : Str) (i : Nat) (ps : List (Str × Str)), [aStr a, aStr b] = [aStr a', aStr b'] ∧ M[i]? = some (d, mPD ps) ∧ ps.length < 1000000 ∧ P a' b' i ps := ⟨a, b, i, ps, rfl, hm, hl, h⟩
/-! ### a last word at the end of a def -/
def TurnC (Γ : Ct) (M : SH) (Γ' : Ct) (M' : SH) : Prop := ∀ S H σ, Nv S H σ Γ M → ∃ S', Stp S H S' H M M' ∧ Nv S' H σ Γ' M'
def NT (kc : KC) : KC := fun Γ M => ∃ Γ' M', TurnC Γ M Γ' M' ∧ kc Γ' M'
theorem st_nt (h : St E t Γ M { D with nx := NT D.nx }) : St E t Γ M D := fun σ S H D0 I o =>
  h σ S H D0 I ⟨fun σ2 S2 H2 Γ2 M2 ⟨Γ3, M3, tn, q⟩ st I2 => let ⟨S3, st3, I3⟩ := tn S2 H2 σ2 I2; o.nx σ2 S3 H2 Γ3 M3 q (st.trans st3) I3, o.rt, o.bk, o.ct, o.ex⟩
theorem nt_of {kc : KC} (h : kc Γ M) : NT kc Γ M := ⟨Γ, M, fun S H σ I => ⟨S, Stp.refl I.ex I.m, I⟩, h⟩
theorem turn_fzP {i j : Nat} {l x : Addr} {ps : List (Str × Str)} {fs : FR} {f : Str} (hl : M[i]? = some (l, mPD ps)) (hx : (M.eraseIdx i)[j]? = some (x, mObj C fs)) (hf : fs.lookup f = some (iRef l)) : TurnC Γ M Γ ((M.eraseIdx i).set j (x, mObj C (putR f (iPD ps) fs))) := fun S H σ I => by
  obtain ⟨_, ob, ho, px⟩ := I.m.at_ l (mPD ps) (at_mem hl)
  cases px
  have f1 := Stp.fzAt hl I.ex I.m ho
  have f2 := Stp.re (P' := mObj C (putR f (iPD ps) fs)) hx f1.e f1.m fun o ⟨dx, vs, e, hi⟩ => ⟨dx, vs, e, hi.re (fun v p => by cases p; exact ⟨l, rfl, upd_same⟩) hf⟩
  exact ⟨_, f1.trans f2, I.step (f1.trans f2)⟩
theorem turn_fzF {i j : Nat} {l x : Addr} {rs : List Rep} {fs : FR} {f : Str} (hl : M[i]? = some (l, mLst rs)) (hx : (M.eraseIdx i)[j]? = some (x, mObj C fs)) (hf : fs.lookup f = some (iRef l)) : TurnC Γ M Γ ((M.eraseIdx i).set j (x, mObj C (putR f (iLst rs) fs))) := fun S H σ I => by
  obtain ⟨_, ob, ho, xs, rfl, px⟩ := I.m.at_ l (mLst rs) (at_mem hl)
  have f1 := Stp.fzAt hl I.ex I.m ho
  have f2 := Stp.re (P' := mObj C (putR f (iLst rs) fs)) hx f1.e f1.m fun o ⟨dx, vs, e, hi⟩ => ⟨dx, vs, e, hi.re (fun v p => by cases p; exact ⟨l, xs, rfl, upd_same, px.mono f1.s⟩) hf⟩
  exact ⟨_, f1.trans f2, I.step (f1.trans f2)⟩
/-! ### three at once; tests of some truth -/
theorem st_par3 {i j l : Nat} {ta : TA} (h : Ea E ta Γ M (fun Rs M1 => ∃ R1 R2 R3, Rs = [R1, R2, R3] ∧ D.nx (((Γ.set i (some R1)).set j (some R2)).set l (some R3)) M1) D.ex) : St E (tPar3 i j l ta) Γ M D := fun σ S H D0 I o =>
  h σ S H _ I (fun xs S2 H2 Rs M2 ⟨R1, R2, R3, e, q⟩ st p => by
    subst e
    match xs, p with
    | [], p => exact p.elim
    | [_], p => exact p.2.elim
    | [_, _], p => exact p.2.2.elim
    | _ :: _ :: _ :: _ :: _, p => exact p.2.2.2.elim
    | [u, v, w], p => exact ⟨u, v, w, rfl, o.nx _ S2 H2 _ M2 q st ((((I.step st).set i p.1).set j p.2.1).set l p.2.2.1)⟩) o.ex
theorem k_par3 {R3 : Rep} {P : Rep → Rep → Rep → Prop} (h : P R1 R2 R3) : ∃ A B C, [R1, R2, R3] = [A, B, C] ∧ P A B C := ⟨_, _, _, rfl, h⟩
theorem st_if_any (h : ∀ (kb : Bool → SH → Prop) (X : KX), (∀ b, kb b M) → Et E c Γ M kb X) (h1 : St E t Γ M D) (h2 : St E u Γ M D) : St E (tIfS c t u) Γ M D :=
  st_if fun σ S H Q I o ox => h (fun b M1 => M1 = M) D.ex (fun _ => rfl) σ S H Q I (fun b S2 H2 M2 e st => o b S2 H2 M2 (by
    subst e
    cases b with
    | true => simpa using h1
    | false => simpa using h2) st) ox
theorem et_some (h : ∀ (kb : Bool → SH → Prop) (X : KX), (∀ b, kb b M) → Et E c Γ M kb X) {kb : Bool → SH → Prop} (q : ∀ b, kb b M) : Et E c Γ M kb X := h kb X q
theorem o_ixN {α : Type} {l : List α} {g : α → Rep} {x : Int} (n : Nat) (e : x = n) (h : n < l.length) : O2p (rIxL K) (iLst (l.map g)) (iInt x) M (g l[n]) := by
  subst e
  exact o_ixL (atI_map (atI_nat (by simp [h])))
theorem o_ixNT {α : Type} {l : List α} {g : α → Rep} {x : Int} (n : Nat) (e : x = n) (h : n < l.length) : O2p (rIxT K) (aTup K (l.map g)) (iInt x) M (g l[n]) := by
  subst e
  exact o_ixT (atI_map (atI_nat (by simp [h])))
/-! ### comprehensions over a list of data -/
theorem ep_lcF {α : Type} {l : List α} {e : α → Rep} {j : Nat} {p : α → Bool} (hi : Ep E tl Γ M (iLst (l.map e))) (hn : l.length ≤ 1000000) (hj : j ∈ vs)
    (ht : ∀ x ∈ l, Etp E tt ((wipeC Γ vs).set j (some (e x))) M (p x)) (he : ∀ x ∈ l, p x = true → Ep E te ((wipeC Γ vs).set j (some (e x))) M (e x)) : Ep E (tLc (iList K tl) (gName j) tt te vs) Γ M (iLst ((l.filter p).map e)) := by
  have := ep_lcL (K := K) (q := id) (e' := e) hi hn hj ht he
  rwa [List.map_id] at this
theorem ep_lcM {α : Type} {l : List α} {e e' : α → Rep} {j : Nat} (hi : Ep E tl Γ M (iLst (l.map e))) (hn : l.length ≤ 1000000) (hj : j ∈ vs)
    (he : ∀ x ∈ l, Ep E te ((wipeC Γ vs).set j (some (e x))) M (e' x)) : Ep E (tLc (iList K tl) (gName j) tYes te vs) Γ M (iLst (l.map e')) := by
  have := ep_lcL (K := K) (p := fun _ => true) (q := id) (e' := e') (l := l) (e := e) (te := te) (tt := tYes) hi hn hj (fun _ _ => etp_yes) (fun x hx _ => he x hx)
  rwa [List.map_id, List.filter_eq_self.mpr fun _ _ => rfl] at this
/-- .. whose test draws: some of the items -/
theorem ev_lcD {α : Type} {l : List α} {e e' : α → Rep} {j : Nat} {p : α → Prop} (hi : Ep E tl Γ M (iLst (l.map e))) (hn : l.length ≤ 1000000) (hj : j ∈ vs)
    (ht : ∀ x ∈ l, ∀ (kb : Bool → SH → Prop), (p x → kb true M) → kb false M → Et E tt ((wipeC Γ vs).set j (some (e x))) M kb X0)
    (he : ∀ x ∈ l, p x → Ep E te ((wipeC Γ vs).set j (some (e x))) M (e' x)) (q : ∀ l' : List α, l'.Sublist l → (∀ x ∈ l', p x) → k (iLst (l'.map e')) M) : Ev E (tLc (iList K tl) (gName j) tt te vs) Γ M k X :=
  ev_lc (fun z => by rw [z] at hj; cases hj) (tip_list hi _ _ ⟨by simpa using hn, fun i acc M2 => ∃ l' : List α, acc = l'.map e' ∧ l'.Sublist (l.take i) ∧ (∀ x ∈ l', p x) ∧ M2 = M, ⟨[], rfl, by simp, by simp, rfl⟩, fun i r acc M2 hlt hr _ ⟨l', e1, e2, e3, e4⟩ => by
    subst e4
    have hlt' : i < l.length := by simpa using hlt
    replace hr : (l.map e)[i]? = some r := hr
    rw [List.getElem?_map, List.getElem?_eq_getElem hlt'] at hr
    have e5 : e l[i] = r := Option.some.inj hr
    subst e5
    have hm := List.getElem_mem hlt'
    have et : l.take (i + 1) = l.take i ++ [l[i]] := by rw [List.take_succ, List.getElem?_eq_getElem hlt']; rfl
    refine tg_name (ht _ hm _ (fun hp => ?_) ?_) (.inr hj)
    · refine (if_pos rfl).mpr (he _ hm hp _ _ ⟨l' ++ [l[i]], ?_, ?_, ?_, rfl⟩)
      · rw [e1]; simp
      · rw [et]; exact e2.append (List.Sublist.refl _)
      · intro x hx
        rcases List.mem_append.mp hx with h | h
        · exact e3 x h
        · rw [List.mem_singleton.mp h]; exact hp
    · refine (if_neg Bool.false_ne_true).mpr ⟨l', e1, ?_, e3, rfl⟩
      rw [et]
      exact e2.trans (List.sublist_append_left _ _), fun acc M2 _ ⟨l', e1, e2, e3, e4⟩ => by
    subst e1; subst e4
    rw [List.length_map, List.take_length] at e2
    exact q l' e2 e3⟩)
end
end L3

namespace L3
open PySem L2 RZ PyProof.Rows
theorem hu65_of {A : Around} {k : Nat} (hr : Room k A) : A.units + 65 < cLine := by have := hr.un; omega
/-! ### a pair among pairs -/
def prD (p : Str × Str) : PyData := .tuple [.str p.1, .str p.2]
theorem prD_rep (K : PySem.W.Frag) (p : Str × Str) : aTup K [aStr p.1, aStr p.2] = iDat K (prD p) := dat_tup (dats_cons (dat_str _ _) (dats_cons (dat_str _ _) dats_nil))
theorem eqv_prD (p q : Str × Str) : PyData.eqv (prD p) (prD q) = decide (p = q) := by
  unfold prD
  simp only [PyData.eqv, PyData.eqvAll, Bool.and_true]
  obtain ⟨a, b⟩ := p
  obtain ⟨c, d⟩ := q
  rw [Bool.eq_iff_iff]
  simp
theorem any_prD (p : Str × Str) (l : List (Str × Str)) : (l.map prD).any (fun z => PyData.eqv z (prD p)) = decide (p ∈ l) := by
  rw [List.any_map, Bool.eq_iff_iff]
  simp only [List.any_eq_true, Function.comp, eqv_prD, decide_eq_true_eq]
  exact ⟨fun ⟨x, h, e⟩ => e ▸ h, fun h => ⟨p, h, rfl⟩⟩
def PrOk (l : List (Str × Str)) : Prop := ∀ p ∈ l, StrOk p.1 ∧ StrOk p.2
theorem shp_prD {n : Nat} {p : Str × Str} (h : StrOk p.1 ∧ StrOk p.2) : Shp (n + 1) (prD p) := shp_tup fun d hd => by
  simp only [List.mem_cons, List.not_mem_nil, or_false] at hd
  rcases hd with rfl | rfl
  · exact shp_str h.1
  · exact shp_str h.2
theorem shp_prDs {n : Nat} {l : List (Str × Str)} (h : PrOk l) : Shp (n + 2) (.list (l.map prD)) := shp_list fun d hd => by
  obtain ⟨p, hp, rfl⟩ := List.mem_map.mp hd
  exact shp_prD (h p hp)
theorem prDs_rep (K : PySem.W.Frag) (l : List (Str × Str)) : iLst (l.map fun p => aTup K [aStr p.1, aStr p.2]) = iDat K (.list (l.map prD)) := by
  rw [← dat_list, List.map_map]
  congr 1
section
variable {E : XK} {K : PySem.W.Frag} {Γ : Ct} {M : SH} {k : KR} {X : KX} {R R1 R2 : Rep}
theorem o_inP {a b : Str} {l : List (Str × Str)} (hp : StrOk a ∧ StrOk b) (hl : PrOk l) : O2p (rInD K) (aTup K [aStr a, aStr b]) (iLst (l.map fun p => aTup K [aStr p.1, aStr p.2])) M (iBl (decide ((a, b) ∈ l))) := o2_val fun x y S H e _ h1 h2 => by
  rw [prDs_rep] at h2
  have h1' : (iDat K (prD (a, b))).p S x := by rw [← prD_rep]; exact h1
  refine ⟨_, rfl, fun Q q => ⟨prD (a, b), l.map prD, Dp.mono e (iDat_dp K _ h1'), Dp.mono e (iDat_dp K _ h2), (shp_prD hp).ok, (shp_prDs hl).ok, ?_⟩⟩
  rw [any_prD]
  exact q
theorem o_ninP {a b : Str} {l : List (Str × Str)} (hp : StrOk a ∧ StrOk b) (hl : PrOk l) : O2p (rNotInD K) (aTup K [aStr a, aStr b]) (iLst (l.map fun p => aTup K [aStr p.1, aStr p.2])) M (iBl (!decide ((a, b) ∈ l))) := o2_val fun x y S H e _ h1 h2 => by
  rw [prDs_rep] at h2
  have h1' : (iDat K (prD (a, b))).p S x := by rw [← prD_rep]; exact h1
  refine ⟨_, rfl, fun Q q => ⟨prD (a, b), l.map prD, Dp.mono e (iDat_dp K _ h1'), Dp.mono e (iDat_dp K _ h2), (shp_prD hp).ok, (shp_prDs hl).ok, ?_⟩⟩
  rw [any_prD]
  exact q
end
end L3

/-! names -/
namespace Dk
open PySem L2 RZ L3
def NmOk (z : Str) : Prop := 1 ≤ z.length ∧ z.length ≤ 8 ∧ ∀ c ∈ z.cps.toList, 97 ≤ c ∧ c ≤ 122
theorem str_app (a b : Str) : (a ++ b).cps.toList = a.cps.toList ++ b.cps.toList := by
  show (a.cps ++ b.cps).toList = _
  simp
theorem str_len (a : Str) : a.length = a.cps.toList.length := by simp [Str.length]
theorem letter_at : ∀ i : Nat, i < 26 → atI ("abcdefghijklmnopqrstuvwxyz" : Str).cps.toList (i : Int) = some (97 + i) := by
  intro i hi
  have h : ∀ j : Fin 26, ("abcdefghijklmnopqrstuvwxyz" : Str).cps.toList[j.val]? = some (97 + j.val) := by decide +kernel
  exact atI_nat (h ⟨i, hi⟩)
theorem mul_01 (z : Str) : Txt.mul z 0 = Str.empty ∧ Txt.mul z 1 = z := by
  constructor
  · unfold Txt.mul; rw [if_pos (by decide)]
  · unfold Txt.mul; rw [if_neg (by decide), if_pos (by simp)]
def pk3 (p : Nat) (x y z : Str) : Str := if p = 0 then x else if p = 1 then y else z
theorem at3 {p : Nat} (h : p < 3) (x y z : Str) : atI [aStr x, aStr y, aStr z] (p : Int) = some (aStr (pk3 p x y z)) := by
  obtain rfl | rfl | rfl : p = 0 ∨ p = 1 ∨ p = 2 := by omega
  · rfl
  · rfl
  · rfl
def nmK (start step : Nat) (tail : Str) (pick k : Nat) : Str :=
  pk3 pick (⟨#[97 + (start + step * k) % 26]⟩ ++ tail) (tail ++ ⟨#[97 + (start + step * k) % 26]⟩) (⟨#[97 + (start + step * k) % 26]⟩ ++ Txt.mul tail ((k : Int) % 2))
def tails : List Str := ["", "q", "zz", "lamp", "andlamp"]
theorem tails_ok : ∀ t ∈ tails, t.length ≤ 7 ∧ ∀ c ∈ t.cps.toList, 97 ≤ c ∧ c ≤ 122 := by decide +kernel
theorem mul_mod (tail : Str) (k : Nat) : Txt.mul tail ((k : Int) % 2) = Str.empty ∨ Txt.mul tail ((k : Int) % 2) = tail := by
  rcases (show (k : Int) % 2 = 0 ∨ (k : Int) % 2 = 1 by omega) with h | h
  · rw [h]; exact .inl (mul_01 tail).1
  · rw [h]; exact .inr (mul_01 tail).2
theorem nmOk_app {a b : Str} (h1 : 1 ≤ a.length + b.length) (h2 : a.length + b.length ≤ 8) (ha : ∀ c ∈ a.cps.toList, 97 ≤ c ∧ c ≤ 122) (hb : ∀ c ∈ b.cps.toList, 97 ≤ c ∧ c ≤ 122) : NmOk (a ++ b) := by
  refine ⟨?_, ?_, fun c hc => ?_⟩
  · rw [str_len, str_app, List.length_append, ← str_len, ← str_len]; exact h1
  · rw [str_len, str_app, List.length_append, ← str_len, ← str_len]; exact h2
  · rw [str_app] at hc
    rcases List.mem_append.mp hc with h | h
    · exact ha c h
    · exact hb c h
theorem nmK_ok {start step pick k : Nat} {tail : Str} (ht : tail ∈ tails) : NmOk (nmK start step tail pick k) := by
  obtain ⟨t1, t2⟩ := tails_ok tail ht
  have s1 : ∀ c ∈ (⟨#[97 + (start + step * k) % 26]⟩ : Str).cps.toList, 97 ≤ c ∧ c ≤ 122 := fun c hc => by
    have : c = 97 + (start + step * k) % 26 := by simpa using hc
    omega
  have s2 : (⟨#[97 + (start + step * k) % 26]⟩ : Str).length = 1 := rfl
  unfold nmK pk3
  split
  · exact nmOk_app (by omega) (by omega) s1 t2
  · split
    · exact nmOk_app (by omega) (by omega) t2 s1
    · rcases mul_mod tail k with h | h
      · rw [h]; exact nmOk_app (by omega) (by show _ + 0 ≤ 8; omega) s1 (fun c hc => by cases hc)
      · rw [h]; exact nmOk_app (by omega) (by omega) s1 t2
theorem nmK_inj {start step pick k k' : Nat} {tail : Str} (hs : step ∈ [1, 3, 5, 7, 9, 11]) (hk : k < 26) (hk' : k' < 26) (e : nmK start step tail pick k = nmK start step tail pick k') : k = k' := by
  have key : (start + step * k) % 26 = (start + step * k') % 26 := by
    have e2 := congrArg (fun z : Str => z.cps.toList) e
    unfold nmK pk3 at e2
    try dsimp only at e2
    split at e2
    · rw [str_app, str_app] at e2
      have : 97 + (start + step * k) % 26 = 97 + (start + step * k') % 26 := by simpa using e2
      omega
    · split at e2
      · rw [str_app, str_app] at e2
        have : 97 + (start + step * k) % 26 = 97 + (start + step * k') % 26 := by simpa using e2
        omega
      · rw [str_app, str_app] at e2
        have h3 : 97 + (start + step * k) % 26 = 97 + (start + step * k') % 26 := by
          have := congrArg List.head? e2
          simpa using this
        omega
  simp only [List.mem_cons, List.not_mem_nil, or_false] at hs
  rcases hs with rfl | rfl | rfl | rfl | rfl | rfl <;> omega
theorem nodup_map_on {α β : Type} {f : α → β} : ∀ {l : List α}, (∀ x ∈ l, ∀ y ∈ l, f x = f y → x = y) → l.Nodup → (l.map f).Nodup
  | [], _, _ => List.nodup_nil
  | a :: l, h, n => by
    rw [List.map_cons, List.nodup_cons]
    rw [List.nodup_cons] at n
    refine ⟨fun z => ?_, nodup_map_on (fun x hx y hy => h x (List.mem_cons_of_mem _ hx) y (List.mem_cons_of_mem _ hy)) n.2⟩
    obtain ⟨y, hy, e⟩ := List.mem_map.mp z
    have := h y (List.mem_cons_of_mem _ hy) a (List.mem_cons_self ..) e
    subst this
    exact n.1 hy
end Dk
local macro_rules | `(tactic| decreasing_trivial_pre_omega) => do
  let K := Lean.mkIdent `K
  `(tactic| first
  | with_reducible refine L3.st_seq ?_
  | with_reducible refine L3.st_asgM ?_
  | with_reducible refine L3.st_asg ?_
  | with_reducible refine L3.st_asgT (vs := []) ?_
  | with_reducible refine L3.st_ret ?_
  | with_reducible refine L3.st_retN ?_
  | with_reducible refine L3.st_next ?_
  | with_reducible refine L3.st_brk ?_
  | with_reducible refine L3.st_cont ?_
  | with_reducible refine L3.st_drop ?_
  | with_reducible refine L3.st_if ?_
  | with_reducible refine L3.st_par ?_
  | with_reducible refine L3.ev_varM ?_
  | refine L3.k_at rfl ?_
  | with_reducible refine L3.ev_int ?_
  | with_reducible refine L3.ev_str ?_
  | with_reducible refine L3.ev_bl ?_
  | with_reducible refine L3.ev_non ?_
  | with_reducible refine L3.ev_ty ?_
  | with_reducible refine L3.ev_op ?_
  | with_reducible refine L3.ev_un ?_
  | with_reducible refine L3.ev_chain ?_
  | with_reducible refine L3.ev_andV ?_
  | with_reducible refine L3.ev_orV ?_
  | with_reducible refine L3.ev_notV ?_
  | with_reducible refine L3.ev_if ?_
  | with_reducible refine L3.ev_lst ?_
  | with_reducible refine L3.ev_tup (K := $K) ?_
  | with_reducible refine L3.ev_cb ?_
  | with_reducible refine L3.ev_tM1 ?_
  | ((with_reducible refine L3.ev_call_at ?_); first | refine L3.ev_draw0 ?_ | refine L3.ev_callP0 ?_ | refine L3.ev_callK ?_ | refine L3.ev_callB2 ?_ | refine L3.ev_callPDi ?_ | refine L3.ev_callRO ?_ | refine L3.ev_callT ?_)
  | ((with_reducible refine L3.ev_callN_at ?_); refine L3.ev_callKP (gR := fun a b => a ++ b) L3.all2_gapp ?_)
  | ((with_reducible refine L3.k_leneq ?_ ?_); focus rfl)
  | ((with_reducible refine L3.ev_meth_at ?_); refine L3.ev_methK ?_)
  | ((with_reducible refine L3.ev_make_at ?_); refine L3.ev_make3 ?_)
  | with_reducible refine L3.ev_dinP ?_
  | with_reducible refine L3.ev_dinD ?_
  | with_reducible refine L3.ev_dgetD ?_
  | with_reducible refine L3.ev_dnewT ?_
  | with_reducible refine L3.ev_dnewK ?_
  | with_reducible refine L3.st_asg2 ?_
  | with_reducible refine L3.tg_putP ?_
  | with_reducible refine L3.k_ss ?_
  | with_reducible refine L3.k_ref ?_
  | refine L3.k_put (i := 0) rfl ?_ ?_
  | refine L3.k_put (i := 1) rfl ?_ ?_
  | refine L3.k_put (i := 2) rfl ?_ ?_
  | refine L3.k_fldS rfl ?_
  | refine L3.k_fldM (i := 0) rfl rfl ?_
  | refine L3.k_fldM (i := 1) rfl rfl ?_
  | refine L3.k_fldM (i := 2) rfl rfl ?_
  | refine L3.k_fldM (i := 3) rfl rfl ?_
  | refine L3.k_fldG (by assumption) rfl ?_
  | refine L3.k_fldG (by assumption) (by assumption) ?_
  | refine L3.k_methS rfl ?_
  | refine L3.k_methM (i := 0) rfl rfl ?_
  | refine L3.k_methM (i := 1) rfl rfl ?_
  | refine L3.k_methM (i := 2) rfl rfl ?_
  | refine L3.k_methG (by assumption) rfl ?_
  | refine L3.k_methG (by assumption) (by assumption) ?_
  | refine L3.k_ho2S ?_
  | refine L3.k_ho2M (i := 0) rfl ?_
  | refine L3.k_ho2M (i := 1) rfl ?_
  | refine L3.k_ho2M (i := 2) rfl ?_
  | refine L3.k_ho3 (by assumption) ?_
  | refine L3.k_set (j := 0) rfl ?_ ?_
  | refine L3.k_set (j := 1) rfl ?_ ?_
  | refine L3.k_set (j := 2) rfl ?_ ?_
  | refine L3.k_pd (.inl rfl) ?_
  | refine L3.k_pd (.inr ⟨_, 0, rfl, rfl⟩) ?_
  | refine L3.k_pd (.inr ⟨_, 1, rfl, rfl⟩) ?_
  | refine L3.k_pd (.inr ⟨_, 2, rfl, rfl⟩) ?_
  | refine L3.k_pd (by assumption) ?_
  | with_reducible refine L3.ev_rev ?_
  | with_reducible refine L3.ev_slC ?_
  | with_reducible refine L3.eoc_none ?_
  | with_reducible refine L3.eoc_some ?_
  | with_reducible refine L3.os_list ?_
  | refine L3.os_tup ?_
  | with_reducible refine L3.k_int ?_
  | with_reducible refine L3.ev_append ?_
  | refine L3.k_app (i := 0) rfl ?_
  | refine L3.k_app (i := 1) rfl ?_
  | refine L3.k_app (i := 2) rfl ?_
  | refine L3.k_app (i := 3) rfl ?_
  | ((with_reducible refine L3.k_app2_at ?_); first | refine L3.k_app2 (j := 0) rfl ?_ ?_ | refine L3.k_app2 (j := 1) rfl ?_ ?_ | refine L3.k_app2 (j := 2) rfl ?_ ?_ | refine L3.k_app2 (j := 3) rfl ?_ ?_)
  | with_reducible refine L3.ea_nil ?_
  | with_reducible refine L3.ea_cons ?_
  | with_reducible refine L3.et_test ?_
  | with_reducible refine L3.et_tB ?_
  | with_reducible refine L3.et_and ?_
  | with_reducible refine L3.et_or ?_
  | with_reducible refine L3.et_not ?_
  | with_reducible refine L3.et_yes ?_
  | with_reducible refine L3.tg_name ?_
  | ((with_reducible refine L3.tg_tup ?_ ?_); focus rfl)
  | with_reducible refine L3.tgs_cons ?_
  | ((with_reducible refine L3.tg_star_at ?_); first | refine L3.tg_star ?_ ?_ _ (.inl rfl) | refine L3.tg_star ?_ ?_ _ (.inr (.inl rfl)) | refine L3.tg_star ?_ ?_ _ (.inr (.inr rfl)))
  | with_reducible refine L3.tgs_nil ?_
  | ((with_reducible refine L3.ol_at ?_); first | refine L3.c_lenL _ ?_ | refine L3.c_lenT _ ?_ | refine L3.c_tupL _ ?_ | refine L3.c_listL _ ?_ | refine L3.c_listT _ ?_ | refine L3.c_tupT _ ?_ | refine L3.c_all _ ?_ | refine L3.c_any _ ?_ | refine L3.c_lenQ _ ?_ | refine L3.c_listQ _ ?_ | refine L3.c_tupQ _ ?_ | refine L3.c_max2 _ ?_ | refine L3.c_lenS ?_ _ ?_)
  | ((with_reducible refine L3.o2_at ?_); first | refine L3.o_add _ ?_ | refine L3.o_sub _ ?_ | refine L3.o_lt _ ?_ | refine L3.o_le _ ?_ | refine L3.o_gt _ ?_ | refine L3.o_ge _ ?_ | refine L3.o_eqI _ ?_ | refine L3.o_neI _ ?_ | refine L3.o_eqS _ ?_ | refine L3.o_neS _ ?_ | refine L3.o_eqB _ ?_ | refine L3.o_neB _ ?_ | refine L3.o_mul ?_ _ ?_ | refine L3.o_mod ?_ _ ?_ | refine L3.o_fdivW ?_ _ ?_ | refine L3.o_pow (by exact ⟨by decide, by decide, by decide⟩) _ ?_ | refine L3.o_ixL rfl _ ?_ | refine L3.o_ixT rfl _ ?_ | refine L3.o_ixL L3.atI_0 _ ?_ | refine L3.o_ixT L3.atI_0 _ ?_ | refine L3.o_cat ?_ _ ?_ | refine L3.o_rep2 ?_ _ ?_ | refine L3.o_catT ?_ _ ?_ | refine L3.o_addS ?_ _ ?_ | refine L3.o_ixQ rfl _ ?_ | refine L3.o_inG (.inl rfl) _ ?_ | refine L3.o_inG (.inr (.inr (.inr ⟨_, 0, rfl, rfl⟩))) _ ?_ | refine L3.o_inG (.inr (.inr (.inr ⟨_, 1, rfl, rfl⟩))) _ ?_ | refine L3.o_inG (by assumption) _ ?_ | refine L3.o_ninG (.inl rfl) _ ?_ | refine L3.o_ninG (.inr (.inr (.inr ⟨_, 0, rfl, rfl⟩))) _ ?_ | refine L3.o_ninG (.inr (.inr (.inr ⟨_, 1, rfl, rfl⟩))) _ ?_ | refine L3.o_ninG (by assumption) _ ?_)
  | ((with_reducible refine L3.o1_at ?_); first | refine L3.o_neg _ ?_)
  | with_reducible refine L3.k_b ?_
  | refine L3.Wk.so ?_
  | refine L3.Wk.no ?_
  | exact L3.Wk.nil
  | with_reducible refine L3.ti_rng1 ?_
  | with_reducible refine L3.ti_rng2 ?_
  | with_reducible refine L3.ti_list ?_
  | with_reducible refine L3.ti_tup ?_
  | with_reducible refine L3.k_nat ?_
  | with_reducible refine L3.etp_and ?_ (fun _ => ?_)
  | with_reducible refine L3.etp_or ?_ (fun _ => ?_)
  | with_reducible refine L3.etp_not ?_
  | ((with_reducible refine L3.ep_at ?_); intro _ _ _)
  | ((with_reducible refine L3.etp_at ?_); intro _ _ _)
  | ((with_reducible refine L3.eap_at ?_); intro _ _ _)
  | with_reducible refine L3.k_box ?_
  | with_reducible refine L3.k_ofL ?_ ?_ ?_
  | with_reducible refine L3.k_ofT ?_ ?_ ?_
  | with_reducible refine L3.k_ofS ?_ ?_ ?_
  | with_reducible exact L3.dat_int _ _
  | with_reducible exact L3.dat_str _ _
  | with_reducible exact L3.dat_bl _ _
  | with_reducible exact L3.dat_non _
  | with_reducible apply L3.dat_lst
  | with_reducible apply L3.dat_tup
  | with_reducible exact L3.dats_nil
  | with_reducible apply L3.dats_cons
  | with_reducible apply L3.Fit.int
  | with_reducible apply L3.Fit.str
  | with_reducible apply L3.Fit.bl
  | with_reducible apply L3.Fit.non
  | with_reducible apply L3.fit_l
  | with_reducible apply L3.fit_t
  | with_reducible apply L3.fitA_nil
  | with_reducible apply L3.fitA_cons
  | ((with_reducible refine L3.k_len ?_ ?_); focus (first | exact Nat.le_of_ble_eq_true rfl | (simp; done)))
  | with_reducible refine L3.k_par ?_
  | with_reducible refine L3.k_par3 ?_
  | with_reducible refine L3.k_lst ?_
  | with_reducible refine L3.k_str ?_
  | with_reducible refine L3.k_tup ?_
  | with_reducible refine L3.k_t ?_
  | with_reducible refine L3.k_f ?_
  | with_reducible refine L3.k_nt ?_
  | with_reducible refine L3.k_nf ?_
  | ((with_reducible refine L3.k_draw ?_ ?_); focus (exact ⟨by first | decide | omega, by first | decide | omega⟩))
  | ((with_reducible refine L3.cmul_at ?_); first | exact .inl ⟨by omega, by omega⟩ | exact .inr ⟨by omega, by omega⟩)
  | ((with_reducible refine L3.nle_at ?_); first | exact Nat.le_of_ble_eq_true rfl | omega | (simp; done) | (simp; omega))
  | ((with_reducible refine L3.nlt_at ?_); first | exact Nat.le_of_ble_eq_true rfl | omega | (simp; done) | (simp; omega))
  | ((with_reducible refine L3.ile_at ?_); first | omega | (simp; done) | (simp; omega))
  | ((with_reducible refine L3.ilt_at ?_); first | omega | (simp; done) | (simp; omega))
  | assumption)
namespace Dk
open PySem L2 RZ L3
def top (i : Nat) : Stmt := PySem.Challenge.pw_darkthread_k07_places_and_rounds_turned.main.body.getD i (.Pass ⟨0, 0, 0, 0⟩)
section
variable {P : Program} {w : World} {K : PySem.W.Frag} {mg : Str → Option Value} {base : Heap}

abbrev s_place : Stmt := top 1
theorem sc_place : FnScope ["rooms", "beat", "delay"] ["rooms", "beat", "delay"] (defScope s_place) := ⟨rfl, rfl, rfl, by decide +kernel, rfl, by decide +kernel, by decide +kernel⟩
def roomAt (l : List Str) (i : Int) : Str := l.getD (i % (l.length : Int)).toNat ⟨#[]⟩
theorem roomAt_at {l : List Str} (h : 0 < l.length) (i : Int) : atI (l.map aStr) (i % (l.length : Int)) = some (aStr (roomAt l i)) := by
  have h0 := Int.emod_nonneg i (show (l.length : Int) ≠ 0 by omega)
  have h1 := Int.emod_lt_of_pos i (show (0 : Int) < l.length by omega)
  have e : i % (l.length : Int) = ((i % (l.length : Int)).toNat : Nat) := by omega
  have hn : (i % (l.length : Int)).toNat < l.length := by omega
  rw [e]
  refine atI_nat ?_
  rw [List.getElem?_map, roomAt, List.getD_eq_getElem?_getD, List.getElem?_eq_getElem hn]
  rfl
abbrev ts_place (K : PySem.W.Frag) : TSp := pureTs (fun p : List Str × Int × Int => [aSeq K (p.1.map aStr), iInt p.2.1, iInt p.2.2]) (fun p => 0 < p.1.length ∧ p.1.length ≤ 1000000) (fun p => aStr (roomAt p.1 (p.2.1 - p.2.2)))
theorem ok_place (B : Bt mg) {f : Addr} {fd : FuncData} (d : Fun K "place" "place" s_place f fd) : FnOk P w K mg base CX0 1 f fd ["rooms", "beat", "delay"] (spT (ts_place K)) := by
  refine (okT (kk := 0) d sc_place (fun Rs M k X h => by obtain ⟨_, rfl, _⟩ := h; rfl) fun cdv A outer s H E hr => ⟨_,
    (pss_one (ps_ret (pe_ix ix_seq (pv 0) (pe_op op_mod (pe_op op_sub (pv 1) (pv 2)) (pe_callB call_len (by rfl) B.len (by decide +kernel) (pa_cons (pv 0) pa_nil))) (fun _ _ => rfl)))), ?_⟩)
  try dsimp only [L3.cxK]
  rintro Rs M k X ⟨⟨l, beat, delay⟩, rfl, ⟨h0, h1⟩, rfl, q⟩
  try dsimp only at h0 h1 q
  show St E _ [some (aSeq K (l.map aStr)), some (iInt beat), some (iInt delay)] [] _
  (repeat' decreasing_trivial_pre_omega)
  rw [List.length_map]
  exact o_ixQ (roomAt_at h0 _) _ q
theorem bd_place {f : Addr} {fd : FuncData} (F : FunD K "place" "place" (defArgs s_place) (defBody s_place) (defScope s_place) [] [("delay", .int 0)] f fd) : ∃ ds, Vals [V.int 0] ds ∧ Binds K fd ["rooms", "beat", "delay"] ds := by
  refine FunD.binds0 F 2 (by simp) rfl fun D doc pm an cdv ct us ks h1 h2 => ?_
  match us, ks, h1, h2 with
  | [a, b], [c], _, _ => exact ⟨_, _, _, _, _, _, rfl, rfl, rfl⟩
theorem kb_place {f : Addr} {fd : FuncData} (F : FunD K "place" "place" (defArgs s_place) (defBody s_place) (defScope s_place) [] [("delay", .int 0)] f fd) : ∃ g, KBn K fd ["rooms", "beat", "delay"] 2 ["delay"] g (fun vs zs => vs ++ zs) := by
  obtain ⟨oc, od, dV, kV, doc, pm, an, cdv, ct, osl, rfl, lk, hcd, hD, hK⟩ := F.ex
  rcases hD with ⟨_, rfl⟩ | ⟨e, _⟩
  · refine ⟨fun us ws => us ++ ws, ⟨fun s us ws X h1 h2 => ?_, fun r1 r2 => r1.append r2⟩⟩
    match us, ws, h1, h2 with
    | [a, b], [c], _, _ => exact .of_eq rfl
  · exact absurd rfl e
abbrev s_turned : Stmt := top 2
theorem sc_turned : FnScope ["rooms", "first", "rest"] ["rooms"] (defScope s_turned) := ⟨rfl, rfl, rfl, by decide +kernel, rfl, by decide +kernel, by decide +kernel⟩
abbrev ts_turned (K : PySem.W.Frag) : TSp := pureTs (fun l : Str × List Str => [aSeq K ((l.1 :: l.2).map aStr)]) (fun l => l.2.length ≤ 1000) (fun l => aTup K ((l.1 :: l.2.reverse).map aStr))
theorem ok_turned (B : Bt mg) {f : Addr} {fd : FuncData} (d : Df K mg "turned" s_turned ["rooms"] f fd) : Cl P w K mg base CX0 1 "turned" (ts_turned K) [] := by
  refine cl_of d (okT (kk := 0) d.fn sc_turned (fun Rs M k X h => by obtain ⟨_, rfl, _⟩ := h; rfl) fun cdv A outer s H E hr => ⟨_,
    (pss_cons (ps_asg (pv 0) (pg_star2 rfl (pgs_cons (pg_name (i := 1) sc_turned.nd rfl (Or.inl rfl)) (pgs_cons (pg_name (i := 2) sc_turned.nd rfl (Or.inl rfl)) pgs_nil))))
      (pss_one (ps_ret (pe_op op_catA (pe_tup (pa_cons (pv 1) pa_nil)) (pe_callTy call_tuple_of (by rfl) B.tuple (by decide +kernel) (pa_cons (pe_revL (pv 2)) pa_nil)))))), ?_⟩)
  try dsimp only [L3.cxK]
  rintro Rs M k X ⟨⟨a, l⟩, rfl, hl, rfl, q⟩
  try dsimp only at hl q
  show St E _ [some (aSeq K (aStr a :: l.map aStr)), none, none] [] _
  (repeat' decreasing_trivial_pre_omega)
  rw [← List.map_reverse]
  exact q
abbrev s__law_box : Stmt := top 4
theorem sc__law_box : FnScope ["_law_script"] ["_law_script"] (defScope s__law_box) := ⟨rfl, rfl, rfl, by decide +kernel, rfl, by decide +kernel, by decide +kernel⟩
abbrev ts__law_box (K : PySem.W.Frag) : TSp := tsBox K
theorem ok__law_box (B : Bt mg) {f : Addr} {fd : FuncData} (d : Df K mg "_law_box" s__law_box ["_law_script"] f fd) : Cl P w K mg base CX0 1 "_law_box" (ts__law_box K) [] := by
  refine cl_of d (okT (kk := 0) d.fn sc__law_box (fun Rs M k X h => by obtain ⟨ns, rfl, _⟩ := h; rfl) fun cdv A outer s H E hr => ⟨_,
    (pss_one (ps_ret (pe_lst (pa_cons (pe_callTy call_list_of (by rfl) B.list (by decide +kernel) (pa_cons (pe_slice sl_list (pv 0) po_none (po_some pe_int)) pa_nil)) (pa_cons pe_int (pa_cons pe_int (pa_cons pe_int (pa_cons pe_int pa_nil)))))))), ?_⟩)
  try dsimp only [L3.cxK]
  rintro Rs M k X ⟨ns, rfl, hl, rfl, q⟩
  refine st_dn ?_
  refine st_ret (ev_lstM (ea_cons (ep_cb (eap_cons (ep_sl (R := iLst ((cutL ns none (some 63)).map iInt)) (ep_var rfl) eo_none (eo_someX ep_int) s_scr) eap_nil) c_listL _ _ (eap_cons ep_int (eap_cons ep_int (eap_cons ep_int (eap_cons ep_int eap_nil))) _ _ ⟨by simp, fun a => ?_⟩))))
  refine kdn (P' := mBox) (A := []) (B := []) (fun S o h => ⟨⟨cutL ns none (some 63), 0, 0, 29, 0, by decide, by decide, by decide, by decide, ?_⟩, h⟩) (q a)
  unfold cutL
  simp
  omega
abbrev s__law_draw : Stmt := top 5
theorem sc__law_draw : FnScope ["_law_box_here", "_law_many", "_law_cell", "_law_got"] ["_law_box_here", "_law_many"] (defScope s__law_draw) := ⟨rfl, rfl, rfl, by decide +kernel, rfl, by decide +kernel, by decide +kernel⟩
abbrev ts__law_draw (K : PySem.W.Frag) : TSp := tsDraw
theorem ok__law_draw (B : Bt mg) {f : Addr} {fd : FuncData} (d : Df K mg "_law_draw" s__law_draw ["_law_box_here", "_law_many"] f fd) : Cl P w K mg base CX0 1 "_law_draw" (ts__law_draw K) [] := by
  refine cl_of d (okT (kk := 0) d.fn sc__law_draw (fun Rs M k X h => by obtain ⟨b, n, rfl, _⟩ := h; rfl) fun cdv A outer s H E hr => ⟨_,
    (pss_cons (ps_if (PW.pt (pw_and (pt_cmpR op_lt (pe_ix ix_list (pv 0) pe_int (fun _ _ => rfl)) pe_int (nomark _)) (pw_and1 (pt_cmpR op_lt (pe_ix ix_list (pv 0) pe_int (fun _ _ => rfl)) (pe_callB call_len (by rfl) B.len (by decide +kernel) (pa_cons (pe_ix ix_list (pv 0) pe_int (fun _ _ => rfl)) pa_nil)) (nomark _))))) (pss_cons (ps_set (i := 2) sc__law_draw.nd rfl (Or.inl rfl) (pe_ix ix_seq (pe_ix ix_list (pv 0) pe_int (fun _ _ => rfl)) (pe_ix ix_list (pv 0) pe_int (fun _ _ => rfl)) (fun _ _ => rfl)))
      (pss_cons (ps_asg (pe_op op_add (pe_ix ix_list (pv 0) pe_int (fun _ _ => rfl)) pe_int) (pg_sub (pv 0) pe_int set_list))
      (pss_cons (ps_asg (pe_callB (call_max2 rfl) (by rfl) B.max (by decide +kernel) (pa_cons pe_int (pa_cons (pe_op op_sub (pv 2) (pe_op op_pow pe_int pe_int)) pa_nil))) (pg_sub (pv 0) pe_int set_list))
      (pss_one (ps_asg (pe_op op_mod (pe_op op_add (pe_op op_add (pe_op op_mul (pe_ix ix_list (pv 0) pe_int (fun _ _ => rfl)) pe_int) (pe_op op_mul (pe_op op_mod (pv 2) pe_int) pe_int)) pe_int) pe_int) (pg_sub (pv 0) pe_int set_list)))))) pss_nil)
      (pss_cons (ps_if (pt_cmpR op_gt (pe_ix ix_list (pv 0) pe_int (fun _ _ => rfl)) pe_int (nomark _)) (pss_cons (ps_set (i := 3) sc__law_draw.nd rfl (Or.inl rfl) (pe_op op_mod (pe_ix ix_list (pv 0) pe_int (fun _ _ => rfl)) (pv 1)))
      (pss_cons (ps_asg (pe_op op_fdivW (pe_ix ix_list (pv 0) pe_int (fun _ _ => rfl)) (pv 1)) (pg_sub (pv 0) pe_int set_list))
      (pss_one (ps_ret (pv 3))))) pss_nil)
      (pss_cons (ps_asg (pe_op op_add (pe_ix ix_list (pv 0) pe_int (fun _ _ => rfl)) pe_int) (pg_sub (pv 0) pe_int set_list))
      (pss_cons (ps_asg (pe_op op_mod (pe_op op_add (pe_op op_add (pe_op op_pow (pe_ix ix_list (pv 0) pe_int (fun _ _ => rfl)) pe_int) (pe_op op_mul pe_int (pe_ix ix_list (pv 0) pe_int (fun _ _ => rfl)))) pe_int) pe_int) (pg_sub (pv 0) pe_int set_list))
      (pss_one (ps_ret (pe_op op_mod (pe_op op_fdivW (pe_ix ix_list (pv 0) pe_int (fun _ _ => rfl)) pe_int) (pv 1)))))))), ?_⟩)
  try dsimp only [L3.cxK]
  rintro Rs M k X ⟨b, n, rfl, hn, hn2, rfl, q⟩
  have hn3 : n.natAbs < 2 ^ 100 := by omega
  refine st_dn ?_
  refine st_open (A := []) (B := []) (fun x : BoxV => mLst x.l) (fun S o h => h) fun x => ?_
  show St E _ [some (iRef b), some (iInt n), none, none] [(b, mLst x.l)] _
  refine st_cut (fun Γ1 M1 => ∃ (y : BoxV) (c2 : Option Rep), Γ1 = [some (iRef b), some (iInt n), c2, none] ∧ M1 = [(b, mLst y.l)]) ?_ ?_
  · refine st_ifp (etp_and (etp_test (ep_op (ep_op (ep_var rfl) ep_int (o_ixH rfl)) ep_int o_lt)) (fun _ => etp_test (ep_op (ep_op (ep_var rfl) ep_int (o_ixH rfl)) (ep_cb (eap_cons (ep_op (ep_var rfl) ep_int (o_ixH rfl)) eap_nil) c_lenL) o_lt))) (fun hc => ?_) (fun _ => ?_)
    · have hp : x.pos < x.ns.length := by simpa using (Bool.and_eq_true_iff.mp hc).2
      have h1 := x.h1
      obtain ⟨cell, hcell⟩ : ∃ cell, atI x.ns x.pos = some cell := by
        refine ⟨x.ns[x.pos.toNat]'(by omega), ?_⟩
        have := atI_nat (xs := x.ns) (j := x.pos.toNat) (v := x.ns[x.pos.toNat]'(by omega)) (by simp)
        rwa [show ((x.pos.toNat : Nat) : Int) = x.pos by omega] at this
      refine st_seq (st_asg (ep_op (ep_op (ep_var rfl) ep_int (o_ixH rfl)) (ep_op (ep_var rfl) ep_int (o_ixH rfl)) (o_or1 (o_ixL (atI_map hcell))) _ _ ?_))
      refine st_seq (st_asgT (vs := []) (ep_op (ep_op (ep_var rfl) ep_int (o_ixH rfl)) ep_int o_add _ _ ?_))
      refine tg_subM (A := []) (B := []) (ep_var rfl) ep_int rfl ?_
      refine st_seq (st_asgT (vs := []) (ep_cb (eap_cons ep_int (eap_cons (ep_op (ep_var rfl) (ep_op ep_int ep_int (o_pow ⟨by decide, by decide, by decide⟩)) o_sub) eap_nil)) c_max2 _ _ ?_))
      refine tg_subM (A := []) (B := []) (ep_var rfl) ep_int rfl ?_
      have h3 := x.h3
      have h4 := x.h4
      have hm := Int.emod_nonneg cell (show (2147483629 : Int) ≠ 0 by decide)
      have hm2 := Int.emod_lt_of_pos cell (show (0 : Int) < 2147483629 by decide)
      refine st_asgT (vs := []) (ep_op (ep_op (ep_op (ep_op (ep_op (ep_var rfl) ep_int (o_ixH rfl)) ep_int (o_mul (.inl ⟨by omega, by omega⟩))) (ep_op (ep_op (ep_var rfl) ep_int (o_mod (by decide))) ep_int (o_mul (.inl ⟨by omega, by omega⟩))) o_add) ep_int o_add) ep_int (o_mod (by decide)) _ _ ?_)
      refine tg_subM (A := []) (B := []) (ep_var rfl) ep_int rfl ?_
      exact ⟨⟨x.ns, x.pos + 1, max 0 (cell - 10 ^ (18 : Int).toNat), _, x.cnt, by omega, by omega, Int.emod_nonneg _ (by decide), Int.emod_lt_of_pos _ (by decide), x.h5⟩, _, rfl, rfl⟩
    · exact st_next ⟨x, none, rfl, rfl⟩
  · rintro Γ1 M1 ⟨y, c2, rfl, rfl⟩
    have y2 := y.h2
    have y3 := y.h3
    have y4 := y.h4
    refine st_seq (st_ifp (etp_test (ep_op (ep_op (ep_var rfl) ep_int (o_ixH rfl)) ep_int o_gt)) (fun hc => ?_) (fun _ => ?_))
    · refine st_seq (st_asg (ep_op (ep_op (ep_var rfl) ep_int (o_ixH rfl)) (ep_var rfl) (o_mod hn) _ _ ?_))
      refine st_seq (st_asgT (vs := []) (ep_op (ep_op (ep_var rfl) ep_int (o_ixH rfl)) (ep_var rfl) (o_fdivW (wide_div hn hn3 (by decide) (by decide))) _ _ ?_))
      refine tg_subM (A := []) (B := []) (ep_var rfl) ep_int rfl ?_
      refine st_ret (ep_var rfl _ _ ?_)
      refine kdn (P' := mBox) (A := []) (B := []) (fun S o h => ⟨⟨y.ns, y.pos, y.big / n, y.seed, y.cnt, y.h1, Int.ediv_nonneg y2 (by omega), y3, y4, y.h5⟩, h⟩) (q _ (Int.emod_nonneg _ (by omega)) (Int.emod_lt_of_pos _ hn))
    · refine st_next ?_
      refine st_seq (st_asgT (vs := []) (ep_op (ep_op (ep_var rfl) ep_int (o_ixH rfl)) ep_int o_add _ _ ?_))
      refine tg_subM (A := []) (B := []) (ep_var rfl) ep_int rfl ?_
      refine st_seq (st_asgT (vs := []) (ep_op (ep_op (ep_op (ep_op (ep_op (ep_var rfl) ep_int (o_ixH rfl)) ep_int (o_pow ⟨by decide, by decide, by omega⟩)) (ep_op ep_int (ep_op (ep_var rfl) ep_int (o_ixH rfl)) (o_mul (.inl ⟨by decide, by decide⟩))) o_add) ep_int o_add) ep_int (o_mod (by decide)) _ _ ?_))
      refine tg_subM (A := []) (B := []) (ep_var rfl) ep_int rfl ?_
      refine st_ret (ep_op (ep_op (ep_op (ep_var rfl) ep_int (o_ixH rfl)) ep_int (o_fdivW (wide_div (b := 7) (by decide) (by decide) (by decide) (by decide)))) (ep_var rfl) (o_mod hn) _ _ ?_)
      refine kdn (P' := mBox) (A := []) (B := []) (fun S o h => ⟨⟨y.ns, y.pos, y.big, _, y.cnt + 1, y.h1, y.h2, Int.emod_nonneg _ (by decide), Int.emod_lt_of_pos _ (by decide), y.h5⟩, h⟩) (q _ (Int.emod_nonneg _ (by omega)) (Int.emod_lt_of_pos _ hn))
abbrev s__law_of : Stmt := top 6
theorem sc__law_of : FnScope ["_law_box_here", "_law_some"] ["_law_box_here", "_law_some"] (defScope s__law_of) := ⟨rfl, rfl, rfl, by decide +kernel, rfl, by decide +kernel, by decide +kernel⟩
abbrev ts__law_of (K : PySem.W.Frag) : TSp := tsOf2 K
theorem ok__law_of (B : Bt mg) (c__law_draw : Cl P w K mg base CX0 1 "_law_draw" (ts__law_draw K) []) {f : Addr} {fd : FuncData} (d : Df K mg "_law_of" s__law_of ["_law_box_here", "_law_some"] f fd) : Cl P w K mg base CX0 2 "_law_of" (ts__law_of K) [] := by
  refine cl_of d (okT (kk := 1) d.fn sc__law_of (fun Rs M k X h => by obtain ⟨b, _, rfl, _, ⟨rs, rfl, _⟩ | ⟨rs, rfl, _⟩ | ⟨z, rfl, _⟩⟩ := h <;> rfl) fun cdv A outer s H E hr => ⟨_,
    (pss_one (ps_ret (pe_ix ix_seq (pv 1) (pe_cl c__law_draw hr (by decide) pass0 rfl (pa_cons (pv 0) (pa_cons (pe_callB call_len (by rfl) B.len (by decide +kernel) (pa_cons (pv 1) pa_nil)) pa_nil))) (fun _ _ => rfl)))), ?_⟩)
  try dsimp only [L3.cxK]
  rintro Rs M k X ⟨b, _, rfl, rfl, ⟨rs, rfl, h1, h2, q⟩ | ⟨rs, rfl, h1, h2, q⟩ | ⟨z, rfl, h1, h2, q⟩⟩
  · refine st_ret (ev_op (ep_var rfl _ _ (ev_draw (F := []) rfl (ep_var rfl) (ep_cb (eap_cons (ep_var rfl) eap_nil) c_lenL) (by omega) (by omega) fun r r0 r1 => ?_)))
    obtain ⟨R, hR, hm⟩ := at_some rs r0 r1
    exact o_or1 (o_ixL hR) _ (q R hm)
  · refine st_ret (ev_op (ep_var rfl _ _ (ev_draw (F := []) rfl (ep_var rfl) (ep_cb (eap_cons (ep_var rfl) eap_nil) c_lenT) (by omega) (by omega) fun r r0 r1 => ?_)))
    obtain ⟨R, hR, hm⟩ := at_some rs r0 r1
    exact o_or2 (o_or1 (o_ixT hR)) _ (q R hm)
  · refine st_ret (ev_op (ep_var rfl _ _ (ev_draw (F := []) rfl (ep_var rfl) (ep_cb (eap_cons (ep_var rfl) eap_nil) (c_lenS (by omega))) (by omega) (by omega) fun r r0 r1 => ?_)))
    obtain ⟨c, hR, hm⟩ := at_some z.cps.toList r0 (by simpa [Str.length] using r1)
    exact o_or2 (o_or2 (o_ixS (by omega) hR)) _ (q c hm)
abbrev s__law_names : Stmt := top 7
theorem sc__law_names : FnScope ["_law_box_here", "_law_many", "_law_letters", "_law_start", "_law_step", "_law_tail", "_law_pick", "_law_found", "_law_k", "_law_sign"] ["_law_box_here", "_law_many"] (defScope s__law_names) := ⟨rfl, rfl, rfl, by decide +kernel, rfl, by decide +kernel, by decide +kernel⟩
abbrev ts__law_names (K : PySem.W.Frag) : TSp := boxK fun Rs q => ∃ many : Nat, Rs = [iInt many] ∧ many ≤ 26 ∧ ∀ l : List Str, l.length = many → l.Nodup → (∀ z ∈ l, NmOk z) → q (iLst (l.map aStr))
theorem ok__law_names (B : Bt mg) (c__law_of : Cl P w K mg base CX0 2 "_law_of" (ts__law_of K) []) (c__law_draw : Cl P w K mg base CX0 1 "_law_draw" (ts__law_draw K) []) {f : Addr} {fd : FuncData} (d : Df K mg "_law_names" s__law_names ["_law_box_here", "_law_many"] f fd) : Cl P w K mg base CX0 3 "_law_names" (ts__law_names K) [] := by
  refine cl_of d (okT (kk := 2) d.fn sc__law_names (fun Rs M k X h => by obtain ⟨b, _, rfl, _, _, rfl, _⟩ := h; rfl) fun cdv A outer s H E hr => ⟨_,
    (pss_cons (ps_set (i := 2) sc__law_names.nd rfl (Or.inl rfl) pe_str)
      (pss_cons (ps_par (i := 3) (j := 4) rfl sc__law_names.nd rfl rfl (by decide) rfl rfl (pa_cons (pe_cl c__law_draw hr (by decide) pass0 rfl (pa_cons (pv 0) (pa_cons pe_int pa_nil))) (pa_cons (pe_cl c__law_of hr (by decide) pass0 rfl (pa_cons (pv 0) (pa_cons (pe_lst (pa_cons pe_int (pa_cons pe_int (pa_cons pe_int (pa_cons pe_int (pa_cons pe_int (pa_cons pe_int pa_nil))))))) pa_nil))) pa_nil)) (by rfl))
      (pss_cons (ps_par (i := 5) (j := 6) rfl sc__law_names.nd rfl rfl (by decide) rfl rfl (pa_cons (pe_cl c__law_of hr (by decide) pass0 rfl (pa_cons (pv 0) (pa_cons (pe_lst (pa_cons pe_str (pa_cons pe_str (pa_cons pe_str (pa_cons pe_str (pa_cons pe_str pa_nil)))))) pa_nil))) (pa_cons (pe_cl c__law_draw hr (by decide) pass0 rfl (pa_cons (pv 0) (pa_cons pe_int pa_nil))) pa_nil)) (by rfl))
      (pss_cons (ps_set (i := 7) sc__law_names.nd rfl (Or.inl rfl) (pe_lst pa_nil))
      (pss_cons (ps_for PassesOwn.never rfl (pi_range1 (by rfl) B.range (pa_cons (pv 1) pa_nil)) (pg_name (i := 8) sc__law_names.nd rfl (Or.inl rfl)) (pss_cons (ps_set (i := 9) sc__law_names.nd rfl (Or.inl rfl) (pe_ix ix_str (pv 2) (pe_op op_mod (pe_op op_add (pv 3) (pe_op op_mul (pv 4) (pv 8))) pe_int) (fun _ _ => rfl)))
      (pss_one (ps_expr (pe_bm PySem.F.plainAttrs_list PySem.F.slot_list_append PySem.F.type_list_append mt_append (pv 7) (pa_cons (pe_ix ix_list (pe_lst (pa_cons (pe_op op_add_str (pv 9) (pv 5)) (pa_cons (pe_op op_add_str (pv 5) (pv 9)) (pa_cons (pe_op op_add_str (pv 9) (pe_op op_mulS (pv 5) (pe_op op_mod (pv 8) pe_int))) pa_nil)))) (pv 6) (fun _ _ => rfl)) pa_nil))))))
      (pss_one (ps_ret (pv 7)))))))), ?_⟩)
  try dsimp only [L3.cxK]
  rintro Rs M k X ⟨b, _, rfl, rfl, many, rfl, hm, q⟩
  (repeat' decreasing_trivial_pre_omega)
  intro start hst
  (repeat' decreasing_trivial_pre_omega)
  intro R hR
  have hT : ∃ t : Nat, R = iInt (t : Nat) ∧ t ∈ [1, 3, 5, 7, 9, 11] := by
    simp only [List.mem_cons, List.not_mem_nil, or_false] at hR
    rcases hR with rfl | rfl | rfl | rfl | rfl | rfl
    · exact ⟨1, rfl, by decide⟩
    · exact ⟨3, rfl, by decide⟩
    · exact ⟨5, rfl, by decide⟩
    · exact ⟨7, rfl, by decide⟩
    · exact ⟨9, rfl, by decide⟩
    · exact ⟨11, rfl, by decide⟩
  obtain ⟨step, rfl, hstep⟩ := hT
  (repeat' decreasing_trivial_pre_omega)
  intro R hR
  have hT : ∃ t : Str, R = aStr t ∧ t ∈ tails := by
    simp only [List.mem_cons, List.not_mem_nil, or_false] at hR
    rcases hR with rfl | rfl | rfl | rfl | rfl
    · exact ⟨"", rfl, by decide⟩
    · exact ⟨"q", rfl, by decide⟩
    · exact ⟨"zz", rfl, by decide⟩
    · exact ⟨"lamp", rfl, by decide⟩
    · exact ⟨"andlamp", rfl, by decide⟩
  obtain ⟨tail, rfl, htail⟩ := hT
  (repeat' decreasing_trivial_pre_omega)
  intro pick hpick
  (repeat' decreasing_trivial_pre_omega)
  intro a
  (repeat' decreasing_trivial_pre_omega)
  refine st_forG Nat ?_
  (repeat' decreasing_trivial_pre_omega)
  refine ⟨many, rfl, by omega, fun i n => n = i, fun _ => [some (iRef b), some (iInt many), some (aStr "abcdefghijklmnopqrstuvwxyz"), some (iInt start), some (iInt step), some (aStr tail), some (iInt pick), some (iRef a), none, none], fun n => [(b, mBox), (a, mLst ((List.range n).map fun k => aStr (nmK start step tail pick k)))], lj 0 rfl (by (repeat' decreasing_trivial_pre_omega)) rfl, ?_, ?_⟩
  · rintro i r n hi rfl rfl
    try dsimp only
    have ht := (tails_ok tail htail).1
    have hsl : ∀ c : Nat, (⟨#[c]⟩ : Str).length = 1 := fun _ => rfl
    (repeat' decreasing_trivial_pre_omega)
    rw [show ((start : Int) + step * n) % 26 = (((start + step * n) % 26 : Nat) : Int) by push_cast; rfl]
    refine o_ixS (by decide) (letter_at _ (Nat.mod_lt _ (by decide))) _ ?_
    have hs := hsl (97 + (start + step * n) % 26)
    have hml : (Txt.mul tail ((n : Int) % 2)).length ≤ 7 := by
      rcases mul_mod tail n with h | h
      · rw [h]; exact Nat.zero_le _
      · rw [h]; exact ht
    (repeat' decreasing_trivial_pre_omega)
    refine o_mulS (mulOk_01 (n := (n : Int) % 2) (by omega) (by omega)) _ ?_
    (repeat' decreasing_trivial_pre_omega)
    refine o_ixL (at3 (by omega) _ _ _) _ ?_
    (repeat' decreasing_trivial_pre_omega)
    refine lj (n + 1) rfl (by (repeat' decreasing_trivial_pre_omega)) ?_
    rw [List.range_succ, List.map_append]
    rfl
  · rintro n Γ1 rfl w
    refine st_wk w ?_
    refine st_ret (ev_told (ev_var rfl ⟨a, 1, _, rfl, rfl, ?_⟩))
    rw [show (List.range n).map (fun k => aStr (nmK start step tail pick k)) = ((List.range n).map (nmK start step tail pick)).map aStr by rw [List.map_map]; rfl]
    refine q _ (by simp) ?_ ?_
    · refine nodup_map_on ?_ List.nodup_range
      intro x hx y hy e
      exact nmK_inj hstep (by have := List.mem_range.mp hx; omega) (by have := List.mem_range.mp hy; omega) e
    · intro z hz
      obtain ⟨x, _, rfl⟩ := List.mem_map.mp hz
      exact nmK_ok htail
abbrev s__law_like : Stmt := top 8
theorem sc__law_like : FnScope ["_law_found", "_law_due", "_law_one", "_law_other"] ["_law_found", "_law_due"] (defScope s__law_like) := ⟨rfl, rfl, rfl, by decide +kernel, rfl, by decide +kernel, by decide +kernel⟩
abbrev ts__law_like (K : PySem.W.Frag) : TSp := tsLike K 7
theorem ok__law_like_n (B : Bt mg) {f : Addr} {fd : FuncData} (d : Df K mg "_law_like" s__law_like ["_law_found", "_law_due"] f fd) : ∀ n, Cl P w K mg base CX0 n "_law_like" (tsLike K n) []
  | 0 => cl_false d fun Rs M k X ⟨d, _, h, _⟩ => by cases h
  | n + 1 => by
    have c__law_like : Cl P w K mg base CX0 n "_law_like" (tsLike K n) [] := ok__law_like_n B d n
    refine cl_of d (okT (kk := n) d.fn sc__law_like (fun Rs M k X h => by obtain ⟨_, rfl, _⟩ := h; rfl) fun cdv A outer s H E hr => ⟨_,
      (pss_cons (ps_if (pt_val (pe_callB call_isiT (by rfl) B.isinstance (by decide +kernel) (pa_cons (pv 1) (pa_cons (pe_tup (pa_cons (pe_bltn (v := .ty "list") (by rfl) B.list (by decide +kernel) rfl) (pa_cons (pe_bltn (v := .ty "tuple") (by rfl) B.tuple (by decide +kernel) rfl) pa_nil))) pa_nil)))) (pss_cons (ps_if (PW.pt (pw_or (pt_cmpR op_ne (pe_callB call_isi (by rfl) B.isinstance (by decide +kernel) (pa_cons (pv 0) (pa_cons (pe_bltn (v := .ty "list") (by rfl) B.list (by decide +kernel) rfl) pa_nil))) (pe_callB call_isi (by rfl) B.isinstance (by decide +kernel) (pa_cons (pv 1) (pa_cons (pe_bltn (v := .ty "list") (by rfl) B.list (by decide +kernel) rfl) pa_nil))) (nomark _)) (pw_or1 (pt_cmpR op_ne (pe_callB call_isi (by rfl) B.isinstance (by decide +kernel) (pa_cons (pv 0) (pa_cons (pe_bltn (v := .ty "tuple") (by rfl) B.tuple (by decide +kernel) rfl) pa_nil))) (pe_callB call_isi (by rfl) B.isinstance (by decide +kernel) (pa_cons (pv 1) (pa_cons (pe_bltn (v := .ty "tuple") (by rfl) B.tuple (by decide +kernel) rfl) pa_nil))) (nomark _))))) (pss_one (ps_ret pe_bl)) pss_nil)
      (pss_one (ps_ret (pe_and (pe_cmpR op_eq (pe_callB call_len (by rfl) B.len (by decide +kernel) (pa_cons (pv 0) pa_nil)) (pe_callB call_len (by rfl) B.len (by decide +kernel) (pa_cons (pv 1) pa_nil)) (nomark _)) (pe_one (pe_callB (cr_all rfl) (by rfl) B.all (by decide +kernel) (pa_cons (pe_lc (own := [("_law_one", 2), ("_law_other", 3)]) rfl sc__law_like.nd (pi_zipA (by rfl) B.zip (pa_cons (pv 0) (pa_cons (pv 1) pa_nil))) (blkOk_by (own := [("_law_one", 2), ("_law_other", 3)]) (N := ["_law_found", "_law_due", "_law_one", "_law_other"]) (sc := defScope s__law_like) (by decide +kernel)) (fun s0 H0 C0 cl0 fp0 => blk_tup2 (i := 2) (j := 3) sc__law_like.nd (s := s0) (H := H0) (C := C0) (cl := cl0) (fp := fp0)) (fun _ _ _ _ _ => pts_nil) (fun _ _ _ _ _ => (pe_cl c__law_like hr (Nat.le_refl _) pass0 rfl (pa_cons (pv 2) (pa_cons (pv 3) pa_nil))))) pa_nil))))))) pss_nil)
      (pss_cons (ps_if (PW.pt (pw_or (pt_cmpR op_isN (pv 0) pe_non (nomark _)) (pw_or1 (pt_cmpR op_isN (pv 1) pe_non (nomark _))))) (pss_one (ps_ret (pe_and (pe_cmpR op_isN (pv 0) pe_non (nomark _)) (pe_one (pe_cmpR op_isN (pv 1) pe_non (nomark _)))))) pss_nil)
      (pss_cons (ps_if (PW.pt (pw_or (pt_cmpR op_ne (pe_callB call_isi (by rfl) B.isinstance (by decide +kernel) (pa_cons (pv 0) (pa_cons (pe_bltn (v := .ty "bool") (by rfl) B.bool (by decide +kernel) rfl) pa_nil))) (pe_callB call_isi (by rfl) B.isinstance (by decide +kernel) (pa_cons (pv 1) (pa_cons (pe_bltn (v := .ty "bool") (by rfl) B.bool (by decide +kernel) rfl) pa_nil))) (nomark _)) (pw_or1 (pt_cmpR op_ne (pe_callB call_isi (by rfl) B.isinstance (by decide +kernel) (pa_cons (pv 0) (pa_cons (pe_bltn (v := .ty "int") (by rfl) B.int (by decide +kernel) rfl) pa_nil))) (pe_callB call_isi (by rfl) B.isinstance (by decide +kernel) (pa_cons (pv 1) (pa_cons (pe_bltn (v := .ty "int") (by rfl) B.int (by decide +kernel) rfl) pa_nil))) (nomark _))))) (pss_one (ps_ret pe_bl)) pss_nil)
      (pss_one (ps_ret (pe_and (pe_cmpR op_eq (pe_callB call_isi (by rfl) B.isinstance (by decide +kernel) (pa_cons (pv 0) (pa_cons (pe_bltn (v := .ty "str") (by rfl) B.str (by decide +kernel) rfl) pa_nil))) (pe_callB call_isi (by rfl) B.isinstance (by decide +kernel) (pa_cons (pv 1) (pa_cons (pe_bltn (v := .ty "str") (by rfl) B.str (by decide +kernel) rfl) pa_nil))) (nomark _)) (pe_one (pe_cmpR op_eq (pv 0) (pv 1) (nomark _))))))))), ?_⟩)
    rintro Rs M k X ⟨d, rfl, hd, rfl, q⟩
    show St E _ [some (iDat K d), some (iDat K d), none, none] [] _
    cases hd with
    | list hl hf =>
      rename_i ds
      rw [iDat]
      refine st_seq (st_ifp (etp_tB (ep_cb (eap_cons (ep_var rfl) (eap_cons (ep_tupS (eap_cons ep_ty (eap_cons ep_ty eap_nil)) (by simp)) eap_nil)) (c_isi2 isT_lst (b1 := true) (b2 := false) (by decide +kernel) (by decide +kernel)))) (fun _ => ?_) (fun h => nomatch h))
      refine st_seq (st_ifp (b := false) (etp_or (a := false) (b := false) (etp_test (ep_op (ep_cb (eap_cons (ep_var rfl) (eap_cons ep_ty eap_nil)) (c_isi isT_lst (b := true) (by decide +kernel))) (ep_cb (eap_cons (ep_var rfl) (eap_cons ep_ty eap_nil)) (c_isi isT_lst (b := true) (by decide +kernel))) o_neB)) (fun _ => etp_test (ep_op (ep_cb (eap_cons (ep_var rfl) (eap_cons ep_ty eap_nil)) (c_isi isT_lst (b := false) (by decide +kernel))) (ep_cb (eap_cons (ep_var rfl) (eap_cons ep_ty eap_nil)) (c_isi isT_lst (b := false) (by decide +kernel))) o_neB))) (fun h => nomatch h) (fun _ => st_next ?_))
      refine st_ret (Ep.to (ep_andV (b := true) (ep_op (ep_cb (eap_cons (ep_var rfl) eap_nil) c_lenL) (ep_cb (eap_cons (ep_var rfl) eap_nil) c_lenL) o_eqI) (fun _ => Ep.to (ep_cb (eap_cons (Ep.to (ep_lc (by decide) (tip_zipL (ep_var rfl) (ep_var rfl) (n := ds.length) (by simp [iDats_len])) hl (fun _ => true) (fun _ => iBl true) fun i r hi hr => ?_) (congrArg iLst (given_true _))) eap_nil) c_all) (congrArg iBl (all_true _)))) (by simp) _ _ q)
      obtain ⟨q1, q2, e1, e2, rfl⟩ := hr
      rw [e1] at e2
      cases e2
      obtain ⟨d', hd', rfl⟩ := iDats_get K e1
      exact tg_tup rfl (tgs_cons (tg_name (tgs_cons (tg_name (tgs_nil ⟨rfl, etp_yes, fun _ => ep_callP d' (eap_cons (ep_var rfl) (eap_cons (ep_var rfl) eap_nil)) rfl (hf d' hd')⟩)))))
    | tup hl hf =>
      rename_i ds
      rw [iDat]
      refine st_seq (st_ifp (etp_tB (ep_cb (eap_cons (ep_var rfl) (eap_cons (ep_tupS (eap_cons ep_ty (eap_cons ep_ty eap_nil)) (by simp)) eap_nil)) (c_isi2 isT_tup (b1 := false) (b2 := true) (by decide +kernel) (by decide +kernel)))) (fun _ => ?_) (fun h => nomatch h))
      refine st_seq (st_ifp (b := false) (etp_or (a := false) (b := false) (etp_test (ep_op (ep_cb (eap_cons (ep_var rfl) (eap_cons ep_ty eap_nil)) (c_isi isT_tup (b := false) (by decide +kernel))) (ep_cb (eap_cons (ep_var rfl) (eap_cons ep_ty eap_nil)) (c_isi isT_tup (b := false) (by decide +kernel))) o_neB)) (fun _ => etp_test (ep_op (ep_cb (eap_cons (ep_var rfl) (eap_cons ep_ty eap_nil)) (c_isi isT_tup (b := true) (by decide +kernel))) (ep_cb (eap_cons (ep_var rfl) (eap_cons ep_ty eap_nil)) (c_isi isT_tup (b := true) (by decide +kernel))) o_neB))) (fun h => nomatch h) (fun _ => st_next ?_))
      refine st_ret (Ep.to (ep_andV (b := true) (ep_op (ep_cb (eap_cons (ep_var rfl) eap_nil) c_lenT) (ep_cb (eap_cons (ep_var rfl) eap_nil) c_lenT) o_eqI) (fun _ => Ep.to (ep_cb (eap_cons (Ep.to (ep_lc (by decide) (tip_zipT (ep_var rfl) (ep_var rfl) (n := ds.length) (by simp [iDats_len])) hl (fun _ => true) (fun _ => iBl true) fun i r hi hr => ?_) (congrArg iLst (given_true _))) eap_nil) c_all) (congrArg iBl (all_true _)))) (by simp) _ _ q)
      obtain ⟨q1, q2, e1, e2, rfl⟩ := hr
      rw [e1] at e2
      cases e2
      obtain ⟨d', hd', rfl⟩ := iDats_get K e1
      exact tg_tup rfl (tgs_cons (tg_name (tgs_cons (tg_name (tgs_nil ⟨rfl, etp_yes, fun _ => ep_callP d' (eap_cons (ep_var rfl) (eap_cons (ep_var rfl) eap_nil)) rfl (hf d' hd')⟩)))))
    | non =>
      rw [iDat]
      refine st_seq (st_ifp (etp_tB (ep_cb (eap_cons (ep_var rfl) (eap_cons (ep_tupS (eap_cons ep_ty (eap_cons ep_ty eap_nil)) (by simp)) eap_nil)) (c_isi2 isT_non (b1 := false) (b2 := false) (by decide +kernel) (by decide +kernel)))) (fun h => nomatch h) (fun _ => st_next ?_))
      refine st_seq (st_ifp (b := true) (etp_or (a := true) (b := true) (etp_test (ep_op (ep_var rfl) ep_non (o_isN true (fun S v p => by cases p; rfl)))) (fun h => nomatch h)) (fun _ => ?_) (fun h => nomatch h))
      exact st_ret (ep_andV (ep_op (ep_var rfl) ep_non (o_isN true (fun S v p => by cases p; rfl))) (fun _ => ep_op (ep_var rfl) ep_non (o_isN true (fun S v p => by cases p; rfl))) _ _ q)
    | bl b =>
      rw [iDat]
      refine st_seq (st_ifp (etp_tB (ep_cb (eap_cons (ep_var rfl) (eap_cons (ep_tupS (eap_cons ep_ty (eap_cons ep_ty eap_nil)) (by simp)) eap_nil)) (c_isi2 isT_bl (b1 := false) (b2 := false) (by decide +kernel) (by decide +kernel)))) (fun h => nomatch h) (fun _ => st_next ?_))
      refine st_seq (st_ifp (b := false) (etp_or (a := false) (b := false) (etp_test (ep_op (ep_var rfl) ep_non (o_isN false (fun S v p => by cases p; rfl)))) (fun _ => etp_test (ep_op (ep_var rfl) ep_non (o_isN false (fun S v p => by cases p; rfl))))) (fun h => nomatch h) (fun _ => st_next ?_))
      refine st_seq (st_ifp (b := false) (etp_or (a := false) (b := false) (etp_test (ep_op (ep_cb (eap_cons (ep_var rfl) (eap_cons ep_ty eap_nil)) (c_isi isT_bl (b := true) (by decide +kernel))) (ep_cb (eap_cons (ep_var rfl) (eap_cons ep_ty eap_nil)) (c_isi isT_bl (b := true) (by decide +kernel))) o_neB)) (fun _ => etp_test (ep_op (ep_cb (eap_cons (ep_var rfl) (eap_cons ep_ty eap_nil)) (c_isi isT_bl (b := true) (by decide +kernel))) (ep_cb (eap_cons (ep_var rfl) (eap_cons ep_ty eap_nil)) (c_isi isT_bl (b := true) (by decide +kernel))) o_neB))) (fun h => nomatch h) (fun _ => st_next ?_))
      exact st_ret (Ep.to (ep_andV (a := true) (b := true) (ep_op (ep_cb (eap_cons (ep_var rfl) (eap_cons ep_ty eap_nil)) (c_isi isT_bl (b := false) (by decide +kernel))) (ep_cb (eap_cons (ep_var rfl) (eap_cons ep_ty eap_nil)) (c_isi isT_bl (b := false) (by decide +kernel))) o_eqB) (fun _ => Ep.to (ep_op (ep_var rfl) (ep_var rfl) o_eqB) (congrArg iBl (by simp)))) rfl _ _ q)
    | int i =>
      rw [iDat]
      refine st_seq (st_ifp (etp_tB (ep_cb (eap_cons (ep_var rfl) (eap_cons (ep_tupS (eap_cons ep_ty (eap_cons ep_ty eap_nil)) (by simp)) eap_nil)) (c_isi2 isT_int (b1 := false) (b2 := false) (by decide +kernel) (by decide +kernel)))) (fun h => nomatch h) (fun _ => st_next ?_))
      refine st_seq (st_ifp (b := false) (etp_or (a := false) (b := false) (etp_test (ep_op (ep_var rfl) ep_non (o_isN false (fun S v p => by cases p; rfl)))) (fun _ => etp_test (ep_op (ep_var rfl) ep_non (o_isN false (fun S v p => by cases p; rfl))))) (fun h => nomatch h) (fun _ => st_next ?_))
      refine st_seq (st_ifp (b := false) (etp_or (a := false) (b := false) (etp_test (ep_op (ep_cb (eap_cons (ep_var rfl) (eap_cons ep_ty eap_nil)) (c_isi isT_int (b := false) (by decide +kernel))) (ep_cb (eap_cons (ep_var rfl) (eap_cons ep_ty eap_nil)) (c_isi isT_int (b := false) (by decide +kernel))) o_neB)) (fun _ => etp_test (ep_op (ep_cb (eap_cons (ep_var rfl) (eap_cons ep_ty eap_nil)) (c_isi isT_int (b := true) (by decide +kernel))) (ep_cb (eap_cons (ep_var rfl) (eap_cons ep_ty eap_nil)) (c_isi isT_int (b := true) (by decide +kernel))) o_neB))) (fun h => nomatch h) (fun _ => st_next ?_))
      exact st_ret (Ep.to (ep_andV (a := true) (b := true) (ep_op (ep_cb (eap_cons (ep_var rfl) (eap_cons ep_ty eap_nil)) (c_isi isT_int (b := false) (by decide +kernel))) (ep_cb (eap_cons (ep_var rfl) (eap_cons ep_ty eap_nil)) (c_isi isT_int (b := false) (by decide +kernel))) o_eqB) (fun _ => Ep.to (ep_op (ep_var rfl) (ep_var rfl) o_eqI) (congrArg iBl (by simp)))) rfl _ _ q)
    | str x =>
      rw [iDat]
      refine st_seq (st_ifp (etp_tB (ep_cb (eap_cons (ep_var rfl) (eap_cons (ep_tupS (eap_cons ep_ty (eap_cons ep_ty eap_nil)) (by simp)) eap_nil)) (c_isi2 isT_str (b1 := false) (b2 := false) (by decide +kernel) (by decide +kernel)))) (fun h => nomatch h) (fun _ => st_next ?_))
      refine st_seq (st_ifp (b := false) (etp_or (a := false) (b := false) (etp_test (ep_op (ep_var rfl) ep_non (o_isN false (fun S v p => by cases p; rfl)))) (fun _ => etp_test (ep_op (ep_var rfl) ep_non (o_isN false (fun S v p => by cases p; rfl))))) (fun h => nomatch h) (fun _ => st_next ?_))
      refine st_seq (st_ifp (b := false) (etp_or (a := false) (b := false) (etp_test (ep_op (ep_cb (eap_cons (ep_var rfl) (eap_cons ep_ty eap_nil)) (c_isi isT_str (b := false) (by decide +kernel))) (ep_cb (eap_cons (ep_var rfl) (eap_cons ep_ty eap_nil)) (c_isi isT_str (b := false) (by decide +kernel))) o_neB)) (fun _ => etp_test (ep_op (ep_cb (eap_cons (ep_var rfl) (eap_cons ep_ty eap_nil)) (c_isi isT_str (b := false) (by decide +kernel))) (ep_cb (eap_cons (ep_var rfl) (eap_cons ep_ty eap_nil)) (c_isi isT_str (b := false) (by decide +kernel))) o_neB))) (fun h => nomatch h) (fun _ => st_next ?_))
      exact st_ret (Ep.to (ep_andV (a := true) (b := true) (ep_op (ep_cb (eap_cons (ep_var rfl) (eap_cons ep_ty eap_nil)) (c_isi isT_str (b := true) (by decide +kernel))) (ep_cb (eap_cons (ep_var rfl) (eap_cons ep_ty eap_nil)) (c_isi isT_str (b := true) (by decide +kernel))) o_eqB) (fun _ => Ep.to (ep_op (ep_var rfl) (ep_var rfl) o_eqS) (congrArg iBl (by simp)))) rfl _ _ q)
theorem ok__law_like (B : Bt mg) {f : Addr} {fd : FuncData} (d : Df K mg "_law_like" s__law_like ["_law_found", "_law_due"] f fd) : Cl P w K mg base CX0 7 "_law_like" (ts__law_like K) [] := ok__law_like_n B d 7
abbrev s_law : Stmt := top 9
theorem sc_law : FnScope ["_law_script", "_law_box_here", "_law_turn", "_law_rooms", "_law_about", "_law_step", "_law_beat", "_law_late", "_law_due"] ["_law_script"] (defScope s_law) := ⟨rfl, rfl, rfl, by decide +kernel, rfl, by decide +kernel, by decide +kernel⟩
theorem roomAt_turn (a : Str) (l : List Str) (x : Int) : roomAt (a :: l.reverse) (-x) = roomAt (a :: l) x := by
  unfold roomAt
  have hn : ((a :: l.reverse).length : Int) = (a :: l).length := by simp
  rw [hn]
  have hp : (0 : Int) < (a :: l).length := by rw [List.length_cons]; omega
  have h0 := Int.emod_nonneg x (show ((a :: l).length : Int) ≠ 0 by omega)
  have h1 := Int.emod_lt_of_pos x hp
  have hl : ((a :: l).length : Int) = l.length + 1 := by simp
  by_cases hz : x % ((a :: l).length : Int) = 0
  · have : -x % ((a :: l).length : Int) = 0 := by exact Int.emod_eq_zero_of_dvd (Int.dvd_neg.mpr (Int.dvd_of_emod_eq_zero hz))
    rw [this, hz]
    rfl
  · have : -x % ((a :: l).length : Int) = (a :: l).length - x % ((a :: l).length : Int) := by
      rw [Int.neg_emod, if_neg (fun z => hz (Int.emod_eq_zero_of_dvd z)), Int.natAbs_natCast]
    rw [this]
    generalize x % ((a :: l).length : Int) = r at *
    obtain ⟨r', rfl⟩ := Int.eq_ofNat_of_zero_le h0
    obtain ⟨j, rfl⟩ : ∃ j, r' = j + 1 := ⟨r' - 1, by omega⟩
    have e1 : (((a :: l).length : Int) - ((j + 1 : Nat) : Int)).toNat = (l.length - 1 - j) + 1 := by omega
    rw [e1]
    show (a :: l.reverse).getD _ _ = (a :: l).getD (j + 1) _
    rw [List.getD_cons_succ, List.getD_cons_succ, List.getD_eq_getElem?_getD, List.getD_eq_getElem?_getD, List.getElem?_reverse (by omega)]
    congr 2
    omega
theorem nm_ok {z : Str} (h : NmOk z) : StrOk z := fun c hc => by have := h.2.2 c hc; omega
abbrev ts_law (K : PySem.W.Frag) : TSp := fun Rs M k _ => ∃ ns, Rs = [iScr K ns] ∧ ns.length ≤ 63 ∧ M = [] ∧ ∀ M', k (iBl true) M'
theorem ok_law (B : Bt mg) (c__law_box : Cl P w K mg base CX0 1 "_law_box" (ts__law_box K) []) (c__law_names : Cl P w K mg base CX0 3 "_law_names" (ts__law_names K) []) (c__law_draw : Cl P w K mg base CX0 1 "_law_draw" (ts__law_draw K) []) (c_turned : Cl P w K mg base CX0 1 "turned" (ts_turned K) []) (c__law_like : Cl P w K mg base CX0 7 "_law_like" (ts__law_like K) []) (c__law_of : Cl P w K mg base CX0 2 "_law_of" (ts__law_of K) []) (c_place : Cl P w K mg base CX0 1 "place" (ts_place K) [V.int 0]) (cN_place : ClN P w K mg base CX0 1 "place" (ts_place K) 2 ["delay"] (fun vs zs => vs ++ zs)) {f : Addr} {fd : FuncData} (d : Df K mg "law" s_law ["_law_script"] f fd) : FnOk P w K mg base CX0 8 f fd ["_law_script"] (spT (ts_law K)) := by
  refine (okT (kk := 7) d.fn sc_law (fun Rs M k X h => by obtain ⟨ns, rfl, _⟩ := h; rfl) fun cdv A outer s H E hr => ⟨_,
    (pss_cons (ps_set (i := 1) sc_law.nd rfl (Or.inl rfl) (pe_cl c__law_box hr (by decide) pass0 rfl (pa_cons (pv 0) pa_nil)))
      (pss_cons (ps_for PassesOwn.never rfl (pi_range1 (by rfl) B.range (pa_cons pe_int pa_nil)) (pg_name (i := 2) sc_law.nd rfl (Or.inl rfl)) (pss_cons (ps_set (i := 3) sc_law.nd rfl (Or.inl rfl) (pe_cl c__law_names hr (by decide) pass0 rfl (pa_cons (pv 1) (pa_cons (pe_op op_add pe_int (pe_cl c__law_draw hr (by decide) pass0 rfl (pa_cons (pv 1) (pa_cons pe_int pa_nil)))) pa_nil))))
      (pss_cons (ps_set (i := 3) sc_law.nd rfl (Or.inl rfl) (pe_op op_cat (pv 3) (pe_slice sl_list (pv 3) po_none (po_some (pe_cl c__law_draw hr (by decide) pass0 rfl (pa_cons (pv 1) (pa_cons pe_int pa_nil)))))))
      (pss_cons (ps_set (i := 4) sc_law.nd rfl (Or.inl rfl) (pe_cl c_turned hr (by decide) pass0 rfl (pa_cons (pe_callTy call_list_of (by rfl) B.list (by decide +kernel) (pa_cons (pv 3) pa_nil)) pa_nil)))
      (pss_cons (ps_if (PW.pt (pw_or (pt_not (pt_val (pe_cl c__law_like hr (by decide) pass0 rfl (pa_cons (pv 4) (pa_cons (pe_callTy call_tuple_of (by rfl) B.tuple (by decide +kernel) (pa_cons (pe_op op_cat (pe_lst (pa_cons (pe_ix ix_list (pv 3) pe_int (fun _ _ => rfl)) pa_nil)) (pe_revL (pe_slice sl_list (pv 3) (po_some pe_int) po_none))) pa_nil)) pa_nil))))) (pw_or1 (pt_cmpR (op_neD hr.units) (pe_cl c_turned hr (by decide) pass0 rfl (pa_cons (pv 4) pa_nil)) (pe_callTy call_tuple_of (by rfl) B.tuple (by decide +kernel) (pa_cons (pv 3) pa_nil)) (nomark _))))) (pss_one (ps_ret pe_bl)) pss_nil)
      (pss_one (ps_for PassesOwn.never rfl (pi_range1 (by rfl) B.range (pa_cons pe_int pa_nil)) (pg_name (i := 5) sc_law.nd rfl (Or.inl rfl)) (pss_cons (ps_set (i := 6) sc_law.nd rfl (Or.inl rfl) (pe_op op_mul (pe_cl c__law_of hr (by decide) pass0 rfl (pa_cons (pv 1) (pa_cons (pe_lst (pa_cons (pe_un un_neg pe_int) (pa_cons pe_int pa_nil))) pa_nil))) (pe_cl c__law_draw hr (by decide) pass0 rfl (pa_cons (pv 1) (pa_cons (pe_op op_pow pe_int pe_int) pa_nil)))))
      (pss_cons (ps_set (i := 7) sc_law.nd rfl (Or.inl rfl) (pe_op op_mul (pe_cl c__law_of hr (by decide) pass0 rfl (pa_cons (pv 1) (pa_cons (pe_lst (pa_cons (pe_un un_neg pe_int) (pa_cons pe_int pa_nil))) pa_nil))) (pe_cl c__law_draw hr (by decide) pass0 rfl (pa_cons (pv 1) (pa_cons (pe_op op_pow pe_int pe_int) pa_nil)))))
      (pss_cons (ps_par (i := 6) (j := 7) rfl sc_law.nd rfl rfl (by decide) rfl rfl (pa_cons (pe_cl c__law_of hr (by decide) pass0 rfl (pa_cons (pv 1) (pa_cons (pe_lst (pa_cons (pv 6) (pa_cons (pe_cl c__law_draw hr (by decide) pass0 rfl (pa_cons (pv 1) (pa_cons pe_int pa_nil))) pa_nil))) pa_nil))) (pa_cons (pe_cl c__law_of hr (by decide) pass0 rfl (pa_cons (pv 1) (pa_cons (pe_lst (pa_cons (pv 7) (pa_cons (pe_cl c__law_draw hr (by decide) pass0 rfl (pa_cons (pv 1) (pa_cons pe_int pa_nil))) pa_nil))) pa_nil))) pa_nil)) (by rfl))
      (pss_cons (ps_set (i := 8) sc_law.nd rfl (Or.inl rfl) (pe_lst (pa_cons (pe_ix ix_list (pv 3) (pe_op op_mod (pe_op op_sub (pv 6) (pv 7)) (pe_callB call_len (by rfl) B.len (by decide +kernel) (pa_cons (pv 3) pa_nil))) (fun _ _ => rfl)) (pa_cons (pe_ix ix_list (pv 3) (pe_op op_mod (pv 6) (pe_callB call_len (by rfl) B.len (by decide +kernel) (pa_cons (pv 3) pa_nil))) (fun _ _ => rfl)) pa_nil))))
      (pss_cons (ps_if (pt_not (pt_val (pe_cl c__law_like hr (by decide) pass0 rfl (pa_cons (pe_lst (pa_cons (pe_clN cN_place hr (by decide) pass0 rfl (pa_cons (pv 3) (pa_cons (pv 6) pa_nil)) (pk_cons (pv 7) pk_nil)) (pa_cons (pe_cl c_place hr (by decide) pass0 rfl (pa_cons (pe_callTy call_tuple_of (by rfl) B.tuple (by decide +kernel) (pa_cons (pv 3) pa_nil)) (pa_cons (pv 6) pa_nil))) pa_nil))) (pa_cons (pv 8) pa_nil))))) (pss_one (ps_ret pe_bl)) pss_nil)
      (pss_one (ps_if (pt_cmpR op_ne (pe_cl c_place hr (by decide) pass0 rfl (pa_cons (pv 4) (pa_cons (pe_un un_neg (pv 6)) pa_nil))) (pe_ix ix_list (pv 8) pe_int (fun _ _ => rfl)) (nomark _)) (pss_one (ps_ret pe_bl)) pss_nil))))))))))))))
      (pss_one (ps_ret pe_bl)))), ?_⟩)
  try dsimp only [L3.cxK]
  rintro Rs M k X ⟨ns, rfl, hl, rfl, q⟩
  (repeat' decreasing_trivial_pre_omega)
  refine ⟨[], [], rfl, ns, rfl, hl, rfl, fun b => ?_⟩
  (repeat' decreasing_trivial_pre_omega)
  refine st_forG Unit ?_
  (repeat' decreasing_trivial_pre_omega)
  refine ⟨4, rfl, by decide, fun _ _ => True, fun _ => [some (iScr K ns), some (iRef b), none, none, none, none, none, none, none], fun _ => [(b, mBox)], lj () True.intro (by (repeat' decreasing_trivial_pre_omega)) rfl, ?_, ?_⟩
  · rintro i r a hi rfl _
    try dsimp only
    (repeat' decreasing_trivial_pre_omega)
    intro m hm
    (repeat' decreasing_trivial_pre_omega)
    refine ⟨_, leS_rfl, 1 + m, rfl, by omega, fun l hl1 hl2 hl3 => ?_⟩
    (repeat' decreasing_trivial_pre_omega)
    intro d hd
    (repeat' decreasing_trivial_pre_omega)
    · rw [cutL_take]
      simp
      first | done | omega
    rw [cutL_take, ← List.map_take, ← List.map_append]
    obtain ⟨a, l', hl', hll⟩ : ∃ a l', l ++ l.take d = a :: l' ∧ l'.length ≤ 1000 := by
      cases l with
      | nil => simp at hl1; omega
      | cons a l0 => exact ⟨a, l0 ++ (a :: l0).take d, rfl, by simp at hl1 ⊢; omega⟩
    have ok : ∀ z ∈ a :: l', StrOk z := fun z hz => by
      rw [← hl'] at hz
      rcases List.mem_append.mp hz with h | h
      · exact nm_ok (hl3 z h)
      · exact nm_ok (hl3 z (List.mem_of_mem_take h))
    rw [hl']
    refine ⟨(a, l'), leS_cons seq_l leS_nil, hll, ?_⟩
    rw [List.map_cons]
    (repeat' decreasing_trivial_pre_omega)
    · rw [cutL_1]
      simp
      omega
    rw [cutL_1]
    try dsimp only
    rw [List.drop_one, List.tail_cons, ← List.map_reverse]
    apply k_like (d := .tuple ((a :: l'.reverse).map PyData.str))
    · rw [← dat_tuple, List.map_map]; rfl
    · rw [← dat_tuple, List.map_map]; rfl
    · exact fit_t (fitA_map fun _ _ => Fit.str _) (by simp; omega)
    (repeat' decreasing_trivial_pre_omega)
    refine ⟨(a, l'.reverse), leS_cons seq_t leS_nil, by simp; exact hll, ?_⟩
    try dsimp only
    rw [List.reverse_reverse]
    (repeat' decreasing_trivial_pre_omega)
    refine o_neSame (d := .tuple ((a :: l').map PyData.str)) (shp_tup (shp_strs ok)).ok ?_ ?_ ?_
    · rw [← dat_tuple, List.map_map]; rfl
    · rw [← dat_tuple, List.map_map]; rfl
    (repeat' decreasing_trivial_pre_omega)
    refine st_forG Unit ?_
    (repeat' decreasing_trivial_pre_omega)
    refine ⟨5, rfl, by decide, fun _ _ => True, fun _ => [some (iScr K ns), some (iRef b), none, some (iLst ((a :: l').map aStr)), some (aTup K ((a :: l'.reverse).map aStr)), none, none, none, none], fun _ => [(b, mBox)], lj () True.intro (by (repeat' decreasing_trivial_pre_omega)) rfl, ?_, ?_⟩
    · rintro i r _ hi rfl _
      try dsimp only
      (repeat' decreasing_trivial_pre_omega)
      refine k_map (l := [-1, 1]) (f := iInt) fun s1 hs1 => ?_
      have b1 : s1 = -1 ∨ s1 = 1 := by simpa using hs1
      (repeat' decreasing_trivial_pre_omega)
      intro d1 hd1
      replace hd1 : (d1 : Int) < 1000000000000 := hd1
      (repeat' decreasing_trivial_pre_omega)
      have c1 : -1000000000000 ≤ s1 * (d1 : Int) ∧ s1 * (d1 : Int) ≤ 1000000000000 := by rcases b1 with rfl | rfl <;> omega
      generalize s1 * (d1 : Int) = v1 at c1 ⊢
      refine k_map (l := [-1, 1]) (f := iInt) fun s2 hs2 => ?_
      have b2 : s2 = -1 ∨ s2 = 1 := by simpa using hs2
      (repeat' decreasing_trivial_pre_omega)
      intro d2 hd2
      replace hd2 : (d2 : Int) < 1000000000000 := hd2
      (repeat' decreasing_trivial_pre_omega)
      have c2 : -1000000000000 ≤ s2 * (d2 : Int) ∧ s2 * (d2 : Int) ≤ 1000000000000 := by rcases b2 with rfl | rfl <;> omega
      generalize s2 * (d2 : Int) = v2 at c2 ⊢
      intro d3 hd3
      (repeat' decreasing_trivial_pre_omega)
      refine k_map (l := [v1, (d3 : Int)]) (f := iInt) fun beat hb => ?_
      (repeat' decreasing_trivial_pre_omega)
      intro d4 hd4
      (repeat' decreasing_trivial_pre_omega)
      refine k_map (l := [v2, (d4 : Int)]) (f := iInt) fun late ht => ?_
      (repeat' decreasing_trivial_pre_omega)
      have lp : 0 < (a :: l').length := by simp
      rw [List.length_map]
      refine o_ixL (roomAt_at lp _) _ ?_
      (repeat' decreasing_trivial_pre_omega)
      rw [List.length_map]
      refine o_ixL (roomAt_at lp _) _ ?_
      (repeat' decreasing_trivial_pre_omega)
      refine ⟨(a :: l', beat, late), leS_cons seq_l leS_rfl, ⟨lp, by simp; omega⟩, ?_⟩
      try dsimp only
      (repeat' decreasing_trivial_pre_omega)
      refine ⟨(a :: l', beat, 0), leS_cons seq_t leS_rfl, ⟨lp, by simp; omega⟩, ?_⟩
      try dsimp only
      rw [Int.sub_zero]
      (repeat' decreasing_trivial_pre_omega)
      apply k_like
      (repeat' decreasing_trivial_pre_omega)
      refine ⟨(a :: l'.reverse, -beat, 0), leS_cons seq_t leS_rfl, ⟨by simp, by simp; omega⟩, ?_⟩
      try dsimp only
      rw [Int.sub_zero, roomAt_turn]
      (repeat' decreasing_trivial_pre_omega)
      refine ite_b (fun h => by simp at h) (fun _ => ?_)
      (repeat' decreasing_trivial_pre_omega)
      refine lj () True.intro (by (repeat' decreasing_trivial_pre_omega)) rfl
    · rintro _ Γ1 _ w
      refine lj () True.intro (Wk.trans (by (repeat' decreasing_trivial_pre_omega)) w) rfl
  · rintro a Γ1 _ w
    refine st_wk w ?_
    try dsimp only
    (repeat' decreasing_trivial_pre_omega)
    exact q _
end
theorem all_mk {l : PySem.W.OpenLaw} {w : World} {K : PySem.W.Frag} {h : Heap} {mg : Str → Option Value} {fa f1 f2 f3 f4 f5 f6 f7 f8 : Addr} (X : K.In h) (G : h.Ns mainGlobals mg) (hfa : mg "law" = some (.ref fa))
    {D1 : Addr} {od1 an1 : Option Addr} {sl1 : Array (Option Value)} {oc1 dc1 pm1 cd1 ct1 : Value} (a1 : PySem.W.nsIn K mainGlobals "place" = some (some (.ref f1))) (l1 : K.lookup f1 = some ⟨oc1, od1, .func (PySem.W.fnOf "place" "place" (defArgs s_place) (defBody s_place) (defScope s_place) .none (.ref D1) dc1 pm1 an1 cd1 ct1), sl1⟩) (c1 : PySem.W.codeIn K cd1 "place" = true) (k1 : PySem.W.keepIn K (.ref f1) = true)
    {tk1_delay : Tok} (e1_delay : PySem.W.nsIn K D1 "delay" = some (some (.int 0 tk1_delay)))
    {kV2 : Value} {od2 an2 : Option Addr} {sl2 : Array (Option Value)} {oc2 dc2 pm2 cd2 ct2 : Value} (a2 : PySem.W.nsIn K mainGlobals "turned" = some (some (.ref f2))) (l2 : K.lookup f2 = some ⟨oc2, od2, .func (PySem.W.fnOf "turned" "turned" (defArgs s_turned) (defBody s_turned) (defScope s_turned) .none kV2 dc2 pm2 an2 cd2 ct2), sl2⟩) (c2 : PySem.W.codeIn K cd2 "turned" = true) (k2 : PySem.W.keepIn K (.ref f2) = true)
    {kV3 : Value} {od3 an3 : Option Addr} {sl3 : Array (Option Value)} {oc3 dc3 pm3 cd3 ct3 : Value} (a3 : PySem.W.nsIn K mainGlobals "_law_box" = some (some (.ref f3))) (l3 : K.lookup f3 = some ⟨oc3, od3, .func (PySem.W.fnOf "_law_box" "_law_box" (defArgs s__law_box) (defBody s__law_box) (defScope s__law_box) .none kV3 dc3 pm3 an3 cd3 ct3), sl3⟩) (c3 : PySem.W.codeIn K cd3 "_law_box" = true) (k3 : PySem.W.keepIn K (.ref f3) = true)
    {kV4 : Value} {od4 an4 : Option Addr} {sl4 : Array (Option Value)} {oc4 dc4 pm4 cd4 ct4 : Value} (a4 : PySem.W.nsIn K mainGlobals "_law_draw" = some (some (.ref f4))) (l4 : K.lookup f4 = some ⟨oc4, od4, .func (PySem.W.fnOf "_law_draw" "_law_draw" (defArgs s__law_draw) (defBody s__law_draw) (defScope s__law_draw) .none kV4 dc4 pm4 an4 cd4 ct4), sl4⟩) (c4 : PySem.W.codeIn K cd4 "_law_draw" = true) (k4 : PySem.W.keepIn K (.ref f4) = true)
    {kV5 : Value} {od5 an5 : Option Addr} {sl5 : Array (Option Value)} {oc5 dc5 pm5 cd5 ct5 : Value} (a5 : PySem.W.nsIn K mainGlobals "_law_of" = some (some (.ref f5))) (l5 : K.lookup f5 = some ⟨oc5, od5, .func (PySem.W.fnOf "_law_of" "_law_of" (defArgs s__law_of) (defBody s__law_of) (defScope s__law_of) .none kV5 dc5 pm5 an5 cd5 ct5), sl5⟩) (c5 : PySem.W.codeIn K cd5 "_law_of" = true) (k5 : PySem.W.keepIn K (.ref f5) = true)
    {kV6 : Value} {od6 an6 : Option Addr} {sl6 : Array (Option Value)} {oc6 dc6 pm6 cd6 ct6 : Value} (a6 : PySem.W.nsIn K mainGlobals "_law_names" = some (some (.ref f6))) (l6 : K.lookup f6 = some ⟨oc6, od6, .func (PySem.W.fnOf "_law_names" "_law_names" (defArgs s__law_names) (defBody s__law_names) (defScope s__law_names) .none kV6 dc6 pm6 an6 cd6 ct6), sl6⟩) (c6 : PySem.W.codeIn K cd6 "_law_names" = true) (k6 : PySem.W.keepIn K (.ref f6) = true)
    {kV7 : Value} {od7 an7 : Option Addr} {sl7 : Array (Option Value)} {oc7 dc7 pm7 cd7 ct7 : Value} (a7 : PySem.W.nsIn K mainGlobals "_law_like" = some (some (.ref f7))) (l7 : K.lookup f7 = some ⟨oc7, od7, .func (PySem.W.fnOf "_law_like" "_law_like" (defArgs s__law_like) (defBody s__law_like) (defScope s__law_like) .none kV7 dc7 pm7 an7 cd7 ct7), sl7⟩) (c7 : PySem.W.codeIn K cd7 "_law_like" = true) (k7 : PySem.W.keepIn K (.ref f7) = true)
    {kV8 : Value} {od8 an8 : Option Addr} {sl8 : Array (Option Value)} {oc8 dc8 pm8 cd8 ct8 : Value} (a8 : PySem.W.nsIn K mainGlobals "law" = some (some (.ref f8))) (l8 : K.lookup f8 = some ⟨oc8, od8, .func (PySem.W.fnOf "law" "law" (defArgs s_law) (defBody s_law) (defScope s_law) .none kV8 dc8 pm8 an8 cd8 ct8), sl8⟩) (c8 : PySem.W.codeIn K cd8 "law" = true) (k8 : PySem.W.keepIn K (.ref f8) = true)
    (z_len : PySem.W.nsIn K mainGlobals "len" = some none)
    (z_range : PySem.W.nsIn K mainGlobals "range" = some none)
    (z_list : PySem.W.nsIn K mainGlobals "list" = some none)
    (z_tuple : PySem.W.nsIn K mainGlobals "tuple" = some none)
    (z_max : PySem.W.nsIn K mainGlobals "max" = some none)
    (z_min : PySem.W.nsIn K mainGlobals "min" = some none)
    (z_all : PySem.W.nsIn K mainGlobals "all" = some none)
    (z_any : PySem.W.nsIn K mainGlobals "any" = some none)
    (z_zip : PySem.W.nsIn K mainGlobals "zip" = some none)
    (z_enumerate : PySem.W.nsIn K mainGlobals "enumerate" = some none)
    (z_isinstance : PySem.W.nsIn K mainGlobals "isinstance" = some none)
    (z_str : PySem.W.nsIn K mainGlobals "str" = some none)
    (z_int : PySem.W.nsIn K mainGlobals "int" = some none)
    (z_bool : PySem.W.nsIn K mainGlobals "bool" = some none)
    (z_sorted : PySem.W.nsIn K mainGlobals "sorted" = some none)
    (z_sum : PySem.W.nsIn K mainGlobals "sum" = some none)
    (z_repr : PySem.W.nsIn K mainGlobals "repr" = some none)
    (z_dict : PySem.W.nsIn K mainGlobals "dict" = some none)
    (z_set : PySem.W.nsIn K mainGlobals "set" = some none)
    : ∃ fd : FuncData, (∀ (s : Shared) (v : Value), BindsTo s fd ⟨[v], []⟩ [("_law_script", v)]) ∧ ∀ base : Heap, K.In base → base.Ns mainGlobals mg → FnOk l.prog w K mg base CX0 8 fa fd ["_law_script"] (spT (ts_law K)) := by
  have e := hfa.symm.trans (PySem.W.mg_of X G a8)
  cases e
  have B : Bt mg := ⟨PySem.W.mg_none_of X G z_len, PySem.W.mg_none_of X G z_range, PySem.W.mg_none_of X G z_list, PySem.W.mg_none_of X G z_tuple, PySem.W.mg_none_of X G z_max, PySem.W.mg_none_of X G z_min, PySem.W.mg_none_of X G z_all, PySem.W.mg_none_of X G z_any, PySem.W.mg_none_of X G z_zip, PySem.W.mg_none_of X G z_enumerate, PySem.W.mg_none_of X G z_isinstance, PySem.W.mg_none_of X G z_str, PySem.W.mg_none_of X G z_int, PySem.W.mg_none_of X G z_bool, PySem.W.mg_none_of X G z_sorted, PySem.W.mg_none_of X G z_sum, PySem.W.mg_none_of X G z_repr, PySem.W.mg_none_of X G z_dict, PySem.W.mg_none_of X G z_set⟩
  have d1 : Fun K "place" "place" s_place _ _ := fun_mk (st := s_place) l1 c1 k1
  have D1f : FunD K "place" "place" (defArgs s_place) (defBody s_place) (defScope s_place) [] [("delay", V.int 0)] _ _ := ⟨⟨_, _, _, _, _, _, _, _, _, _, rfl, l1, c1, .inl ⟨rfl, rfl⟩, .inr ⟨_, rfl, fun q hq => by simp only [List.mem_cons, List.not_mem_nil, or_false] at hq; rcases hq with rfl; exact ⟨_, e1_delay, _, rfl⟩⟩⟩, k1⟩
  have d2 : Df K mg "turned" s_turned ["rooms"] _ _ := ⟨fun_mk (st := s_turned) l2 c2 k2, PySem.W.mg_of X G a2, (fun_mk (st := s_turned) l2 c2 k2).binds fun _ _ _ _ _ _ us hl => match us, hl with | [_], _ => rfl⟩
  have d3 : Df K mg "_law_box" s__law_box ["_law_script"] _ _ := ⟨fun_mk (st := s__law_box) l3 c3 k3, PySem.W.mg_of X G a3, (fun_mk (st := s__law_box) l3 c3 k3).binds fun _ _ _ _ _ _ us hl => match us, hl with | [_], _ => rfl⟩
  have d4 : Df K mg "_law_draw" s__law_draw ["_law_box_here", "_law_many"] _ _ := ⟨fun_mk (st := s__law_draw) l4 c4 k4, PySem.W.mg_of X G a4, (fun_mk (st := s__law_draw) l4 c4 k4).binds fun _ _ _ _ _ _ us hl => match us, hl with | [_, _], _ => rfl⟩
  have d5 : Df K mg "_law_of" s__law_of ["_law_box_here", "_law_some"] _ _ := ⟨fun_mk (st := s__law_of) l5 c5 k5, PySem.W.mg_of X G a5, (fun_mk (st := s__law_of) l5 c5 k5).binds fun _ _ _ _ _ _ us hl => match us, hl with | [_, _], _ => rfl⟩
  have d6 : Df K mg "_law_names" s__law_names ["_law_box_here", "_law_many"] _ _ := ⟨fun_mk (st := s__law_names) l6 c6 k6, PySem.W.mg_of X G a6, (fun_mk (st := s__law_names) l6 c6 k6).binds fun _ _ _ _ _ _ us hl => match us, hl with | [_, _], _ => rfl⟩
  have d7 : Df K mg "_law_like" s__law_like ["_law_found", "_law_due"] _ _ := ⟨fun_mk (st := s__law_like) l7 c7 k7, PySem.W.mg_of X G a7, (fun_mk (st := s__law_like) l7 c7 k7).binds fun _ _ _ _ _ _ us hl => match us, hl with | [_, _], _ => rfl⟩
  have d8 : Df K mg "law" s_law ["_law_script"] _ _ := ⟨fun_mk (st := s_law) l8 c8 k8, PySem.W.mg_of X G a8, (fun_mk (st := s_law) l8 c8 k8).binds fun _ _ _ _ _ _ us hl => match us, hl with | [_], _ => rfl⟩
  refine ⟨PySem.W.fnOf "law" "law" (defArgs s_law) (defBody s_law) (defScope s_law) .none kV8 dc8 pm8 an8 cd8 ct8, fun s v => .of_eq rfl, fun base hb hg => ?_⟩
  have F1 : FnOk l.prog w K mg base CX0 1 _ _ _ (spT (ts_place K)) := ok_place B d1
  have r_place : Cl l.prog w K mg base CX0 1 "place" (ts_place K) [V.int 0] := by
    obtain ⟨ds, v, b⟩ := bd_place D1f
    exact ⟨_, _, _, ds, F1, PySem.W.mg_of X G a1, k1, b, v⟩
  have rN_place : ClN l.prog w K mg base CX0 1 "place" (ts_place K) 2 ["delay"] (fun vs zs => vs ++ zs) := by
    obtain ⟨g, b⟩ := kb_place D1f
    exact ⟨_, _, _, g, F1, PySem.W.mg_of X G a1, k1, b⟩
  have r_turned : Cl l.prog w K mg base CX0 1 "turned" (ts_turned K) [] := ok_turned B d2
  have r__law_box : Cl l.prog w K mg base CX0 1 "_law_box" (ts__law_box K) [] := ok__law_box B d3
  have r__law_draw : Cl l.prog w K mg base CX0 1 "_law_draw" (ts__law_draw K) [] := ok__law_draw B d4
  have r__law_of : Cl l.prog w K mg base CX0 2 "_law_of" (ts__law_of K) [] := ok__law_of B r__law_draw d5
  have r__law_names : Cl l.prog w K mg base CX0 3 "_law_names" (ts__law_names K) [] := ok__law_names B r__law_of r__law_draw d6
  have r__law_like : Cl l.prog w K mg base CX0 7 "_law_like" (ts__law_like K) [] := ok__law_like B d7
  exact ok_law B r__law_box r__law_names r__law_draw r_turned r__law_like r__law_of r_place rN_place d8
theorem walk {l : PySem.W.OpenLaw} {q : Program} {loose : List Str} {XP : (Str → Option Value) → Heap → Prop} {YP : World → Heap → Prop} {d : DefRec} {K : Params → PySem.W.Frag} (hn : l.most = some 63) (hdf : d.params.defaults = [])
    (hY : ∀ (w : World) (h : Heap), YP w h → (K w.params).In h)
    (F : ∀ (w : World) (mg : Str → Option Value) (fa : Addr) (h : Heap), (K w.params).In h → h.Ns mainGlobals mg → mg d.name = some (.ref fa) →
      ∃ fd : FuncData, (∀ (s : Shared) (u : Value), BindsTo s fd ⟨[u], []⟩ [("_law_script", u)]) ∧ ∀ base : Heap, (K w.params).In base → base.Ns mainGlobals mg → FnOk l.prog w (K w.params) mg base CX0 8 fa fd ["_law_script"] (spT (ts_law (K w.params)))) :
    PySem.W.WalkO q loose XP YP l.row.toRowW d [] (fun f vs => PySem.call f vs) :=
  L2.walk_of (n := 63) (k := 8) (x := "_law_script") (CX := fun _ => CX0) (sp := fun w => spT (ts_law (K w.params))) hn (by decide) hdf ⟨rfl, by decide, by decide⟩ hY F (fun w H a ns hl _ hS => law_in (ns := ns) hS ⟨ns, rfl, hl, rfl, fun _ => rfl⟩) fun _ _ _ _ _ z => z
end Dk
open PySem PySem.W PyProof.Rows
set_option maxRecDepth 100000 in
set_option maxHeartbeats 0 in
theorem PySem.Challenge.cw_darkthread_k07_places_and_rounds_turned_holds : PySem.Challenge.rw_darkthread_k07_places_and_rounds_turned.Holds := by
  w_on; o_law; k_head; (case hw => w_witness2)
  k_fill
  refine Dk.walk (l := PySem.Challenge.rw_darkthread_k07_places_and_rounds_turned) rfl rfl (fun w h Y => PySem.W.kIn_of Y) ?F
  case F =>
    intro w mg fa h KX G hmg
    refine' Dk.all_mk KX G hmg ?a1 ?l1 ?c1 ?k1 ?e1_delay ?a2 ?l2 ?c2 ?k2 ?a3 ?l3 ?c3 ?k3 ?a4 ?l4 ?c4 ?k4 ?a5 ?l5 ?c5 ?k5 ?a6 ?l6 ?c6 ?k6 ?a7 ?l7 ?c7 ?k7 ?a8 ?l8 ?c8 ?k8 ?z_len ?z_range ?z_list ?z_tuple ?z_max ?z_min ?z_all ?z_any ?z_zip ?z_enumerate ?z_isinstance ?z_str ?z_int ?z_bool ?z_sorted ?z_sum ?z_repr ?z_dict ?z_set
    (case a1 => k_is)
    (case l1 => k_is)
    (case c1 => k_is)
    (case k1 => k_is)
    (case e1_delay => k_is)
    (case a2 => k_is)
    (case l2 => k_is)
    (case c2 => k_is)
    (case k2 => k_is)
    (case a3 => k_is)
    (case l3 => k_is)
    (case c3 => k_is)
    (case k3 => k_is)
    (case a4 => k_is)
    (case l4 => k_is)
    (case c4 => k_is)
    (case k4 => k_is)
    (case a5 => k_is)
    (case l5 => k_is)
    (case c5 => k_is)
    (case k5 => k_is)
    (case a6 => k_is)
    (case l6 => k_is)
    (case c6 => k_is)
    (case k6 => k_is)
    (case a7 => k_is)
    (case l7 => k_is)
    (case c7 => k_is)
    (case k7 => k_is)
    (case a8 => k_is)
    (case l8 => k_is)
    (case c8 => k_is)
    (case k8 => k_is)
    (case z_len => k_is)
    (case z_range => k_is)
    (case z_list => k_is)
    (case z_tuple => k_is)
    (case z_max => k_is)
    (case z_min => k_is)
    (case z_all => k_is)
    (case z_any => k_is)
    (case z_zip => k_is)
    (case z_enumerate => k_is)
    (case z_isinstance => k_is)
    (case z_str => k_is)
    (case z_int => k_is)
    (case z_bool => k_is)
    (case z_sorted => k_is)
    (case z_sum => k_is)
    (case z_repr => k_is)
    (case z_dict => k_is)
    (case z_set => k_is)
