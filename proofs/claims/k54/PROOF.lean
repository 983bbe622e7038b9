import PyProof.Rows.All
import Wide.All
import OpenK.AllK
import Wide.FinOn
import HandS.ForMost
import HandS.ForExc
import HandS.Wide
import HandS.Flow
import HandS.Style
import HandS.IsInst
import HandS.Defaults
import HandS.Zip
import HandS.EndBits
import HandS.Walk
import PyProof.StrBlock2
import HandS.TupAny
import KE.KUnpackStar
import PyProof.P3Eq
import HandS.Small
import HandS.Iter
import HandS.MakeKw
import HandS.Deep
import KE.GoesMore
import HandS.Conv
import KE.GoesZip
import HandS.More
import HandS.DictComp
import HandS.Strs
import PyProof.SliceList
import HandS.SortInts
import HandS.OwnEq
import HandS.ListItems
import PyProof.Rows.FactsN_isinstance
import HandS.TupLen
import HandS.HotCalls
import HandS.Lambda
import HandS.ExcInit
import HandS.ExcIs
import HandS.ExcField
import PyProof.ZipIter
import PyProof.Rows.TupIter
import KE.KExcInit
import KE.KTryMore
import KE.KExcIs
import HandS.EndOwn
import KE.KNestM
import HandS.TupMul
import HandS.NoneIn
import KE.KDflt
import OpenK.KOps
import KE.KDictPairs
import HandS.HeadHook3
import PySem.Challenge.RW_darkthread_k54_askings_of_a_form
set_option Elab.async false
set_option linter.all false
set_option maxRecDepth 100000
set_option maxHeartbeats 8000000
def PyProofBox (P : Prop) : Prop := P
theorem bx_of {P : Prop} (h : PyProofBox P) : P := h
theorem bx_true {P : Prop} (h : P) : PyProofBox P = True := eq_true h
/-! L3: a typed layer of our own over the hand layer: what a reading comes to, said by representations of data. -/
namespace L3
open PySem L2

/-! ### representations -/
structure Rep where
  p : Hp → V → Prop
  m : ∀ {S S' : Hp} {v : V}, Same S S' → p S v → p S' v
structure MRep where
  p : Hp → HO → Prop
  m : ∀ {S S' : Hp} {o : HO}, Same S S' → p S o → p S' o
  nt : ∀ {S : Hp} {o : HO}, p S o → ∀ xs, o ≠ .tup xs
/-- free, or a tuple, which nothing changes -/
def Fre (H : Hp) (a : Addr) : Prop := ∀ o, H a = some o → ∃ xs, o = .tup xs
theorem fre_none {H : Hp} {a : Addr} (h : H a = none) : Fre H a := fun o q => by rw [h] at q; cases q
def All2 (S : Hp) : List Rep → List V → Prop
  | [], [] => True
  | r :: rs, v :: vs => r.p S v ∧ All2 S rs vs
  | _, _ => False
theorem All2.mono {S S' : Hp} (e : Same S S') : ∀ {rs : List Rep} {vs : List V}, All2 S rs vs → All2 S' rs vs
  | [], [], _ => True.intro
  | r :: rs, v :: vs, h => ⟨r.m e h.1, All2.mono e h.2⟩
  | [], _ :: _, h => h.elim
  | _ :: _, [], h => h.elim
theorem All2.len {S : Hp} : ∀ {rs : List Rep} {vs : List V}, All2 S rs vs → vs.length = rs.length
  | [], [], _ => rfl
  | _ :: rs, _ :: vs, h => congrArg Nat.succ (All2.len (rs := rs) (vs := vs) h.2)
  | [], _ :: _, h => h.elim
  | _ :: _, [], h => h.elim
theorem All2.get {S : Hp} : ∀ {rs : List Rep} {vs : List V} {i : Nat} {r : Rep}, All2 S rs vs → rs[i]? = some r → ∃ v, vs[i]? = some v ∧ r.p S v
  | r :: rs, v :: vs, 0, q, h, e => by
    have e' : r = q := Option.some.inj e
    subst e'
    exact ⟨v, rfl, h.1⟩
  | r :: rs, v :: vs, i + 1, q, h, e => All2.get (rs := rs) (vs := vs) (i := i) h.2 e
  | [], [], _, _, _, e => by cases e
  | [], _ :: _, _, _, h, _ => h.elim
  | _ :: _, [], _, _, h, _ => h.elim
theorem All2.getV {S : Hp} : ∀ {rs : List Rep} {vs : List V} {i : Nat} {v : V}, All2 S rs vs → vs[i]? = some v → ∃ r, rs[i]? = some r ∧ r.p S v
  | r :: rs, v :: vs, 0, q, h, e => by
    have e' : v = q := Option.some.inj e
    subst e'
    exact ⟨r, rfl, h.1⟩
  | r :: rs, v :: vs, i + 1, q, h, e => All2.getV (rs := rs) (vs := vs) (i := i) h.2 e
  | [], [], _, _, _, e => by cases e
  | [], _ :: _, _, _, h, _ => h.elim
  | _ :: _, [], _, _, h, _ => h.elim
theorem All2.app {S : Hp} : ∀ {rs qs : List Rep} {vs ws : List V}, All2 S rs vs → All2 S qs ws → All2 S (rs ++ qs) (vs ++ ws)
  | [], _, [], _, _, h => h
  | _ :: rs, _, _ :: vs, _, h, k => ⟨h.1, All2.app (rs := rs) (vs := vs) h.2 k⟩
  | [], _, _ :: _, _, h, _ => h.elim
  | _ :: _, _, [], _, h, _ => h.elim
theorem All2.one {S : Hp} {r : Rep} {v : V} (h : r.p S v) : All2 S [r] [v] := ⟨h, True.intro⟩
theorem All2.take {S : Hp} : ∀ (n : Nat) {rs : List Rep} {vs : List V}, All2 S rs vs → All2 S (rs.take n) (vs.take n)
  | 0, _, _, _ => by simp only [List.take_zero]; exact True.intro
  | n + 1, [], [], _ => True.intro
  | n + 1, _ :: rs, _ :: vs, h => ⟨h.1, All2.take n (rs := rs) (vs := vs) h.2⟩
  | _ + 1, [], _ :: _, h => h.elim
  | _ + 1, _ :: _, [], h => h.elim
theorem All2.drop {S : Hp} : ∀ (n : Nat) {rs : List Rep} {vs : List V}, All2 S rs vs → All2 S (rs.drop n) (vs.drop n)
  | 0, _, _, h => h
  | n + 1, [], [], _ => True.intro
  | n + 1, _ :: rs, _ :: vs, h => All2.drop n (rs := rs) (vs := vs) h.2
  | _ + 1, [], _ :: _, h => h.elim
  | _ + 1, _ :: _, [], h => h.elim
theorem All2.rev {S : Hp} : ∀ {rs : List Rep} {vs : List V}, All2 S rs vs → All2 S rs.reverse vs.reverse
  | [], [], _ => True.intro
  | r :: rs, v :: vs, h => by
    rw [List.reverse_cons, List.reverse_cons]
    exact (All2.rev (rs := rs) (vs := vs) h.2).app (All2.one h.1)
  | [], _ :: _, h => h.elim
  | _ :: _, [], h => h.elim
theorem All2.set {S : Hp} {r : Rep} {v : V} (hr : r.p S v) : ∀ {rs : List Rep} {vs : List V} (i : Nat), All2 S rs vs → All2 S (rs.set i r) (vs.set i v)
  | [], [], _, _ => True.intro
  | _ :: rs, _ :: vs, 0, h => ⟨hr, h.2⟩
  | _ :: rs, _ :: vs, i + 1, h => ⟨h.1, All2.set hr (rs := rs) (vs := vs) i h.2⟩
  | [], _ :: _, _, h => h.elim
  | _ :: _, [], _, h => h.elim
/-- flat representations: one value, no heap -/
theorem All2.flat {S : Hp} {α : Type} {r : α → Rep} {g : α → V} (h : ∀ x v, (r x).p S v → v = g x) : ∀ {l : List α} {vs : List V}, All2 S (l.map r) vs → vs = l.map g
  | [], [], _ => rfl
  | x :: l, v :: vs, k => by
    have e := h x v k.1
    have e2 := All2.flat h (l := l) (vs := vs) k.2
    rw [e, e2]
    rfl
  | [], _ :: _, h => h.elim
  | _ :: _, [], h => h.elim
theorem All2.unflat {S : Hp} {α : Type} {r : α → Rep} {g : α → V} (h : ∀ x, (r x).p S (g x)) : ∀ (l : List α), All2 S (l.map r) (l.map g)
  | [] => True.intro
  | x :: l => ⟨h x, All2.unflat h l⟩

theorem Same.sql {K : PySem.W.Frag} {H H' : Hp} {a : Addr} {xs : List V} (e : Same H H') (h : SqL K H a xs) : SqL K H' a xs := Same.seq e h
theorem Same.sqt {K : PySem.W.Frag} {H H' : Hp} {a : Addr} {xs : List V} (e : Same H H') (h : SqT K H a xs) : SqT K H' a xs := by
  rcases h with (h | ⟨o, h⟩) | h
  · exact .inl (.inl (e _ _ h))
  · exact .inl (.inr ⟨o, e _ _ h⟩)
  · exact .inr h

def iNon : Rep := ⟨fun _ v => v = .non, fun _ h => h⟩
def iBl (b : Bool) : Rep := ⟨fun _ v => v = .bl b, fun _ h => h⟩
def iInt (i : Int) : Rep := ⟨fun _ v => v = .int i, fun _ h => h⟩
def aStr (x : Str) : Rep := ⟨fun _ v => v = .str x, fun _ h => h⟩
def iRef (a : Addr) : Rep := ⟨fun _ v => v = .ref a, fun _ h => h⟩
def iAny : Rep := ⟨fun _ _ => True, fun _ h => h⟩
def iLst (rs : List Rep) : Rep := ⟨fun S v => ∃ a xs, v = .ref a ∧ S a = some (.lst xs) ∧ All2 S rs xs, fun e ⟨a, xs, h1, h2, h3⟩ => ⟨a, xs, h1, e _ _ h2, h3.mono e⟩⟩
/-- a list that is read alone (the script) -/
def iScr (K : PySem.W.Frag) (ns : List Int) : Rep := ⟨fun S v => ∃ a, v = .ref a ∧ SqL K S a (ns.map V.int), fun e ⟨a, h1, h2⟩ => ⟨a, h1, Same.sql e h2⟩⟩
def aTup (K : PySem.W.Frag) (rs : List Rep) : Rep := ⟨fun S v => ∃ a xs, v = .ref a ∧ SqT K S a xs ∧ All2 S rs xs, fun e ⟨a, xs, h1, h2, h3⟩ => ⟨a, xs, h1, Same.sqt e h2, h3.mono e⟩⟩
def mLst (rs : List Rep) : MRep := ⟨fun S o => ∃ xs, o = .lst xs ∧ All2 S rs xs, fun e ⟨xs, h1, h3⟩ => ⟨xs, h1, h3.mono e⟩, fun ⟨xs, h1, _⟩ ys z => by rw [h1] at z; cases z⟩

/-! ### the symbolic heap -/
abbrev SH := List (Addr × MRep)
abbrev dm (M : SH) : List Addr := M.map (·.1)
abbrev Ct := List (Option Rep)
structure MOk (S H : Hp) (M : SH) : Prop where
  at_ : ∀ a P, (a, P) ∈ M → S a = none ∧ ∃ o, H a = some o ∧ P.p S o
  nd : (dm M).Nodup
structure Stp (S H S2 H2 : Hp) (M M2 : SH) : Prop where
  s : Same S S2
  e : Same S2 H2
  new : ∀ a, S a = none → S2 a ≠ none → Fre H a ∨ a ∈ dm M
  fr : ∀ a o, a ∉ dm M → H a = some o → H2 a = some o
  m : MOk S2 H2 M2
  dn : ∀ a ∈ dm M2, a ∈ dm M ∨ H a = none
structure Nv (S H : Hp) (σ : L2.St) (Γ : Ct) (M : SH) : Prop where
  ex : Same S H
  len : σ.length = Γ.length
  sl : ∀ (i : Nat) (R : Rep), Γ[i]? = some (some R) → ∃ v, σ[i]? = some (some v) ∧ R.p S v
  m : MOk S H M

theorem MOk.mem {S H : Hp} {M : SH} (m : MOk S H M) {a : Addr} (h : a ∈ dm M) : S a = none ∧ ∃ o, H a = some o := by
  obtain ⟨⟨b, P⟩, h1, h2⟩ := List.mem_map.mp h
  have e : b = a := h2
  subst e
  obtain ⟨z, o, q, _⟩ := m.at_ b P h1
  exact ⟨z, o, q⟩
theorem Stp.refl {S H : Hp} {M : SH} (e : Same S H) (m : MOk S H M) : Stp S H S H M M :=
  ⟨Same.refl _, e, fun a h1 h2 => absurd h1 h2, fun _ _ _ h => h, m, fun _ h => .inl h⟩
theorem Stp.trans {S H S1 H1 S2 H2 : Hp} {M M1 M2 : SH} (a : Stp S H S1 H1 M M1) (b : Stp S1 H1 S2 H2 M1 M2) : Stp S H S2 H2 M M2 := by
  have back : ∀ c, H1 c = none → H c = none ∨ c ∈ dm M := fun c h => by
    by_cases hc : c ∈ dm M
    · exact .inr hc
    · cases q : H c with
      | none => exact .inl rfl
      | some o => rw [a.fr c o hc q] at h; cases h
  have backF : ∀ c, Fre H1 c → Fre H c ∨ c ∈ dm M := fun c h => by
    by_cases hc : c ∈ dm M
    · exact .inr hc
    · exact .inl fun o q => h o (a.fr c o hc q)
  refine ⟨a.s.trans b.s, b.e, fun c h1 h2 => ?_, fun c o h1 h2 => ?_, b.m, fun c h => ?_⟩
  · by_cases h3 : S1 c = none
    · rcases b.new c h3 h2 with h | h
      · exact backF c h
      · exact (a.dn c h).elim .inr fun z => .inl (fre_none z)
    · exact a.new c h1 h3
  · refine b.fr c o (fun z => ?_) (a.fr c o h1 h2)
    rcases a.dn c z with z | z
    · exact h1 z
    · rw [h2] at z; cases z
  · rcases b.dn c h with h | h
    · exact a.dn c h
    · exact (back c h).symm
theorem Nv.step {S H S2 H2 : Hp} {σ : L2.St} {Γ : Ct} {M M2 : SH} (I : Nv S H σ Γ M) (st : Stp S H S2 H2 M M2) : Nv S2 H2 σ Γ M2 :=
  ⟨st.e, I.len, fun i R h => let ⟨v, h1, h2⟩ := I.sl i R h; ⟨v, h1, R.m st.s h2⟩, st.m⟩
theorem Nv.set {S H : Hp} {σ : L2.St} {Γ : Ct} {M : SH} (I : Nv S H σ Γ M) (j : Nat) {v : V} {R : Rep} (h : R.p S v) : Nv S H (σ.set j (some v)) (Γ.set j (some R)) M := by
  refine ⟨I.ex, by simp [I.len], fun i Q e => ?_, I.m⟩
  by_cases hj : j = i
  · subst hj
    have hl : j < Γ.length := by
      have := (List.getElem?_eq_some_iff.mp e).1
      simpa using this
    rw [List.getElem?_set_self hl] at e
    cases e
    exact ⟨v, List.getElem?_set_self (by rw [I.len]; exact hl), h⟩
  · rw [List.getElem?_set_ne hj] at e ⊢
    exact I.sl i Q e
theorem Nv.weak {S H : Hp} {σ : L2.St} {Γ Γ' : Ct} {M : SH} (I : Nv S H σ Γ M) (hl : Γ'.length = Γ.length) (h : ∀ (i : Nat) (R : Rep), Γ'[i]? = some (some R) → Γ[i]? = some (some R)) : Nv S H σ Γ' M :=
  ⟨I.ex, I.len.trans hl.symm, fun i R e => I.sl i R (h i R e), I.m⟩
/-- framing -/
theorem Stp.frame {S H S2 H2 : Hp} {M M2 F : SH} (st : Stp S H S2 H2 M M2) (m : MOk S H (M ++ F)) : Stp S H S2 H2 (M ++ F) (M2 ++ F) := by
  have nd := m.nd
  have eM : dm (M ++ F) = dm M ++ dm F := List.map_append
  have eM2 : dm (M2 ++ F) = dm M2 ++ dm F := List.map_append
  rw [eM, List.nodup_append] at nd
  obtain ⟨n1, n2, n3⟩ := nd
  have hF : ∀ a, a ∈ dm F → S a = none ∧ (∃ o, H a = some o) ∧ a ∉ dm M := fun a h => by
    obtain ⟨z, o⟩ := m.mem (a := a) (by rw [eM]; exact List.mem_append_right _ h)
    exact ⟨z, o, fun q => n3 a q a h rfl⟩
  refine ⟨st.s, st.e, fun a h1 h2 => ?_, fun a o h1 h2 => ?_, ⟨fun a P h => ?_, ?_⟩, fun a h => ?_⟩
  · rcases st.new a h1 h2 with h | h
    · exact .inl h
    · exact .inr (by rw [eM]; exact List.mem_append_left _ h)
  · exact st.fr a o (fun z => h1 (by rw [eM]; exact List.mem_append_left _ z)) h2
  · rcases List.mem_append.mp h with h | h
    · exact st.m.at_ a P h
    · have ha : a ∈ dm F := List.mem_map.mpr ⟨(a, P), h, rfl⟩
      obtain ⟨z, _, z3⟩ := hF a ha
      obtain ⟨_, o, q1, q2⟩ := m.at_ a P (List.mem_append_right _ h)
      refine ⟨?_, o, st.fr a o z3 q1, P.m st.s q2⟩
      cases q : S2 a with
      | none => rfl
      | some u =>
        rcases st.new a z (by rw [q]; exact fun c => by cases c) with w | w
        · obtain ⟨xs, e⟩ := w o q1
          exact absurd e (P.nt q2 xs)
        · exact absurd w z3
  · rw [eM2, List.nodup_append]
    refine ⟨st.m.nd, n2, fun a h1 b h2 e => ?_⟩
    subst e
    obtain ⟨_, ⟨o, q⟩, z3⟩ := hF a h2
    rcases st.dn a h1 with w | w
    · exact z3 w
    · rw [w] at q; cases q
  · rw [eM2] at h
    rw [eM]
    rcases List.mem_append.mp h with h | h
    · rcases st.dn a h with w | w
      · exact .inl (List.mem_append_left _ w)
      · exact .inr w
    · exact .inl (List.mem_append_right _ h)
theorem MOk.left {S H : Hp} {M F : SH} (m : MOk S H (M ++ F)) : MOk S H M := by
  refine ⟨fun a P h => m.at_ a P (List.mem_append_left _ h), ?_⟩
  have nd := m.nd
  rw [show dm (M ++ F) = dm M ++ dm F from List.map_append, List.nodup_append] at nd
  exact nd.1
theorem MOk.perm {S H : Hp} {M M' : SH} (m : MOk S H M) (h : M.Perm M') : MOk S H M' :=
  ⟨fun a P e => m.at_ a P (h.symm.subset e), (h.map _).nodup_iff.mp m.nd⟩
theorem Stp.permL {S H S2 H2 : Hp} {M M' M2 : SH} (st : Stp S H S2 H2 M' M2) (h : M.Perm M') : Stp S H S2 H2 M M2 := by
  have e : ∀ a, a ∈ dm M ↔ a ∈ dm M' := fun a => (h.map _).mem_iff
  exact ⟨st.s, st.e, fun a h1 h2 => by rw [e a]; exact st.new a h1 h2, fun a o h1 h2 => st.fr a o (fun z => h1 ((e a).mpr z)) h2, st.m, fun a h1 => by rw [e a]; exact st.dn a h1⟩
theorem Stp.permR {S H S2 H2 : Hp} {M M2 M2' : SH} (st : Stp S H S2 H2 M M2) (h : M2.Perm M2') : Stp S H S2 H2 M M2' :=
  ⟨st.s, st.e, st.new, st.fr, st.m.perm h, fun a h1 => st.dn a ((h.map _).mem_iff.mpr h1)⟩

/-! ### a new object: kept in the stable part, or as a mutable one -/
theorem Same.newS {S H : Hp} {p : Addr} {o : HO} (e : Same S H) (h : H p = none) : Same S (upd S p o) := fun a u q => by
  rw [upd_ne (ne_of_none (e _ _ q) h)]; exact q
theorem Stp.newS {S H : Hp} {M : SH} {p : Addr} {o : HO} (e : Same S H) (m : MOk S H M) (h : H p = none) : Stp S H (upd S p o) (upd H p o) M M := by
  have nm : ∀ a, a ∈ dm M → a ≠ p := fun a ha z => by
    obtain ⟨_, o, q⟩ := m.mem ha
    rw [z, h] at q; cases q
  refine ⟨Same.newS e h, fun a u q => ?_, fun a h1 h2 => ?_, fun a u _ q => ?_, ⟨fun a P hp => ?_, m.nd⟩, fun _ h => .inl h⟩
  · by_cases ha : a = p
    · subst ha; rw [upd_same] at q ⊢; exact q
    · rw [upd_ne ha] at q ⊢; exact e _ _ q
  · by_cases ha : a = p
    · subst ha; exact .inl (fre_none h)
    · rw [upd_ne ha] at h2; exact absurd h1 h2
  · rw [upd_ne (ne_of_none q h)]; exact q
  · obtain ⟨z, u, q1, q2⟩ := m.at_ a P hp
    have ha := nm a (List.mem_map.mpr ⟨(a, P), hp, rfl⟩)
    exact ⟨by rw [upd_ne ha]; exact z, u, by rw [upd_ne ha]; exact q1, P.m (Same.newS e h) q2⟩
theorem Stp.newM {S H : Hp} {M : SH} {p : Addr} {o : HO} {P : MRep} (e : Same S H) (m : MOk S H M) (h : H p = none) (hP : P.p S o) : Stp S H S (upd H p o) M (M ++ [(p, P)]) := by
  have hS : S p = none := by
    cases q : S p with
    | none => rfl
    | some u => rw [e _ _ q] at h; cases h
  have nm : ∀ a, a ∈ dm M → a ≠ p := fun a ha z => by
    obtain ⟨_, o, q⟩ := m.mem ha
    rw [z, h] at q; cases q
  refine ⟨Same.refl _, fun a u q => ?_, fun a h1 h2 => absurd h1 h2, fun a u _ q => ?_, ⟨fun a P' hp => ?_, ?_⟩, fun a ha => ?_⟩
  · rw [upd_ne (ne_of_none (e _ _ q) h)]; exact e _ _ q
  · rw [upd_ne (ne_of_none q h)]; exact q
  · rcases List.mem_append.mp hp with hp | hp
    · obtain ⟨z, u, q1, q2⟩ := m.at_ a P' hp
      have ha := nm a (List.mem_map.mpr ⟨(a, P'), hp, rfl⟩)
      exact ⟨z, u, by rw [upd_ne ha]; exact q1, q2⟩
    · have e1 : (a, P') = (p, P) := List.mem_singleton.mp hp
      cases e1
      exact ⟨hS, o, upd_same, hP⟩
  · rw [show dm (M ++ [(p, P)]) = dm M ++ [p] from List.map_append, List.nodup_append]
    refine ⟨m.nd, by simp, fun a h1 b h2 => ?_⟩
    have e1 : b = p := List.mem_singleton.mp h2
    subst e1
    exact nm a h1
  · rw [show dm (M ++ [(p, P)]) = dm M ++ [p] from List.map_append] at ha
    rcases List.mem_append.mp ha with ha | ha
    · exact .inl ha
    · have e1 : a = p := List.mem_singleton.mp ha
      subst e1
      exact .inr h
/-- a mutable object written -/
theorem Stp.wrM {S H : Hp} {A B : SH} {a : Addr} {P P' : MRep} {o : HO} (e : Same S H) (m : MOk S H (A ++ (a, P) :: B)) (hP : P'.p S o) : Stp S H S (upd H a o) (A ++ (a, P) :: B) (A ++ (a, P') :: B) := by
  have dme : ∀ Q : MRep, dm (A ++ (a, Q) :: B) = dm A ++ a :: dm B := fun Q => by simp [dm]
  have ha : a ∈ dm (A ++ (a, P) :: B) := by rw [dme]; simp
  obtain ⟨hS, _⟩ := m.mem ha
  have nd := m.nd
  rw [dme] at nd
  have nd2 : a ∉ dm A ∧ a ∉ dm B := by
    rw [List.nodup_append] at nd
    obtain ⟨_, n2, n3⟩ := nd
    exact ⟨fun h => n3 a h a (List.mem_cons_self ..) rfl, (List.nodup_cons.mp n2).1⟩
  refine ⟨Same.refl _, fun b u q => ?_, fun b h1 h2 => absurd h1 h2, fun b u h1 q => ?_, ⟨fun b Q hq => ?_, ?_⟩, fun b hb => .inl (by rw [dme] at hb ⊢; exact hb)⟩
  · have hb : b ≠ a := fun z => by rw [z, hS] at q; cases q
    rw [upd_ne hb]; exact e _ _ q
  · have hb : b ≠ a := fun z => h1 (by rw [z]; exact ha)
    rw [upd_ne hb]; exact q
  · have old : ∀ Q, b ≠ a → (b, Q) ∈ A ++ (a, P) :: B → S b = none ∧ ∃ o_1, upd H a o b = some o_1 ∧ Q.p S o_1 := fun Q hb hq => by
      obtain ⟨z, u, q1, q2⟩ := m.at_ b Q hq
      exact ⟨z, u, by rw [upd_ne hb]; exact q1, q2⟩
    rcases List.mem_append.mp hq with hq | hq
    · refine old Q (fun z => ?_) (List.mem_append_left _ hq)
      rw [z] at hq
      exact nd2.1 (List.mem_map.mpr ⟨_, hq, rfl⟩)
    · rcases List.mem_cons.mp hq with hq | hq
      · cases hq
        exact ⟨hS, o, upd_same, hP⟩
      · refine old Q (fun z => ?_) (List.mem_append_right _ (List.mem_cons_of_mem _ hq))
        rw [z] at hq
        exact nd2.2 (List.mem_map.mpr ⟨_, hq, rfl⟩)
  · rw [dme]; exact nd
/-- a mutable object becomes stable -/
theorem Stp.fz {S H : Hp} {A B : SH} {a : Addr} {P : MRep} {o : HO} (e : Same S H) (m : MOk S H (A ++ (a, P) :: B)) (ho : H a = some o) : Stp S H (upd S a o) H (A ++ (a, P) :: B) (A ++ B) := by
  have dme : dm (A ++ (a, P) :: B) = dm A ++ a :: dm B := by simp [dm]
  have dme2 : dm (A ++ B) = dm A ++ dm B := by simp [dm]
  have ha : a ∈ dm (A ++ (a, P) :: B) := by rw [dme]; simp
  obtain ⟨hS, _⟩ := m.mem ha
  have nd := m.nd
  rw [dme] at nd
  have nd2 : a ∉ dm A ∧ a ∉ dm B := by
    rw [List.nodup_append] at nd
    obtain ⟨_, n2, n3⟩ := nd
    exact ⟨fun h => n3 a h a (List.mem_cons_self ..) rfl, (List.nodup_cons.mp n2).1⟩
  have sm : Same S (upd S a o) := fun b u q => by
    have hb : b ≠ a := fun z => by rw [z, hS] at q; cases q
    rw [upd_ne hb]; exact q
  refine ⟨sm, fun b u q => ?_, fun b h1 h2 => ?_, fun _ _ _ q => q, ⟨fun b Q hq => ?_, ?_⟩, fun b hb => .inl ?_⟩
  · by_cases hb : b = a
    · subst hb; rw [upd_same] at q; rw [ho]; exact q
    · rw [upd_ne hb] at q; exact e _ _ q
  · by_cases hb : b = a
    · subst hb; exact .inr ha
    · rw [upd_ne hb] at h2; exact absurd h1 h2
  · have hq' : (b, Q) ∈ A ++ (a, P) :: B := by
      rcases List.mem_append.mp hq with h | h
      · exact List.mem_append_left _ h
      · exact List.mem_append_right _ (List.mem_cons_of_mem _ h)
    have hb : b ≠ a := fun z => by
      rw [z] at hq
      rcases List.mem_append.mp hq with h | h
      · exact nd2.1 (List.mem_map.mpr ⟨_, h, rfl⟩)
      · exact nd2.2 (List.mem_map.mpr ⟨_, h, rfl⟩)
    obtain ⟨z, u, q1, q2⟩ := m.at_ b Q hq'
    exact ⟨by rw [upd_ne hb]; exact z, u, q1, Q.m sm q2⟩
  · rw [dme2]
    rw [List.nodup_append] at nd ⊢
    obtain ⟨n1, n2, n3⟩ := nd
    exact ⟨n1, (List.nodup_cons.mp n2).2, fun x h1 y h2 => n3 x h1 y (List.mem_cons_of_mem _ h2)⟩
  · rw [dme2] at hb
    rw [dme]
    rcases List.mem_append.mp hb with h | h
    · exact List.mem_append_left _ h
    · exact List.mem_append_right _ (List.mem_cons_of_mem _ h)
end L3

namespace L3
open PySem L2

/-! ### exceptions of our own classes: the class, its fields -/
structure XR where
  cls : Addr
  fs : List (Str × Rep)
def XR.p (x : XR) (S : Hp) (cls : Value) (d : Option Addr) : Prop :=
  cls = .ref x.cls ∧ ∃ dd vs, d = some dd ∧ S dd = some (.xd vs) ∧ vs.map (·.1) = x.fs.map (·.1) ∧ All2 S (x.fs.map (·.2)) (vs.map (·.2))
abbrev KR := Rep → SH → Prop
abbrev KX := XR → SH → Prop
def Out (S H : Hp) (M : SH) (K : KR) (Q : VK) : Prop := ∀ v S2 H2 R M2, K R M2 → Stp S H S2 H2 M M2 → R.p S2 v → Q v H2
def OutX (S H : Hp) (M : SH) (X : KX) (E : XK) : Prop := ∀ cls d S2 H2 x M2, X x M2 → Stp S H S2 H2 M M2 → x.p S2 cls d → E cls d H2
theorem Out.step {S H S1 H1 : Hp} {M M1 : SH} {K : KR} {Q : VK} (o : Out S H M K Q) (st : Stp S H S1 H1 M M1) : Out S1 H1 M1 K Q :=
  fun v S2 H2 R M2 k st2 p => o v S2 H2 R M2 k (st.trans st2) p
theorem OutX.step {S H S1 H1 : Hp} {M M1 : SH} {X : KX} {E : XK} (o : OutX S H M X E) (st : Stp S H S1 H1 M M1) : OutX S1 H1 M1 X E :=
  fun c d S2 H2 x M2 k st2 p => o c d S2 H2 x M2 k (st.trans st2) p
abbrev X0 : KX := fun _ _ => False

/-! ### what readings come to -/
def Ev (E : XK) (te : TE) (Γ : Ct) (M : SH) (K : KR) (X : KX) : Prop := ∀ σ S H Q, Nv S H σ Γ M → Out S H M K Q → OutX S H M X E → te σ H Q
def Ep (E : XK) (te : TE) (Γ : Ct) (M : SH) (R : Rep) : Prop := ∀ (K : KR) (X : KX), K R M → Ev E te Γ M K X
def Et (E : XK) (tt : TT) (Γ : Ct) (M : SH) (K : Bool → SH → Prop) (X : KX) : Prop := ∀ σ S H Q, Nv S H σ Γ M → (∀ b S2 H2 M2, K b M2 → Stp S H S2 H2 M M2 → Q b H2) → OutX S H M X E → tt σ H Q
def Etp (E : XK) (tt : TT) (Γ : Ct) (M : SH) (b : Bool) : Prop := ∀ (K : Bool → SH → Prop) (X : KX), K b M → Et E tt Γ M K X
def Ea (E : XK) (ta : TA) (Γ : Ct) (M : SH) (K : List Rep → SH → Prop) (X : KX) : Prop := ∀ σ S H Q, Nv S H σ Γ M → (∀ vs S2 H2 Rs M2, K Rs M2 → Stp S H S2 H2 M M2 → All2 S2 Rs vs → Q vs H2) → OutX S H M X E → ta σ H Q
def Eap (E : XK) (ta : TA) (Γ : Ct) (M : SH) (Rs : List Rep) : Prop := ∀ (K : List Rep → SH → Prop) (X : KX), K Rs M → Ea E ta Γ M K X
/-- by values: two places, one place, a list -/
def O2 (r : R2) (R1 R2 : Rep) (M : SH) (K : KR) : Prop := ∀ x y S H Q, Same S H → MOk S H M → R1.p S x → R2.p S y → Out S H M K Q → r x y H Q
def O2p (r : R2) (R1 R2 : Rep) (M : SH) (R : Rep) : Prop := ∀ K : KR, K R M → O2 r R1 R2 M K
def O1 (r : V → Hp → VK → Prop) (R1 : Rep) (M : SH) (K : KR) : Prop := ∀ x S H Q, Same S H → MOk S H M → R1.p S x → Out S H M K Q → r x H Q
def O1p (r : V → Hp → VK → Prop) (R1 : Rep) (M : SH) (R : Rep) : Prop := ∀ K : KR, K R M → O1 r R1 M K
def Ol (r : List V → Hp → VK → Prop) (Rs : List Rep) (M : SH) (K : KR) : Prop := ∀ xs S H Q, Same S H → MOk S H M → All2 S Rs xs → Out S H M K Q → r xs H Q
def Olp (r : List V → Hp → VK → Prop) (Rs : List Rep) (M : SH) (R : Rep) : Prop := ∀ K : KR, K R M → Ol r Rs M K
/-- a method of a built-in type -/
def Om (r : V → List V → Hp → VK → Prop) (R1 : Rep) (Rs : List Rep) (M : SH) (K : KR) : Prop := ∀ x xs S H Q, Same S H → MOk S H M → R1.p S x → All2 S Rs xs → Out S H M K Q → r x xs H Q
def Omp (r : V → List V → Hp → VK → Prop) (R1 : Rep) (Rs : List Rep) (M : SH) (R : Rep) : Prop := ∀ K : KR, K R M → Om r R1 Rs M K

section
variable {E : XK} {K : PySem.W.Frag} {Γ : Ct} {M : SH} {k : KR} {X : KX} {R R1 R2 : Rep} {te ta tb : TE} {t u : TT} {r : L2.R2}
theorem Ep.ev (h : Ep E te Γ M R) (q : k R M) : Ev E te Γ M k X := h k X q
theorem Etp.et {kb : Bool → SH → Prop} {b : Bool} (h : Etp E t Γ M b) (q : kb b M) : Et E t Γ M kb X := h kb X q
theorem Ep.to (h : Ep E te Γ M R) (e : R = R1) : Ep E te Γ M R1 := e ▸ h
theorem Etp.to {b c : Bool} (h : Etp E t Γ M b) (e : b = c) : Etp E t Γ M c := e ▸ h
theorem Ep.wk (h : Ep E te Γ M R) (e : ∀ S v, R.p S v → R1.p S v) : Ep E te Γ M R1 := fun k X q σ S H Q I o ox =>
  h (fun R' M' => R' = R ∧ M' = M) X ⟨rfl, rfl⟩ σ S H Q I (fun v S2 H2 R' M2 ⟨e1, e2⟩ st p => by
    subst e1; subst e2
    exact o v S2 H2 R1 _ q st (e _ _ p)) ox
theorem Ev.mono {k' : KR} (h : Ev E te Γ M k X) (e : ∀ R M, k R M → k' R M) : Ev E te Γ M k' X := fun σ S H Q I o ox =>
  h σ S H Q I (fun v S2 H2 R M2 q st p => o v S2 H2 R M2 (e _ _ q) st p) ox
theorem Ev.wkX {X' : KX} (h : Ev E te Γ M k X) (e : ∀ x M, X x M → X' x M) : Ev E te Γ M k X' := fun σ S H Q I o ox =>
  h σ S H Q I o fun c d S2 H2 x M2 q st p => ox c d S2 H2 x M2 (e _ _ q) st p
theorem Ep.ctx {Γ' : Ct} (h : Ep E te Γ M R) (hl : Γ'.length = Γ.length) (hw : ∀ (i : Nat) (R : Rep), Γ[i]? = some (some R) → Γ'[i]? = some (some R)) : Ep E te Γ' M R := fun k X q σ S H Q I o ox =>
  h k X q σ S H Q (I.weak hl.symm hw) o ox

/-! ### names, constants -/
theorem ev_var {i : Nat} (h : Γ[i]? = some (some R)) (q : k R M) : Ev E (tVar i) Γ M k X := fun σ S H Q I o _ => by
  obtain ⟨v, h1, h2⟩ := I.sl i R h
  exact ⟨v, h1, o v S H R M q (Stp.refl I.ex I.m) h2⟩
theorem ep_var {i : Nat} (h : Γ[i]? = some (some R)) : Ep E (tVar i) Γ M R := fun _ _ q => ev_var h q
theorem ep_c {v : V} (h : ∀ S, R.p S v) : Ep E (tC v) Γ M R := fun _ _ q σ S H Q I o _ => o v S H R M q (Stp.refl I.ex I.m) (h S)
theorem ep_int {i : Int} : Ep E (tC (.int i)) Γ M (iInt i) := ep_c fun _ => rfl
theorem ep_str {z : Str} : Ep E (tC (.str z)) Γ M (aStr z) := ep_c fun _ => rfl
theorem ep_bl {b : Bool} : Ep E (tC (.bl b)) Γ M (iBl b) := ep_c fun _ => rfl
theorem ep_non : Ep E (tC .non) Γ M iNon := ep_c fun _ => rfl

/-! ### operators -/
theorem ev_op (h : Ev E ta Γ M (fun R1 M1 => Ev E tb Γ M1 (fun R2 M2 => O2 r R1 R2 M2 k) X) X) : Ev E (tOp r ta tb) Γ M k X := fun σ S H Q I o ox =>
  h σ S H _ I (fun x S1 H1 R1 M1 h1 st1 p1 => h1 σ S1 H1 _ (I.step st1) (fun y S2 H2 R2 M2 h2 st2 p2 =>
    h2 x y S2 H2 Q st2.e st2.m (R1.m st2.s p1) p2 (o.step (st1.trans st2))) (ox.step st1)) ox
theorem ep_op (ha : Ep E ta Γ M R1) (hb : Ep E tb Γ M R2) (hr : O2p r R1 R2 M R) : Ep E (tOp r ta tb) Γ M R := fun _ _ q => ev_op (ha _ _ (hb _ _ (hr _ q)))
theorem ev_un {ru : V → Hp → VK → Prop} (h : Ev E ta Γ M (fun R1 M1 => O1 ru R1 M1 k) X) : Ev E (tUn ru ta) Γ M k X := fun σ S H Q I o ox =>
  h σ S H _ I (fun x S1 H1 R1 M1 h1 st1 p1 => h1 x S1 H1 Q st1.e st1.m p1 (o.step st1)) ox
theorem ep_un {ru : V → Hp → VK → Prop} (ha : Ep E ta Γ M R1) (hr : O1p ru R1 M R) : Ep E (tUn ru ta) Γ M R := fun _ _ q => ev_un (ha _ _ (hr _ q))
theorem o2_val (h : ∀ x y S H, Same S H → MOk S H M → R1.p S x → R2.p S y → ∃ v, R.p S v ∧ ∀ Q : VK, Q v H → r x y H Q) : O2p r R1 R2 M R := fun _ q x y S H Q e m h1 h2 o => by
  obtain ⟨v, p, g⟩ := h x y S H e m h1 h2
  exact g Q (o v S H R M q (Stp.refl e m) p)
theorem o1_val {ru : V → Hp → VK → Prop} (h : ∀ x S H, Same S H → MOk S H M → R1.p S x → ∃ v, R.p S v ∧ ∀ Q : VK, Q v H → ru x H Q) : O1p ru R1 M R := fun _ q x S H Q e m h1 o => by
  obtain ⟨v, p, g⟩ := h x S H e m h1
  exact g Q (o v S H R M q (Stp.refl e m) p)
theorem ol_val {rl : List V → Hp → VK → Prop} {Rs : List Rep} (h : ∀ xs S H, Same S H → MOk S H M → All2 S Rs xs → ∃ v, R.p S v ∧ ∀ Q : VK, Q v H → rl xs H Q) : Olp rl Rs M R := fun _ q xs S H Q e m h1 o => by
  obtain ⟨v, p, g⟩ := h xs S H e m h1
  exact g Q (o v S H R M q (Stp.refl e m) p)
theorem om_val {rm : V → List V → Hp → VK → Prop} {Rs : List Rep} (h : ∀ x xs S H, Same S H → MOk S H M → R1.p S x → All2 S Rs xs → ∃ v, R.p S v ∧ ∀ Q : VK, Q v H → rm x xs H Q) : Omp rm R1 Rs M R := fun _ q x xs S H Q e m h1 h2 o => by
  obtain ⟨v, p, g⟩ := h x xs S H e m h1 h2
  exact g Q (o v S H R M q (Stp.refl e m) p)
theorem o_I0 {g : Int → Int → V} {i j : Int} (hR : ∀ S, R.p S (g i j)) : O2p (rI0 g) (iInt i) (iInt j) M R := o2_val fun x y S H _ _ h1 h2 => by
  cases h1; cases h2
  exact ⟨g i j, hR S, fun Q q => ⟨i, j, rfl, rfl, q⟩⟩
theorem o_I {C : Int → Int → Prop} {g : Int → Int → V} {i j : Int} (hc : C i j) (hR : ∀ S, R.p S (g i j)) : O2p (rI C g) (iInt i) (iInt j) M R := o2_val fun x y S H _ _ h1 h2 => by
  cases h1; cases h2
  exact ⟨g i j, hR S, fun Q q => ⟨i, j, rfl, rfl, hc, q⟩⟩
variable {i j : Int}
theorem o_add : O2p (rI0 fun i j => .int (i + j)) (iInt i) (iInt j) M (iInt (i + j)) := o_I0 fun _ => rfl
theorem o_sub : O2p (rI0 fun i j => .int (i - j)) (iInt i) (iInt j) M (iInt (i - j)) := o_I0 fun _ => rfl
theorem o_lt : O2p (rI0 fun i j => .bl (decide (i < j))) (iInt i) (iInt j) M (iBl (decide (i < j))) := o_I0 fun _ => rfl
theorem o_le : O2p (rI0 fun i j => .bl (decide (i ≤ j))) (iInt i) (iInt j) M (iBl (decide (i ≤ j))) := o_I0 fun _ => rfl
theorem o_gt : O2p (rI0 fun i j => .bl (decide (j < i))) (iInt i) (iInt j) M (iBl (decide (j < i))) := o_I0 fun _ => rfl
theorem o_ge : O2p (rI0 fun i j => .bl (decide (j ≤ i))) (iInt i) (iInt j) M (iBl (decide (j ≤ i))) := o_I0 fun _ => rfl
theorem o_mul (hc : CMul i j) : O2p (rI CMul fun i j => .int (i * j)) (iInt i) (iInt j) M (iInt (i * j)) := o_I hc fun _ => rfl
theorem o_mulW (hc : CMulW i j) : O2p (rI CMulW fun i j => .int (i * j)) (iInt i) (iInt j) M (iInt (i * j)) := o_I hc fun _ => rfl
theorem o_fdivW (hc : CDivW i j) : O2p (rI CDivW fun i j => .int (i / j)) (iInt i) (iInt j) M (iInt (i / j)) := o_I hc fun _ => rfl
theorem o_mod (hc : 0 < j) : O2p (rI (fun _ j => 0 < j) fun i j => .int (i % j)) (iInt i) (iInt j) M (iInt (i % j)) := o_I hc fun _ => rfl
theorem o_pow (hc : CPow i j) : O2p (rI CPow fun i j => .int (i ^ j.toNat)) (iInt i) (iInt j) M (iInt (i ^ j.toNat)) := o_I hc fun _ => rfl
theorem o_neg : O1p (rU fun i => .int (-i)) (iInt i) M (iInt (-i)) := o1_val fun x S H _ _ h1 => by
  cases h1
  exact ⟨_, rfl, fun Q q => ⟨i, rfl, q⟩⟩
/-! == and != of flat things -/
theorem o_eqI : O2p rEq (iInt i) (iInt j) M (iBl (decide (i = j))) := o2_val fun x y S H _ _ h1 h2 => by
  cases h1; cases h2
  exact ⟨_, rfl, fun Q q => ⟨rfl, by rw [show decide (V.int i = V.int j) = decide (i = j) by rw [dec_int, Bool.beq_eq_decide_eq]]; exact q⟩⟩
theorem o_neI : O2p rNe (iInt i) (iInt j) M (iBl (!decide (i = j))) := o2_val fun x y S H _ _ h1 h2 => by
  cases h1; cases h2
  exact ⟨_, rfl, fun Q q => ⟨rfl, by rw [show decide (V.int i = V.int j) = decide (i = j) by rw [dec_int, Bool.beq_eq_decide_eq]]; exact q⟩⟩
theorem o_eqS {a b : Str} : O2p rEq (aStr a) (aStr b) M (iBl (decide (a = b))) := o2_val fun x y S H _ _ h1 h2 => by
  cases h1; cases h2
  exact ⟨_, rfl, fun Q q => ⟨rfl, by rw [show decide (V.str a = V.str b) = decide (a = b) by rw [dec_str, Bool.beq_eq_decide_eq]]; exact q⟩⟩
theorem o_neS {a b : Str} : O2p rNe (aStr a) (aStr b) M (iBl (!decide (a = b))) := o2_val fun x y S H _ _ h1 h2 => by
  cases h1; cases h2
  exact ⟨_, rfl, fun Q q => ⟨rfl, by rw [show decide (V.str a = V.str b) = decide (a = b) by rw [dec_str, Bool.beq_eq_decide_eq]]; exact q⟩⟩
theorem o_eqB {a b : Bool} : O2p rEq (iBl a) (iBl b) M (iBl (a == b)) := o2_val fun x y S H _ _ h1 h2 => by
  cases h1; cases h2
  exact ⟨_, rfl, fun Q q => ⟨rfl, by rw [dec_bl]; exact q⟩⟩
theorem o_neB {a b : Bool} : O2p rNe (iBl a) (iBl b) M (iBl (!(a == b))) := o2_val fun x y S H _ _ h1 h2 => by
  cases h1; cases h2
  exact ⟨_, rfl, fun Q q => ⟨rfl, by rw [dec_bl]; exact q⟩⟩
/-! texts -/
theorem o_addS {a b : Str} (h : a.length + b.length ≤ 16000000) : O2p (fun x y H Q => ∃ i j, x = .str i ∧ y = .str j ∧ i.length + j.length ≤ sizeLine ∧ Q (.str (i ++ j)) H) (aStr a) (aStr b) M (aStr (a ++ b)) := o2_val fun x y S H _ _ h1 h2 => by
  cases h1; cases h2
  exact ⟨_, rfl, fun Q q => ⟨a, b, rfl, rfl, by rw [sizeLine_eq]; omega, q⟩⟩
theorem o_inSign {c : Nat} {z : Str} : O2p (fun x y H Q => ∃ (c : Nat) (z : Str), x = .str ⟨#[c]⟩ ∧ y = .str z ∧ Q (.bl (decide (c ∈ z.cps.toList))) H) (aStr ⟨#[c]⟩) (aStr z) M (iBl (decide (c ∈ z.cps.toList))) := o2_val fun x y S H _ _ h1 h2 => by
  cases h1; cases h2
  exact ⟨_, rfl, fun Q q => ⟨c, z, rfl, rfl, q⟩⟩

/-! ### tests -/
theorem et_test {kb : Bool → SH → Prop} (h : Ev E te Γ M (fun R M1 => ∃ b, R = iBl b ∧ kb b M1) X) : Et E (tTest te) Γ M kb X := fun σ S H Q I o ox =>
  h σ S H _ I (fun v S2 H2 R M2 ⟨b, e, q⟩ st p => by
    subst e; cases p
    exact ⟨b, rfl, o b S2 H2 M2 q st⟩) ox
theorem et_tB {kb : Bool → SH → Prop} (h : Ev E te Γ M (fun R M1 => ∃ b, R = iBl b ∧ kb b M1) X) : Et E (tB te) Γ M kb X := fun σ S H Q I o ox =>
  h σ S H _ I (fun v S2 H2 R M2 ⟨b, e, q⟩ st p => by
    subst e; cases p
    exact ⟨b, rfl, o b S2 H2 M2 q st⟩) ox
theorem etp_test {b : Bool} (h : Ep E te Γ M (iBl b)) : Etp E (tTest te) Γ M b := fun _ _ q => et_test (h _ _ ⟨b, rfl, q⟩)
theorem etp_tB {b : Bool} (h : Ep E te Γ M (iBl b)) : Etp E (tB te) Γ M b := fun _ _ q => et_tB (h _ _ ⟨b, rfl, q⟩)
theorem et_and {kb : Bool → SH → Prop} (h : Et E t Γ M (fun b M1 => if b = true then Et E u Γ M1 kb X else kb false M1) X) : Et E (tAnd t u) Γ M kb X := fun σ S H Q I o ox =>
  h σ S H _ I (fun b S2 H2 M2 q st => by
    cases b with
    | true =>
      have q' : Et E u Γ M2 kb X := by simpa using q
      show u σ H2 Q
      exact q' σ S2 H2 Q (I.step st) (fun c S3 H3 M3 q3 st3 => o c S3 H3 M3 q3 (st.trans st3)) (ox.step st)
    | false =>
      have q' : kb false M2 := by simpa using q
      exact o false S2 H2 M2 q' st) ox
theorem et_or {kb : Bool → SH → Prop} (h : Et E t Γ M (fun b M1 => if b = true then kb true M1 else Et E u Γ M1 kb X) X) : Et E (tOr t u) Γ M kb X := fun σ S H Q I o ox =>
  h σ S H _ I (fun b S2 H2 M2 q st => by
    cases b with
    | false =>
      have q' : Et E u Γ M2 kb X := by simpa using q
      show u σ H2 Q
      exact q' σ S2 H2 Q (I.step st) (fun c S3 H3 M3 q3 st3 => o c S3 H3 M3 q3 (st.trans st3)) (ox.step st)
    | true =>
      have q' : kb true M2 := by simpa using q
      exact o true S2 H2 M2 q' st) ox
theorem et_not {kb : Bool → SH → Prop} (h : Et E t Γ M (fun b M1 => kb (!b) M1) X) : Et E (tNot t) Γ M kb X := fun σ S H Q I o ox =>
  h σ S H _ I (fun b S2 H2 M2 q st => o (!b) S2 H2 M2 q st) ox
theorem etp_and {a b : Bool} (h1 : Etp E t Γ M a) (h2 : a = true → Etp E u Γ M b) : Etp E (tAnd t u) Γ M (a && b) := fun _ _ q => et_and (h1 _ _ (by
  cases a with
  | true => simpa using h2 rfl _ _ q
  | false => simpa using q))
theorem etp_or {a b : Bool} (h1 : Etp E t Γ M a) (h2 : a = false → Etp E u Γ M b) : Etp E (tOr t u) Γ M (a || b) := fun _ _ q => et_or (h1 _ _ (by
  cases a with
  | false => simpa using h2 rfl _ _ q
  | true => simpa using q))
theorem etp_not {a : Bool} (h1 : Etp E t Γ M a) : Etp E (tNot t) Γ M (!a) := fun _ _ q => et_not (h1 _ _ q)
/-! and, or, not as values -/
theorem ev_andV (h : Ev E ta Γ M (fun R M1 => ∃ b, R = iBl b ∧ if b = true then Ev E tb Γ M1 k X else k (iBl false) M1) X) : Ev E (tAndV ta tb) Γ M k X := fun σ S H Q I o ox =>
  h σ S H _ I (fun v S2 H2 R M2 ⟨b, e, q⟩ st p => by
    subst e; cases p
    refine ⟨b, rfl, ?_⟩
    cases b with
    | true =>
      have q' : Ev E tb Γ M2 k X := by simpa using q
      show tb σ H2 Q
      exact q' σ S2 H2 Q (I.step st) (o.step st) (ox.step st)
    | false =>
      have q' : k (iBl false) M2 := by simpa using q
      exact o _ S2 H2 (iBl false) M2 q' st rfl) ox
theorem ev_orV (h : Ev E ta Γ M (fun R M1 => ∃ b, R = iBl b ∧ if b = true then k (iBl true) M1 else Ev E tb Γ M1 k X) X) : Ev E (tOrV ta tb) Γ M k X := fun σ S H Q I o ox =>
  h σ S H _ I (fun v S2 H2 R M2 ⟨b, e, q⟩ st p => by
    subst e; cases p
    refine ⟨b, rfl, ?_⟩
    cases b with
    | false =>
      have q' : Ev E tb Γ M2 k X := by simpa using q
      show tb σ H2 Q
      exact q' σ S2 H2 Q (I.step st) (o.step st) (ox.step st)
    | true =>
      have q' : k (iBl true) M2 := by simpa using q
      exact o _ S2 H2 (iBl true) M2 q' st rfl) ox
theorem ep_andV {a b : Bool} (h1 : Ep E ta Γ M (iBl a)) (h2 : a = true → Ep E tb Γ M (iBl b)) : Ep E (tAndV ta tb) Γ M (iBl (a && b)) := fun _ _ q => ev_andV (h1 _ _ ⟨a, rfl, by
  cases a with
  | true => simpa using h2 rfl _ _ q
  | false => simpa using q⟩)
theorem ep_orV {a b : Bool} (h1 : Ep E ta Γ M (iBl a)) (h2 : a = false → Ep E tb Γ M (iBl b)) : Ep E (tOrV ta tb) Γ M (iBl (a || b)) := fun _ _ q => ev_orV (h1 _ _ ⟨a, rfl, by
  cases a with
  | false => simpa using h2 rfl _ _ q
  | true => simpa using q⟩)
theorem ep_notV {a : Bool} (h1 : Ep E ta Γ M (iBl a)) : Ep E (tNotV ta) Γ M (iBl (!a)) := fun k X q σ S H Q I o ox =>
  h1 (fun R' M' => R' = iBl a ∧ M' = M) X ⟨rfl, rfl⟩ σ S H _ I (fun v S2 H2 R M2 ⟨e1, e2⟩ st p => by
    subst e1; subst e2; cases p
    exact ⟨a, rfl, o _ S2 H2 (iBl (!a)) _ q st rfl⟩) ox
theorem ev_if (h : Et E t Γ M (fun b M1 => if b = true then Ev E ta Γ M1 k X else Ev E tb Γ M1 k X) X) : Ev E (tIf t ta tb) Γ M k X := fun σ S H Q I o ox =>
  h σ S H _ I (fun b S2 H2 M2 q st => by
    cases b with
    | true =>
      have q' : Ev E ta Γ M2 k X := by simpa using q
      show ta σ H2 Q
      exact q' σ S2 H2 Q (I.step st) (o.step st) (ox.step st)
    | false =>
      have q' : Ev E tb Γ M2 k X := by simpa using q
      show tb σ H2 Q
      exact q' σ S2 H2 Q (I.step st) (o.step st) (ox.step st)) ox
theorem ep_if {b : Bool} (h : Etp E t Γ M b) (h1 : b = true → Ep E ta Γ M R) (h2 : b = false → Ep E tb Γ M R) : Ep E (tIf t ta tb) Γ M R := fun _ _ q => ev_if (h _ _ (by
  cases b with
  | true => simpa using h1 rfl _ _ q
  | false => simpa using h2 rfl _ _ q))
/-- a chain a op b op' c -/
theorem ev_chain {r' : L2.R2} {tc : TE} (h : Ev E ta Γ M (fun R1 M1 => Ev E tb Γ M1 (fun R2 M2 => O2 r R1 R2 M2 fun R3 M3 => ∃ b, R3 = iBl b ∧ if b = true then Ev E tc Γ M3 (fun R4 M4 => O2 r' R2 R4 M4 k) X else k (iBl false) M3) X) X) : Ev E (tChain r r' ta tb tc) Γ M k X := fun σ S H Q I o ox =>
  h σ S H _ I (fun x S1 H1 R1 M1 h1 st1 p1 => h1 σ S1 H1 _ (I.step st1) (fun y S2 H2 R2 M2 h2 st2 p2 =>
    h2 x y S2 H2 _ st2.e st2.m (R1.m st2.s p1) p2 fun z S3 H3 R3 M3 ⟨b, e, q⟩ st3 p3 => by
      subst e; cases p3
      refine ⟨b, rfl, ?_⟩
      have s3 := (st1.trans st2).trans st3
      cases b with
      | true =>
        have q' : Ev E tc Γ M3 (fun R4 M4 => O2 r' R2 R4 M4 k) X := by simpa using q
        rw [if_pos rfl]
        exact q' σ S3 H3 _ (I.step s3) (fun w S4 H4 R4 M4 h4 st4 p4 => h4 y w S4 H4 Q st4.e st4.m (R2.m (st3.s.trans st4.s) p2) p4 (o.step (s3.trans st4))) (ox.step s3)
      | false =>
        have q' : k (iBl false) M3 := by simpa using q
        rw [if_neg Bool.false_ne_true]
        exact o _ S3 H3 (iBl false) M3 q' s3 rfl) (ox.step st1)) ox
theorem ep_chain {r' : L2.R2} {tc : TE} {R4 : Rep} {a b : Bool} (ha : Ep E ta Γ M R1) (hb : Ep E tb Γ M R2) (hr : O2p r R1 R2 M (iBl a)) (hc : a = true → Ep E tc Γ M R4) (hr' : a = true → O2p r' R2 R4 M (iBl b)) : Ep E (tChain r r' ta tb tc) Γ M (iBl (a && b)) := fun _ _ q =>
  ev_chain (ha _ _ (hb _ _ (hr _ ⟨a, rfl, by
    cases a with
    | true => simpa using hc rfl _ _ (hr' rfl _ q)
    | false => simpa using q⟩)))

/-! ### arguments -/
variable {tr : TA} {Rs : List Rep}
theorem ea_nil {ka : List Rep → SH → Prop} (q : ka [] M) : Ea E tNil Γ M ka X := fun σ S H Q I o _ => o [] S H [] M q (Stp.refl I.ex I.m) True.intro
theorem ea_cons {ka : List Rep → SH → Prop} (h : Ev E ta Γ M (fun R M1 => Ea E tr Γ M1 (fun Rs M2 => ka (R :: Rs) M2) X) X) : Ea E (tCons ta tr) Γ M ka X := fun σ S H Q I o ox =>
  h σ S H _ I (fun x S1 H1 R1 M1 h1 st1 p1 => h1 σ S1 H1 _ (I.step st1) (fun xs S2 H2 Rs M2 h2 st2 p2 => o (x :: xs) S2 H2 (R1 :: Rs) M2 h2 (st1.trans st2) ⟨R1.m st2.s p1, p2⟩) (ox.step st1)) ox
theorem eap_nil : Eap E tNil Γ M [] := fun _ _ q => ea_nil q
theorem eap_cons (h : Ep E ta Γ M R) (h2 : Eap E tr Γ M Rs) : Eap E (tCons ta tr) Γ M (R :: Rs) := fun _ _ q => ea_cons (h _ _ (h2 _ _ q))
/-! displays -/
theorem sz_le {n : Nat} (h : n ≤ 1000000) : n ≤ sizeLine := by rw [sizeLine_eq]; omega
theorem sz_lt {n : Nat} (h : n ≤ 1000000) : n < sizeLine := by rw [sizeLine_eq]; omega
theorem ev_lst (h : Ea E tr Γ M (fun Rs M1 => Rs.length ≤ 1000000 ∧ k (iLst Rs) M1) X) : Ev E (tLst tr) Γ M k X := fun σ S H Q I o ox =>
  h σ S H _ I (fun xs S1 H1 Rs M1 ⟨hl, q⟩ st p => ⟨sz_le (by rw [p.len]; exact hl), fun a ha => o (.ref a) (upd S1 a (.lst xs)) _ (iLst Rs) M1 q (st.trans (Stp.newS st.e st.m ha))
    ⟨a, xs, rfl, upd_same, p.mono (Same.newS (Same.refl _) (st.e.free ha))⟩⟩) ox
theorem ep_lst (h : Eap E tr Γ M Rs) (hl : Rs.length ≤ 1000000) : Ep E (tLst tr) Γ M (iLst Rs) := fun _ _ q => ev_lst (h _ _ ⟨hl, q⟩)
theorem ev_tup (h : Ea E tr Γ M (fun Rs M1 => Rs.length ≤ 1000000 ∧ k (aTup K Rs) M1) X) : Ev E (tTup tr) Γ M k X := fun σ S H Q I o ox =>
  h σ S H _ I (fun xs S1 H1 Rs M1 ⟨hl, q⟩ st p => ⟨sz_le (by rw [p.len]; exact hl), fun a ha => o (.ref a) (upd S1 a (.tup xs)) _ (aTup K Rs) M1 q (st.trans (Stp.newS st.e st.m ha))
    ⟨a, xs, rfl, SqT.of upd_same, p.mono (Same.newS (Same.refl _) (st.e.free ha))⟩⟩) ox
theorem ep_tup (h : Eap E tr Γ M Rs) (hl : Rs.length ≤ 1000000) : Ep E (tTup tr) Γ M (aTup K Rs) := fun _ _ q => ev_tup (h _ _ ⟨hl, q⟩)
/-- a list that is to be changed -/
theorem ev_lstM (h : Ea E tr Γ M (fun Rs M1 => Rs.length ≤ 1000000 ∧ ∀ a, k (iRef a) (M1 ++ [(a, mLst Rs)])) X) : Ev E (tLst tr) Γ M k X := fun σ S H Q I o ox =>
  h σ S H _ I (fun xs S1 H1 Rs M1 ⟨hl, q⟩ st p => ⟨sz_le (by rw [p.len]; exact hl), fun a ha => o (.ref a) S1 _ (iRef a) _ (q a) (st.trans (Stp.newM st.e st.m ha ⟨xs, rfl, p⟩)) rfl⟩) ox

/-! ### subscripts -/
theorem atI_map {α β : Type} {f : α → β} {l : List α} {i : Int} {x : α} (h : atI l i = some x) : atI (l.map f) i = some (f x) := by
  obtain ⟨j, h1, h2, h3, h4, h5⟩ := atI_get h
  unfold atI at h ⊢
  rw [List.length_map]
  cases e : ixN l.length i with
  | none => rw [e] at h; cases h
  | some j' =>
    rw [e] at h
    have h' : l[j']? = some x := h
    show (l.map f)[j']? = some (f x)
    rw [List.getElem?_map, h']
    rfl
theorem All2.atI {S : Hp} {rs : List Rep} {vs : List V} (p : All2 S rs vs) {i : Int} {r : Rep} (h : L2.atI rs i = some r) : ∃ v, L2.atI vs i = some v ∧ r.p S v := by
  unfold L2.atI at h ⊢
  rw [p.len]
  cases e : ixN rs.length i with
  | none => rw [e] at h; cases h
  | some j =>
    rw [e] at h
    obtain ⟨v, h1, h2⟩ := p.get (i := j) h
    exact ⟨v, h1, h2⟩
theorem o_ixL {rs : List Rep} (h : atI rs i = some R) : O2p (rIxL K) (iLst rs) (iInt i) M R := o2_val fun x y S H e _ h1 h2 => by
  obtain ⟨a, xs, rfl, q1, q2⟩ := h1
  cases h2
  obtain ⟨v, h3, h4⟩ := q2.atI h
  exact ⟨v, h4, fun Q q => ⟨a, xs, i, v, rfl, rfl, SqL.of (e _ _ q1), h3, q⟩⟩
theorem o_ixT {rs : List Rep} (h : atI rs i = some R) : O2p (rIxT K) (aTup K rs) (iInt i) M R := o2_val fun x y S H e _ h1 h2 => by
  obtain ⟨a, xs, rfl, q1, q2⟩ := h1
  cases h2
  obtain ⟨v, h3, h4⟩ := q2.atI h
  exact ⟨v, h4, fun Q q => ⟨a, xs, i, v, rfl, rfl, Same.sqt e q1, h3, q⟩⟩
theorem o_ixS {z : Str} {c : Nat} (hz : z.length ≤ 1000000) (h : atI z.cps.toList i = some c) : O2p rIxS (aStr z) (iInt i) M (aStr ⟨#[c]⟩) := o2_val fun x y S H e _ h1 h2 => by
  cases h1; cases h2
  exact ⟨_, rfl, fun Q q => ⟨z, i, c, rfl, rfl, sz_le hz, h, q⟩⟩
theorem o_ixM {a : Addr} {rs : List Rep} (hm : (a, mLst rs) ∈ M) (h : atI rs i = some R) : O2p (rIxL K) (iRef a) (iInt i) M R := o2_val fun x y S H e m h1 h2 => by
  cases h1; cases h2
  obtain ⟨_, o, ho, xs, rfl, q2⟩ := m.at_ _ _ hm
  obtain ⟨v, h3, h4⟩ := q2.atI h
  exact ⟨v, h4, fun Q q => ⟨a, xs, i, v, rfl, rfl, SqL.of ho, h3, q⟩⟩
theorem o_or1 {r r' : L2.R2} (h : O2p r R1 R2 M R) : O2p (fun x y H Q => r x y H Q ∨ r' x y H Q) R1 R2 M R := fun k q x y S H Q e m h1 h2 o => .inl (h k q x y S H Q e m h1 h2 o)
theorem o_or2 {r r' : L2.R2} (h : O2p r' R1 R2 M R) : O2p (fun x y H Q => r x y H Q ∨ r' x y H Q) R1 R2 M R := fun k q x y S H Q e m h1 h2 o => .inr (h k q x y S H Q e m h1 h2 o)

/-! ### built-ins by name -/
theorem ev_cb {rl : List V → Hp → VK → Prop} (h : Ea E tr Γ M (fun Rs M1 => Ol rl Rs M1 k) X) : Ev E (tCB rl tr) Γ M k X := fun σ S H Q I o ox =>
  h σ S H _ I (fun xs S1 H1 Rs M1 h1 st p => h1 xs S1 H1 Q st.e st.m p (o.step st)) ox
theorem ep_cb {rl : List V → Hp → VK → Prop} (h : Eap E tr Γ M Rs) (hr : Olp rl Rs M R) : Ep E (tCB rl tr) Γ M R := fun _ _ q => ev_cb (h _ _ (hr _ q))
def rLn (K : PySem.W.Frag) : List V → Hp → VK → Prop := fun xs H Q => ∃ x n, xs = [x] ∧ LenV K x H n ∧ Q (.int n) H
theorem all2_1 {S : Hp} {R : Rep} {xs : List V} (h : All2 S [R] xs) : ∃ v, xs = [v] ∧ R.p S v := by
  match xs, h with
  | [v], h => exact ⟨v, rfl, h.1⟩
  | [], h => exact h.elim
  | _ :: _ :: _, h => exact h.2.elim
theorem all2_2 {S : Hp} {R R' : Rep} {xs : List V} (h : All2 S [R, R'] xs) : ∃ v w, xs = [v, w] ∧ R.p S v ∧ R'.p S w := by
  match xs, h with
  | [v, w], h => exact ⟨v, w, rfl, h.1, h.2.1⟩
  | [], h => exact h.elim
  | [_], h => exact h.2.elim
  | _ :: _ :: _ :: _, h => exact h.2.2.elim
theorem c_lenL {rs : List Rep} : Olp (rLn K) [iLst rs] M (iInt rs.length) := ol_val fun xs S H e _ h => by
  obtain ⟨v, rfl, a, ys, rfl, q1, q2⟩ := all2_1 h
  exact ⟨.int rs.length, rfl, fun Q q => ⟨_, rs.length, rfl, .inl ⟨ys, SqL.of (e _ _ q1), q2.len.symm⟩, q⟩⟩
theorem c_lenT {rs : List Rep} : Olp (rLn K) [aTup K rs] M (iInt rs.length) := ol_val fun xs S H e _ h => by
  obtain ⟨v, rfl, a, ys, rfl, q1, q2⟩ := all2_1 h
  exact ⟨.int rs.length, rfl, fun Q q => ⟨_, rs.length, rfl, .inr ⟨ys, Same.sqt e q1, q2.len.symm⟩, q⟩⟩
theorem c_lenS {z : Str} (hz : z.length ≤ 1000000) : Olp (rLn K) [aStr z] M (iInt z.length) := ol_val fun xs S H e _ h => by
  obtain ⟨v, rfl, h1⟩ := all2_1 h
  cases h1
  exact ⟨_, rfl, fun Q q => ⟨_, z.length, rfl, ⟨sz_le hz, rfl⟩, q⟩⟩
theorem c_lenM {a : Addr} {rs : List Rep} (hm : (a, mLst rs) ∈ M) : Olp (rLn K) [iRef a] M (iInt rs.length) := ol_val fun xs S H e m h => by
  obtain ⟨v, rfl, h1⟩ := all2_1 h
  cases h1
  obtain ⟨_, o, ho, ys, rfl, q2⟩ := m.at_ _ _ hm
  exact ⟨_, rfl, fun Q q => ⟨_, rs.length, rfl, .inl ⟨ys, SqL.of ho, q2.len.symm⟩, q⟩⟩
theorem c_max2 : Olp (fun xs H Q => ∃ i j, xs = [.int i, .int j] ∧ Q (.int (if j > i then j else i)) H) [iInt i, iInt j] M (iInt (max i j)) := ol_val fun xs S H e _ h => by
  obtain ⟨v, w, rfl, h1, h2⟩ := all2_2 h
  cases h1; cases h2
  refine ⟨_, rfl, fun Q q => ⟨i, j, rfl, ?_⟩⟩
  have : (if j > i then j else i) = max i j := by
    split <;> omega
  rw [this]
  exact q
end
end L3

namespace L3
open PySem L2

/-! ### statements -/
structure EndT where
  nx : Ct → SH → Prop
  rt : KR
  bk : Ct → SH → Prop := fun _ _ => False
  ct : Ct → SH → Prop := fun _ _ => False
  ex : KX := X0
abbrev KC := Ct → SH → Prop
def OutS (S H : Hp) (M : SH) (k : KC) (q : L2.St → Hp → Prop) : Prop := ∀ σ2 S2 H2 Γ2 M2, k Γ2 M2 → Stp S H S2 H2 M M2 → Nv S2 H2 σ2 Γ2 M2 → q σ2 H2
theorem OutS.step {S H S1 H1 : Hp} {M M1 : SH} {k : KC} {q : L2.St → Hp → Prop} (o : OutS S H M k q) (st : Stp S H S1 H1 M M1) : OutS S1 H1 M1 k q :=
  fun σ2 S2 H2 Γ2 M2 a st2 I => o σ2 S2 H2 Γ2 M2 a (st.trans st2) I
structure EndOk (S H : Hp) (M : SH) (D : EndT) (D0 : Ends) (E : XK) : Prop where
  nx : OutS S H M D.nx D0.nx
  rt : Out S H M D.rt D0.rt
  bk : OutS S H M D.bk D0.bk
  ct : OutS S H M D.ct D0.ct
  ex : OutX S H M D.ex E
theorem EndOk.step {S H S1 H1 : Hp} {M M1 : SH} {D : EndT} {D0 : Ends} {E : XK} (o : EndOk S H M D D0 E) (st : Stp S H S1 H1 M M1) : EndOk S1 H1 M1 D D0 E :=
  ⟨o.nx.step st, o.rt.step st, o.bk.step st, o.ct.step st, o.ex.step st⟩
def St (E : XK) (t : TS) (Γ : Ct) (M : SH) (D : EndT) : Prop := ∀ σ S H D0, Nv S H σ Γ M → EndOk S H M D D0 E → t D0 σ H

/-! ### targets -/
def Tg (g : TG) (R : Rep) (Γ : Ct) (M : SH) (vs : List Nat) (k : KC) : Prop := ∀ v σ S H Q, Nv S H σ Γ M → R.p S v → (∀ σ2 S2 H2 Γ2 M2, k Γ2 M2 → Stp S H S2 H2 M M2 → Nv S2 H2 σ2 Γ2 M2 → (vs ≠ [] → wipe σ2 vs = wipe σ vs) → Q σ2 H2) → g v σ H Q
def Tgs (g : TGs) (Rs : List Rep) (Γ : Ct) (M : SH) (vs : List Nat) (k : KC) : Prop := ∀ xs σ S H Q, Nv S H σ Γ M → All2 S Rs xs → (∀ σ2 S2 H2 Γ2 M2, k Γ2 M2 → Stp S H S2 H2 M M2 → Nv S2 H2 σ2 Γ2 M2 → (vs ≠ [] → wipe σ2 vs = wipe σ vs) → Q σ2 H2) → g xs σ H Q
theorem wipe_set {σ : L2.St} {j : Nat} {x : Option V} : ∀ {vs : List Nat}, j ∈ vs → wipe (σ.set j x) vs = wipe σ vs
  | [], h => by cases h
  | v :: vs, h => by
    unfold wipe
    by_cases hv : j = v
    · subst hv
      by_cases h2 : j ∈ vs
      · rw [wipe_set h2]
      · have aux : ∀ {vs : List Nat}, j ∉ vs → wipe (σ.set j x) vs = (wipe σ vs).set j x := by
          intro vs
          induction vs with
          | nil => intro _; rfl
          | cons w ws ih =>
            intro hn
            unfold wipe
            rw [ih fun z => hn (List.mem_cons_of_mem _ z), List.set_comm _ _ (fun z => hn (by rw [z]; exact List.mem_cons_self ..))]
        rw [aux h2, List.set_set]
    · rcases List.mem_cons.mp h with e | h
      · exact absurd e hv
      · rw [wipe_set h]
section
variable {E : XK} {K : PySem.W.Frag} {Γ : Ct} {M : SH} {k : KC} {X : KX} {R R1 R2 : Rep} {te ta tb : TE} {vs : List Nat} {D : EndT} {t u : TS} {c : TT}
theorem tg_name {j : Nat} (q : k (Γ.set j (some R)) M) (hj : vs = [] ∨ j ∈ vs := by first | exact .inl rfl | exact .inr (by decide)) : Tg (gName j) R Γ M vs k := fun v σ S H Q I p o =>
  o _ S H _ M q (Stp.refl I.ex I.m) (I.set j p) fun hv => wipe_set (hj.resolve_left hv)
theorem tgs_nil (q : k Γ M) : Tgs gNil [] Γ M vs k := fun xs σ S H Q I p o => by
  match xs, p with
  | [], _ => exact ⟨rfl, o σ S H Γ M q (Stp.refl I.ex I.m) I fun _ => rfl⟩
  | _ :: _, p => exact p.elim
theorem tgs_cons {g : TG} {gs : TGs} {Rs : List Rep} (h : Tg g R Γ M vs fun Γ1 M1 => Tgs gs Rs Γ1 M1 vs k) : Tgs (gCons g gs) (R :: Rs) Γ M vs k := fun xs σ S H Q I p o => by
  match xs, p with
  | [], p => exact p.elim
  | x :: xs, p =>
    refine ⟨x, xs, rfl, h x σ S H _ I p.1 fun σ1 S1 H1 Γ1 M1 q st I1 w1 => q xs σ1 S1 H1 Q I1 (All2.mono st.s p.2) fun σ2 S2 H2 Γ2 M2 q2 st2 I2 w2 => o σ2 S2 H2 Γ2 M2 q2 (st.trans st2) I2 fun z => (w2 z).trans (w1 z)⟩
theorem tg_tup {gs : TGs} {Rs : List Rep} {n : Nat} (hn : Rs.length = n) (h : Tgs gs Rs Γ M vs k) : Tg (gTup K n gs) (aTup K Rs) Γ M vs k := fun v σ S H Q I p o => by
  obtain ⟨a, xs, rfl, q1, q2⟩ := p
  exact ⟨a, xs, rfl, Same.sqt I.ex q1, by rw [q2.len]; exact hn, h xs σ S H Q I q2 o⟩

/-! ### simple statements -/
theorem st_seq (h : St E t Γ M { D with nx := fun Γ1 M1 => St E u Γ1 M1 D }) : St E (tSeq t u) Γ M D := fun σ S H D0 I o =>
  h σ S H { D0 with nx := u D0 } I ⟨fun σ2 S2 H2 Γ2 M2 q st I2 => q σ2 S2 H2 D0 I2 (o.step st), o.rt, o.bk, o.ct, o.ex⟩
theorem st_next (q : D.nx Γ M) : St E tNext Γ M D := fun σ S H D0 I o => o.nx σ S H Γ M q (Stp.refl I.ex I.m) I
theorem st_brk (q : D.bk Γ M) : St E tBreak Γ M D := fun σ S H D0 I o => o.bk σ S H Γ M q (Stp.refl I.ex I.m) I
theorem st_cont (q : D.ct Γ M) : St E tCont Γ M D := fun σ S H D0 I o => o.ct σ S H Γ M q (Stp.refl I.ex I.m) I
theorem st_asg {j : Nat} (h : Ev E te Γ M (fun R M1 => D.nx (Γ.set j (some R)) M1) D.ex) : St E (tAsg te (gName j)) Γ M D := fun σ S H D0 I o =>
  h σ S H _ I (fun v S2 H2 R M2 q st p => o.nx _ S2 H2 _ M2 q st ((I.step st).set j p)) o.ex
/-- any target -/
theorem st_asgT {g : TG} (h : Ev E te Γ M (fun R M1 => Tg g R Γ M1 vs D.nx) D.ex) : St E (tAsg te g) Γ M D := fun σ S H D0 I o =>
  h σ S H _ I (fun v S2 H2 R M2 q st p => q v σ S2 H2 _ (I.step st) p fun σ3 S3 H3 Γ3 M3 q3 st3 I3 _ => o.nx σ3 S3 H3 Γ3 M3 q3 (st.trans st3) I3) o.ex
theorem st_drop (h : Ev E te Γ M (fun _ M1 => D.nx Γ M1) D.ex) : St E (tDrop te) Γ M D := fun σ S H D0 I o =>
  h σ S H _ I (fun v S2 H2 R M2 q st p => o.nx σ S2 H2 Γ M2 q st (I.step st)) o.ex
theorem st_ret (h : Ev E te Γ M D.rt D.ex) : St E (tRet te) Γ M D := fun σ S H D0 I o => h σ S H _ I o.rt o.ex
theorem st_retN (h : D.rt iNon M) : St E tRetN Γ M D := fun σ S H D0 I o => o.rt .non S H iNon M h (Stp.refl I.ex I.m) rfl
theorem st_if (h : Et E c Γ M (fun b M1 => if b = true then St E t Γ M1 D else St E u Γ M1 D) D.ex) : St E (tIfS c t u) Γ M D := fun σ S H D0 I o =>
  h σ S H _ I (fun b S2 H2 M2 q st => by
    cases b with
    | true =>
      have q' : St E t Γ M2 D := by simpa using q
      exact q' σ S2 H2 D0 (I.step st) (o.step st)
    | false =>
      have q' : St E u Γ M2 D := by simpa using q
      exact q' σ S2 H2 D0 (I.step st) (o.step st)) o.ex
theorem st_ifp {b : Bool} (h : Etp E c Γ M b) (h1 : b = true → St E t Γ M D) (h2 : b = false → St E u Γ M D) : St E (tIfS c t u) Γ M D := st_if (h _ _ (by
  cases b with
  | true => simpa using h1 rfl
  | false => simpa using h2 rfl))
theorem st_par {i j : Nat} {ta : TA} (h : Ea E ta Γ M (fun Rs M1 => ∃ R1 R2, Rs = [R1, R2] ∧ D.nx ((Γ.set i (some R1)).set j (some R2)) M1) D.ex) : St E (tPar i j ta) Γ M D := fun σ S H D0 I o =>
  h σ S H _ I (fun xs S2 H2 Rs M2 ⟨R1, R2, e, q⟩ st p => by
    subst e
    obtain ⟨v, w, rfl, p1, p2⟩ := all2_2 p
    exact ⟨v, w, rfl, o.nx _ S2 H2 _ M2 q st (((I.step st).set i p1).set j p2)⟩) o.ex
theorem st_never {D : EndT} (h : False) : St E tNever Γ M D := h.elim
/-- a word between a statement and the rest -/
theorem st_mono {D' : EndT} (h : St E t Γ M D') (h1 : ∀ Γ M, D'.nx Γ M → D.nx Γ M) (h2 : ∀ R M, D'.rt R M → D.rt R M) (h3 : ∀ Γ M, D'.bk Γ M → D.bk Γ M) (h4 : ∀ Γ M, D'.ct Γ M → D.ct Γ M) (h5 : ∀ x M, D'.ex x M → D.ex x M) : St E t Γ M D := fun σ S H D0 I o =>
  h σ S H D0 I ⟨fun a b c d e q => o.nx a b c d e (h1 _ _ q), fun a b c d e q => o.rt a b c d e (h2 _ _ q), fun a b c d e q => o.bk a b c d e (h3 _ _ q), fun a b c d e q => o.ct a b c d e (h4 _ _ q), fun a b c d e f q => o.ex a b c d e f (h5 _ _ q)⟩
theorem st_cut (J : KC) (h : St E t Γ M { D with nx := J }) (h2 : ∀ Γ1 M1, J Γ1 M1 → St E u Γ1 M1 D) : St E (tSeq t u) Γ M D :=
  st_seq (st_mono h (fun Γ1 M1 q => h2 Γ1 M1 q) (fun _ _ q => q) (fun _ _ q => q) (fun _ _ q => q) (fun _ _ q => q))
/-- what is known of slots may be forgotten -/
theorem st_ctx {Γ' : Ct} (h : St E t Γ M D) (hl : Γ'.length = Γ.length) (hw : ∀ (i : Nat) (R : Rep), Γ[i]? = some (some R) → Γ'[i]? = some (some R)) : St E t Γ' M D := fun σ S H D0 I o =>
  h σ S H D0 (I.weak hl.symm hw) o

/-! ### what is walked -/
def TW (J : It) (n : Nat) (S1 : Hp) (rs : Nat → Rep → Prop) : Prop := ∃ G Y, Walk J n G Y ∧ (∀ Sx H, Same S1 Sx → Same Sx H → G H) ∧
  ∀ i H x H', i < n → Y i H x H' → ∀ Sx Mx, Same S1 Sx → Same Sx H → MOk Sx H Mx → ∃ S' r, Stp Sx H S' H' Mx Mx ∧ rs i r ∧ r.p S' x
def Ti (E : XK) (wi : TI) (Γ : Ct) (M : SH) (k : Nat → (Nat → Rep → Prop) → SH → Prop) (X : KX) : Prop := ∀ σ S H R, Nv S H σ Γ M → (∀ J S1 H1 n rs M1, k n rs M1 → Stp S H S1 H1 M M1 → TW J n S1 rs → R J H1) → OutX S H M X E → wi σ H R
def Tip (E : XK) (wi : TI) (Γ : Ct) (M : SH) (n : Nat) (rs : Nat → Rep → Prop) : Prop := ∀ (k : Nat → (Nat → Rep → Prop) → SH → Prop) (X : KX), k n rs M → Ti E wi Γ M k X
theorem tw_list {S1 : Hp} {a : Addr} {xs : List V} {rl : List Rep} (h : S1 a = some (.lst xs)) (p : All2 S1 rl xs) : TW (Itl K a) rl.length S1 (fun i r => rl[i]? = some r) := by
  refine ⟨_, _, by have w := walk_list (K := K) (a := a) (xs := xs); rw [p.len] at w; exact w, fun Sx H e1 e2 => SqL.of ((e1.trans e2) _ _ h), fun i H x H' hi y Sx Mx e1 e2 m => ?_⟩
  obtain ⟨rfl, hx⟩ := y
  obtain ⟨r, h1, h2⟩ := p.getV hx
  exact ⟨Sx, r, Stp.refl e2 m, h1, r.m e1 h2⟩
theorem tw_tup {S1 : Hp} {a : Addr} {xs : List V} {rl : List Rep} (h : SqT K S1 a xs) (p : All2 S1 rl xs) : TW (Itt K a) rl.length S1 (fun i r => rl[i]? = some r) := by
  refine ⟨_, _, by have w := walk_tup (K := K) (a := a) (xs := xs); rw [p.len] at w; exact w, fun Sx H e1 e2 => Same.sqt (e1.trans e2) h, fun i H x H' hi y Sx Mx e1 e2 m => ?_⟩
  obtain ⟨rfl, hx⟩ := y
  obtain ⟨r, h1, h2⟩ := p.getV hx
  exact ⟨Sx, r, Stp.refl e2 m, h1, r.m e1 h2⟩
theorem tw_range {S1 : Hp} {lo : Int} {n : Nat} : TW (Itr lo n) n S1 (fun i r => r = iInt (lo + (i : Nat))) :=
  ⟨_, _, walk_range, fun _ _ _ _ => True.intro, fun i H x H' hi y Sx Mx e1 e2 m => by
    obtain ⟨rfl, rfl⟩ := y
    exact ⟨Sx, _, Stp.refl e2 m, rfl, rfl⟩⟩
theorem tw_str {S1 : Hp} {z : Str} : TW (Its z) z.cps.size S1 (fun i r => ∃ c, z.cps[i]? = some c ∧ r = aStr ⟨#[c]⟩) :=
  ⟨_, _, walk_str, fun _ _ _ _ => True.intro, fun i H x H' hi y Sx Mx e1 e2 m => by
    obtain ⟨rfl, c, h1, rfl⟩ := y
    exact ⟨Sx, _, Stp.refl e2 m, ⟨c, h1, rfl⟩, rfl⟩⟩
theorem tw_pair {J : It} {n : Nat} {S1 : Hp} {G : Hp → Prop} {f g : Nat → Option V} {rs qs : Nat → Rep → Prop} (w : Walk J n G (YPair f g)) (hG : ∀ Sx H, Same S1 Sx → Same Sx H → G H)
    (hf : ∀ i x, i < n → f i = some x → ∃ r, rs i r ∧ r.p S1 x) (hg : ∀ i x, i < n → g i = some x → ∃ r, qs i r ∧ r.p S1 x) : TW J n S1 (fun i r => ∃ r1 r2, rs i r1 ∧ qs i r2 ∧ r = aTup K [r1, r2]) :=
  ⟨G, _, w, hG, fun i H x H' hi y Sx Mx e1 e2 m => by
    obtain ⟨T, u, v, rfl, hT, rfl, h1, h2⟩ := y
    obtain ⟨r1, a1, b1⟩ := hf i u hi h1
    obtain ⟨r2, a2, b2⟩ := hg i v hi h2
    have e3 : Same S1 (upd Sx T (.tup [u, v])) := e1.trans (Same.newS (Same.refl _) (e2.free hT))
    exact ⟨upd Sx T (.tup [u, v]), _, Stp.newS e2 m hT, ⟨r1, r2, a1, a2, rfl⟩, T, [u, v], rfl, SqT.of upd_same, r1.m e3 b1, r2.m e3 b2, True.intro⟩⟩
theorem ti_list {tl : TE} {ki : Nat → (Nat → Rep → Prop) → SH → Prop} (h : Ev E tl Γ M (fun R M1 => ∃ rl, R = iLst rl ∧ ki rl.length (fun i r => rl[i]? = some r) M1) X) : Ti E (iList K tl) Γ M ki X := fun σ S H R I o ox =>
  h σ S H _ I (fun v S2 H2 R' M2 ⟨rl, e, q⟩ st p => by
    subst e
    obtain ⟨a, xs, rfl, p1, p2⟩ := p
    exact ⟨a, rfl, ⟨xs, SqL.of (st.e _ _ p1)⟩, o _ S2 H2 _ _ M2 q st (tw_list p1 p2)⟩) ox
theorem ti_tup {tl : TE} {ki : Nat → (Nat → Rep → Prop) → SH → Prop} (h : Ev E tl Γ M (fun R M1 => ∃ rl, R = aTup K rl ∧ ki rl.length (fun i r => rl[i]? = some r) M1) X) : Ti E (L2.iTup K tl) Γ M ki X := fun σ S H R I o ox =>
  h σ S H _ I (fun v S2 H2 R' M2 ⟨rl, e, q⟩ st p => by
    subst e
    obtain ⟨a, xs, rfl, p1, p2⟩ := p
    exact ⟨a, rfl, ⟨xs, Same.sqt st.e p1⟩, o _ S2 H2 _ _ M2 q st (tw_tup p1 p2)⟩) ox
end
end L3

namespace L3
open PySem L2 RZ PyProof.Rows
section
variable {E : XK} {K : PySem.W.Frag} {Γ : Ct} {M : SH} {k : KR} {X : KX} {R R1 R2 : Rep} {te ta tb tl : TE} {vs : List Nat} {D : EndT} {t u : TS} {c tt : TT} {tr : TA} {wi : TI} {n : Nat} {rs : Nat → Rep → Prop}
theorem tip_list {rl : List Rep} (h : Ep E tl Γ M (iLst rl)) : Tip E (iList K tl) Γ M rl.length (fun i r => rl[i]? = some r) := fun _ _ q => ti_list (h _ _ ⟨rl, rfl, q⟩)
theorem tip_tup {rl : List Rep} (h : Ep E tl Γ M (aTup K rl)) : Tip E (L2.iTup K tl) Γ M rl.length (fun i r => rl[i]? = some r) := fun _ _ q => ti_tup (h _ _ ⟨rl, rfl, q⟩)
theorem ti_rng1 {ki : Nat → (Nat → Rep → Prop) → SH → Prop} (h : Ea E tr Γ M (fun Rs M1 => ∃ m : Nat, Rs = [iInt m] ∧ m ≤ 1000000 ∧ ki m (fun i r => r = iInt (i : Nat)) M1) X) : Ti E (iRng1 tr) Γ M ki X := fun σ S H R I o ox =>
  h σ S H _ I (fun xs S2 H2 Rs M2 ⟨m, e, hm, q⟩ st p => by
    subst e
    obtain ⟨v, rfl, p1⟩ := all2_1 p
    cases p1
    refine ⟨(m : Int), rfl, by omega, by omega, o _ S2 H2 m _ M2 q st ?_⟩
    have w := tw_range (S1 := S2) (lo := 0) (n := m)
    simp only [Int.zero_add] at w
    exact w) ox
theorem tip_rng1 {m : Nat} (h : Ep E ta Γ M (iInt m)) (hm : m ≤ 1000000) : Tip E (iRng1 (tCons ta tNil)) Γ M m (fun i r => r = iInt (i : Nat)) := fun _ _ q => ti_rng1 (eap_cons h eap_nil _ _ ⟨m, rfl, hm, q⟩)
theorem ti_rng2 {ki : Nat → (Nat → Rep → Prop) → SH → Prop} (h : Ea E tr Γ M (fun Rs M1 => ∃ lo hi : Int, Rs = [iInt lo, iInt hi] ∧ -1000000 ≤ lo ∧ lo ≤ 1000000 ∧ -1000000 ≤ hi ∧ hi ≤ 1000000 ∧ ki (hi - lo).toNat (fun i r => r = iInt (lo + (i : Nat))) M1) X) : Ti E (iRng2 tr) Γ M ki X := fun σ S H R I o ox =>
  h σ S H _ I (fun xs S2 H2 Rs M2 ⟨lo, hi, e, h1, h2, h3, h4, q⟩ st p => by
    subst e
    obtain ⟨v, w, rfl, p1, p2⟩ := all2_2 p
    cases p1; cases p2
    exact ⟨lo, hi, rfl, ⟨by omega, by omega, by omega, by omega⟩, o _ S2 H2 _ _ M2 q st tw_range⟩) ox
theorem tip_rng2 {lo hi : Int} (h : Ep E ta Γ M (iInt lo)) (h' : Ep E tb Γ M (iInt hi)) (h1 : -1000000 ≤ lo) (h2 : lo ≤ 1000000) (h3 : -1000000 ≤ hi) (h4 : hi ≤ 1000000) : Tip E (iRng2 (tCons ta (tCons tb tNil))) Γ M (hi - lo).toNat (fun i r => r = iInt (lo + (i : Nat))) :=
  fun _ _ q => ti_rng2 (eap_cons h (eap_cons h' eap_nil) _ _ ⟨lo, hi, rfl, h1, h2, h3, h4, q⟩)
theorem tip_str {z : Str} (h : Ep E te Γ M (aStr z)) : Tip E (L2.iStr te) Γ M z.cps.size (fun i r => ∃ c, z.cps[i]? = some c ∧ r = aStr ⟨#[c]⟩) := fun ki X q σ S H R I o ox =>
  h (fun R' M' => R' = aStr z ∧ M' = M) X ⟨rfl, rfl⟩ σ S H _ I (fun v S2 H2 R' M2 ⟨e1, e2⟩ st p => by
    subst e1; subst e2; cases p
    exact ⟨z, rfl, o _ S2 H2 _ _ _ q st tw_str⟩) ox
theorem tip_enum {rl : List Rep} (h : Ep E tl Γ M (iLst rl)) : Tip E (iEnum K (tCons tl tNil)) Γ M rl.length (fun i r => ∃ r1 r2, r1 = iInt (i : Nat) ∧ rl[i]? = some r2 ∧ r = aTup K [r1, r2]) := fun ki X q σ S H R I o ox =>
  eap_cons h eap_nil (fun Rs M' => Rs = [iLst rl] ∧ M' = M) X ⟨rfl, rfl⟩ σ S H _ I (fun xs S2 H2 Rs M2 ⟨e1, e2⟩ st p => by
    subst e1; subst e2
    obtain ⟨v, rfl, a, ys, rfl, p1, p2⟩ := all2_1 p
    refine ⟨a, ys, rfl, SqL.of (st.e _ _ p1), o _ S2 H2 _ _ _ q st ?_⟩
    have w := walk_enum (K := K) (a := a) (xs := ys)
    rw [p2.len] at w
    exact tw_pair w (fun Sx H e1 e2 => SqL.of ((e1.trans e2) _ _ p1)) (fun i x hi hx => ⟨_, rfl, (Option.some.inj hx).symm⟩) (fun i x hi hx => by
      obtain ⟨r, h1, h2⟩ := p2.getV hx
      exact ⟨r, h1, h2⟩)) ox
theorem tip_zipL {r1 r2 : List Rep} (h : Ep E ta Γ M (iLst r1)) (h' : Ep E tb Γ M (iLst r2)) (hn : n = min r1.length r2.length) : Tip E (iZipA K (tCons ta (tCons tb tNil))) Γ M n (fun i r => ∃ q1 q2, r1[i]? = some q1 ∧ r2[i]? = some q2 ∧ r = aTup K [q1, q2]) := fun ki X q σ S H R I o ox =>
  eap_cons h (eap_cons h' eap_nil) (fun Rs M' => Rs = [iLst r1, iLst r2] ∧ M' = M) X ⟨rfl, rfl⟩ σ S H _ I (fun xs S2 H2 Rs M2 ⟨e1, e2⟩ st p => by
    subst e1; subst e2
    obtain ⟨v, w, rfl, ⟨a, ys, rfl, p1, p2⟩, b, zs, rfl, p3, p4⟩ := all2_2 p
    refine ⟨a, b, ys, zs, rfl, .inl ⟨SqL.of (st.e _ _ p1), SqL.of (st.e _ _ p3), o _ S2 H2 _ _ _ q st ?_⟩⟩
    exact tw_pair (walk_zip (by rw [p2.len, p4.len]; exact hn)) (fun Sx H e1 e2 => ⟨SqL.of ((e1.trans e2) _ _ p1), SqL.of ((e1.trans e2) _ _ p3)⟩) (fun i x hi hx => p2.getV hx) (fun i x hi hx => p4.getV hx)) ox
theorem walk_zipTT {a b : Addr} {xs ys : List V} {n : Nat} (hn : n = min xs.length ys.length) : Walk (ItzT K a b) n (fun H => SqT K H a xs ∧ SqT K H b ys) (YPair (fun i => xs[i]?) (fun i => ys[i]?)) := by
  subst hn
  refine ⟨fun i _ hi q => ?_, fun _ q => ⟨xs, ys, q.1, q.2, by omega⟩, fun i H v H' _ q y => ?_⟩
  · have h1 : i < xs.length := by omega
    have h2 : i < ys.length := by omega
    exact ⟨xs, ys, xs[i], ys[i], q.1, q.2, by simp [h1], by simp [h2]⟩
  · obtain ⟨T, x, z, h1, h2, h3, h4, h5⟩ := y
    exact ⟨T, x, z, h1, h2, h3, h4 xs q.1, h5 ys q.2⟩
theorem tip_zipT {r1 r2 : List Rep} (h : Ep E ta Γ M (aTup K r1)) (h' : Ep E tb Γ M (aTup K r2)) (hn : n = min r1.length r2.length) : Tip E (iZipA K (tCons ta (tCons tb tNil))) Γ M n (fun i r => ∃ q1 q2, r1[i]? = some q1 ∧ r2[i]? = some q2 ∧ r = aTup K [q1, q2]) := fun ki X q σ S H R I o ox =>
  eap_cons h (eap_cons h' eap_nil) (fun Rs M' => Rs = [aTup K r1, aTup K r2] ∧ M' = M) X ⟨rfl, rfl⟩ σ S H _ I (fun xs S2 H2 Rs M2 ⟨e1, e2⟩ st p => by
    subst e1; subst e2
    obtain ⟨v, w, rfl, ⟨a, ys, rfl, p1, p2⟩, b, zs, rfl, p3, p4⟩ := all2_2 p
    refine ⟨a, b, ys, zs, rfl, .inr ⟨Same.sqt st.e p1, Same.sqt st.e p3, o _ S2 H2 _ _ _ q st ?_⟩⟩
    exact tw_pair (walk_zipTT (by rw [p2.len, p4.len]; exact hn)) (fun Sx H e1 e2 => ⟨Same.sqt (e1.trans e2) p1, Same.sqt (e1.trans e2) p3⟩) (fun i x hi hx => p2.getV hx) (fun i x hi hx => p4.getV hx)) ox

/-! ### loops -/
theorem st_for {g : TG} (h : Ti E wi Γ M (fun n rs M1 => ∃ J : Nat → KC, J 0 Γ M1 ∧ (∀ i r Γ1 M1, i < n → rs i r → J i Γ1 M1 → Tg g r Γ1 M1 [] fun Γ2 M2 => St E t Γ2 M2 { D with nx := J (i + 1), ct := J (i + 1), bk := D.nx }) ∧ ∀ Γ1 M1, J n Γ1 M1 → D.nx Γ1 M1) D.ex) : St E (tFor wi g t) Γ M D := fun σ S H D0 I o =>
  h σ S H _ I (fun J S1 H1 n rs M1 ⟨V, v0, vs, vd⟩ st w => by
    obtain ⟨G, Y, wk, hG, hY⟩ := w
    refine for_it wk (fun i σ' H' => ∃ Sx Γx Mx, Nv Sx H' σ' Γx Mx ∧ Stp S1 H1 Sx H' M1 Mx ∧ V i Γx Mx) ⟨S1, Γ, M1, I.step st, Stp.refl st.e st.m, v0⟩ (fun i σ' H' _ ⟨Sx, Γx, Mx, Ix, sx, _⟩ => hG Sx H' sx.s Ix.ex) ?_ ?_
    · rintro i x σ' H' H'' hi ⟨Sx, Γx, Mx, Ix, sx, vx⟩ y
      obtain ⟨S', r, s', hr, pr⟩ := hY i H' x H'' hi y Sx Mx sx.s Ix.ex Ix.m
      refine vs i r Γx Mx hi hr vx x σ' S' H'' _ (Ix.step s') pr fun σ2 S2 H2 Γ2 M2 q st2 I2 _ => ?_
      have s2 := (sx.trans s').trans st2
      exact q σ2 S2 H2 _ I2 ⟨fun σ3 S3 H3 Γ3 M3 q3 st3 I3 => ⟨S3, Γ3, M3, I3, s2.trans st3, q3⟩, (o.step (st.trans s2)).rt, (o.step (st.trans s2)).nx, fun σ3 S3 H3 Γ3 M3 q3 st3 I3 => ⟨S3, Γ3, M3, I3, s2.trans st3, q3⟩, (o.step (st.trans s2)).ex⟩
    · rintro σ' H' ⟨Sx, Γx, Mx, Ix, sx, vx⟩
      exact o.nx σ' Sx H' Γx Mx (vd Γx Mx vx) (st.trans sx) Ix) o.ex
theorem st_while (W : Nat → KC) (m0 : Nat) (h0 : W m0 Γ M) (hs : ∀ m Γ1 M1, W m Γ1 M1 → Et E c Γ1 M1 (fun b M2 => if b = true then St E t Γ1 M2 { D with nx := fun Γ2 M3 => ∃ m', m' < m ∧ W m' Γ2 M3, ct := fun Γ2 M3 => ∃ m', m' < m ∧ W m' Γ2 M3, bk := D.nx } else D.nx Γ1 M2) D.ex) : St E (tWhile c t) Γ M D := fun σ S H D0 I o => by
  refine ⟨fun m σ' H' => ∃ Sx Γx Mx, Nv Sx H' σ' Γx Mx ∧ Stp S H Sx H' M Mx ∧ W m Γx Mx, ⟨m0, S, Γ, M, I, Stp.refl I.ex I.m, h0⟩, ?_⟩
  rintro m σ' H' ⟨Sx, Γx, Mx, Ix, sx, wx⟩
  refine hs m Γx Mx wx σ' Sx H' _ Ix (fun b S2 H2 M2 q st => ?_) (o.step sx).ex
  have s2 := sx.trans st
  cases b with
  | true =>
    rw [if_pos rfl] at q
    rw [if_pos rfl]
    refine ⟨fun σ3 H3 => ∃ m', m' < m ∧ ∃ Sx Γx Mx, Nv Sx H3 σ3 Γx Mx ∧ Stp S H Sx H3 M Mx ∧ W m' Γx Mx, fun _ _ z => z, q σ' S2 H2 _ (Ix.step st) ⟨fun σ3 S3 H3 Γ3 M3 ⟨m', hm, q3⟩ st3 I3 => ⟨m', hm, S3, Γ3, M3, I3, s2.trans st3, q3⟩, (o.step s2).rt, (o.step s2).nx, fun σ3 S3 H3 Γ3 M3 ⟨m', hm, q3⟩ st3 I3 => ⟨m', hm, S3, Γ3, M3, I3, s2.trans st3, q3⟩, (o.step s2).ex⟩⟩
  | false =>
    rw [if_neg Bool.false_ne_true] at q
    rw [if_neg Bool.false_ne_true]
    exact o.nx σ' S2 H2 Γx M2 q s2 (Ix.step st)

/-! ### comprehensions -/
def wipeC (Γ : Ct) : List Nat → Ct
  | [] => Γ
  | v :: vs => (wipeC Γ vs).set v none
theorem Nv.un {S H : Hp} {σ : L2.St} (I : Nv S H σ Γ M) (j : Nat) : Nv S H (σ.set j none) (Γ.set j none) M := by
  refine ⟨I.ex, by simp [I.len], fun i Q e => ?_, I.m⟩
  by_cases hj : j = i
  · subst hj
    have hl : j < Γ.length := by
      have := (List.getElem?_eq_some_iff.mp e).1
      simpa using this
    rw [List.getElem?_set_self hl] at e
    cases e
  · rw [List.getElem?_set_ne hj] at e ⊢
    exact I.sl i Q e
theorem Nv.wipe {S H : Hp} {σ : L2.St} (I : Nv S H σ Γ M) : ∀ vs : List Nat, Nv S H (L2.wipe σ vs) (wipeC Γ vs) M
  | [] => I
  | v :: vs => (Nv.wipe I vs).un v
/-- what is made so far stands at D, mutable -/
theorem ev_lc {g : TG} (hv : vs ≠ []) (h : Ti E wi Γ M (fun n rs M1 => n ≤ 1000000 ∧ ∃ J : Nat → List Rep → SH → Prop, J 0 [] M1 ∧ (∀ i r acc M2, i < n → rs i r → acc.length ≤ i → J i acc M2 →
      Tg g r (wipeC Γ vs) M2 vs fun Γ3 M3 => Et E tt Γ3 M3 (fun b M4 => if b = true then Ev E te Γ3 M4 (fun R M5 => J (i + 1) (acc ++ [R]) M5) X0 else J (i + 1) acc M4) X0) ∧ ∀ acc M2, acc.length ≤ n → J n acc M2 → k (iLst acc) M2) X) : Ev E (tLc wi g tt te vs) Γ M k X := fun σ S H Q I o ox =>
  h σ S H _ I (fun Jt S1 H1 n rs M1 ⟨hn, V, v0, vs', vd⟩ st w Dl hD => by
    obtain ⟨G, Y, wk, hG, hY⟩ := w
    have s0 := st.trans (Stp.newM (o := .lst []) (P := mLst []) st.e st.m hD ⟨[], rfl, True.intro⟩)
    refine lc_it wk (fun i H' => ∃ Sx Mx acc, Same Sx H' ∧ Stp S H Sx H' M (Mx ++ [(Dl, mLst acc)]) ∧ Same S1 Sx ∧ acc.length ≤ i ∧ V i acc Mx) ⟨S1, M1, [], s0.e, s0, Same.refl _, Nat.zero_le _, v0⟩ (fun i H' _ ⟨Sx, Mx, acc, ex, _, s1, _⟩ => hG Sx H' s1 ex) ?_ ?_
    · rintro i x H' H'' hi ⟨Sx, Mx, acc, ex, sx, s1, la, vx⟩ y
      obtain ⟨S', r, s', hr, pr⟩ := hY i H' x H'' hi y Sx (Mx ++ [(Dl, mLst acc)]) s1 ex sx.m
      have I' : Nv S' H'' (L2.wipe σ vs) (wipeC Γ vs) Mx := by
        have := (I.step (sx.trans s')).wipe vs
        exact ⟨this.ex, this.len, this.sl, this.m.left⟩
      have m' : MOk S' H'' (Mx ++ [(Dl, mLst acc)]) := s'.m
      refine vs' i r acc Mx hi hr la vx x (L2.wipe σ vs) S' H'' _ I' pr fun σ2 S2 H2 Γ2 M2 q st2 I2 w2 => ⟨?_, ?_⟩
      · rw [w2 hv]
        have aux : ∀ us : List Nat, (∀ u ∈ us, u ∈ vs) → L2.wipe (L2.wipe σ vs) us = L2.wipe σ vs := by
          have un : ∀ u ∈ vs, (L2.wipe σ vs).set u none = L2.wipe σ vs := by
            intro u hu
            have gen : ∀ ws : List Nat, u ∈ ws → (L2.wipe σ ws).set u none = L2.wipe σ ws := by
              intro ws
              induction ws with
              | nil => intro z; cases z
              | cons w ws ih =>
                intro z
                show ((L2.wipe σ ws).set w none).set u none = (L2.wipe σ ws).set w none
                by_cases e : w = u
                · subst e; rw [List.set_set]
                · rcases List.mem_cons.mp z with z | z
                  · exact absurd z.symm e
                  · rw [List.set_comm _ _ e, ih z]
            exact gen vs hu
          intro us
          induction us with
          | nil => intro _; rfl
          | cons u us ih =>
            intro hu
            show (L2.wipe (L2.wipe σ vs) us).set u none = L2.wipe σ vs
            rw [ih fun z hz => hu z (List.mem_cons_of_mem _ hz)]
            exact un u (hu u (List.mem_cons_self ..))
        exact aux vs fun _ h => h
      · have sf2 := st2.frame m'
        refine q σ2 S2 H2 _ I2 (fun b S3 H3 M3 q3 st3 => ?_) (fun _ _ _ _ _ _ z => z.elim)
        have sf3 := st3.frame sf2.m
        cases b with
        | true =>
          rw [if_pos rfl] at q3
          rw [if_pos rfl]
          refine q3 σ2 S3 H3 _ (I2.step st3) (fun z S4 H4 R4 M4 q4 st4 p4 => ?_) (fun _ _ _ _ _ _ z => z.elim)
          have sf4 := st4.frame sf3.m
          have tot := (((sx.trans s').trans sf2).trans sf3).trans sf4
          obtain ⟨_, ob, ho, xs, rfl, pa⟩ := tot.m.at_ Dl (mLst acc) (List.mem_append_right _ (List.mem_singleton.mpr rfl))
          have wr := Stp.wrM (A := M4) (B := []) (a := Dl) (P := mLst acc) (P' := mLst (acc ++ [R4])) (o := .lst (xs ++ [z])) tot.e tot.m ⟨_, rfl, pa.app (All2.one p4)⟩
          refine ⟨xs, ho, by rw [pa.len]; exact sz_lt (by omega), S4, M4, acc ++ [R4], wr.e, tot.trans wr, ?_, by simp; omega, q4⟩
          exact s1.trans (s'.s.trans (sf2.s.trans (sf3.s.trans sf4.s)))
        | false =>
          rw [if_neg Bool.false_ne_true] at q3
          rw [if_neg Bool.false_ne_true]
          exact ⟨S3, M3, acc, sf3.e, ((sx.trans s').trans sf2).trans sf3, s1.trans (s'.s.trans (sf2.s.trans sf3.s)), by omega, q3⟩
    · rintro H' ⟨Sx, Mx, acc, ex, sx, s1, la, vx⟩
      obtain ⟨_, ob, ho, xs, rfl, pa⟩ := sx.m.at_ Dl (mLst acc) (List.mem_append_right _ (List.mem_singleton.mpr rfl))
      have fz := Stp.fz (A := Mx) (B := []) ex sx.m ho
      have fin := sx.trans fz
      rw [List.append_nil] at fin
      exact o (.ref Dl) _ H' (iLst acc) Mx (vd acc Mx la vx) fin ⟨Dl, xs, rfl, upd_same, pa.mono fz.s⟩) ox
theorem et_yes {kb : Bool → SH → Prop} (q : kb true M) : Et E tYes Γ M kb X := fun σ S H Q I o _ => o true S H M q (Stp.refl I.ex I.m)
theorem etp_yes : Etp E tYes Γ M true := fun _ _ q => et_yes q
/-- the turns below n with f, told by v -/
def given {α : Type} (n : Nat) (f : Nat → Bool) (v : Nat → α) : List α := ((List.range n).filter f).map v
theorem given_yes {α : Type} {n : Nat} {f : Nat → Bool} {v : Nat → α} (h : f n = true) : given (n + 1) f v = given n f v ++ [v n] := by
  unfold given
  rw [List.range_succ, List.filter_append, List.map_append, List.filter_cons, if_pos h]
  rfl
theorem given_no {α : Type} {n : Nat} {f : Nat → Bool} {v : Nat → α} (h : f n = false) : given (n + 1) f v = given n f v := by
  unfold given
  rw [List.range_succ, List.filter_append, List.map_append, List.filter_cons, if_neg (by rw [h]; decide)]
  simp
theorem given_list {α β : Type} (l : List α) (f : α → Bool) (v : α → β) (d : α) : given l.length (fun i => f (l.getD i d)) (fun i => v (l.getD i d)) = (l.filter f).map v := by
  have gen : ∀ m, m ≤ l.length → given m (fun i => f (l.getD i d)) (fun i => v (l.getD i d)) = ((l.take m).filter f).map v := by
    intro m
    induction m with
    | zero => intro _; rfl
    | succ m ih =>
      intro hm
      have ih' := ih (by omega)
      have hlt : m < l.length := by omega
      have e1 : l.getD m d = l[m] := by simp [hlt]
      have e2 : l.take (m + 1) = l.take m ++ [l[m]] := by rw [List.take_succ]; simp [hlt]
      cases hf : f l[m] with
      | true => rw [given_yes (by rw [e1]; exact hf), ih', e2, List.filter_append, List.map_append, e1]; simp [hf]
      | false => rw [given_no (by rw [e1]; exact hf), ih', e2, List.filter_append, List.map_append]; simp [hf]
  rw [gen l.length (Nat.le_refl _), List.take_length]
theorem ep_lc {g : TG} (hv : vs ≠ []) (hi : Tip E wi Γ M n rs) (hn : n ≤ 1000000) (f : Nat → Bool) (v : Nat → Rep)
    (h : ∀ i r, i < n → rs i r → Tg g r (wipeC Γ vs) M vs fun Γ3 M3 => M3 = M ∧ Etp E tt Γ3 M (f i) ∧ (f i = true → Ep E te Γ3 M (v i))) : Ep E (tLc wi g tt te vs) Γ M (iLst (given n f v)) := fun k X q =>
  ev_lc hv (hi _ _ ⟨hn, fun i acc M2 => given i f v = acc ∧ M = M2, ⟨rfl, rfl⟩, fun i r acc M2 hlt hr _ ⟨e1, e2⟩ => by
    subst e1; subst e2
    refine fun x σ S H Q I p o => h i r hlt hr x σ S H Q I p fun σ2 S2 H2 Γ2 M3 ⟨e3, h1, h2⟩ st I2 w2 => ?_
    subst e3
    refine o σ2 S2 H2 Γ2 _ (h1 _ _ ?_) st I2 w2
    cases hf : f i with
    | true => simpa using h2 hf _ _ ⟨given_yes hf, rfl⟩
    | false => simpa using given_no (v := v) hf, fun acc M2 _ ⟨e1, e2⟩ => by
    subst e1; subst e2
    exact q⟩)
/-- over a list of data, the target one name -/
theorem ep_lcL {α β : Type} {l : List α} {e : α → Rep} {j : Nat} {p : α → Bool} {q : α → β} {e' : β → Rep} (hi : Ep E tl Γ M (iLst (l.map e))) (hn : l.length ≤ 1000000) (hj : j ∈ vs)
    (ht : ∀ x ∈ l, Etp E tt ((wipeC Γ vs).set j (some (e x))) M (p x)) (he : ∀ x ∈ l, p x = true → Ep E te ((wipeC Γ vs).set j (some (e x))) M (e' (q x))) : Ep E (tLc (iList K tl) (gName j) tt te vs) Γ M (iLst (((l.filter p).map q).map e')) := by
  cases l with
  | nil =>
    refine Ep.to (R := iLst (given (([] : List α).map e).length (fun _ => true) (fun _ => iNon))) (ep_lc (fun z => by rw [z] at hj; cases hj) (tip_list hi) (by simp) (fun _ => true) (fun _ => iNon) (fun i r hi _ => by simp at hi)) ?_
    rfl
  | cons d l' =>
    refine Ep.to (R := iLst (given ((d :: l').map e).length (fun i => p ((d :: l').getD i d)) (fun i => e' (q ((d :: l').getD i d))))) (ep_lc (fun z => by rw [z] at hj; cases hj) (tip_list hi) (by simpa using hn) (fun i => p ((d :: l').getD i d)) (fun i => e' (q ((d :: l').getD i d))) (fun i r hi hr => ?_)) ?_
    · rw [List.getElem?_map] at hr
      have hi' : i < (d :: l').length := by simpa using hi
      rw [List.getElem?_eq_getElem hi'] at hr
      have hx : (d :: l').getD i d = (d :: l')[i] := by rw [List.getD_eq_getElem?_getD, List.getElem?_eq_getElem hi']; rfl
      have hm : (d :: l')[i] ∈ (d :: l') := List.getElem_mem hi'
      cases hr
      rw [hx]
      exact tg_name ⟨rfl, ht _ hm, fun z => he _ hm z⟩ (.inr hj)
    · congr 1
      have := given_list (d :: l') p (fun x => e' (q x)) d
      rw [List.length_map, this, List.map_map]
      rfl
/-- .. over a tuple -/
theorem ep_lcT {α β : Type} {l : List α} {e : α → Rep} {j : Nat} {p : α → Bool} {q : α → β} {e' : β → Rep} (hi : Ep E tl Γ M (aTup K (l.map e))) (hn : l.length ≤ 1000000) (hj : j ∈ vs)
    (ht : ∀ x ∈ l, Etp E tt ((wipeC Γ vs).set j (some (e x))) M (p x)) (he : ∀ x ∈ l, p x = true → Ep E te ((wipeC Γ vs).set j (some (e x))) M (e' (q x))) : Ep E (tLc (L2.iTup K tl) (gName j) tt te vs) Γ M (iLst (((l.filter p).map q).map e')) := by
  cases l with
  | nil =>
    refine Ep.to (R := iLst (given (([] : List α).map e).length (fun _ => true) (fun _ => iNon))) (ep_lc (fun z => by rw [z] at hj; cases hj) (tip_tup hi) (by simp) (fun _ => true) (fun _ => iNon) (fun i r hi _ => by simp at hi)) ?_
    rfl
  | cons d l' =>
    refine Ep.to (R := iLst (given ((d :: l').map e).length (fun i => p ((d :: l').getD i d)) (fun i => e' (q ((d :: l').getD i d))))) (ep_lc (fun z => by rw [z] at hj; cases hj) (tip_tup hi) (by simpa using hn) (fun i => p ((d :: l').getD i d)) (fun i => e' (q ((d :: l').getD i d))) (fun i r hi hr => ?_)) ?_
    · rw [List.getElem?_map] at hr
      have hi' : i < (d :: l').length := by simpa using hi
      rw [List.getElem?_eq_getElem hi'] at hr
      have hx : (d :: l').getD i d = (d :: l')[i] := by rw [List.getD_eq_getElem?_getD, List.getElem?_eq_getElem hi']; rfl
      have hm : (d :: l')[i] ∈ (d :: l') := List.getElem_mem hi'
      cases hr
      rw [hx]
      exact tg_name ⟨rfl, ht _ hm, fun z => he _ hm z⟩ (.inr hj)
    · congr 1
      have := given_list (d :: l') p (fun x => e' (q x)) d
      rw [List.length_map, this, List.map_map]
      rfl

/-! ### promises, typed -/
abbrev TSp := List Rep → SH → KR → KX → Prop
def spT (ts : TSp) : Sp := fun vs H Q E => ∃ S Rs M k X, ts Rs M k X ∧ Same S H ∧ MOk S H M ∧ All2 S Rs vs ∧ Out S H M k Q ∧ OutX S H M X E
theorem spT_in {ts : TSp} {S H : Hp} {vs : List V} {Rs : List Rep} {Mf Fr : SH} {E' : XK} {Q : VK} (h : ts Rs Mf (fun R M2 => k R (M2 ++ Fr)) (fun x M2 => X x (M2 ++ Fr))) (e : Same S H) (m : MOk S H (Mf ++ Fr)) (p : All2 S Rs vs) (o : Out S H (Mf ++ Fr) k Q) (ox : OutX S H (Mf ++ Fr) X E') : spT ts vs H Q E' :=
  ⟨S, Rs, Mf, _, _, h, e, m.left, p, fun v S2 H2 R M2 q st pr => o v S2 H2 R _ q (st.frame m) pr, fun c d S2 H2 x M2 q st px => ox c d S2 H2 x _ q (st.frame m) px⟩
theorem ev_call {ts : TSp} {dvs : List V} {Ds : List Rep} (hd : ∀ S, All2 S Ds dvs) (h : Ea E tr Γ M (fun Rs M1 => ∃ Mf Fr, M1 = Mf ++ Fr ∧ ts (Rs ++ Ds) Mf (fun R M2 => k R (M2 ++ Fr)) (fun x M2 => X x (M2 ++ Fr))) X) : Ev E (tCall (spT ts) dvs E tr) Γ M k X := fun σ S H Q I o ox =>
  h σ S H _ I (fun xs S1 H1 Rs M1 ⟨Mf, Fr, e, q⟩ st p => by
    subst e
    exact spT_in q st.e st.m (p.app (hd S1)) (o.step st) (ox.step st)) ox
/-- .. that raises nothing here -/
theorem ev_call0 {ts : TSp} {dvs : List V} {Ds : List Rep} (hd : ∀ S, All2 S Ds dvs) (h : Ea E tr Γ M (fun Rs M1 => ∃ Mf Fr, M1 = Mf ++ Fr ∧ ts (Rs ++ Ds) Mf (fun R M2 => k R (M2 ++ Fr)) X0) X) : Ev E (tCall (spT ts) dvs E0 tr) Γ M k X := fun σ S H Q I o ox =>
  h σ S H _ I (fun xs S1 H1 Rs M1 ⟨Mf, Fr, e, q⟩ st p => by
    subst e
    exact spT_in (X := X0) q st.e st.m (p.app (hd S1)) (o.step st) (fun _ _ _ _ _ _ z => z.elim)) ox
/-- a def that only reckons: no mutable object, nothing raised -/
def pureTs {α : Type} (args : α → List Rep) (pre : α → Prop) (res : α → Rep) : TSp := fun Rs M k _ => ∃ x, Rs = args x ∧ pre x ∧ M = [] ∧ k (res x) []
theorem ep_callP {α : Type} {args : α → List Rep} {pre : α → Prop} {res : α → Rep} {Rs : List Rep} (x : α) (h : Eap E tr Γ M Rs) (ha : Rs = args x) (hp : pre x) : Ep E (tCall (spT (pureTs args pre res)) [] E0 tr) Γ M (res x) := fun k X q =>
  ev_call0 (Ds := []) (fun _ => True.intro) (h _ _ ⟨[], M, rfl, x, by rw [List.append_nil]; exact ha, hp, rfl, q⟩)
section
variable {P : Program} {w : World} {mg : Str → Option Value} {base : Heap}
def startC (N : List Str) (Rs : List Rep) : Ct := Rs.map some ++ List.replicate (N.length - Rs.length) none
theorem nv_start {S H : Hp} {N : List Str} {Rs : List Rep} {vs : List V} (e : Same S H) (m : MOk S H M) (p : All2 S Rs vs) : Nv S H (L2.start N vs) (startC N Rs) M := by
  refine ⟨e, by simp [L2.start, startC, p.len], fun i R h => ?_, m⟩
  unfold startC at h
  unfold L2.start
  have hl := p.len
  by_cases hi : i < Rs.length
  · rw [List.getElem?_append_left (by simpa using hi), List.getElem?_map] at h
    rw [List.getElem?_append_left (by simpa [hl] using hi), List.getElem?_map]
    cases q : Rs[i]? with
    | none => rw [q] at h; cases h
    | some r =>
      rw [q] at h
      cases h
      obtain ⟨v, h1, h2⟩ := p.get q
      exact ⟨v, by rw [h1]; rfl, h2⟩
  · rw [List.getElem?_append_right (by simpa using hi), List.getElem?_replicate] at h
    split at h <;> cases h
theorem okT {x qual : Str} {st : Stmt} {f : Addr} {fd : FuncData} {N ps : List Str} {kk : Nat} {ts : TSp} (F : Fun K x qual st f fd) (S : FnScope N ps (defScope st)) (len : ∀ Rs M k X, ts Rs M k X → Rs.length = ps.length)
    (hbody : ∀ (cdv : Value) (A : Around) (outer : List PySem.Env) (s : Shared) (H : Hp) (E : XK), Room kk (A.deeper (envOfC qual (defScope st) s.heap.objs.size f cdv)) →
      ∃ t, PSs (cxOf CX0 P w K mg base N qual (defScope st) f cdv A outer s H E).nox (defBody st) t ∧ ∀ Rs M k X, ts Rs M k X → St E t (startC N Rs) M { nx := fun _ M' => k iNon M', rt := k, ex := X }) : FnOk P w K mg base CX0 (kk + 1) f fd ps (spT ts) := by
  refine F.ok S (fun vs H Q E h => ?_) (fun cdv A outer s H vs Q E hr h => ?_)
  · obtain ⟨_, Rs, M, k, X, h1, _, _, p, _⟩ := h
    exact p.len.trans (len Rs M k X h1)
  · obtain ⟨t, h1, h2⟩ := hbody cdv A outer s H E hr
    obtain ⟨S0, Rs, M, k, X, h3, e, m, p, o, ox⟩ := h
    exact ⟨t, h1, h2 Rs M k X h3 _ S0 H _ (nv_start e m p) ⟨fun σ2 S2 H2 Γ2 M2 q st I2 => o .non S2 H2 iNon M2 q st rfl, o, fun _ _ _ _ _ z => z.elim, fun _ _ _ _ _ z => z.elim, ox⟩⟩
theorem okTX {x qual : Str} {st : Stmt} {f : Addr} {fd : FuncData} {N ps : List Str} {kk : Nat} {ts : TSp} (F : Fun K x qual st f fd) (S : FnScope N ps (defScope st)) (len : ∀ Rs M k X, ts Rs M k X → Rs.length = ps.length)
    (hbody : ∀ (cdv : Value) (A : Around) (outer : List PySem.Env) (s : Shared) (H : Hp) (E : XK), Room kk (A.deeper (envOfC qual (defScope st) s.heap.objs.size f cdv)) →
      ∃ t, PSs (cxOf (L2.CX P w) P w K mg base N qual (defScope st) f cdv A outer s H E) (defBody st) t ∧ ∀ Rs M k X, ts Rs M k X → St E t (startC N Rs) M { nx := fun _ M' => k iNon M', rt := k, ex := X }) : FnOk P w K mg base (L2.CX P w) (kk + 1) f fd ps (spT ts) := by
  refine F.okX S (fun vs H Q E h => ?_) (fun cdv A outer s H vs Q E hr h => ?_)
  · obtain ⟨_, Rs, M, k, X, h1, _, _, p, _⟩ := h
    exact p.len.trans (len Rs M k X h1)
  · obtain ⟨t, h1, h2⟩ := hbody cdv A outer s H E hr
    obtain ⟨S0, Rs, M, k, X, h3, e, m, p, o, ox⟩ := h
    exact ⟨t, h1, h2 Rs M k X h3 _ S0 H _ (nv_start e m p) ⟨fun σ2 S2 H2 Γ2 M2 q st I2 => o .non S2 H2 iNon M2 q st rfl, o, fun _ _ _ _ _ z => z.elim, fun _ _ _ _ _ z => z.elim, ox⟩⟩
end
end
end L3

namespace L3
open PySem L2 RZ PyProof.Rows

/-! ### data -/
mutual
def iDat (K : PySem.W.Frag) : PyData → Rep
  | .none => iNon
  | .bool b => iBl b
  | .int i => iInt i
  | .str s => aStr s
  | .list ds => iLst (iDats K ds)
  | .tuple ds => aTup K (iDats K ds)
  | .dict _ => ⟨fun _ _ => False, fun _ h => h⟩
def iDats (K : PySem.W.Frag) : List PyData → List Rep
  | [] => []
  | d :: ds => iDat K d :: iDats K ds
end
theorem iDats_map (K : PySem.W.Frag) : ∀ ds : List PyData, iDats K ds = ds.map (iDat K)
  | [] => by simp [iDats]
  | d :: ds => by simp [iDats, iDats_map K ds]
theorem dat_list (K : PySem.W.Frag) (ds : List PyData) : iLst (ds.map (iDat K)) = iDat K (.list ds) := by rw [iDat, iDats_map]
theorem dat_tuple (K : PySem.W.Frag) (ds : List PyData) : aTup K (ds.map (iDat K)) = iDat K (.tuple ds) := by rw [iDat, iDats_map]
theorem dat_int (K : PySem.W.Frag) (i : Int) : iInt i = iDat K (.int i) := by rw [iDat]
theorem dat_str (K : PySem.W.Frag) (s : Str) : aStr s = iDat K (.str s) := by rw [iDat]
theorem dat_bl (K : PySem.W.Frag) (b : Bool) : iBl b = iDat K (.bool b) := by rw [iDat]
theorem dat_non (K : PySem.W.Frag) : iNon = iDat K .none := by rw [iDat]
theorem dat_lst {K : PySem.W.Frag} {rs : List Rep} {ds : List PyData} (h : rs = ds.map (iDat K)) : iLst rs = iDat K (.list ds) := by rw [h, dat_list]
theorem dat_tup {K : PySem.W.Frag} {rs : List Rep} {ds : List PyData} (h : rs = ds.map (iDat K)) : aTup K rs = iDat K (.tuple ds) := by rw [h, dat_tuple]
theorem dat_maps {α : Type} {K : PySem.W.Frag} {r : α → Rep} {g : α → PyData} (h : ∀ x, r x = iDat K (g x)) (l : List α) : l.map r = (l.map g).map (iDat K) := by
  rw [List.map_map]
  exact List.map_congr_left fun x _ => h x
theorem dats_cons {K : PySem.W.Frag} {r : Rep} {rs : List Rep} {d : PyData} {ds : List PyData} (h : r = iDat K d) (hs : rs = ds.map (iDat K)) : r :: rs = (d :: ds).map (iDat K) := by rw [h, hs]; rfl
theorem dats_nil {K : PySem.W.Frag} : ([] : List Rep) = ([] : List PyData).map (iDat K) := rfl
mutual
theorem iDat_dp (K : PySem.W.Frag) {S : Hp} : ∀ (d : PyData) {v : V}, (iDat K d).p S v → Dp K S v d
  | .none, v, h => by
    unfold iDat at h
    cases h
    exact .non
  | .bool b, v, h => by
    unfold iDat at h
    cases h
    exact .bl b
  | .int i, v, h => by
    unfold iDat at h
    cases h
    exact .int i
  | .str s, v, h => by
    unfold iDat at h
    cases h
    exact .str s
  | .list ds, v, h => by
    unfold iDat at h
    obtain ⟨a, xs, rfl, h1, h2⟩ := h
    exact .lst (SqL.of h1) (iDats_dp K ds h2)
  | .tuple ds, v, h => by
    unfold iDat at h
    obtain ⟨a, xs, rfl, h1, h2⟩ := h
    exact .tup h1 (iDats_dp K ds h2)
  | .dict _, v, h => by
    unfold iDat at h
    exact h.elim
theorem iDats_dp (K : PySem.W.Frag) {S : Hp} : ∀ (ds : List PyData) {vs : List V}, All2 S (iDats K ds) vs → DpAll K S vs ds
  | [], [], _ => .nil
  | [], _ :: _, h => by
    unfold iDats at h
    exact h.elim
  | d :: ds, [], h => by
    unfold iDats at h
    exact h.elim
  | d :: ds, v :: vs, h => by
    unfold iDats at h
    exact .cons (iDat_dp K d h.1) (iDats_dp K ds h.2)
end
section
variable {E : XK} {K : PySem.W.Frag} {Γ : Ct} {M : SH} {k : KR} {X : KX} {R R1 R2 : Rep} {te ta tb tl : TE} {vs : List Nat} {D : EndT} {t u : TS} {c tt : TT} {tr : TA}
mutual
theorem Dp.mono {K : PySem.W.Frag} {S S' : Hp} (e : Same S S') : ∀ {v : V} {d : PyData}, Dp K S v d → Dp K S' v d
  | _, _, .non => .non
  | _, _, .bl b => .bl b
  | _, _, .int i => .int i
  | _, _, .str x => .str x
  | _, _, .lst h hs => .lst (Same.sql e h) (DpAll.mono e hs)
  | _, _, .tup h hs => .tup (Same.sqt e h) (DpAll.mono e hs)
theorem DpAll.mono {K : PySem.W.Frag} {S S' : Hp} (e : Same S S') : ∀ {vs : List V} {ds : List PyData}, DpAll K S vs ds → DpAll K S' vs ds
  | _, _, .nil => .nil
  | _, _, .cons h hs => .cons (Dp.mono e h) (DpAll.mono e hs)
end
theorem o_eqD {d e : PyData} (h1 : SeqAt.shaped d = true) (h2 : SeqAt.shaped e = true) : O2p (rEqD K) (iDat K d) (iDat K e) M (iBl (PyData.eqv d e)) := o2_val fun x y S H ex _ p1 p2 =>
  ⟨_, rfl, fun Q q => ⟨d, e, Dp.mono ex (iDat_dp K d p1), Dp.mono ex (iDat_dp K e p2), h1, h2, q⟩⟩
theorem o_neD {d e : PyData} (h1 : SeqAt.shaped d = true) (h2 : SeqAt.shaped e = true) : O2p (rNeD K) (iDat K d) (iDat K e) M (iBl (!PyData.eqv d e)) := o2_val fun x y S H ex _ p1 p2 =>
  ⟨_, rfl, fun Q q => ⟨d, e, Dp.mono ex (iDat_dp K d p1), Dp.mono ex (iDat_dp K e p2), h1, h2, q⟩⟩
theorem O2p.as (h : O2p r R1 R2 M R) {R1' R2' : Rep} (e1 : R1' = R1) (e2 : R2' = R2) : O2p r R1' R2' M R := by rw [e1, e2]; exact h

/-! ### new lists and tuples by operators -/
theorem o2_newL {r : L2.R2} {rs : List Rep} (h : ∀ x y S H, Same S H → MOk S H M → R1.p S x → R2.p S y → ∃ xs, All2 S rs xs ∧ ∀ Q : VK, (∀ p, H p = none → Q (.ref p) (upd H p (.lst xs))) → r x y H Q) : O2p r R1 R2 M (iLst rs) := fun _ q x y S H Q e m h1 h2 o => by
  obtain ⟨xs, p, g⟩ := h x y S H e m h1 h2
  exact g Q fun a ha => o (.ref a) (upd S a (.lst xs)) _ (iLst rs) M q (Stp.newS e m ha) ⟨a, xs, rfl, upd_same, p.mono (Same.newS (Same.refl _) (e.free ha))⟩
theorem o_cat {r1 r2 : List Rep} (h : r1.length + r2.length ≤ 1000000) : O2p rCat (iLst r1) (iLst r2) M (iLst (r1 ++ r2)) := o2_newL fun x y S H e _ h1 h2 => by
  obtain ⟨a, xs, rfl, q1, q2⟩ := h1
  obtain ⟨b, ys, rfl, q3, q4⟩ := h2
  exact ⟨xs ++ ys, q2.app q4, fun Q q => ⟨a, b, xs, ys, rfl, rfl, e _ _ q1, e _ _ q3, by rw [q2.len, q4.len]; exact sz_le h, q⟩⟩
theorem ol_newL {rl : List V → Hp → VK → Prop} {Rs rs : List Rep} (h : ∀ xs S H, Same S H → MOk S H M → All2 S Rs xs → ∃ ys, All2 S rs ys ∧ ∀ Q : VK, (∀ p, H p = none → Q (.ref p) (upd H p (.lst ys))) → rl xs H Q) : Olp rl Rs M (iLst rs) := fun _ q xs S H Q e m h1 o => by
  obtain ⟨ys, p, g⟩ := h xs S H e m h1
  exact g Q fun a ha => o (.ref a) (upd S a (.lst ys)) _ (iLst rs) M q (Stp.newS e m ha) ⟨a, ys, rfl, upd_same, p.mono (Same.newS (Same.refl _) (e.free ha))⟩
theorem ol_newT {rl : List V → Hp → VK → Prop} {Rs rs : List Rep} (h : ∀ xs S H, Same S H → MOk S H M → All2 S Rs xs → ∃ ys, All2 S rs ys ∧ ∀ Q : VK, (∀ p, H p = none → Q (.ref p) (upd H p (.tup ys))) → rl xs H Q) : Olp rl Rs M (aTup K rs) := fun _ q xs S H Q e m h1 o => by
  obtain ⟨ys, p, g⟩ := h xs S H e m h1
  exact g Q fun a ha => o (.ref a) (upd S a (.tup ys)) _ (aTup K rs) M q (Stp.newS e m ha) ⟨a, ys, rfl, SqT.of upd_same, p.mono (Same.newS (Same.refl _) (e.free ha))⟩
def rListOf (K : PySem.W.Frag) : List V → Hp → VK → Prop := fun xs H Q => ∃ p ys, xs = [.ref p] ∧ (SqL K H p ys ∨ SqT K H p ys) ∧ ∀ l, H l = none → Q (.ref l) (upd H l (.lst ys))
def rTupOf (K : PySem.W.Frag) : List V → Hp → VK → Prop := fun xs H Q => ∃ p ys, xs = [.ref p] ∧ ((SqL K H p ys ∧ ∀ l, H l = none → Q (.ref l) (upd H l (.tup ys))) ∨ (SqT K H p ys ∧ Q (.ref p) H))
theorem c_listL {rs : List Rep} : Olp (rListOf K) [iLst rs] M (iLst rs) := ol_newL fun xs S H e _ h => by
  obtain ⟨v, rfl, a, ys, rfl, q1, q2⟩ := all2_1 h
  exact ⟨ys, q2, fun Q q => ⟨a, ys, rfl, .inl (SqL.of (e _ _ q1)), q⟩⟩
theorem c_listT {rs : List Rep} : Olp (rListOf K) [aTup K rs] M (iLst rs) := ol_newL fun xs S H e _ h => by
  obtain ⟨v, rfl, a, ys, rfl, q1, q2⟩ := all2_1 h
  exact ⟨ys, q2, fun Q q => ⟨a, ys, rfl, .inr (Same.sqt e q1), q⟩⟩
theorem c_tupL {rs : List Rep} : Olp (rTupOf K) [iLst rs] M (aTup K rs) := ol_newT fun xs S H e _ h => by
  obtain ⟨v, rfl, a, ys, rfl, q1, q2⟩ := all2_1 h
  exact ⟨ys, q2, fun Q q => ⟨a, ys, rfl, .inl ⟨SqL.of (e _ _ q1), q⟩⟩⟩
theorem c_tupT {rs : List Rep} : Olp (rTupOf K) [aTup K rs] M (aTup K rs) := ol_val fun xs S H e _ h => by
  obtain ⟨v, rfl, a, ys, rfl, q1, q2⟩ := all2_1 h
  exact ⟨.ref a, ⟨a, ys, rfl, q1, q2⟩, fun Q q => ⟨a, ys, rfl, .inr ⟨Same.sqt e q1, q⟩⟩⟩
/-- list(..) as a new object that is to be changed -/
theorem ev_listM {rs : List Rep} (h : Ev E ta Γ M (fun R M1 => (R = iLst rs ∨ R = aTup K rs) ∧ ∀ a, k (iRef a) (M1 ++ [(a, mLst rs)])) X) : Ev E (tCB (rListOf K) (tCons ta tNil)) Γ M k X := fun σ S H Q I o ox =>
  h σ S H _ I (fun v S1 H1 R M1 ⟨hR, q⟩ st p => by
    rcases hR with e | e
    · subst e
      obtain ⟨a, xs, rfl, q1, q2⟩ := p
      exact ⟨a, xs, rfl, .inl (SqL.of (st.e _ _ q1)), fun l hl => o (.ref l) S1 _ (iRef l) _ (q l) (st.trans (Stp.newM st.e st.m hl ⟨xs, rfl, q2⟩)) rfl⟩
    · subst e
      obtain ⟨a, xs, rfl, q1, q2⟩ := p
      exact ⟨a, xs, rfl, .inr (Same.sqt st.e q1), fun l hl => o (.ref l) S1 _ (iRef l) _ (q l) (st.trans (Stp.newM st.e st.m hl ⟨xs, rfl, q2⟩)) rfl⟩) ox

/-! ### slices -/
def Eo (E : XK) (to : TO) (Γ : Ct) (M : SH) (o : Option Int) : Prop := ∀ σ S H (Q : Option Int → Hp → Prop), Nv S H σ Γ M → (∀ S2 H2, Stp S H S2 H2 M M → Q o H2) → to σ H Q
theorem eo_none : Eo E tNoPart Γ M none := fun σ S H Q I o => o S H (Stp.refl I.ex I.m)
theorem eo_some {i : Int} (h : Ep E te Γ M (iInt i)) (hE : ∀ c d H, E c d H → False := by first | (intro _ _ _ h; exact h.elim) | assumption) : Eo E (tPart te) Γ M (some i) := fun σ S H Q I o =>
  h (fun R M' => R = iInt i ∧ M' = M) X0 ⟨rfl, rfl⟩ σ S H _ I (fun v S2 H2 R M2 ⟨e1, e2⟩ st p => by
    subst e1; subst e2; cases p
    exact ⟨i, rfl, o S2 H2 st⟩) (fun _ _ _ _ _ _ z => z.elim)
theorem eo_someX {i : Int} (h : Ep E te Γ M (iInt i)) : Eo E (tPart te) Γ M (some i) := fun σ S H Q I o =>
  h (fun R M' => R = iInt i ∧ M' = M) X0 ⟨rfl, rfl⟩ σ S H _ I (fun v S2 H2 R M2 ⟨e1, e2⟩ st p => by
    subst e1; subst e2; cases p
    exact ⟨i, rfl, o S2 H2 st⟩) (fun _ _ _ _ _ _ z => z.elim)
/-- what a slice leaves -/
def cutL {α : Type} (l : List α) (lo hi : Option Int) : List α := (l.drop (HT.sIx l.length 0 lo)).take (HT.sIx l.length l.length hi - HT.sIx l.length 0 lo)
theorem All2.cut {S : Hp} {rs : List Rep} {xs : List V} (h : All2 S rs xs) (lo hi : Option Int) : All2 S (cutL rs lo hi) (cutV xs lo hi) := by
  unfold cutL cutV
  rw [h.len]
  exact (h.drop _).take _
theorem cutL_map {α β : Type} (f : α → β) (l : List α) (lo hi : Option Int) : cutL (l.map f) lo hi = (cutL l lo hi).map f := by
  unfold cutL
  rw [List.length_map, List.map_take, List.map_drop]
theorem ep_sl {r : V → Option Int → Option Int → Hp → VK → Prop} {tlo thi : TO} {lo hi : Option Int} (h : Ep E te Γ M R1) (h1 : Eo E tlo Γ M lo) (h2 : Eo E thi Γ M hi) (hr : ∀ k : KR, k R M → ∀ x S H Q, Same S H → MOk S H M → R1.p S x → Out S H M k Q → r x lo hi H Q) : Ep E (tSl r te tlo thi) Γ M R := fun k X q σ S H Q I o ox =>
  h (fun R' M' => R' = R1 ∧ M' = M) X ⟨rfl, rfl⟩ σ S H _ I (fun v S1 H1 R' M1 ⟨e1, e2⟩ st p => by
    subst e1; subst e2
    exact h1 σ S1 H1 _ (I.step st) fun S2 H2 st2 => h2 σ S2 H2 _ (I.step (st.trans st2)) fun S3 H3 st3 =>
      hr k q v S3 H3 Q st3.e st3.m (R'.m (st2.s.trans st3.s) p) (o.step ((st.trans st2).trans st3))) ox
theorem s_list {rs : List Rep} {lo hi : Option Int} : ∀ k : KR, k (iLst (cutL rs lo hi)) M → ∀ x S H Q, Same S H → MOk S H M → (iLst rs).p S x → Out S H M k Q → rSlL K x lo hi H Q := fun k q x S H Q e m p o => by
  obtain ⟨a, xs, rfl, q1, q2⟩ := p
  exact ⟨a, xs, rfl, SqL.of (e _ _ q1), fun b hb => o (.ref b) (upd S b (.lst (cutV xs lo hi))) _ _ M q (Stp.newS e m hb) ⟨b, _, rfl, upd_same, (q2.cut lo hi).mono (Same.newS (Same.refl _) (e.free hb))⟩⟩
theorem s_scr {ns : List Int} {lo hi : Option Int} : ∀ k : KR, k (iLst ((cutL ns lo hi).map iInt)) M → ∀ x S H Q, Same S H → MOk S H M → (iScr K ns).p S x → Out S H M k Q → rSlL K x lo hi H Q := fun k q x S H Q e m p o => by
  obtain ⟨a, rfl, q1⟩ := p
  refine ⟨a, _, rfl, Same.sql e q1, fun b hb => o (.ref b) (upd S b (.lst (cutV (ns.map V.int) lo hi))) _ _ M q (Stp.newS e m hb) ⟨b, _, rfl, upd_same, ?_⟩⟩
  rw [← cutL_map]
  exact ((All2.unflat (S := S) (r := iInt) (g := V.int) (fun _ => rfl) ns).cut lo hi).mono (Same.newS (Same.refl _) (e.free hb))
theorem s_str {z : Str} {lo hi : Option Int} (hz : z.length ≤ 1000000) : ∀ k : KR, k (aStr (cutS z lo hi)) M → ∀ x S H Q, Same S H → MOk S H M → (aStr z).p S x → Out S H M k Q → rSlS x lo hi H Q := fun k q x S H Q e m p o => by
  cases p
  exact ⟨z, rfl, sz_le hz, o _ S H _ M q (Stp.refl e m) rfl⟩
theorem ep_rev {rs : List Rep} (h : Ep E te Γ M (iLst rs)) : Ep E (tRevL K te) Γ M (iLst rs.reverse) := fun k X q σ S H Q I o ox =>
  h (fun R' M' => R' = iLst rs ∧ M' = M) X ⟨rfl, rfl⟩ σ S H _ I (fun v S1 H1 R' M1 ⟨e1, e2⟩ st p => by
    subst e1; subst e2
    obtain ⟨a, xs, rfl, q1, q2⟩ := p
    exact ⟨a, xs, rfl, SqL.of (st.e _ _ q1), fun b hb => o (.ref b) (upd S1 b (.lst xs.reverse)) _ (iLst rs.reverse) _ q (st.trans (Stp.newS st.e st.m hb)) ⟨b, _, rfl, upd_same, q2.rev.mono (Same.newS (Same.refl _) (st.e.free hb))⟩⟩) ox

/-! ### all, any, in -/
theorem c_all {bs : List Bool} : Olp (rAll K) [iLst (bs.map iBl)] M (iBl (bs.all id)) := ol_val fun xs S H e _ h => by
  obtain ⟨v, rfl, a, ys, rfl, q1, q2⟩ := all2_1 h
  rw [All2.flat (r := iBl) (g := V.bl) (fun _ _ h => h) q2] at q1
  exact ⟨_, rfl, fun Q q => ⟨a, bs, rfl, SqL.of (e _ _ q1), q⟩⟩
theorem c_any {bs : List Bool} : Olp (rAny K) [iLst (bs.map iBl)] M (iBl (bs.any id)) := ol_val fun xs S H e _ h => by
  obtain ⟨v, rfl, a, ys, rfl, q1, q2⟩ := all2_1 h
  rw [All2.flat (r := iBl) (g := V.bl) (fun _ _ h => h) q2] at q1
  exact ⟨_, rfl, fun Q q => ⟨a, bs, rfl, SqL.of (e _ _ q1), q⟩⟩
theorem inV_str (x : Str) : ∀ l : List Str, inV (.str x) (l.map V.str) = decide (x ∈ l)
  | [] => by simp [inV]
  | y :: l => by
    have ih := inV_str x l
    unfold inV at ih ⊢
    rw [List.map_cons, List.any_cons, ih]
    have e : eqV (V.str y) (V.str x) = decide (x = y) := by
      unfold eqV
      by_cases h : x = y
      · subst h; simp
      · have h' : ¬ y = x := fun z => h z.symm
        simp [h, h']
    rw [e]
    by_cases h : x = y
    · simp [h]
    · simp [h]
theorem all_flat_str (l : List Str) : (l.map V.str).all flatV = true := by
  rw [List.all_eq_true]
  intro v hv
  obtain ⟨x, _, rfl⟩ := List.mem_map.mp hv
  rfl
theorem o_inS {x : Str} {l : List Str} : O2p (rIn K false) (aStr x) (iLst (l.map aStr)) M (iBl (decide (x ∈ l))) := o2_val fun v y S H e _ h1 h2 => by
  cases h1
  obtain ⟨a, xs, rfl, q1, q2⟩ := h2
  rw [All2.flat (r := aStr) (g := V.str) (fun _ _ h => h) q2] at q1
  exact ⟨_, rfl, fun Q q => ⟨a, _, rfl, .inl (SqL.of (e _ _ q1)), rfl, all_flat_str l, by rw [if_neg Bool.false_ne_true, inV_str]; exact q⟩⟩
theorem o_ninS {x : Str} {l : List Str} : O2p (rIn K true) (aStr x) (iLst (l.map aStr)) M (iBl (!decide (x ∈ l))) := o2_val fun v y S H e _ h1 h2 => by
  cases h1
  obtain ⟨a, xs, rfl, q1, q2⟩ := h2
  rw [All2.flat (r := aStr) (g := V.str) (fun _ _ h => h) q2] at q1
  exact ⟨_, rfl, fun Q q => ⟨a, _, rfl, .inl (SqL.of (e _ _ q1)), rfl, all_flat_str l, by rw [if_pos rfl, inV_str]; exact q⟩⟩
theorem o_isN (d : Bool) (h : ∀ S v, R.p S v → decide (v = V.non) = d) : O2p (fun x y H Q => y = .non ∧ Q (.bl (decide (x = .non))) H) R iNon M (iBl d) := o2_val fun x y S H _ _ h1 h2 => by
  cases h2
  exact ⟨_, rfl, fun Q q => ⟨rfl, by rw [h S x h1]; exact q⟩⟩
theorem o_notN (d : Bool) (h : ∀ S v, R.p S v → decide (v = V.non) = d) : O2p (fun x y H Q => y = .non ∧ Q (.bl (!decide (x = .non))) H) R iNon M (iBl (!d)) := o2_val fun x y S H _ _ h1 h2 => by
  cases h2
  exact ⟨_, rfl, fun Q q => ⟨rfl, by rw [h S x h1]; exact q⟩⟩

/-! ### texts -/
theorem om_join {z : Str} {l : List Str} (hz : (l.map (·.length)).sum + l.length * z.length ≤ 16000000) : Omp (fun x xs H Q => ∃ a p, ∃ ys : List Str, x = .str a ∧ xs = [.ref p] ∧ (SqL K H p (ys.map V.str) ∨ SqT K H p (ys.map V.str)) ∧
    (ys.map (·.length)).sum + ys.length * a.length ≤ 16777216 ∧ Q (.str (Txt.join a ys)) H) (aStr z) [iLst (l.map aStr)] M (aStr (Txt.join z l)) := om_val fun x xs S H e _ h1 h2 => by
  cases h1
  obtain ⟨v, rfl, a, ys, rfl, q1, q2⟩ := all2_1 h2
  rw [All2.flat (r := aStr) (g := V.str) (fun _ _ h => h) q2] at q1
  exact ⟨_, rfl, fun Q q => ⟨z, a, l, rfl, rfl, .inl (SqL.of (e _ _ q1)), by omega, q⟩⟩
theorem ev_tM1 {r : V → List V → Hp → VK → Prop} (h : Ev E ta Γ M (fun R M1 => ∃ z, R = aStr z ∧ Ev E te Γ M1 (fun R2 M2 => Om r (aStr z) [R2] M2 k) X) X) : Ev E (tM1 r ta te) Γ M k X := fun σ S H Q I o ox =>
  h σ S H _ I (fun v S1 H1 R1 M1 ⟨z, e, q⟩ st p => by
    subst e
    have p' := p
    cases p
    exact ⟨⟨z, rfl⟩, q σ S1 H1 _ (I.step st) (fun y S2 H2 R2 M2 q2 st2 p2 => q2 _ _ S2 H2 Q st2.e st2.m ((aStr z).m st2.s p') ⟨p2, True.intro⟩ (o.step (st.trans st2))) (ox.step st)⟩) ox
theorem ep_tM1 {r : V → List V → Hp → VK → Prop} {z : Str} (h : Ep E ta Γ M (aStr z)) (h2 : Ep E te Γ M R2) (hr : Omp r (aStr z) [R2] M R) : Ep E (tM1 r ta te) Γ M R := fun k X q => ev_tM1 (h _ _ ⟨z, rfl, h2 _ _ (hr _ q)⟩)
theorem op_mulS {X : Cx} : OpR X (binaryOp .Mult) (fun x y H Q => ∃ z n, x = .str z ∧ y = .int n ∧ MulOk z n ∧ Q (.str (Txt.mul z n)) H) := by
  intro pins s σ H x y v u Q I rx ry h
  obtain ⟨z, n, rfl, rfl, hm, q⟩ := h
  obtain ⟨t, rfl⟩ := rx
  obtain ⟨t', rfl⟩ := ry
  exact SB.mul hm fun t2 k => ⟨.str _, H, I.tok k, ⟨_, rfl⟩, q⟩
theorem mulOk_01 {z : Str} {n : Int} (h0 : 0 ≤ n) (h1 : n ≤ 1) : MulOk z n := by
  refine ⟨by simp; omega, fun h2 h3 => ?_, fun h2 h3 => ?_⟩
  · have : n = 1 := by omega
    subst this
    simp at h3
  · have : n = 1 := by omega
    subst this
    simp at h3
theorem o_mulS {z : Str} {n : Int} (h : MulOk z n) : O2p (fun x y H Q => ∃ z n, x = .str z ∧ y = .int n ∧ MulOk z n ∧ Q (.str (Txt.mul z n)) H) (aStr z) (iInt n) M (aStr (Txt.mul z n)) := o2_val fun x y S H _ _ h1 h2 => by
  cases h1; cases h2
  exact ⟨_, rfl, fun Q q => ⟨z, n, rfl, rfl, h, q⟩⟩

/-! ### mutable lists -/
/-- f(l, ..) of a list's method -/
theorem ev_bm {T : String} {r : V → List V → Hp → VK → Prop} (h : Ev E ta Γ M (fun R1 M1 => (∀ x S H, Same S H → MOk S H M1 → R1.p S x → tyV K T x H) ∧ Ea E tr Γ M1 (fun Rs M2 => Om r R1 Rs M2 k) X) X) : Ev E (tBM K T r ta tr) Γ M k X := fun σ S H Q I o ox =>
  h σ S H _ I (fun v S1 H1 R1 M1 ⟨ty, q⟩ st p => ⟨ty v S1 H1 st.e st.m p, q σ S1 H1 _ (I.step st) (fun ys S2 H2 Rs M2 q2 st2 p2 => q2 v ys S2 H2 Q st2.e st2.m (R1.m st2.s p) p2 (o.step (st.trans st2))) (ox.step st)⟩) ox
theorem ev_bm0 {T : String} {r : V → List V → Hp → VK → Prop} (h : Ev E ta Γ M (fun R1 M1 => (∀ x S H, Same S H → MOk S H M1 → R1.p S x → tyV K T x H) ∧ Om r R1 [] M1 k) X) : Ev E (tBM0 K T r ta) Γ M k X := fun σ S H Q I o ox =>
  h σ S H _ I (fun v S1 H1 R1 M1 ⟨ty, q⟩ st p => ⟨ty v S1 H1 st.e st.m p, q v [] S1 H1 Q st.e st.m p True.intro (o.step st)⟩) ox
theorem ty_mLst {a : Addr} {rs : List Rep} (hm : (a, mLst rs) ∈ M) : ∀ x S H, Same S H → MOk S H M → (iRef a).p S x → tyV K "list" x H := fun x S H e m p => by
  cases p
  obtain ⟨_, o, ho, xs, rfl, _⟩ := m.at_ _ _ hm
  exact .inl ⟨rfl, xs, SqL.of ho⟩
theorem ty_lst {rs : List Rep} : ∀ x S H, Same S H → MOk S H M → (iLst rs).p S x → tyV K "list" x H := fun x S H e m p => by
  obtain ⟨a, xs, rfl, q1, q2⟩ := p
  exact .inl ⟨rfl, xs, SqL.of (e _ _ q1)⟩
/-- l.append(e), l at place A of the symbolic heap -/
theorem om_append {A B : SH} {a : Addr} {rs : List Rep} (hl : rs.length < 1000000) (q : k iNon (A ++ (a, mLst (rs ++ [R])) :: B)) : Om rAppend (iRef a) [R] (A ++ (a, mLst rs) :: B) k := fun x xs S H Q e m h1 h2 o => by
  cases h1
  obtain ⟨v, rfl, p⟩ := all2_1 h2
  obtain ⟨_, ob, ho, ys, rfl, py⟩ := m.at_ a (mLst rs) (by simp)
  exact ⟨a, ys, v, rfl, rfl, ho, by rw [py.len]; exact sz_lt (by omega), o .non S _ iNon _ q (Stp.wrM e m ⟨_, rfl, py.app (All2.one p)⟩) rfl⟩
theorem om_reverse {A B : SH} {a : Addr} {rs : List Rep} (q : k iNon (A ++ (a, mLst rs.reverse) :: B)) : Om rReverse (iRef a) [] (A ++ (a, mLst rs) :: B) k := fun x xs S H Q e m h1 h2 o => by
  cases h1
  have : xs = [] := by
    cases xs with
    | nil => rfl
    | cons _ _ => exact h2.elim
  subst this
  obtain ⟨_, ob, ho, ys, rfl, py⟩ := m.at_ a (mLst rs) (by simp)
  exact ⟨a, ys, rfl, rfl, ho, o .non S _ iNon _ q (Stp.wrM e m ⟨_, rfl, py.rev⟩) rfl⟩
theorem om_clear {A B : SH} {a : Addr} {rs : List Rep} (q : k iNon (A ++ (a, mLst []) :: B)) : Om rClear (iRef a) [] (A ++ (a, mLst rs) :: B) k := fun x xs S H Q e m h1 h2 o => by
  cases h1
  have : xs = [] := by
    cases xs with
    | nil => rfl
    | cons _ _ => exact h2.elim
  subst this
  obtain ⟨_, ob, ho, ys, rfl, py⟩ := m.at_ a (mLst rs) (by simp)
  exact ⟨a, ys, rfl, rfl, ho, o .non S _ iNon _ q (Stp.wrM e m ⟨_, rfl, True.intro⟩) rfl⟩
theorem om_extend {A B : SH} {a : Addr} {rs qs : List Rep} (hl : rs.length + qs.length ≤ 1000000) (q : k iNon (A ++ (a, mLst (rs ++ qs)) :: B)) : Om rExtend (iRef a) [iLst qs] (A ++ (a, mLst rs) :: B) k := fun x xs S H Q e m h1 h2 o => by
  cases h1
  obtain ⟨v, rfl, b, zs, rfl, hb, pz⟩ := all2_1 h2
  obtain ⟨_, ob, ho, ys, rfl, py⟩ := m.at_ a (mLst rs) (by simp)
  exact ⟨a, b, ys, zs, rfl, rfl, ho, e _ _ hb, by rw [py.len, pz.len]; exact sz_le hl, o .non S _ iNon _ q (Stp.wrM e m ⟨_, rfl, py.app pz⟩) rfl⟩
/-- l[i] = v -/
theorem tg_subM {A B : SH} {a : Addr} {rs : List Rep} {to ti : TE} {i : Int} {j : Nat} {kc : KC} (ho : Ep E0 to Γ (A ++ (a, mLst rs) :: B) (iRef a)) (hi : Ep E0 ti Γ (A ++ (a, mLst rs) :: B) (iInt i)) (hj : ixN rs.length i = some j) (q : kc Γ (A ++ (a, mLst (rs.set j R)) :: B)) : Tg (gSub to ti rSetL) R Γ (A ++ (a, mLst rs) :: B) vs kc := fun v σ S H Q I p o =>
  ho (fun R' M' => R' = iRef a ∧ M' = A ++ (a, mLst rs) :: B) X0 ⟨rfl, rfl⟩ σ S H _ I (fun x S1 H1 R1 M1 ⟨e1, e2⟩ st p1 => by
    subst e1; subst e2; cases p1
    exact hi (fun R' M' => R' = iInt i ∧ M' = A ++ (a, mLst rs) :: B) X0 ⟨rfl, rfl⟩ σ S1 H1 _ (I.step st) (fun y S2 H2 R2 M2 ⟨e1, e2⟩ st2 p2 => by
      subst e1; subst e2; cases p2
      have s2 := st.trans st2
      obtain ⟨_, ob, hob, ys, rfl, py⟩ := s2.m.at_ a (mLst rs) (by simp)
      have w := Stp.wrM (P' := mLst (rs.set j R)) s2.e s2.m ⟨_, rfl, py.set (R.m s2.s p) j⟩
      exact ⟨a, ys, i, j, rfl, rfl, hob, by rw [py.len]; exact hj, o σ S2 _ Γ _ q (s2.trans w) (I.step (s2.trans w)) fun _ => rfl⟩) (fun _ _ _ _ _ _ z => z.elim)) (fun _ _ _ _ _ _ z => z.elim)

/-! ### the symbolic heap: opened, closed, made stable -/
theorem st_perm {M' : SH} (h : M.Perm M') (q : St E t Γ M' D) : St E t Γ M D := fun σ S H D0 I o =>
  q σ S H D0 ⟨I.ex, I.len, I.sl, I.m.perm h⟩ ⟨fun a b c d e k st I2 => o.nx a b c d e k (st.permL h) I2, fun a b c d e k st p => o.rt a b c d e k (st.permL h) p, fun a b c d e k st I2 => o.bk a b c d e k (st.permL h) I2, fun a b c d e k st I2 => o.ct a b c d e k (st.permL h) I2, fun a b c d e f k st p => o.ex a b c d e f k (st.permL h) p⟩
/-- the slots' and the heap's words weakened -/
theorem Stp.wkL {S H S2 H2 : Hp} {A B M2 : SH} {a : Addr} {P P' : MRep} (st : Stp S H S2 H2 (A ++ (a, P') :: B) M2) : Stp S H S2 H2 (A ++ (a, P) :: B) M2 := by
  have e : dm (A ++ (a, P) :: B) = dm (A ++ (a, P') :: B) := by simp [dm]
  exact ⟨st.s, st.e, fun b h1 h2 => by rw [e]; exact st.new b h1 h2, fun b o h1 h2 => st.fr b o (by rw [← e]; exact h1) h2, st.m, fun b hb => by rw [e]; exact st.dn b hb⟩
theorem MOk.re {S H : Hp} {A B : SH} {a : Addr} {P P' : MRep} (m : MOk S H (A ++ (a, P) :: B)) (h : ∀ o, P.p S o → P'.p S o) : MOk S H (A ++ (a, P') :: B) := by
  have e : dm (A ++ (a, P) :: B) = dm (A ++ (a, P') :: B) := by simp [dm]
  refine ⟨fun b Q hq => ?_, by rw [← e]; exact m.nd⟩
  rcases List.mem_append.mp hq with hq | hq
  · exact m.at_ b Q (List.mem_append_left _ hq)
  · rcases List.mem_cons.mp hq with hq | hq
    · cases hq
      obtain ⟨z, o, ho, p⟩ := m.at_ a P (by simp)
      exact ⟨z, o, ho, h o p⟩
    · exact m.at_ b Q (List.mem_append_right _ (List.mem_cons_of_mem _ hq))
theorem st_open {α : Type} {A B : SH} {a : Addr} {P : MRep} (P' : α → MRep) (h : ∀ S o, P.p S o → ∃ x, (P' x).p S o) (q : ∀ x, St E t Γ (A ++ (a, P' x) :: B) D) : St E t Γ (A ++ (a, P) :: B) D := fun σ S H D0 I o => by
  obtain ⟨_, ob, ho, p⟩ := I.m.at_ a P (by simp)
  obtain ⟨x, px⟩ := h S ob p
  have m' : MOk S H (A ++ (a, P' x) :: B) := by
    have e : dm (A ++ (a, P) :: B) = dm (A ++ (a, P' x) :: B) := by simp [dm]
    have m := I.m
    refine ⟨fun b Q hq => ?_, by rw [← e]; exact m.nd⟩
    rcases List.mem_append.mp hq with hq | hq
    · exact m.at_ b Q (List.mem_append_left _ hq)
    · rcases List.mem_cons.mp hq with hq | hq
      · cases hq
        exact ⟨(m.at_ a P (by simp)).1, ob, ho, px⟩
      · exact m.at_ b Q (List.mem_append_right _ (List.mem_cons_of_mem _ hq))
  exact q x σ S H D0 ⟨I.ex, I.len, I.sl, m'⟩ ⟨fun a b c d e k st I2 => o.nx a b c d e k st.wkL I2, fun a b c d e k st p => o.rt a b c d e k st.wkL p, fun a b c d e k st I2 => o.bk a b c d e k st.wkL I2, fun a b c d e k st I2 => o.ct a b c d e k st.wkL I2, fun a b c d e f k st p => o.ex a b c d e f k st.wkL p⟩
/-- the ends may be said of a weaker heap -/
def KR.dn (k : KR) : KR := fun R M => ∃ A B a, ∃ P P' : MRep, M = A ++ (a, P) :: B ∧ (∀ S o, P.p S o → P'.p S o) ∧ k R (A ++ (a, P') :: B)
theorem out_dn {S H : Hp} {Q : VK} (o : Out S H M k Q) : Out S H M (KR.dn k) Q := fun v S2 H2 R M2 ⟨A, B, a, P, P', e, h, q⟩ st p => by
  subst e
  refine o v S2 H2 R _ q ⟨st.s, st.e, st.new, st.fr, st.m.re (h S2), fun b hb => ?_⟩ p
  have e : dm (A ++ (a, P') :: B) = dm (A ++ (a, P) :: B) := by simp [dm]
  exact st.dn b (by rw [← e]; exact hb)
theorem ev_dn (h : Ev E te Γ M (KR.dn k) X) : Ev E te Γ M k X := fun σ S H Q I o ox => h σ S H Q I (out_dn o) ox
theorem st_close {D' : EndT} {A B : SH} {a : Addr} {P P' : MRep} (h : ∀ S o, P.p S o → P'.p S o) (q : St E t Γ (A ++ (a, P') :: B) D) : St E t Γ (A ++ (a, P) :: B) D := fun σ S H D0 I o =>
  q σ S H D0 ⟨I.ex, I.len, I.sl, I.m.re (h S)⟩ ⟨fun a b c d e k st I2 => o.nx a b c d e k st.wkL I2, fun a b c d e k st p => o.rt a b c d e k st.wkL p, fun a b c d e k st I2 => o.bk a b c d e k st.wkL I2, fun a b c d e k st I2 => o.ct a b c d e k st.wkL I2, fun a b c d e f k st p => o.ex a b c d e f k st.wkL p⟩
/-- a mutable list whose name is read as a value is stable from then on -/
theorem ev_fzL {A B : SH} (h : Ev E te Γ M (fun R M1 => ∃ a rs A B, R = iRef a ∧ M1 = A ++ (a, mLst rs) :: B ∧ k (iLst rs) (A ++ B)) X) : Ev E te Γ M k X := fun σ S H Q I o ox =>
  h σ S H Q I (fun v S2 H2 R M2 ⟨a, rs, A, B, e1, e2, q⟩ st p => by
    subst e1; subst e2; cases p
    obtain ⟨_, ob, ho, xs, rfl, px⟩ := st.m.at_ a (mLst rs) (by simp)
    have f := Stp.fz st.e st.m ho
    exact o (.ref a) _ H2 (iLst rs) _ q (st.trans f) ⟨a, xs, rfl, upd_same, px.mono f.s⟩) ox
/-- slots that hold it are told anew -/
theorem st_fzL {A B : SH} {a : Addr} {rs : List Rep} (h : ∀ Γ' : Ct, Γ' = Γ.map (fun r => r) → St E t Γ' (A ++ B) D) : St E t Γ (A ++ (a, mLst rs) :: B) D := fun σ S H D0 I o => by
  obtain ⟨_, ob, ho, xs, rfl, px⟩ := I.m.at_ a (mLst rs) (by simp)
  have f := Stp.fz I.ex I.m ho
  exact h Γ (by simp) σ _ H D0 (I.step f) (o.step f)
/-- .. slot i holds a stable list from then on -/
theorem st_fzS {A B : SH} {a : Addr} {rs : List Rep} {i : Nat} (hi : Γ[i]? = some (some (iRef a))) (h : St E t (Γ.set i (some (iLst rs))) (A ++ B) D) : St E t Γ (A ++ (a, mLst rs) :: B) D := fun σ S H D0 I o => by
  obtain ⟨_, ob, ho, xs, rfl, px⟩ := I.m.at_ a (mLst rs) (by simp)
  have f := Stp.fz I.ex I.m ho
  have I2 := I.step f
  obtain ⟨v, h1, h2⟩ := I.sl i _ hi
  cases h2
  have I3 : Nv (upd S a (.lst xs)) H σ (Γ.set i (some (iLst rs))) (A ++ B) := by
    refine ⟨I2.ex, by rw [List.length_set]; exact I2.len, fun j R e => ?_, I2.m⟩
    by_cases hj : i = j
    · subst hj
      have hl : i < Γ.length := (List.getElem?_eq_some_iff.mp hi).1
      rw [List.getElem?_set_self hl] at e
      cases e
      exact ⟨.ref a, h1, a, xs, rfl, upd_same, px.mono f.s⟩
    · rw [List.getElem?_set_ne hj] at e
      exact I2.sl j R e
  exact h σ _ H D0 I3 (o.step f)
theorem ite_b {b : Bool} {P Q : Prop} (h1 : b = true → P) (h2 : b = false → Q) : if b = true then P else Q := by
  cases b with
  | true => simpa using h1 rfl
  | false => simpa using h2 rfl
end

/-- a comprehension's target of two names -/
theorem blk_tup2 {X : Cx} {i j : Nat} {x y : Str} {scope : Scope} {px py tpos : Pos} {kk : Nat} (hN : X.N.Nodup) (hc : X.calm = true := by rfl) (hi : X.N[i]? = some x := by rfl) (hj : X.N[j]? = some y := by rfl)
    (hx : ∀ C cl, (compEnvC scope cl C X.env).scope.names.lookup x = some .local := by intro _ _; rfl) (hy : ∀ C cl, (compEnvC scope cl C X.env).scope.names.lookup y = some .local := by intro _ _; rfl) (s : Shared) (H : Hp) (C : Addr) (cl : List (Str × Addr)) (fp : List Addr) :
    PG (X.blk s H scope (compEnvC scope cl C X.env) fp) (.Tuple [.Name x px, .Name y py] kk tpos) (gTup X.K 2 (gCons (gName i) (gCons (gName j) gNil))) :=
  pg_tup (X := X.blk s H scope (compEnvC scope cl C X.env) fp) hc (pgs_cons (pg_name hN hi (.inl (hx C cl)) (.inr (hx C cl))) (pgs_cons (pg_name hN hj (.inl (hy C cl)) (.inr (hy C cl))) pgs_nil))
/-- a module's constant -/
theorem pe_gc {X : Cx} {x : Str} {v : V} {pos : Pos} (hg : Gl X x) (h : ∃ u, X.mg x = some u ∧ RelV v u) (hd : (x == ("__debug__" : Str)) = false := by decide) : PE X (.Name x pos) (tC v) := by
  obtain ⟨u, h1, h2⟩ := h
  exact pe_glob hg h1 h2 hd
/-! ### what may be called by its name -/
structure Cl (P : Program) (w : World) (K : PySem.W.Frag) (mg : Str → Option Value) (base : Heap) (CX : CXT) (k : Nat) (x : Str) (ts : TSp) (dvs : List V) : Prop where
  ex : ∃ (f : Addr) (fd : FuncData) (ps : List Str) (ds : List Value), FnOk P w K mg base CX k f fd ps (spT ts) ∧ mg x = some (.ref f) ∧ PySem.W.keepIn K (.ref f) = true ∧ Binds K fd ps ds ∧ Vals dvs ds
section
variable {X : Cx} {CX : CXT} {k j : Nat} {x : Str} {ts : TSp} {dvs : List V} {p pos : Pos} {e : Expr} {es : List Expr} {t : TA} {E : XK}
theorem pe_cl (c : Cl X.prog X.w X.K X.mg X.base CX k x ts dvs) (hr : Room j X.A) (hk : k ≤ j) (hx : Passes CX X E) (hg : Gl X x) (ha : PA X (e :: es) t)
    (hdb : (x == ("__debug__" : Str)) = false := by decide) (he : starEach (e :: es) X.env = (false, eval e X.env) :: starEach es X.env := by rfl) (hpl : (backTo pos (starEach es X.env)).any (·.1) = false := by rfl) :
    PE X (.Call (.Name x p) (e :: es) [] pos) (tCall (spT ts) dvs E t) := by
  obtain ⟨f, fd, ps, ds, F, hm, kp, b, d⟩ := c.ex
  exact pe_call F (hr.mono hk) hg hm kp b d hx ha hdb he hpl
theorem pe_cl0 (c : Cl X.prog X.w X.K X.mg X.base CX k x ts dvs) (hr : Room j X.A) (hk : k ≤ j) (hx : Passes CX X E) (hg : Gl X x)
    (hdb : (x == ("__debug__" : Str)) = false := by decide) : PE X (.Call (.Name x p) [] [] pos) (tCall (spT ts) dvs E tNil) := by
  obtain ⟨f, fd, ps, ds, F, hm, kp, b, d⟩ := c.ex
  exact pe_call0 F (hr.mono hk) hg hm kp b d hx hdb
end
section
variable {P : Program} {w : World} {K : PySem.W.Frag} {mg : Str → Option Value} {base : Heap}
/-- a def of the top without defaults -/
structure Df (K : PySem.W.Frag) (mg : Str → Option Value) (x : Str) (st : Stmt) (ps : List Str) (f : Addr) (fd : FuncData) : Prop where
  fn : Fun K x x st f fd
  mg : mg x = some (.ref f)
  bd : Binds K fd ps []
theorem cl_of {x : Str} {st : Stmt} {ps : List Str} {f : Addr} {fd : FuncData} {CX : CXT} {k : Nat} {ts : TSp} (d : Df K mg x st ps f fd) (F : FnOk P w K mg base CX k f fd ps (spT ts)) : Cl P w K mg base CX k x ts [] :=
  ⟨f, fd, ps, [], F, d.mg, d.fn.kp, d.bd, .nil⟩
theorem Cl.imp {x : Str} {CX : CXT} {k : Nat} {ts ts' : TSp} {dvs : List V} (c : Cl P w K mg base CX k x ts dvs) (h : ∀ Rs M k X, ts' Rs M k X → ts Rs M k X) : Cl P w K mg base CX k x ts' dvs := by
  obtain ⟨f, fd, ps, ds, F, hm, kp, b, d⟩ := c.ex
  refine ⟨f, fd, ps, ds, F.imp fun vs H Q E q => ?_, hm, kp, b, d⟩
  obtain ⟨S, Rs, M, k, X, h1, r⟩ := q
  exact ⟨S, Rs, M, k, X, h _ _ _ _ h1, r⟩
theorem Cl.mono {x : Str} {CX : CXT} {k j : Nat} {ts : TSp} {dvs : List V} (c : Cl P w K mg base CX k x ts dvs) (h : k ≤ j) : Cl P w K mg base CX j x ts dvs := by
  obtain ⟨f, fd, ps, ds, F, hm, kp, b, d⟩ := c.ex
  exact ⟨f, fd, ps, ds, F.mono h, hm, kp, b, d⟩
end
/-- the built-in names that the program's top leaves alone -/
structure Bt (mg : Str → Option Value) : Prop where
  len : mg "len" = none
  range : mg "range" = none
  list : mg "list" = none
  tuple : mg "tuple" = none
  max : mg "max" = none
  min : mg "min" = none
  all : mg "all" = none
  any : mg "any" = none
  zip : mg "zip" = none
  enumerate : mg "enumerate" = none
  isinstance : mg "isinstance" = none
  str : mg "str" = none
  int : mg "int" = none
  bool : mg "bool" = none
  sorted : mg "sorted" = none
  sum : mg "sum" = none
  repr : mg "repr" = none
  dict : mg "dict" = none
  set : mg "set" = none
/-! ### comprehensions over a text, over a range -/
section
variable {E : XK} {K : PySem.W.Frag} {Γ : Ct} {M : SH} {te ta tb tl : TE} {vs : List Nat} {tt : TT}
theorem given_all {α β : Type} (l : List α) (v : α → β) (d : α) : given l.length (fun _ => true) (fun i => v (l.getD i d)) = l.map v := by
  have := given_list l (fun _ => true) v d
  rw [this]
  congr 1
  simp
theorem ep_lcS {β : Type} {z : Str} {j : Nat} {g : Nat → β} {e' : β → Rep} (hi : Ep E tl Γ M (aStr z)) (hz : z.length ≤ 1000000) (hj : j ∈ vs)
    (he : ∀ c ∈ z.cps.toList, Ep E te ((wipeC Γ vs).set j (some (aStr ⟨#[c]⟩))) M (e' (g c))) : Ep E (tLc (L2.iStr tl) (gName j) tYes te vs) Γ M (iLst ((z.cps.toList.map g).map e')) := by
  refine Ep.to (R := iLst (given z.cps.size (fun _ => true) (fun i => e' (g (z.cps.toList.getD i 0))))) (ep_lc (fun z => by rw [z] at hj; cases hj) (tip_str hi) hz (fun _ => true) (fun i => e' (g (z.cps.toList.getD i 0))) (fun i r hi hr => ?_)) ?_
  · obtain ⟨c, hc, rfl⟩ := hr
    have h1 : z.cps.toList[i]? = some c := by rw [Array.getElem?_toList]; exact hc
    have h2 : z.cps.toList.getD i 0 = c := by rw [List.getD_eq_getElem?_getD, h1]; rfl
    rw [h2]
    exact tg_name ⟨rfl, etp_yes, fun _ => he c (List.mem_of_getElem? h1)⟩ (.inr hj)
  · congr 1
    have := given_all z.cps.toList (fun c => e' (g c)) 0
    rw [Array.length_toList] at this
    rw [this, List.map_map]
    rfl
end
end L3

namespace L3
open PySem L2 RZ PyProof.Rows
/-! ### the box of draws -/
structure BoxV where
  ns : List Int
  pos : Int
  big : Int
  seed : Int
  cnt : Int
  h1 : 0 ≤ pos
  h2 : 0 ≤ big
  h3 : 0 ≤ seed
  h4 : seed < 2147483629
  h5 : ns.length ≤ 1000
def BoxV.l (x : BoxV) : List Rep := [iLst (x.ns.map iInt), iInt x.pos, iInt x.big, iInt x.seed, iInt x.cnt]
def mBox : MRep := ⟨fun S o => ∃ x : BoxV, (mLst x.l).p S o, fun e ⟨x, h⟩ => ⟨x, (mLst x.l).m e h⟩, fun ⟨x, h⟩ => (mLst x.l).nt h⟩
def tsDraw : TSp := fun Rs M k _ => ∃ b n, Rs = [iRef b, iInt n] ∧ 0 < n ∧ n < 2 ^ 100 ∧ M = [(b, mBox)] ∧ ∀ r : Int, 0 ≤ r → r < n → k (iInt r) [(b, mBox)]
def tsBox (K : PySem.W.Frag) : TSp := fun Rs M k _ => ∃ ns, Rs = [iScr K ns] ∧ ns.length ≤ 63 ∧ M = [] ∧ ∀ b, k (iRef b) [(b, mBox)]
section
variable {E : XK} {K : PySem.W.Frag} {Γ : Ct} {M : SH} {k : KR} {X : KX} {R R1 R2 : Rep} {te ta tb tl : TE} {vs : List Nat} {D : EndT} {t u : TS} {c tt : TT} {tr : TA}
theorem o_ixH {i : Int} {a : Addr} {rs : List Rep} {F : SH} (h : atI rs i = some R) : O2p (rIxL K) (iRef a) (iInt i) ((a, mLst rs) :: F) R := o_ixM (List.mem_cons_self ..) h
theorem c_lenH {a : Addr} {rs : List Rep} {F : SH} : Olp (rLn K) [iRef a] ((a, mLst rs) :: F) (iInt rs.length) := c_lenM (List.mem_cons_self ..)
theorem st_dn (h : St E t Γ M { D with rt := KR.dn D.rt }) : St E t Γ M D := fun σ S H D0 I o => h σ S H D0 I ⟨o.nx, out_dn o.rt, o.bk, o.ct, o.ex⟩
theorem kdn {A B : SH} {a : Addr} {P P' : MRep} (h : ∀ S o, P.p S o → P'.p S o) (q : k R (A ++ (a, P') :: B)) : KR.dn k R (A ++ (a, P) :: B) := ⟨A, B, a, P, P', rfl, h, q⟩
/-- a call with the box and nothing else that is mutable, as the rest stands -/
theorem ev_callB {ts : TSp} {b : Addr} {F : SH} (h : Ea E tr Γ M (fun Rs M1 => ∃ F, M1 = (b, mBox) :: F ∧ ts Rs [(b, mBox)] (fun R M2 => k R (M2 ++ F)) X0) X) : Ev E (tCall (spT ts) [] E0 tr) Γ M k X :=
  ev_call0 (Ds := []) (fun _ => True.intro) (fun σ S H Q I o ox => h σ S H Q I (fun vs S2 H2 Rs M2 ⟨F, e, q⟩ st p => o vs S2 H2 Rs M2 ⟨[(b, mBox)], F, e, by rw [List.append_nil]; exact q⟩ st p) ox)
/-- a draw -/
theorem ev_draw {b : Addr} {n : Int} {F : SH} (h0 : Γ[0]? = Γ[0]?) (hb : Ep E ta Γ ((b, mBox) :: F) (iRef b)) (hn : Ep E tb Γ ((b, mBox) :: F) (iInt n)) (h1 : 0 < n) (h2 : n < 2 ^ 100) (q : ∀ r : Int, 0 ≤ r → r < n → k (iInt r) ((b, mBox) :: F)) :
    Ev E (tCall (spT tsDraw) [] E0 (tCons ta (tCons tb tNil))) Γ ((b, mBox) :: F) k X :=
  ev_callB (b := b) (F := F) (eap_cons hb (eap_cons hn eap_nil) _ _ ⟨F, rfl, b, n, rfl, h1, h2, rfl, fun r a b => q r a b⟩)
theorem at_some {α : Type} (l : List α) {r : Int} (h0 : 0 ≤ r) (h1 : r < l.length) : ∃ x, atI l r = some x ∧ x ∈ l := by
  have h : r.toNat < l.length := by omega
  refine ⟨l[r.toNat], ?_, List.getElem_mem h⟩
  have := atI_nat (xs := l) (j := r.toNat) (v := l[r.toNat]) (by simp)
  rwa [show ((r.toNat : Nat) : Int) = r by omega] at this
end
/-- draw one of a list, a tuple, a text -/
def tsOf (K : PySem.W.Frag) : TSp := fun Rs M k _ =>
  (∃ b rs, Rs = [iRef b, iLst rs] ∧ 0 < rs.length ∧ rs.length ≤ 1000000 ∧ M = [(b, mBox)] ∧ ∀ r ∈ rs, k r [(b, mBox)]) ∨
  (∃ b rs, Rs = [iRef b, aTup K rs] ∧ 0 < rs.length ∧ rs.length ≤ 1000000 ∧ M = [(b, mBox)] ∧ ∀ r ∈ rs, k r [(b, mBox)]) ∨
  (∃ b z, Rs = [iRef b, aStr z] ∧ 0 < z.length ∧ z.length ≤ 1000000 ∧ M = [(b, mBox)] ∧ ∀ c ∈ z.cps.toList, k (aStr ⟨#[c]⟩) [(b, mBox)])
end L3

namespace L3
open PySem L2 RZ PyProof.Rows
/-! ### isinstance -/
def iTy (n : String) : Rep := ⟨fun _ v => v = .ty n, fun _ h => h⟩
def iTupS (rs : List Rep) : Rep := ⟨fun S v => ∃ a xs, v = .ref a ∧ S a = some (.tup xs) ∧ All2 S rs xs, fun e ⟨a, xs, h1, h2, h3⟩ => ⟨a, xs, h1, e _ _ h2, h3.mono e⟩⟩
section
variable {E : XK} {K : PySem.W.Frag} {Γ : Ct} {M : SH} {k : KR} {X : KX} {R R1 R2 : Rep} {te ta tb tl : TE} {vs : List Nat} {D : EndT} {t u : TS} {c tt : TT} {tr : TA}
theorem ep_ty {n : String} : Ep E (tC (.ty n)) Γ M (iTy n) := ep_c fun _ => rfl
theorem ep_tupS {Rs : List Rep} (h : Eap E tr Γ M Rs) (hl : Rs.length ≤ 1000000) : Ep E (tTup tr) Γ M (iTupS Rs) := fun k X q σ S H Q I o ox =>
  h (fun Rs' M' => Rs' = Rs ∧ M' = M) X ⟨rfl, rfl⟩ σ S H _ I (fun xs S1 H1 Rs' M1 ⟨e1, e2⟩ st p => by
    subst e1; subst e2
    exact ⟨sz_le (by rw [p.len]; exact hl), fun a ha => o (.ref a) (upd S1 a (.tup xs)) _ _ _ q (st.trans (Stp.newS st.e st.m ha))
      ⟨a, xs, rfl, upd_same, p.mono (Same.newS (Same.refl _) (st.e.free ha))⟩⟩) ox
/-- R tells the type -/
def IsT (K : PySem.W.Frag) (R : Rep) (T : String) : Prop := ∀ S H v, Same S H → R.p S v → TyX K H v (.type T)
theorem isT_int {i : Int} : IsT K (iInt i) "int" := fun S H v _ p => by cases p; exact .base (.int i)
theorem isT_str {x : Str} : IsT K (aStr x) "str" := fun S H v _ p => by cases p; exact .base (.str x)
theorem isT_bl {b : Bool} : IsT K (iBl b) "bool" := fun S H v _ p => by cases p; exact .base (.bl b)
theorem isT_non : IsT K iNon "NoneType" := fun S H v _ p => by cases p; exact .base .non
theorem isT_lst {rs : List Rep} : IsT K (iLst rs) "list" := fun S H v e p => by
  obtain ⟨a, xs, rfl, h, _⟩ := p
  exact .base (.lst (e _ _ h))
theorem isT_tup {rs : List Rep} : IsT K (aTup K rs) "tuple" := fun S H v e p => by
  obtain ⟨a, xs, rfl, h, _⟩ := p
  rcases h with (h | ⟨o, h⟩) | ⟨o, its, n, h, hc, _⟩
  · exact .base (.tup (e _ _ h))
  · exact .fTuple (e _ _ h)
  · exact .kTuple h hc
theorem c_isi {T n : String} {b : Bool} (h : IsT K R T) (hb : kitB T n = some b) : Olp (rIsi K) [R, iTy n] M (iBl b) := ol_val fun xs S H e _ p => by
  obtain ⟨v, w, rfl, p1, p2⟩ := all2_2 p
  cases p2
  exact ⟨_, rfl, fun Q q => ⟨v, .ty n, _, _, b, rfl, .ty n, h S H v e p1, kit_ty hb, q⟩⟩
theorem kitAny2 {t c1 c2 : Value} {b1 b2 : Bool} (h1 : PySem.W.kitOne K t c1 = some b1) (h2 : PySem.W.kitOne K t c2 = some b2) : PySem.W.kitAny K t [c1, c2] = some (b1 || b2) := by
  unfold PySem.W.kitAny
  rw [h1]
  cases b1 with
  | true => rfl
  | false =>
    show (PySem.W.kitAny K t [c2]) = _
    unfold PySem.W.kitAny
    rw [h2]
    cases b2 <;> rfl
theorem c_isi2 {T n m : String} {b1 b2 : Bool} (h : IsT K R T) (hb : kitB T n = some b1) (hb2 : kitB T m = some b2) : Olp (rIsiT K) [R, iTupS [iTy n, iTy m]] M (iBl (b1 || b2)) := ol_val fun xs S H e _ p => by
  obtain ⟨v, w, rfl, p1, a, ys, rfl, h1, p2⟩ := all2_2 p
  obtain ⟨y1, y2, rfl, q1, q2⟩ := all2_2 p2
  cases q1; cases q2
  exact ⟨_, rfl, fun Q q => ⟨v, a, [.ty n, .ty m], _, [.type n, .type m], _, rfl, e _ _ h1, .cons (.ty n) (.cons (.ty m) .nil), h S H v e p1, kitAny2 (kit_ty hb) (kit_ty hb2), q⟩⟩
end
/-! ### data that the law's own likeness takes -/
inductive Fit : Nat → PyData → Prop
  | non {n : Nat} : Fit (n + 1) .none
  | bl {n : Nat} (b : Bool) : Fit (n + 1) (.bool b)
  | int {n : Nat} (i : Int) : Fit (n + 1) (.int i)
  | str {n : Nat} (s : Str) : Fit (n + 1) (.str s)
  | list {n : Nat} {ds : List PyData} (hl : ds.length ≤ 1000000) (h : ∀ d ∈ ds, Fit n d) : Fit (n + 1) (.list ds)
  | tup {n : Nat} {ds : List PyData} (hl : ds.length ≤ 1000000) (h : ∀ d ∈ ds, Fit n d) : Fit (n + 1) (.tuple ds)
def tsLike (K : PySem.W.Frag) (n : Nat) : TSp := pureTs (fun d : PyData => [iDat K d, iDat K d]) (Fit n) (fun _ => iBl true)
theorem iDats_get (K : PySem.W.Frag) {ds : List PyData} {i : Nat} {r : Rep} (h : (iDats K ds)[i]? = some r) : ∃ d ∈ ds, r = iDat K d := by
  rw [iDats_map, List.getElem?_map] at h
  cases q : ds[i]? with
  | none => rw [q] at h; cases h
  | some d =>
    rw [q] at h
    exact ⟨d, List.mem_of_getElem? q, (Option.some.inj h).symm⟩
theorem iDats_len (K : PySem.W.Frag) (ds : List PyData) : (iDats K ds).length = ds.length := by rw [iDats_map, List.length_map]
theorem given_true (n : Nat) : given n (fun _ => true) (fun _ => iBl true) = (List.replicate n true).map iBl := by
  unfold given
  rw [List.map_replicate]
  have : (List.range n).filter (fun _ => true) = List.range n := by simp
  rw [this]
  apply List.ext_getElem
  · simp
  · simp
theorem all_true (n : Nat) : (List.replicate n true).all id = true := by simp
theorem cl_false {P : Program} {w : World} {K : PySem.W.Frag} {mg : Str → Option Value} {base : Heap} {x : Str} {st : Stmt} {ps : List Str} {f : Addr} {fd : FuncData} {CX : CXT} {k : Nat} {ts : TSp} (d : Df K mg x st ps f fd) (h : ∀ Rs M k X, ¬ ts Rs M k X) : Cl P w K mg base CX k x ts [] :=
  cl_of d ⟨fun vs H Q E ⟨_, Rs, M, k, X, q, _⟩ => (h Rs M k X q).elim, fun A outer s H args us vs Q E _ _ _ _ ⟨_, Rs, M, k, X, q, _⟩ => (h Rs M k X q).elim⟩
/-- the law's own call -/
theorem law_in {K : PySem.W.Frag} {ts : TSp} {H : Hp} {a : Addr} {ns : List Int} (hS : SqL K H a (ns.map V.int)) (h : ts [iScr K ns] [] (fun R _ => R = iBl true) X0) : spT ts [.ref a] H (fun v _ => v = .bl true) (fun _ _ _ => False) :=
  ⟨H, [iScr K ns], [], _, _, h, Same.refl _, ⟨fun _ _ h => absurd h List.not_mem_nil, List.nodup_nil⟩, ⟨⟨a, rfl, hS⟩, True.intro⟩, fun v S2 H2 R M2 e st p => by subst e; exact p, fun _ _ _ _ _ _ z => z.elim⟩
end L3

namespace L3
open PySem L2 RZ PyProof.Rows
/-! ### a list or a tuple, walked -/
def iSeq (K : PySem.W.Frag) (tl : TE) : TI := fun σ H R => tl σ H fun x H1 => (∃ a, x = .ref a ∧ (∃ xs, SqL K H1 a xs) ∧ R (Itl K a) H1) ∨ ∃ a, x = .ref a ∧ (∃ xs, SqT K H1 a xs) ∧ R (Itt K a) H1
section
variable {X : Cx} {tg : Expr}
theorem walk_new {pins : List (Addr × Obj)} {σ : L2.St} {H : Hp} {s : Shared} {R : It → Hp → Prop} {J : It} {o : Obj} {tn : Nat → Heap → Prop} (I : Inv X pins σ H s) (T : Turn X.prog X.w X.K tg J [s.heap.objs.size] s.heap.objs.size tn) (h0 : tn 0 (s.heap.push o)) (q : R J H) :
    PIE X pins σ tg R (.ref s.heap.objs.size) { s with heap := s.heap.push o } := by
  have Ik : Inv X pins σ H { s with heap := s.heap.push o, toks := s.toks } := I.kept fun _ _ z => Heap.get?_push_of_some _ z
  refine ⟨_, _, _, J, H, rfl, Ik, T, h0, ?_, q⟩
  intro c hc
  rw [List.mem_singleton.mp hc]
  exact I.fpOk (Nat.le_refl _) (I.hok.fresh (Nat.le_refl _))
theorem pi_seq {l : Expr} {tl : TE} (hl : PE X l tl) : PI X tg l (iSeq X.K tl) := ⟨fun pins s σ H R I h => by
  refine thn (hl.run pins s σ H _ I h) fun v s1 hx => ?_
  obtain ⟨x, H1, I1, r1, hc⟩ := hx
  rcases hc with ⟨a, rfl, ⟨xs, hs⟩, q⟩ | ⟨a, rfl, ⟨xs, hs⟩, q⟩
  · cases r1
    obtain ⟨its, _, pl, _⟩ := I1.list hs
    exact wpAny_pyIter_list pl.isList (walk_new I1 (turn_list a _) ⟨_, Heap.get?_push_size _ rfl, rfl, rfl⟩ q)
  · cases r1
    obtain ⟨its, _, pt, _⟩ := I1.tuple hs
    exact wpAny_pyIter_tuple (show s1.heap.IsTuple a its.toArray from pt) (walk_new I1 (turn_tuple a _) ⟨_, Heap.get?_push_size _ rfl, rfl, rfl⟩ q)⟩
end
section
variable {E : XK} {K : PySem.W.Frag} {Γ : Ct} {M : SH} {k : KR} {X : KX} {R R1 R2 : Rep} {te ta tb tc tl : TE} {vs : List Nat} {D : EndT} {t u : TS} {c tt : TT} {tr : TA}
/-- a list or a tuple of these -/
def aSeq (K : PySem.W.Frag) (rs : List Rep) : Rep := ⟨fun S v => (iLst rs).p S v ∨ (aTup K rs).p S v, fun e h => h.elim (fun z => .inl ((iLst rs).m e z)) (fun z => .inr ((aTup K rs).m e z))⟩
theorem seq_l {rs : List Rep} (S : Hp) (v : V) (h : (iLst rs).p S v) : (aSeq K rs).p S v := .inl h
theorem seq_t {rs : List Rep} (S : Hp) (v : V) (h : (aTup K rs).p S v) : (aSeq K rs).p S v := .inr h
theorem tip_seq {rl : List Rep} (h : Ep E tl Γ M (aSeq K rl)) : Tip E (iSeq K tl) Γ M rl.length (fun i r => rl[i]? = some r) := fun ki X q σ S H R I o ox =>
  h (fun R' M' => R' = aSeq K rl ∧ M' = M) X ⟨rfl, rfl⟩ σ S H _ I (fun v S2 H2 R' M2 ⟨e1, e2⟩ st p => by
    subst e1; subst e2
    rcases p with ⟨a, xs, rfl, p1, p2⟩ | ⟨a, xs, rfl, p1, p2⟩
    · exact .inl ⟨a, rfl, ⟨xs, SqL.of (st.e _ _ p1)⟩, o _ S2 H2 _ _ _ q st (tw_list p1 p2)⟩
    · exact .inr ⟨a, rfl, ⟨xs, Same.sqt st.e p1⟩, o _ S2 H2 _ _ _ q st (tw_tup p1 p2)⟩) ox
theorem c_lenQ {rs : List Rep} : Olp (rLn K) [aSeq K rs] M (iInt rs.length) := fun k q xs S H Q e m h o => by
  obtain ⟨v, rfl, h1⟩ := all2_1 h
  rcases h1 with h1 | h1
  · exact c_lenL k q [v] S H Q e m ⟨h1, True.intro⟩ o
  · exact c_lenT k q [v] S H Q e m ⟨h1, True.intro⟩ o
theorem o_ixQ {rs : List Rep} {i : Int} (h : atI rs i = some R) : O2p (rIx K) (aSeq K rs) (iInt i) M R := fun k q x y S H Q e m h1 h2 o => by
  rcases h1 with h1 | h1
  · exact Or.inl (o_ixL (K := K) h k q x y S H Q e m h1 h2 o)
  · exact Or.inr (Or.inl (o_ixT h k q x y S H Q e m h1 h2 o))
theorem c_tupQ {rs : List Rep} : Olp (rTupOf K) [aSeq K rs] M (aTup K rs) := fun k q xs S H Q e m h o => by
  obtain ⟨v, rfl, h1⟩ := all2_1 h
  rcases h1 with h1 | h1
  · exact c_tupL k q [v] S H Q e m ⟨h1, True.intro⟩ o
  · exact c_tupT k q [v] S H Q e m ⟨h1, True.intro⟩ o
theorem c_listQ {rs : List Rep} : Olp (rListOf K) [aSeq K rs] M (iLst rs) := fun k q xs S H Q e m h o => by
  obtain ⟨v, rfl, h1⟩ := all2_1 h
  rcases h1 with h1 | h1
  · exact c_listL k q [v] S H Q e m ⟨h1, True.intro⟩ o
  · exact c_listT k q [v] S H Q e m ⟨h1, True.intro⟩ o
theorem o_rep2 {rs : List Rep} (h : rs.length ≤ 400000) : O2p rRep (iLst rs) (iInt 2) M (iLst (rs ++ rs)) := o2_newL fun x y S H e _ h1 h2 => by
  obtain ⟨a, xs, rfl, q1, q2⟩ := h1
  cases h2
  refine ⟨xs ++ xs, q2.app q2, fun Q q => ⟨a, 2, xs, rfl, rfl, e _ _ q1, by decide, by decide, ?_, fun p hp => ?_⟩⟩
  · rw [q2.len]; exact sz_le (by show rs.length * 2 ≤ 1000000; omega)
  · have : (List.replicate (2 : Int).toNat xs).flatten = xs ++ xs := by
      show (List.replicate 2 xs).flatten = xs ++ xs
      simp [List.replicate]
    rw [this]
    exact q p hp
theorem iLst_app1 {rs : List Rep} : (rs ++ [R]).length = rs.length + 1 := by simp
/-! ### ranges with a step -/
theorem ti_rng3 {ki : Nat → (Nat → Rep → Prop) → SH → Prop} (h : Ea E tr Γ M (fun Rs M1 => ∃ (i j c : Int) (n : Nat), Rs = [iInt i, iInt j, iInt c] ∧ RgC i j c n ∧ ki n (fun t r => r = iInt (i + (t : Nat) * c)) M1) X) : Ti E (iRng3 tr) Γ M ki X := fun σ S H R I o ox =>
  h σ S H _ I (fun xs S2 H2 Rs M2 ⟨i, j, c, n, e, hr, q⟩ st p => by
    subst e
    match xs, p with
    | [], p => exact p.elim
    | [_], p => exact p.2.elim
    | [_, _], p => exact p.2.2.elim
    | _ :: _ :: _ :: _ :: _, p => exact p.2.2.2.elim
    | [v1, v2, v3], p =>
      obtain ⟨p1, p2, p3, _⟩ := p
      cases p1; cases p2; cases p3
      exact ⟨i, j, c, n, rfl, hr, o _ S2 H2 n _ M2 q st ⟨_, _, walk_rangeC, fun _ _ _ _ => True.intro, fun t H x H' _ y Sx Mx _ e2 m => by
        obtain ⟨rfl, rfl⟩ := y
        exact ⟨Sx, _, Stp.refl e2 m, rfl, rfl⟩⟩⟩) ox
theorem tip_rng3 {i j c : Int} {n : Nat} (h1 : Ep E ta Γ M (iInt i)) (h2 : Ep E tb Γ M (iInt j)) (h3 : Ep E tc Γ M (iInt c)) (hr : RgC i j c n) : Tip E (iRng3 (tCons ta (tCons tb (tCons tc tNil)))) Γ M n (fun t r => r = iInt (i + (t : Nat) * c)) :=
  fun _ _ q => ti_rng3 (eap_cons h1 (eap_cons h2 (eap_cons h3 eap_nil)) _ _ ⟨i, j, c, n, rfl, hr, q⟩)
theorem rangeSize_mul {a : Int} {n : Nat} (ha : 0 < a) : Builtin.Range.rangeSize a (a * n + 1) a = n := by
  unfold Builtin.Range.rangeSize
  rw [if_pos (show a > 0 from ha)]
  by_cases h : n = 0
  · subst h
    rw [if_neg (by simp; omega)]
    rfl
  · have hn : (1 : Int) ≤ n := by omega
    have h2 : a * 1 ≤ a * n := Int.mul_le_mul_of_nonneg_left hn (by omega)
    rw [if_pos (by omega)]
    have e : a * (n : Int) + 1 - a - 1 = a * ((n : Int) - 1) := by rw [Int.mul_sub, Int.mul_one]; omega
    first
      | (rw [e, Int.mul_ediv_cancel_left _ (by omega)]; omega)
      | (rw [show (a * (n : Int) + 1 - 1 - a) = a * ((n : Int) - 1) by rw [Int.mul_sub, Int.mul_one]; omega, Int.mul_ediv_cancel_left _ (by omega)]; omega)
theorem rgC_mul {a : Int} {n : Nat} (ha : 0 < a) (h1 : a < 1000000000) (h2 : a * n ≤ 1000000000000) : RgC a (a * n + 1) a n := by
  refine ⟨by omega, by omega, ?_, rangeSize_mul ha⟩
  unfold Builtin.Range.small
  rw [rangeSize_mul ha]
  simp only [Builtin.Range.rangeFitsLong, Bool.and_eq_true, Bool.or_eq_true, decide_eq_true_eq, beq_iff_eq]
  have h3 : (0 : Int) ≤ a * n := Int.mul_nonneg (by omega) (by omega)
  have h4 : (n : Int) ≤ a * n := by
    have : 1 * (n : Int) ≤ a * n := Int.mul_le_mul_of_nonneg_right (by omega) (by omega)
    omega
  refine ⟨by omega, .inr ?_⟩
  rw [if_pos (show a > 0 from ha)]
  simp only [Bool.and_eq_true, decide_eq_true_eq]
  omega
end
end L3

namespace L3
open PySem L2 RZ PyProof.Rows
section
variable {E : XK} {K : PySem.W.Frag} {Γ : Ct} {M : SH} {k : KR} {X : KX} {R R1 R2 : Rep} {te ta tb tc tl : TE} {vs : List Nat} {D : EndT} {t u : TS} {c tt : TT} {tr : TA}
theorem ev_int {i : Int} (q : k (iInt i) M) : Ev E (tC (.int i)) Γ M k X := ep_int _ _ q
theorem ev_str {z : Str} (q : k (aStr z) M) : Ev E (tC (.str z)) Γ M k X := ep_str _ _ q
theorem ev_bl {b : Bool} (q : k (iBl b) M) : Ev E (tC (.bl b)) Γ M k X := ep_bl _ _ q
theorem ev_non (q : k iNon M) : Ev E (tC .non) Γ M k X := ep_non _ _ q
theorem ev_ty {n : String} (q : k (iTy n) M) : Ev E (tC (.ty n)) Γ M k X := ep_ty _ _ q
theorem ev_notV (h : Ev E ta Γ M (fun R M1 => ∃ b, R = iBl b ∧ k (iBl (!b)) M1) X) : Ev E (tNotV ta) Γ M k X := fun σ S H Q I o ox =>
  h σ S H _ I (fun v S2 H2 R M2 ⟨b, e, q⟩ st p => by
    subst e; cases p
    exact ⟨b, rfl, o _ S2 H2 (iBl (!b)) _ q st rfl⟩) ox
theorem ev_call_at {sp : Sp} {dvs : List V} {E' : XK} (h : Ev E (tCall sp dvs E' tr) Γ M k X) : Ev E (tCall sp dvs E' tr) Γ M k X := h
theorem ev_varM {i : Nat} (h : ∃ R, Γ[i]? = some (some R) ∧ k R M) : Ev E (tVar i) Γ M k X := let ⟨_, h1, h2⟩ := h; ev_var h1 h2
theorem k_at {i : Nat} {P : Rep → Prop} (h : Γ[i]? = some (some R)) (q : P R) : ∃ R, Γ[i]? = some (some R) ∧ P R := ⟨R, h, q⟩
/-- the words of the walk -/
theorem k_b {b : Bool} {P : Bool → Prop} (h : P b) : ∃ c, iBl b = iBl c ∧ P c := ⟨b, rfl, h⟩
theorem k_len {n : Nat} {P : Prop} (hn : n ≤ 1000000) (h : P) : n ≤ 1000000 ∧ P := ⟨hn, h⟩
theorem k_par {P : Rep → Rep → Prop} (h : P R1 R2) : ∃ A B, [R1, R2] = [A, B] ∧ P A B := ⟨_, _, rfl, h⟩
theorem k_str {z : Str} {P : Str → Prop} (h : P z) : ∃ c, aStr z = aStr c ∧ P c := ⟨z, rfl, h⟩
theorem k_lst {rs : List Rep} {P : List Rep → Prop} (h : P rs) : ∃ c, iLst rs = iLst c ∧ P c := ⟨rs, rfl, h⟩
theorem k_tup {rs : List Rep} {P : List Rep → Prop} (h : P rs) : ∃ c, aTup K rs = aTup K c ∧ P c := ⟨rs, rfl, h⟩
theorem k_t {P Q : Prop} (h : P) : if true = true then P else Q := by simpa using h
theorem k_f {P Q : Prop} (h : Q) : if false = true then P else Q := by simpa using h
theorem k_nt {P Q : Prop} (h : Q) : if (!true) = true then P else Q := by simpa using h
theorem k_nf {P Q : Prop} (h : P) : if (!false) = true then P else Q := by simpa using h
theorem cmul_at {a b : Int} (h : CMul a b) : CMul a b := h
theorem nle_at {a b : Nat} (h : a ≤ b) : a ≤ b := h
theorem ile_at {a b : Int} (h : a ≤ b) : a ≤ b := h
theorem ilt_at {a b : Int} (h : a < b) : a < b := h
theorem ol_at {rl : List V → Hp → VK → Prop} {Rs : List Rep} (h : Ol rl Rs M k) : Ol rl Rs M k := h
theorem o1_at {r : V → Hp → VK → Prop} (h : O1 r R1 M k) : O1 r R1 M k := h
theorem o2_at {r : L2.R2} (h : O2 r R1 R2 M k) : O2 r R1 R2 M k := h
theorem ep_at (h : ∀ (k : KR) (X : KX), k R M → Ev E te Γ M k X) : Ep E te Γ M R := h
theorem etp_at {b : Bool} (h : ∀ (k : Bool → SH → Prop) (X : KX), k b M → Et E c Γ M k X) : Etp E c Γ M b := h
theorem eap_at {Rs : List Rep} (h : ∀ (k : List Rep → SH → Prop) (X : KX), k Rs M → Ea E tr Γ M k X) : Eap E tr Γ M Rs := h
/-- weaker words of arguments -/
def LeS (a b : List Rep) : Prop := ∀ S vs, All2 S a vs → All2 S b vs
theorem leS_rfl {a : List Rep} : LeS a a := fun _ _ h => h
theorem leS_nil : LeS [] [] := fun _ _ h => h
theorem leS_cons {a b : List Rep} (h : ∀ S v, R1.p S v → R2.p S v) (h2 : LeS a b) : LeS (R1 :: a) (R2 :: b) := fun S vs p => by
  match vs, p with
  | [], p => exact p.elim
  | v :: vs, p => exact ⟨h S v p.1, h2 S vs p.2⟩
theorem leS_seqL {rs : List Rep} : LeS [iLst rs] [aSeq K rs] := leS_cons seq_l leS_nil
theorem leS_seqT {rs : List Rep} : LeS [aTup K rs] [aSeq K rs] := leS_cons seq_t leS_nil
/-- a call of a def that only reckons -/
theorem ev_callP0 {α : Type} {args : α → List Rep} {pre : α → Prop} {res : α → Rep} (h : Ea E tr Γ M (fun Rs M1 => ∃ x, LeS Rs (args x) ∧ pre x ∧ k (res x) M1) X) : Ev E (tCall (spT (pureTs args pre res)) [] E0 tr) Γ M k X :=
  ev_call0 (Ds := []) (fun _ => True.intro) fun σ S H Q I o ox => h σ S H Q I (fun vs S2 H2 Rs M2 ⟨x, e, hp, q⟩ st p => o vs S2 H2 (args x) M2 ⟨[], M2, rfl, x, by rw [List.append_nil], hp, rfl, q⟩ st (e S2 vs p)) ox
/-- a def that changes nothing, with several ends -/
def pureK (sp : List Rep → (Rep → Prop) → Prop) : TSp := fun Rs M k _ => M = [] ∧ sp Rs fun R => k R []
theorem ev_callK {sp : List Rep → (Rep → Prop) → Prop} (h : Ea E tr Γ M (fun Rs M1 => ∃ Rs', LeS Rs Rs' ∧ sp Rs' fun R => k R M1) X) : Ev E (tCall (spT (pureK sp)) [] E0 tr) Γ M k X :=
  ev_call0 (Ds := []) (fun _ => True.intro) fun σ S H Q I o ox => h σ S H Q I (fun vs S2 H2 Rs M2 ⟨Rs', e, q⟩ st p => o vs S2 H2 Rs' M2 ⟨[], M2, rfl, rfl, by rw [List.append_nil]; exact q⟩ st (e S2 vs p)) ox
/-- a def that draws, and changes nothing else -/
def boxK (sp : List Rep → (Rep → Prop) → Prop) : TSp := fun Rs M k _ => ∃ b Rs', Rs = iRef b :: Rs' ∧ M = [(b, mBox)] ∧ sp Rs' fun R => k R [(b, mBox)]
theorem ev_callB2 {sp : List Rep → (Rep → Prop) → Prop} (h : Ea E tr Γ M (fun Rs M1 => ∃ b Rs0 F, Rs = iRef b :: Rs0 ∧ M1 = (b, mBox) :: F ∧ ∃ Rs', LeS Rs0 Rs' ∧ sp Rs' fun R => k R M1) X) : Ev E (tCall (spT (boxK sp)) [] E0 tr) Γ M k X :=
  ev_call0 (Ds := []) (fun _ => True.intro) fun σ S H Q I o ox => h σ S H Q I (fun vs S2 H2 Rs M2 ⟨b, Rs0, F, e, eM, Rs', le, q⟩ st p => o vs S2 H2 (iRef b :: Rs') M2 ⟨[(b, mBox)], F, by rw [eM]; rfl, b, Rs', by rw [List.append_nil], rfl, by rw [eM] at q; exact q⟩ st (by
    subst e
    match vs, p with
    | [], p => exact p.elim
    | v :: vs, p => exact ⟨p.1, le S2 vs p.2⟩)) ox
theorem k_box {b : Addr} {Rs : List Rep} {F : SH} {P : Addr → List Rep → SH → Prop} (h : P b Rs F) : ∃ c Rs0 G, iRef b :: Rs = iRef c :: Rs0 ∧ (b, mBox) :: F = (c, mBox) :: G ∧ P c Rs0 G := ⟨b, Rs, F, rfl, rfl, h⟩
def tsOf2 (K : PySem.W.Frag) : TSp := boxK fun Rs q =>
  (∃ rs, Rs = [iLst rs] ∧ 0 < rs.length ∧ rs.length ≤ 1000000 ∧ ∀ r ∈ rs, q r) ∨
  (∃ rs, Rs = [aTup K rs] ∧ 0 < rs.length ∧ rs.length ≤ 1000000 ∧ ∀ r ∈ rs, q r) ∨
  (∃ z : Str, Rs = [aStr z] ∧ 0 < z.length ∧ z.length ≤ 1000000 ∧ ∀ c ∈ z.cps.toList, q (aStr ⟨#[c]⟩))
/-- a call, all of the symbolic heap handed over -/
theorem ev_callT {ts : TSp} (h : Ea E tr Γ M (fun Rs M1 => ∃ Mf Fr, M1 = Mf ++ Fr ∧ ts Rs Mf (fun R M2 => k R (M2 ++ Fr)) X0) X) : Ev E (tCall (spT ts) [] E0 tr) Γ M k X :=
  ev_call0 (Ds := []) (fun _ => True.intro) fun σ S H Q I o ox => h σ S H Q I (fun vs S2 H2 Rs M2 ⟨Mf, Fr, e, q⟩ st p => o vs S2 H2 Rs M2 ⟨Mf, Fr, e, by rw [List.append_nil]; exact q⟩ st p) ox
/-- a draw, the box first in the heap -/
theorem ev_draw0 (h : Ea E tr Γ M (fun Rs M1 => ∃ b n F, Rs = [iRef b, iInt n] ∧ M1 = (b, mBox) :: F ∧ 0 < n ∧ n < 2 ^ 100 ∧ ∀ r : Int, 0 ≤ r → r < n → k (iInt r) M1) X) : Ev E (tCall (spT tsDraw) [] E0 tr) Γ M k X :=
  ev_callT fun σ S H Q I o ox => h σ S H Q I (fun vs S2 H2 Rs M2 ⟨b, n, F, e, eM, h1, h2, q⟩ st p => o vs S2 H2 Rs M2 ⟨[(b, mBox)], F, by rw [eM]; rfl, b, n, e, h1, h2, rfl, fun r r0 r1 => by
    have := q r r0 r1
    rw [eM] at this
    exact this⟩ st p) ox
theorem k_draw {b : Addr} {n : Int} {F : SH} {P : Addr → Int → SH → Prop} (hn : 0 < n ∧ n < 2 ^ 100) (h : P b n F) : ∃ c m G, [iRef b, iInt n] = [iRef c, iInt m] ∧ (b, mBox) :: F = (c, mBox) :: G ∧ 0 < m ∧ m < 2 ^ 100 ∧ P c m G := ⟨b, n, F, rfl, rfl, hn.1, hn.2, h⟩
theorem k_nat {n : Int} {P : Int → Prop} (h : ∀ r : Nat, (r : Int) < n → P r) : ∀ r : Int, 0 ≤ r → r < n → P r := fun r h0 h1 => by
  obtain ⟨m, rfl⟩ := Int.eq_ofNat_of_zero_le h0
  exact h m h1
theorem ev_rev (h : Ev E te Γ M (fun R M1 => ∃ rs, R = iLst rs ∧ k (iLst rs.reverse) M1) X) : Ev E (tRevL K te) Γ M k X := fun σ S H Q I o ox =>
  h σ S H _ I (fun v S1 H1 R' M1 ⟨rs, e, q⟩ st p => by
    subst e
    obtain ⟨a, xs, rfl, q1, q2⟩ := p
    exact ⟨a, xs, rfl, SqL.of (st.e _ _ q1), fun b hb => o (.ref b) (upd S1 b (.lst xs.reverse)) _ (iLst rs.reverse) _ q (st.trans (Stp.newS st.e st.m hb)) ⟨b, _, rfl, upd_same, q2.rev.mono (Same.newS (Same.refl _) (st.e.free hb))⟩⟩) ox
/-- a part of a list, of a text: the bounds read ahead -/
theorem ev_sl {r : V → Option Int → Option Int → Hp → VK → Prop} {tlo thi : TO} {lo hi : Option Int} (h1 : ∀ M, Eo E tlo Γ M lo) (h2 : ∀ M, Eo E thi Γ M hi) (h : Ev E te Γ M (fun R1 M1 => ∀ x S H Q, Same S H → MOk S H M1 → R1.p S x → Out S H M1 k Q → r x lo hi H Q) X) : Ev E (tSl r te tlo thi) Γ M k X := fun σ S H Q I o ox =>
  h σ S H _ I (fun v S1 H1 R' M1 q st p =>
    h1 M1 σ S1 H1 _ (I.step st) fun S2 H2 st2 => h2 M1 σ S2 H2 _ (I.step (st.trans st2)) fun S3 H3 st3 =>
      q v S3 H3 Q st3.e st3.m (R'.m (st2.s.trans st3.s) p) (o.step ((st.trans st2).trans st3))) ox
end
/-! ### loops with a word of their own; slots forgotten -/
inductive Wk : Ct → Ct → Prop
  | nil : Wk [] []
  | no {c : Option Rep} {a b : Ct} : Wk a b → Wk (none :: a) (c :: b)
  | so {R : Rep} {a b : Ct} : Wk a b → Wk (some R :: a) (some R :: b)
theorem Wk.len {a b : Ct} (h : Wk a b) : b.length = a.length := by
  induction h with
  | nil => rfl
  | no _ ih => simp [ih]
  | so _ ih => simp [ih]
theorem Wk.at {a b : Ct} (h : Wk a b) : ∀ (i : Nat) (R : Rep), a[i]? = some (some R) → b[i]? = some (some R) := by
  induction h with
  | nil => intro i R e; simp at e
  | no _ ih =>
    intro i R e
    cases i with
    | zero => simp at e
    | succ i => simpa using ih i R (by simpa using e)
  | so _ ih =>
    intro i R e
    cases i with
    | zero => simpa using e
    | succ i => simpa using ih i R (by simpa using e)
theorem Wk.refl : ∀ a : Ct, Wk a a
  | [] => .nil
  | none :: a => .no (Wk.refl a)
  | some _ :: a => .so (Wk.refl a)
section
variable {E : XK} {K : PySem.W.Frag} {Γ Γ0 : Ct} {M : SH} {k : KR} {X : KX} {R : Rep} {te : TE} {vs : List Nat} {D : EndT} {t : TS} {c : TT} {wi : TI} {g : TG}
theorem st_wk (w : Wk Γ0 Γ) (h : St E t Γ0 M D) : St E t Γ M D := st_ctx h w.len w.at
theorem tg_wk {kc : KC} (w : Wk Γ0 Γ) (h : Tg g R Γ0 M vs kc) : Tg g R Γ M vs kc := fun v σ S H Q I p o => h v σ S H Q (I.weak w.len.symm w.at) p o
theorem ev_wk (w : Wk Γ0 Γ) (h : Ev E te Γ0 M k X) : Ev E te Γ M k X := fun σ S H Q I o ox => h σ S H Q (I.weak w.len.symm w.at) o ox
theorem et_wk {kb : Bool → SH → Prop} (w : Wk Γ0 Γ) (h : Et E c Γ0 M kb X) : Et E c Γ M kb X := fun σ S H Q I o ox => h σ S H Q (I.weak w.len.symm w.at) o ox
def LJ {α : Type} (P : α → Prop) (G : α → Ct) (N : α → SH) : KC := fun Γ M => ∃ a, P a ∧ Wk (G a) Γ ∧ M = N a
theorem lj {α : Type} {P : α → Prop} {G : α → Ct} {N : α → SH} (a : α) (h1 : P a) (h2 : Wk (G a) Γ) (h3 : M = N a) : LJ P G N Γ M := ⟨a, h1, h2, h3⟩
/-- what is walked, the words of the loop behind it -/
def FJ (E : XK) (g : TG) (t : TS) (D : EndT) (α : Type) (Γ : Ct) (n : Nat) (rs : Nat → Rep → Prop) (M : SH) : Prop :=
  ∃ (P : Nat → α → Prop) (G : α → Ct) (N : α → SH), LJ (P 0) G N Γ M ∧ (∀ i r a, i < n → rs i r → P i a → Tg g r (G a) (N a) [] fun Γ2 M2 => St E t Γ2 M2 { D with nx := LJ (P (i + 1)) G N, ct := LJ (P (i + 1)) G N, bk := D.nx }) ∧ ∀ a Γ1, P n a → Wk (G a) Γ1 → D.nx Γ1 (N a)
theorem st_forG (α : Type) (h : Ti E wi Γ M (FJ E g t D α Γ) D.ex) : St E (tFor wi g t) Γ M D := st_for fun σ S H R I o ox =>
  h σ S H R I (fun J S1 H1 n rs M1 ⟨P, G, N, h0, h1, h2⟩ st w => o J S1 H1 n rs M1 ⟨fun i => LJ (P i) G N, h0, fun i r Γ1 M1 hi hr ⟨a, ha, hw, hm⟩ => by
    subst hm
    exact tg_wk hw (h1 i r a hi hr ha), fun Γ1 M1 ⟨a, ha, hw, hm⟩ => by
    subst hm
    exact h2 a Γ1 ha hw⟩ st w) ox
theorem st_whileG (α : Type) (P : Nat → α → Prop) (G : α → Ct) (N : α → SH) (m0 : Nat) (h0 : LJ (P m0) G N Γ M) (hs : ∀ m a, P m a → Et E c (G a) (N a) (fun b M2 => if b = true then St E t (G a) M2 { D with nx := fun Γ2 M3 => ∃ m', m' < m ∧ LJ (P m') G N Γ2 M3, ct := fun Γ2 M3 => ∃ m', m' < m ∧ LJ (P m') G N Γ2 M3, bk := D.nx } else ∀ Γ1, Wk (G a) Γ1 → D.nx Γ1 M2) D.ex) : St E (tWhile c t) Γ M D :=
  st_while (fun m => LJ (P m) G N) m0 h0 fun m Γ1 M1 ⟨a, ha, hw, hm⟩ => by
    subst hm
    refine et_wk hw fun σ S H Q I o ox => hs m a ha σ S H Q I (fun b S2 H2 M2 q st => o b S2 H2 M2 ?_ st) ox
    cases b with
    | true =>
      rw [if_pos rfl] at q ⊢
      exact st_wk hw q
    | false =>
      rw [if_neg Bool.false_ne_true] at q ⊢
      exact q Γ1 hw
end
theorem given_len {α : Type} {n : Nat} {f : Nat → Bool} {v : Nat → α} : (given n f v).length ≤ n := by
  unfold given
  rw [List.length_map]
  exact Nat.le_trans (List.length_filter_le _ _) (by simp)
theorem given_none {α : Type} {n : Nat} {f : Nat → Bool} {v : Nat → α} (h : ∀ i, i < n → f i = false) : given n f v = [] := by
  unfold given
  rw [List.map_eq_nil_iff, List.filter_eq_nil_iff]
  intro j hj
  rw [h j (List.mem_range.mp hj)]
  decide
theorem atI_0 {α : Type} {x : α} {l : List α} : atI (x :: l) 0 = some x := atI_nat (xs := x :: l) (j := 0) (v := x) (by simp)
/-! ### likeness -/
def FitAll (n : Nat) (ds : List PyData) : Prop := ∀ d ∈ ds, Fit n d
theorem fitA_nil {n : Nat} : FitAll n [] := fun _ h => by cases h
theorem fitA_cons {n : Nat} {d : PyData} {ds : List PyData} (h : Fit n d) (h2 : FitAll n ds) : FitAll n (d :: ds) := fun x hx => by
  rcases List.mem_cons.mp hx with e | e
  · rw [e]; exact h
  · exact h2 x e
theorem fitA_map {n : Nat} {α : Type} {g : α → PyData} {l : List α} (h : ∀ x ∈ l, Fit n (g x)) : FitAll n (l.map g) := fun d hd => by
  obtain ⟨x, hx, rfl⟩ := List.mem_map.mp hd
  exact h x hx
theorem fitA_app {n : Nat} {ds es : List PyData} (h : FitAll n ds) (h2 : FitAll n es) : FitAll n (ds ++ es) := fun d hd => by
  rcases List.mem_append.mp hd with e | e
  · exact h d e
  · exact h2 d e
theorem fit_l {n : Nat} {ds : List PyData} (h : FitAll n ds) (hl : ds.length ≤ 1000000) : Fit (n + 1) (.list ds) := .list hl h
theorem fit_t {n : Nat} {ds : List PyData} (h : FitAll n ds) (hl : ds.length ≤ 1000000) : Fit (n + 1) (.tuple ds) := .tup hl h
theorem k_like {K : PySem.W.Frag} {R1 R2 : Rep} {d : PyData} {P : Prop} (h2 : R2 = iDat K d) (h1 : R1 = iDat K d) (hf : Fit 7 d) (q : P) : ∃ x, LeS [R1, R2] [iDat K x, iDat K x] ∧ Fit 7 x ∧ P := ⟨d, by rw [h1, h2]; exact leS_rfl, hf, q⟩
/-- the written part, as the trees name it -/
theorem cxK {CX : CXT} {P : Program} {w : World} {K : PySem.W.Frag} {mg : Str → Option Value} {base : Heap} {N : List Str} {qual : Str} {scope : Scope} {f : Addr} {cd : Value} {A : Around} {outer : List PySem.Env} {s : Shared} {H : Hp} {E : XK} : (cxOf CX P w K mg base N qual scope f cd A outer s H E).nox.K = K := rfl
theorem cxKX {CX : CXT} {P : Program} {w : World} {K : PySem.W.Frag} {mg : Str → Option Value} {base : Heap} {N : List Str} {qual : Str} {scope : Scope} {f : Addr} {cd : Value} {A : Around} {outer : List PySem.Env} {s : Shared} {H : Hp} {E : XK} : (cxOf CX P w K mg base N qual scope f cd A outer s H E).K = K := rfl
end L3

namespace L3
open PySem PySem.Spec PySem.W L2 RZ PyProof.Rows
/-! ### first, *rest = a list or a tuple -/
/-- what the spreading of one head and a rest asks of the thing spread: it is iterable, its iterator gives x, then all the others -/
structure Spread (P : Program) (w : World) (A : Around) (E : Value → Shared → Prop) (s : Shared) (v x : Value) (rest : List Value) : Prop where
  ok : ∀ Q : Bool → Shared → Prop, Q false s → wpAny (model P w) A (notIterableAtAll v) Q E s
  go : ∃ (J0 J1 : Addr → Heap → Prop),
    (∀ Q : Value → Shared → Prop, (∀ (it : Addr) (h : Heap), (∀ b o, s.heap.get? b = some o → h.get? b = some o) → J0 it h → Q (.ref it) { s with heap := h }) → wpAny (model P w) A (pyIter v) Q E s) ∧
    (∀ (it : Addr) (h0 : Heap) (Q : List Value → Shared → Prop), (∀ b o, s.heap.get? b = some o → h0.get? b = some o) → J0 it h0 → (∀ h : Heap, (∀ b o, s.heap.get? b = some o → h.get? b = some o) → J1 it h → Q [x] { s with heap := h }) → wpAny (model P w) A (draw (.ref it) 1) Q E { s with heap := h0 }) ∧
    (∀ (it : Addr) (h1 : Heap) (Q : List Value → Shared → Prop), (∀ b o, s.heap.get? b = some o → h1.get? b = some o) → J1 it h1 → (∀ (h : Heap) (tk : Nat), (∀ b o, s.heap.get? b = some o → h.get? b = some o) → Q rest { s with heap := h, toks := tk }) → wpAny (model P w) A (collect (.ref it)) Q E { s with heap := h1 })
theorem Spread.run {P : Program} {w : World} {A : Around} {E : Value → Shared → Prop} {s : Shared} {v x : Value} {rest : List Value} (sp : Spread P w A E s v x rest) (hz : rest.length ≤ 16000) {Q : List Value → Shared → Prop}
    (h : ∀ (h' : Heap) (tk : Nat), (∀ b o, s.heap.get? b = some o → h'.get? b = some o) → Q [x, .ref h'.objs.size] { s with heap := h'.push { cls := .type "list", data := .seq rest.toArray }, toks := tk }) : wpAny (model P w) A (unpackItems v 2 (some 1)) Q E s := by
  obtain ⟨J0, J1, g0, g1, g2⟩ := sp.go
  have hlast : ∀ (h1 : Heap) (tk : Nat), (∀ b o, s.heap.get? b = some o → h1.get? b = some o) →
      wpAny (model P w) A (newList (rest.take (rest.length - 0)) >>= fun d => pure ([x] ++ [d] ++ rest.drop (rest.length - 0))) Q E { s with heap := h1, toks := tk } := fun h1 tk k1 => by
    rw [Nat.sub_zero, List.take_length, List.drop_length]
    exact wpAny_bind (wpAny_newList (s := { s with heap := h1, toks := tk }) (wpAny_pure (h h1 tk k1)) (by rw [sizeLine_eq]; omega))
  unfold unpackItems
  refine wpAny_bind (sp.ok _ ?_)
  rw [if_neg Bool.false_ne_true]
  refine wpAny_bind (wpAny_holding (g0 _ fun it h0 k0 j0 => ?_))
  refine wpAny_bind (wpAny_holding (g1 it h0 _ k0 j0 fun h1 k1 j1 => ?_))
  rw [if_neg (show ¬ [x].length < 1 from Nat.lt_irrefl 1)]
  refine wpAny_bind (wpAny_holding (g2 it h1 _ k1 j1 fun h2 tk k2 => ?_))
  show wpAny _ _ (if rest.length < 0 then _ else _) _ _ _
  rw [if_neg (Nat.not_lt_zero _)]
  exact hlast h2 tk k2
theorem one_of {items : Array Value} {x : Value} {rest : List Value} (e : items.toList = x :: rest) : (items.toList.drop 0).take 1 = [x] ∧ items.toList.drop 1 = rest ∧ 1 ≤ items.size := by
  refine ⟨by rw [e]; rfl, by rw [e]; rfl, ?_⟩
  rw [← Array.length_toList, e]
  exact Nat.succ_le_succ (Nat.zero_le _)
section
variable {P : Program} {w : World} {A : Around} {E : Value → Shared → Prop} {s : Shared} {l : Addr} {items : Array Value} {x : Value} {rest : List Value}
theorem spread_list (hl : s.heap.IsList l items) (hh : A.handled = none) (e : items.toList = x :: rest) (hz : items.size ≤ 16384) : Spread P w A E s (.ref l) x rest := by
  obtain ⟨e1, e2, e3⟩ := one_of e
  have hne : l ≠ s.heap.objs.size := let ⟨_, ho, _⟩ := hl; Nat.ne_of_lt (Heap.lt_size ho)
  have far : ∀ b o, s.heap.get? b = some o → b ≠ s.heap.objs.size := fun b o q => Nat.ne_of_lt (Heap.lt_size q)
  refine ⟨fun Q q => ?_, fun it h => it = s.heap.objs.size ∧ h.IsListIter it l 0 ∧ h.IsList l items, fun it h => it = s.heap.objs.size ∧ h.IsListIter it l 1 ∧ h.IsList l items, fun Q q => ?_, fun it h0 Q k0 j0 q => ?_, fun it h1 Q k1 j1 q => ?_⟩
  · unfold notIterableAtAll
    exact wpAny_bind (wpAny_specialOf hl.typeIs slot_list_iter.lookup (wpAny_pure q))
  · exact wpAny_pyIter_list hl (q _ _ (fun b o k => Heap.get?_push_of_some _ k) ⟨rfl, ⟨_, Heap.get?_push_size _ rfl, rfl, rfl⟩, hl.push _⟩)
  · obtain ⟨rfl, i0, l0⟩ := j0
    refine kun_draw hne 1 0 _ _ i0 l0 (by omega) fun h1 i1 s1 => ?_
    rw [e1]
    exact q h1 (fun b o k => s1.extBut b o (far b o k) (k0 b o k)) ⟨rfl, i1, l0.extBut s1.extBut hne⟩
  · obtain ⟨rfl, i1, l1⟩ := j1
    have iz : s.heap.objs.size < h1.objs.size := let ⟨_, ho, _⟩ := i1; Heap.lt_size ho
    have lz : l < h1.objs.size := let ⟨_, ho, _⟩ := l1; Heap.lt_size ho
    refine kun_collect (s := { s with heap := h1 }) (T := "list_iterator") (.inr (.inr (.inl rfl))) (Walks.list (A := A.in1) hh s.heap.objs.size l hne items) (fun j u st => st.1.typeIs) (k := 1) e3 ⟨i1, l1⟩ iz lz (fun h2 tk k2 => ?_) (by rw [sizeLine_eq]; omega)
    rw [e2]
    exact q h2 tk fun b o k => k2 b o (far b o k) (k1 b o k)
theorem spread_tup (hl : IsTup s.heap l items) (hh : A.handled = none) (e : items.toList = x :: rest) (hz : items.size ≤ 16384) : Spread P w A E s (.ref l) x rest := by
  obtain ⟨e1, e2, e3⟩ := one_of e
  have hne : l ≠ s.heap.objs.size := let ⟨_, ho, _⟩ := hl; Nat.ne_of_lt (Heap.lt_size ho)
  have far : ∀ b o, s.heap.get? b = some o → b ≠ s.heap.objs.size := fun b o q => Nat.ne_of_lt (Heap.lt_size q)
  refine ⟨fun Q q => ?_, fun it h => it = s.heap.objs.size ∧ IsTupIter h it l 0 ∧ IsTup h l items, fun it h => it = s.heap.objs.size ∧ IsTupIter h it l 1 ∧ IsTup h l items, fun Q q => ?_, fun it h0 Q k0 j0 q => ?_, fun it h1 Q k1 j1 q => ?_⟩
  · unfold notIterableAtAll
    exact wpAny_bind (wpAny_specialOf hl.typeIs slot_tuple_iter.lookup (wpAny_pure q))
  · exact iter_tuple hl (q _ _ (fun b o k => Heap.get?_push_of_some _ k) ⟨rfl, ⟨_, Heap.get?_push_size _ rfl, rfl, rfl⟩, hl.push _⟩)
  · obtain ⟨rfl, i0, l0⟩ := j0
    refine draw_tuple hne 1 0 _ _ i0 l0 (by omega) fun h1 i1 s1 => ?_
    rw [e1]
    exact q h1 (fun b o k => s1.extBut b o (far b o k) (k0 b o k)) ⟨rfl, i1, l0.extBut s1.extBut hne⟩
  · obtain ⟨rfl, i1, l1⟩ := j1
    have iz : s.heap.objs.size < h1.objs.size := let ⟨_, ho, _⟩ := i1; Heap.lt_size ho
    have lz : l < h1.objs.size := let ⟨_, ho, _⟩ := l1; Heap.lt_size ho
    refine kun_collect (s := { s with heap := h1 }) (T := "tuple_iterator") (.inr (.inr (.inr rfl))) (Walks.tuple (A := A.in1) hh s.heap.objs.size l hne items) (fun j u st => st.1.typeIs) (k := 1) e3 ⟨i1, l1⟩ iz lz (fun h2 tk k2 => ?_) (by rw [sizeLine_eq]; omega)
    rw [e2]
    exact q h2 tk fun b o k => k2 b o (far b o k) (k1 b o k)
end
def gStar (K : PySem.W.Frag) (t : TGs) : TG := fun v σ H Q => ∃ a x xs, v = .ref a ∧ (SqL K H a (x :: xs) ∨ SqT K H a (x :: xs)) ∧ xs.length ≤ 16000 ∧ ∀ p, H p = none → t [x, .ref p] σ (upd H p (.lst xs)) Q
section
variable {X : Cx} {e0 e1 : Expr} {t : TGs} {sp pos : Pos} {kk : Nat}
theorem pg_star2 (hc : X.calm = true) (h : PGs X [e0, e1] t) (hst : (assignEach [e0, .Starred e1 sp] X.env).findIdx? (·.1) = some 1 := by rfl) (hm : (assignEach [e0, .Starred e1 sp] X.env).map (·.2) = (assignEach [e0, e1] X.env).map (·.2) := by rfl) (hl : (assignEach [e0, .Starred e1 sp] X.env).length = 2 := by rfl) : PG X (.Tuple [e0, .Starred e1 sp] kk pos) (gStar X.K t) := by
  refine ⟨fun pins s σ H v u Q I r hw => ?_⟩
  obtain ⟨a, x, xs, e1', hq, hlen, hw⟩ := hw
  subst e1'
  cases r
  rw [assign_Tuple]
  refine wpAny_bind (wpAny_standAt ?_)
  unfold unpack
  rw [hl, hst, hm]
  have go : ∀ (x0 : Value) (its : List Value), RelV x x0 → Vals xs its → ∀ (h' : Heap) tk, (∀ b o, s.heap.get? b = some o → h'.get? b = some o) →
      wpAny (model X.prog X.w) X.A (assignInOrder ((assignEach [e0, e1] X.env).map (·.2)) [x0, .ref h'.objs.size]) (fun _ s' => ∃ σ' H', Inv X pins σ' H' s' ∧ Q σ' H') X.xe { s with heap := h'.push { cls := .type "list", data := .seq its.toArray }, toks := tk } := by
    intro x0 its rx r h' tk hk
    have I1 : Inv X pins σ H { s with heap := h', toks := tk } := I.kept (t' := tk) hk
    have hf : H h'.objs.size = none := I1.hok.fresh (Nat.le_refl _)
    have I2 : Inv X pins σ (upd H h'.objs.size (.lst xs)) { s with heap := h'.push { cls := .type "list", data := .seq its.toArray }, toks := tk } :=
      I1.laid (t' := tk) (fun b u e => Heap.get?_push_of_some _ e) (Nat.le_refl _) ⟨by rw [sizeLine_eq]; omega, its, 0, r, Heap.get?_push_size _ rfl⟩
    exact h.run pins _ σ _ [x, .ref h'.objs.size] _ Q I2 (.cons rx (.cons rfl .nil)) (hw _ hf)
  rcases hq with hq | hq
  · obtain ⟨its, r, pl, _⟩ := I.list hq
    cases r with
    | cons rx r =>
      rename_i x0 its
      have hz : its.length ≤ 16000 := by rw [← r.length]; exact hlen
      exact wpAny_bind (wpAny_holding ((spread_list (x := x0) (rest := its) pl.isList (I.ok.hd hc) (by simp) (by simp; omega)).run hz fun h' tk hk => go x0 its rx r h' tk hk))
  · obtain ⟨its, r, pt, _⟩ := I.tuple hq
    cases r with
    | cons rx r =>
      rename_i x0 its
      have hz : its.length ≤ 16000 := by rw [← r.length]; exact hlen
      exact wpAny_bind (wpAny_holding ((spread_tup (x := x0) (rest := its) pt (I.ok.hd hc) (by simp) (by simp; omega)).run hz fun h' tk hk => go x0 its rx r h' tk hk))
end
section
variable {K : PySem.W.Frag} {Γ : Ct} {M : SH} {R : Rep} {vs : List Nat} {k : KC} {g0 g1 : TG}
theorem tg_star_at {gs : TGs} (h : Tg (gStar K gs) R Γ M vs k) : Tg (gStar K gs) R Γ M vs k := h
theorem tg_star {rs : List Rep} (hl : rs.length ≤ 16000) (h : Tgs (gCons g0 (gCons g1 gNil)) [R, iLst rs] Γ M vs k) (R' : Rep) (hR : R' = iLst (R :: rs) ∨ R' = aTup K (R :: rs) ∨ R' = aSeq K (R :: rs)) : Tg (gStar K (gCons g0 (gCons g1 gNil))) R' Γ M vs k := fun v σ S H Q I p o => by
  have go : ∀ a (xs : List V), v = .ref a → (SqL K H a xs ∨ SqT K H a xs) → All2 S (R :: rs) xs → gStar K (gCons g0 (gCons g1 gNil)) v σ H Q := by
    intro a xs e hq p2
    match xs, p2 with
    | [], p2 => exact p2.elim
    | x :: xs, p2 =>
      refine ⟨a, x, xs, e, hq, by rw [All2.len p2.2]; exact hl, fun q hq => ?_⟩
      have st := Stp.newS (o := .lst xs) I.ex I.m hq
      exact h [x, .ref q] σ _ _ Q (I.step st) ⟨R.m st.s p2.1, ⟨q, xs, rfl, upd_same, All2.mono st.s p2.2⟩, True.intro⟩ fun σ2 S2 H2 Γ2 M2 q2 st2 I2 w2 => o σ2 S2 H2 Γ2 M2 q2 (st.trans st2) I2 w2
  rcases hR with e | e | e
  · subst e
    obtain ⟨a, xs, e, q1, q2⟩ := p
    exact go a xs e (.inl (SqL.of (I.ex _ _ q1))) q2
  · subst e
    obtain ⟨a, xs, e, q1, q2⟩ := p
    exact go a xs e (.inr (Same.sqt I.ex q1)) q2
  · subst e
    rcases p with ⟨a, xs, e, q1, q2⟩ | ⟨a, xs, e, q1, q2⟩
    · exact go a xs e (.inl (SqL.of (I.ex _ _ q1))) q2
    · exact go a xs e (.inr (Same.sqt I.ex q1)) q2
end
end L3

namespace L3
open PySem L2 RZ PyProof.Rows
section
variable {E : XK} {K : PySem.W.Frag} {Γ : Ct} {M : SH} {k : KR} {X : KX} {R R1 R2 : Rep} {te ta tb tc tl : TE} {vs : List Nat} {D : EndT} {t u : TS} {c tt : TT} {tr : TA}
/-! ### slices, read from the left -/
def EoC (E : XK) (to : TO) (Γ : Ct) (M : SH) (ko : Option Int → SH → Prop) : Prop := ∀ σ S H (Q : Option Int → Hp → Prop), Nv S H σ Γ M → (∀ o S2 H2 M2, ko o M2 → Stp S H S2 H2 M M2 → Q o H2) → to σ H Q
theorem eoc_none {ko : Option Int → SH → Prop} (h : ko none M) : EoC E tNoPart Γ M ko := fun σ S H Q I o => o none S H M h (Stp.refl I.ex I.m)
theorem eoc_some {ko : Option Int → SH → Prop} (h : Ev E te Γ M (fun R M1 => ∃ i, R = iInt i ∧ ko (some i) M1) X0) : EoC E (tPart te) Γ M ko := fun σ S H Q I o =>
  h σ S H _ I (fun v S2 H2 R M2 ⟨i, e, q⟩ st p => by
    subst e; cases p
    exact ⟨i, rfl, o (some i) S2 H2 M2 q st⟩) (fun _ _ _ _ _ _ z => z.elim)
theorem k_int {i : Int} {P : Int → Prop} (h : P i) : ∃ j, iInt i = iInt j ∧ P j := ⟨i, rfl, h⟩
def Os (r : V → Option Int → Option Int → Hp → VK → Prop) (R : Rep) (lo hi : Option Int) (M : SH) (k : KR) : Prop := ∀ x S H Q, Same S H → MOk S H M → R.p S x → Out S H M k Q → r x lo hi H Q
theorem ev_slC {r : V → Option Int → Option Int → Hp → VK → Prop} {tlo thi : TO} (h : Ev E te Γ M (fun R1 M1 => EoC E tlo Γ M1 fun lo M2 => EoC E thi Γ M2 fun hi M3 => Os r R1 lo hi M3 k) X) : Ev E (tSl r te tlo thi) Γ M k X := fun σ S H Q I o ox =>
  h σ S H _ I (fun v S1 H1 R' M1 q st p => q σ S1 H1 _ (I.step st) fun lo S2 H2 M2 q2 st2 => q2 σ S2 H2 _ (I.step (st.trans st2)) fun hi S3 H3 M3 q3 st3 =>
    q3 v S3 H3 Q st3.e st3.m (R'.m (st2.s.trans st3.s) p) (o.step ((st.trans st2).trans st3))) ox
theorem os_list {rs : List Rep} {lo hi : Option Int} (q : k (iLst (cutL rs lo hi)) M) : Os (rSlL K) (iLst rs) lo hi M k := fun x S H Q e m p o => s_list k q x S H Q e m p o
theorem os_str {z : Str} {lo hi : Option Int} (hz : z.length ≤ 1000000) (q : k (aStr (cutS z lo hi)) M) : Os rSlS (aStr z) lo hi M k := fun x S H Q e m p o => s_str hz k q x S H Q e m p o
theorem os_tup {rs : List Rep} {lo hi : Option Int} (q : k (aTup K (cutL rs lo hi)) M) : Os (rSlA K) (aTup K rs) lo hi M k := fun x S H Q e m p o => by
  obtain ⟨a, xs, rfl, h1, h2⟩ := p
  refine ⟨a, xs, rfl, Same.sqt e h1, fun ⟨c1, c2⟩ => ?_, fun _ b hb => ?_⟩
  · refine o (.ref a) S H _ M q (Stp.refl e m) ⟨a, xs, rfl, h1, ?_⟩
    have e2 : cutL rs lo hi = rs := by
      unfold cutL
      rw [← h2.len, c1, c2, Nat.sub_zero, List.drop_zero]
      exact List.take_of_length_le (by rw [h2.len]; exact Nat.le_refl _)
    rw [e2]
    exact h2
  · exact o (.ref b) (upd S b (.tup (cutV xs lo hi))) _ _ M q (Stp.newS e m hb) ⟨b, _, rfl, SqT.of upd_same, (h2.cut lo hi).mono (Same.newS (Same.refl _) (e.free hb))⟩
theorem cutL_drop {α : Type} (l : List α) (n : Nat) : cutL l (some (n : Int)) none = l.drop n := by
  unfold cutL
  rw [HT.sIx_nat, HT.sIx_none]
  by_cases h : n ≤ l.length
  · rw [Nat.min_eq_left h]
    exact List.take_of_length_le (by rw [List.length_drop]; omega)
  · rw [Nat.min_eq_right (by omega), List.drop_of_length_le (Nat.le_refl _), List.drop_of_length_le (by omega)]
    simp
theorem cutL_take {α : Type} (l : List α) (n : Nat) : cutL l none (some (n : Int)) = l.take n := by
  unfold cutL
  rw [HT.sIx_nat, HT.sIx_none, List.drop_zero, Nat.sub_zero]
  by_cases h : n ≤ l.length
  · rw [Nat.min_eq_left h]
  · rw [Nat.min_eq_right (by omega), List.take_of_length_le (Nat.le_refl _), List.take_of_length_le (by omega)]
theorem cutL_last {α : Type} (l : List α) : cutL l none (some (-1)) = l.dropLast := by
  unfold cutL
  have e : HT.sIx l.length l.length (some (-1)) = l.length - 1 := by
    show (if (-1 : Int) < 0 then ((-1 : Int) + (l.length : Int)).toNat else min (-1 : Int).toNat l.length) = _
    rw [if_pos (show (-1 : Int) < 0 by decide)]
    omega
  rw [e, HT.sIx_none, List.drop_zero, Nat.sub_zero, List.dropLast_eq_take]
theorem cutL_1 {α : Type} (l : List α) : cutL l (some 1) none = l.drop 1 := cutL_drop l 1
theorem cutL_2 {α : Type} (l : List α) : cutL l (some 2) none = l.drop 2 := cutL_drop l 2
theorem cutL_t1 {α : Type} (l : List α) : cutL l none (some 1) = l.take 1 := cutL_take l 1
theorem cutL_t2 {α : Type} (l : List α) : cutL l none (some 2) = l.take 2 := cutL_take l 2
theorem Wk.trans {a b : Ct} (h : Wk a b) : ∀ {c : Ct}, Wk b c → Wk a c := by
  induction h with
  | nil => intro c h; exact h
  | no _ ih =>
    intro c h
    cases h with
    | no h => exact .no (ih h)
    | so h => exact .no (ih h)
  | so _ ih =>
    intro c h
    cases h with
    | so h => exact .so (ih h)
theorem k_ofL {rs : List Rep} {q : Rep → Prop} (h0 : 0 < rs.length) (h1 : rs.length ≤ 1000000) (h : ∀ r ∈ rs, q r) : ∃ Rs', LeS [iLst rs] Rs' ∧ ((∃ rs, Rs' = [iLst rs] ∧ 0 < rs.length ∧ rs.length ≤ 1000000 ∧ ∀ r ∈ rs, q r) ∨
  (∃ rs, Rs' = [aTup K rs] ∧ 0 < rs.length ∧ rs.length ≤ 1000000 ∧ ∀ r ∈ rs, q r) ∨
  (∃ z : Str, Rs' = [aStr z] ∧ 0 < z.length ∧ z.length ≤ 1000000 ∧ ∀ c ∈ z.cps.toList, q (aStr ⟨#[c]⟩))) := ⟨_, leS_rfl, .inl ⟨rs, rfl, h0, h1, h⟩⟩
theorem k_ofT {rs : List Rep} {q : Rep → Prop} (h0 : 0 < rs.length) (h1 : rs.length ≤ 1000000) (h : ∀ r ∈ rs, q r) : ∃ Rs', LeS [aTup K rs] Rs' ∧ ((∃ rs, Rs' = [iLst rs] ∧ 0 < rs.length ∧ rs.length ≤ 1000000 ∧ ∀ r ∈ rs, q r) ∨
  (∃ rs, Rs' = [aTup K rs] ∧ 0 < rs.length ∧ rs.length ≤ 1000000 ∧ ∀ r ∈ rs, q r) ∨
  (∃ z : Str, Rs' = [aStr z] ∧ 0 < z.length ∧ z.length ≤ 1000000 ∧ ∀ c ∈ z.cps.toList, q (aStr ⟨#[c]⟩))) := ⟨_, leS_rfl, .inr (.inl ⟨rs, rfl, h0, h1, h⟩)⟩
theorem k_ofS {z : Str} {q : Rep → Prop} (h0 : 0 < z.length) (h1 : z.length ≤ 1000000) (h : ∀ c ∈ z.cps.toList, q (aStr ⟨#[c]⟩)) : ∃ Rs', LeS [aStr z] Rs' ∧ ((∃ rs, Rs' = [iLst rs] ∧ 0 < rs.length ∧ rs.length ≤ 1000000 ∧ ∀ r ∈ rs, q r) ∨
  (∃ rs, Rs' = [aTup K rs] ∧ 0 < rs.length ∧ rs.length ≤ 1000000 ∧ ∀ r ∈ rs, q r) ∨
  (∃ z : Str, Rs' = [aStr z] ∧ 0 < z.length ∧ z.length ≤ 1000000 ∧ ∀ c ∈ z.cps.toList, q (aStr ⟨#[c]⟩))) := ⟨_, leS_rfl, .inr (.inr ⟨z, rfl, h0, h1, h⟩)⟩
theorem k_map {α : Type} {f : α → Rep} {l : List α} {P : Rep → Prop} (h : ∀ x ∈ l, P (f x)) : ∀ r ∈ l.map f, P r := fun r hr => by
  obtain ⟨x, hx, rfl⟩ := List.mem_map.mp hr
  exact h x hx
/-! ### tuples put together -/
theorem o_catT {r1 r2 : List Rep} (h : r1.length + r2.length ≤ 1000000) : O2p (rCatA K) (aTup K r1) (aTup K r2) M (aTup K (r1 ++ r2)) := fun k q x y S H Q e m h1 h2 o => by
  obtain ⟨a, xs, rfl, q1, q2⟩ := h1
  obtain ⟨b, ys, rfl, q3, q4⟩ := h2
  have q5 := q2.app q4
  refine ⟨a, b, xs, ys, rfl, rfl, Same.sqt e q1, Same.sqt e q3, by rw [q2.len, q4.len]; exact sz_le h, fun hx => ?_, fun _ hy => ?_, fun _ _ p hp => ?_⟩
  · subst hx
    exact o (.ref b) S H _ M q (Stp.refl e m) ⟨b, ys, rfl, q3, q5⟩
  · subst hy
    rw [List.append_nil] at q5
    exact o (.ref a) S H _ M q (Stp.refl e m) ⟨a, xs, rfl, q1, q5⟩
  · exact o (.ref p) (upd S p (.tup (xs ++ ys))) _ _ M q (Stp.newS e m hp) ⟨p, _, rfl, SqT.of upd_same, q5.mono (Same.newS (Same.refl _) (e.free hp))⟩
/-! ### lists that are changed, by their place in the symbolic heap -/
theorem at_split : ∀ {M : SH} {i : Nat} {a : Addr} {P P' : MRep}, M[i]? = some (a, P) → M = M.take i ++ (a, P) :: M.drop (i + 1) ∧ M.set i (a, P') = M.take i ++ (a, P') :: M.drop (i + 1)
  | [], i, a, P, P', h => by simp at h
  | x :: M, 0, a, P, P', h => by
    have e : x = (a, P) := by simpa using h
    subst e
    exact ⟨rfl, rfl⟩
  | x :: M, i + 1, a, P, P', h => by
    obtain ⟨h1, h2⟩ := at_split (M := M) (i := i) (P' := P') (by simpa using h)
    exact ⟨by simpa using h1, by simpa using h2⟩
theorem at_mem {M : SH} {i : Nat} {x : Addr × MRep} (h : M[i]? = some x) : x ∈ M := List.mem_of_getElem? h
theorem ev_append (h : Ev E ta Γ M (fun R1 M1 => ∃ (a : Addr) (i : Nat) (rs : List Rep), R1 = iRef a ∧ M1[i]? = some (a, mLst rs) ∧ Ea E tr Γ M1 (fun Rs M2 => ∃ (R : Rep) (j : Nat) (rs : List Rep), Rs = [R] ∧ M2[j]? = some (a, mLst rs) ∧ rs.length < 1000000 ∧ k iNon (M2.set j (a, mLst (rs ++ [R])))) X) X) : Ev E (tBM K "list" rAppend ta tr) Γ M k X :=
  ev_bm fun σ S H Q I o ox => h σ S H Q I (fun v S2 H2 R M2 ⟨a, i, rs, e, hm, q⟩ st p => by
    subst e
    refine o v S2 H2 (iRef a) M2 ⟨ty_mLst (at_mem hm), fun σ S H Q I o ox => q σ S H Q I (fun vs S2 H2 Rs M2 ⟨R, j, rs, e, hj, hl, q⟩ st p => ?_) ox⟩ st p
    subst e
    refine o vs S2 H2 [R] M2 ?_ st p
    obtain ⟨e1, e2⟩ := at_split (P' := mLst (rs ++ [R])) hj
    rw [e2] at q
    rw [e1]
    exact om_append hl q) ox
theorem k_app {a : Addr} {M : SH} {i : Nat} {rs : List Rep} {P : Addr → Prop} (hm : M[i]? = some (a, mLst rs)) (h : P a) : ∃ (b : Addr) (i : Nat) (rs : List Rep), iRef a = iRef b ∧ M[i]? = some (b, mLst rs) ∧ P b := ⟨a, i, rs, rfl, hm, h⟩
theorem k_app2_at {a : Addr} {M : SH} {P : Rep → Nat → List Rep → Prop} (h : ∃ (R' : Rep) (j : Nat) (rs : List Rep), [R] = [R'] ∧ M[j]? = some (a, mLst rs) ∧ rs.length < 1000000 ∧ P R' j rs) : ∃ (R' : Rep) (j : Nat) (rs : List Rep), [R] = [R'] ∧ M[j]? = some (a, mLst rs) ∧ rs.length < 1000000 ∧ P R' j rs := h
theorem nlt_at {a b : Nat} (h : a < b) : a < b := h
theorem k_app2 {a : Addr} {M : SH} {j : Nat} {rs : List Rep} {P : Rep → Nat → List Rep → Prop} (hm : M[j]? = some (a, mLst rs)) (hl : rs.length < 1000000) (h : P R j rs) : ∃ (R' : Rep) (j : Nat) (rs : List Rep), [R] = [R'] ∧ M[j]? = some (a, mLst rs) ∧ rs.length < 1000000 ∧ P R' j rs := ⟨R, j, rs, rfl, hm, hl, h⟩
/-- x = [], a list that is to be changed -/
theorem st_asgM {j : Nat} (h : ∀ a, D.nx (Γ.set j (some (iRef a))) (M ++ [(a, mLst [])])) : St E (tAsg (tLst tNil) (gName j)) Γ M D := st_asg (ev_lstM (ea_nil ⟨by simp, fun a => h a⟩))
/-- a list that was changed is told, and stays from then on -/
theorem ev_told (h : Ev E te Γ M (fun R M1 => ∃ (a : Addr) (i : Nat) (rs : List Rep), R = iRef a ∧ M1[i]? = some (a, mLst rs) ∧ k (iLst rs) (M1.eraseIdx i)) X) : Ev E te Γ M k X := ev_fzL (A := []) (B := []) fun σ S H Q I o ox => h σ S H Q I (fun v S2 H2 R M2 ⟨a, i, rs, e, hm, q⟩ st p => by
  refine o v S2 H2 R M2 ⟨a, rs, M2.take i, M2.drop (i + 1), e, (at_split (P' := mLst rs) hm).1, ?_⟩ st p
  rwa [← List.eraseIdx_eq_take_drop_succ]) ox
theorem st_told {i j : Nat} {a : Addr} {rs : List Rep} (hj : Γ[j]? = some (some (iRef a))) (hm : M[i]? = some (a, mLst rs)) (h : St E t (Γ.set j (some (iLst rs))) (M.eraseIdx i) D) : St E t Γ M D := by
  have e := (at_split (P' := mLst rs) hm).1
  rw [e]
  refine st_fzS (i := j) hj ?_
  rwa [← List.eraseIdx_eq_take_drop_succ]
/-! ### calls with defaults, by keywords -/
theorem ev_callPD {α : Type} {args : α → List Rep} {pre : α → Prop} {res : α → Rep} {dvs : List V} {Ds : List Rep} (hd : ∀ S, All2 S Ds dvs) (h : Ea E tr Γ M (fun Rs M1 => ∃ x, LeS (Rs ++ Ds) (args x) ∧ pre x ∧ k (res x) M1) X) : Ev E (tCall (spT (pureTs args pre res)) dvs E0 tr) Γ M k X := fun σ S H Q I o ox =>
  h σ S H _ I (fun xs S1 H1 Rs M1 ⟨x, le, hp, q⟩ st p => by
    refine spT_in (Mf := []) (Fr := M1) (Rs := args x) (X := X0) (k := k) ⟨x, rfl, hp, rfl, q⟩ st.e st.m (le S1 _ (p.app (hd S1))) (o.step st) (fun _ _ _ _ _ _ z => z.elim)) ox
theorem ev_callKP {α : Type} {args : α → List Rep} {pre : α → Prop} {res : α → Rep} {n m : Nat} {tk : TA} {gV : List V → List V → List V} {gR : List Rep → List Rep → List Rep} (hg : ∀ S Rs Zs vs zs, All2 S Rs vs → All2 S Zs zs → All2 S (gR Rs Zs) (gV vs zs))
    (h : Ea E tr Γ M (fun Rs M1 => Rs.length = n ∧ Ea E tk Γ M1 (fun Zs M2 => Zs.length = m ∧ ∃ x, LeS (gR Rs Zs) (args x) ∧ pre x ∧ k (res x) M2) X) X) : Ev E (tCallN n m (spT (pureTs args pre res)) gV E0 tr tk) Γ M k X := fun σ S H Q I o ox =>
  h σ S H _ I (fun vs S1 H1 Rs M1 ⟨e1, q⟩ st p => q σ S1 H1 _ (I.step st) (fun zs S2 H2 Zs M2 ⟨e2, x, le, hp, q2⟩ st2 p2 => by
    refine ⟨p.len.trans e1, p2.len.trans e2, ?_⟩
    refine spT_in (Mf := []) (Fr := M2) (Rs := args x) (X := X0) (k := k) ⟨x, rfl, hp, rfl, q2⟩ st2.e st2.m (le S2 _ (hg S2 Rs Zs vs zs (p.mono st2.s) p2)) (o.step (st.trans st2)) (fun _ _ _ _ _ _ z => z.elim)) (ox.step st)) ox
theorem ev_callPDi {α : Type} {args : α → List Rep} {pre : α → Prop} {res : α → Rep} {i : Int} (h : Ea E tr Γ M (fun Rs M1 => ∃ x, LeS (Rs ++ [iInt i]) (args x) ∧ pre x ∧ k (res x) M1) X) : Ev E (tCall (spT (pureTs args pre res)) [.int i] E0 tr) Γ M k X :=
  ev_callPD (Ds := [iInt i]) (fun _ => ⟨rfl, True.intro⟩) h
theorem ev_callN_at {n m : Nat} {sp : Sp} {gV : List V → List V → List V} {tk : TA} (h : Ev E (tCallN n m sp gV E0 tr tk) Γ M k X) : Ev E (tCallN n m sp gV E0 tr tk) Γ M k X := h
theorem k_leneq {a b : Nat} {P : Prop} (e : a = b) (h : P) : a = b ∧ P := ⟨e, h⟩
theorem all2_gapp (S : Hp) (Rs Zs : List Rep) (vs zs : List V) (h : All2 S Rs vs) (h2 : All2 S Zs zs) : All2 S (Rs ++ Zs) (vs ++ zs) := h.app h2
end
/-! ### what may be called by its name, keywords handed over -/
structure ClN (P : Program) (w : World) (K : PySem.W.Frag) (mg : Str → Option Value) (base : Heap) (CX : CXT) (k : Nat) (x : Str) (ts : TSp) (n : Nat) (ks : List Str) (gV : List V → List V → List V) : Prop where
  ex : ∃ (f : Addr) (fd : FuncData) (ps : List Str) (g : List Value → List Value → List Value), FnOk P w K mg base CX k f fd ps (spT ts) ∧ mg x = some (.ref f) ∧ PySem.W.keepIn K (.ref f) = true ∧ KBn K fd ps n ks g gV
section
variable {X : Cx} {CX : CXT} {k j n : Nat} {x : Str} {ts : TSp} {p pos : Pos} {e : Expr} {es : List Expr} {t tk : TA} {E : XK} {ks : List Str} {gV : List V → List V → List V} {kws : List Keyword}
theorem pe_clN (c : ClN X.prog X.w X.K X.mg X.base CX k x ts n ks gV) (hr : Room j X.A) (hk : k ≤ j) (hx : Passes CX X E) (hg : Gl X x) (ha : PA X (e :: es) t) (hkw : PK X kws tk)
    (hall : (backToKw pos (keywordEach kws X.env)).all (·.1.isSome) = true := by rfl) (hks : (backToKw pos (keywordEach kws X.env)).filterMap (·.1) = ks := by rfl)
    (hdb : (x == ("__debug__" : Str)) = false := by decide) (he : starEach (e :: es) X.env = (false, eval e X.env) :: starEach es X.env := by rfl)
    (hpl : ((backTo pos (starEach (e :: es) X.env)).any (·.1) || (backToKw pos (keywordEach kws X.env)).any (·.1.isNone)) = false := by rfl) :
    PE X (.Call (.Name x p) (e :: es) kws pos) (tCallN n ks.length (spT ts) gV E t tk) := by
  obtain ⟨f, fd, ps, g, F, hm, kp, b⟩ := c.ex
  exact pe_callN F (hr.mono hk) hg hm kp b hx ha hkw hall hks hdb he hpl
end
/-! ### texts as data -/
theorem shaped_str {z : Str} (h : ∀ c ∈ z.cps.toList, c < 1114112) : PyData.canLay0 (.str z) = true := by
  unfold PyData.canLay0
  show z.cps.all (· < 0x110000) = true
  rw [Array.all_eq_true']
  intro c hc
  exact decide_eq_true (h c (Array.mem_toList_iff.mpr hc))
theorem canAll {ds : List PyData} (h : ∀ d ∈ ds, PyData.canLay0 d = true) : PyData.canLayAll0 ds = true := by
  induction ds with
  | nil => rfl
  | cons d ds ih =>
    unfold PyData.canLayAll0
    rw [h d (List.mem_cons_self ..), ih fun x hx => h x (List.mem_cons_of_mem _ hx)]
    rfl
def Shp (n : Nat) (d : PyData) : Prop := PyData.canLay0 d = true ∧ PyData.depth d ≤ n
theorem depthAll_le {n : Nat} {ds : List PyData} (h : ∀ d ∈ ds, PyData.depth d ≤ n) : PyData.depthAll ds ≤ n := by
  induction ds with
  | nil => exact Nat.zero_le _
  | cons d ds ih =>
    unfold PyData.depthAll
    exact Nat.max_le.mpr ⟨h d (List.mem_cons_self ..), ih fun x hx => h x (List.mem_cons_of_mem _ hx)⟩
def StrOk (z : Str) : Prop := ∀ c ∈ z.cps.toList, c < 1114112
theorem shp_str {n : Nat} {z : Str} (h : StrOk z) : Shp n (.str z) := ⟨shaped_str h, by unfold PyData.depth; exact Nat.zero_le _⟩
theorem shp_int {n : Nat} {i : Int} : Shp n (.int i) := ⟨by unfold PyData.canLay0; rfl, by unfold PyData.depth; exact Nat.zero_le _⟩
theorem shp_bl {n : Nat} {b : Bool} : Shp n (.bool b) := ⟨by unfold PyData.canLay0; rfl, by unfold PyData.depth; exact Nat.zero_le _⟩
theorem shp_non {n : Nat} : Shp n .none := ⟨by unfold PyData.canLay0; rfl, by unfold PyData.depth; exact Nat.zero_le _⟩
theorem shp_list {n : Nat} {ds : List PyData} (h : ∀ d ∈ ds, Shp n d) : Shp (n + 1) (.list ds) := ⟨by unfold PyData.canLay0; exact canAll fun d hd => (h d hd).1, by unfold PyData.depth; exact Nat.succ_le_succ (depthAll_le fun d hd => (h d hd).2)⟩
theorem shp_tup {n : Nat} {ds : List PyData} (h : ∀ d ∈ ds, Shp n d) : Shp (n + 1) (.tuple ds) := ⟨by unfold PyData.canLay0; exact canAll fun d hd => (h d hd).1, by unfold PyData.depth; exact Nat.succ_le_succ (depthAll_le fun d hd => (h d hd).2)⟩
theorem Shp.ok {d : PyData} (h : Shp 64 d) : SeqAt.shaped d = true := by
  unfold SeqAt.shaped
  rw [Bool.and_eq_true]
  exact ⟨h.1, decide_eq_true h.2⟩
theorem shp_strs {n : Nat} {l : List Str} (h : ∀ z ∈ l, StrOk z) : ∀ d ∈ l.map PyData.str, Shp n d := fun d hd => by
  obtain ⟨z, hz, rfl⟩ := List.mem_map.mp hd
  exact shp_str (h z hz)
theorem o_neSame {K : PySem.W.Frag} {M : SH} {k : KR} {R1 R2 : Rep} {d : PyData} (hs : SeqAt.shaped d = true) (h1 : R1 = iDat K d) (h2 : R2 = iDat K d) (q : k (iBl false) M) : O2 (rNeD K) R1 R2 M k := by
  rw [h1, h2]
  refine o_neD hs hs k ?_
  rw [SeqAt.eqv_refl d (SeqAt.canLay_of_shaped hs)]
  exact q
theorem o_eqSame {K : PySem.W.Frag} {M : SH} {k : KR} {R1 R2 : Rep} {d : PyData} (hs : SeqAt.shaped d = true) (h1 : R1 = iDat K d) (h2 : R2 = iDat K d) (q : k (iBl true) M) : O2 (rEqD K) R1 R2 M k := by
  rw [h1, h2]
  refine o_eqD hs hs k ?_
  rw [SeqAt.eqv_refl d (SeqAt.canLay_of_shaped hs)]
  exact q
end L3

namespace L3
open PySem L2 RZ PyProof.Rows
/-! ### objects of own classes -/
abbrev FR := List (Str × Rep)
structure InsOk (S : Hp) (fs : FR) (vs : List (Str × V)) : Prop where
  nm : vs.map (·.1) = fs.map (·.1)
  al : All2 S (fs.map (·.2)) (vs.map (·.2))
theorem InsOk.mono {S S' : Hp} {fs : FR} {vs : List (Str × V)} (h : InsOk S fs vs) (e : Same S S') : InsOk S' fs vs := ⟨h.nm, h.al.mono e⟩
def iObj (C : Addr) (fs : FR) : Rep := ⟨fun S v => ∃ a dx vs, v = .ref a ∧ S a = some (.ins C dx vs) ∧ InsOk S fs vs, fun e ⟨a, dx, vs, h1, h2, h3⟩ => ⟨a, dx, vs, h1, e _ _ h2, h3.mono e⟩⟩
def mObj (C : Addr) (fs : FR) : MRep := ⟨fun S o => ∃ dx vs, o = .ins C dx vs ∧ InsOk S fs vs, fun e ⟨dx, vs, h1, h2⟩ => ⟨dx, vs, h1, h2.mono e⟩, fun ⟨dx, vs, h1, _⟩ ys z => by rw [h1] at z; cases z⟩
theorem InsOk.look {S : Hp} : ∀ {fs : FR} {vs : List (Str × V)}, InsOk S fs vs → ∀ f, (fs.lookup f = none → vs.lookup f = none) ∧ ∀ R, fs.lookup f = some R → ∃ v, vs.lookup f = some v ∧ R.p S v
  | [], [], _, f => ⟨fun _ => rfl, fun R e => by cases e⟩
  | [], _ :: _, h, f => by have := h.nm; simp at this
  | _ :: _, [], h, f => by have := h.nm; simp at this
  | (g, R) :: fs, (g', v) :: vs, h, f => by
    have e : g' = g := by have := h.nm; simp at this; exact this.1
    subst e
    have ih := InsOk.look (fs := fs) (vs := vs) ⟨by have := h.nm; simp at this; exact this, h.al.2⟩ f
    rw [List.lookup_cons, List.lookup_cons]
    by_cases hf : (f == g') = true
    · rw [hf]
      refine ⟨fun z => (nomatch z), fun R' z => ?_⟩
      have e : R = R' := Option.some.inj z
      subst e
      exact ⟨v, rfl, h.al.1⟩
    · rw [show (f == g') = false by simpa using hf]
      exact ih
def putR (f : Str) (R : Rep) : FR → FR
  | [] => [(f, R)]
  | (g, Q) :: r => if g = f then (g, R) :: r else (g, Q) :: putR f R r
theorem InsOk.put {S : Hp} {f : Str} {R : Rep} {v : V} (hR : R.p S v) : ∀ {fs : FR} {vs : List (Str × V)}, InsOk S fs vs → InsOk S (putR f R fs) (putF f v vs)
  | [], [], _ => ⟨rfl, hR, True.intro⟩
  | [], _ :: _, h => by have := h.nm; simp at this
  | _ :: _, [], h => by have := h.nm; simp at this
  | (g, Q) :: fs, (g', x) :: vs, h => by
    have e : g' = g := by have := h.nm; simp at this; exact this.1
    subst e
    have t : InsOk S fs vs := ⟨by have := h.nm; simp at this; exact this, h.al.2⟩
    unfold putR putF
    by_cases hf : g' = f
    · rw [if_pos hf, if_pos hf]
      exact ⟨by simpa using t.nm, hR, t.al⟩
    · rw [if_neg hf, if_neg hf]
      have ih := InsOk.put (f := f) hR t
      exact ⟨by simpa using ih.nm, h.al.1, ih.al⟩
theorem InsOk.len {S : Hp} {fs : FR} {vs : List (Str × V)} (h : InsOk S fs vs) : vs.length = fs.length := by
  have := congrArg List.length h.nm
  simpa using this
theorem Stp.wrAt {S H : Hp} {M : SH} {j : Nat} {a : Addr} {P P' : MRep} {o : HO} (hj : M[j]? = some (a, P)) (e : Same S H) (m : MOk S H M) (hP : P'.p S o) : Stp S H S (upd H a o) M (M.set j (a, P')) := by
  obtain ⟨e1, e2⟩ := at_split (P' := P') hj
  rw [e2]
  generalize M.take j = A at *
  generalize M.drop (j + 1) = B at *
  subst e1
  exact Stp.wrM e m hP
/-- an object, stable or in the symbolic heap -/
def HasO (M : SH) (R : Rep) (C : Addr) (fs : FR) : Prop := R = iObj C fs ∨ ∃ (a : Addr) (i : Nat), R = iRef a ∧ M[i]? = some (a, mObj C fs)
theorem HasO.get {M : SH} {R : Rep} {C : Addr} {fs : FR} (h : HasO M R C fs) {S H : Hp} {v : V} (e : Same S H) (m : MOk S H M) (p : R.p S v) : ∃ a dx vs, v = .ref a ∧ H a = some (.ins C dx vs) ∧ InsOk S fs vs := by
  rcases h with h | ⟨a, i, h, hm⟩
  · subst h
    obtain ⟨a, dx, vs, h1, h2, h3⟩ := p
    exact ⟨a, dx, vs, h1, e _ _ h2, h3⟩
  · subst h
    cases p
    obtain ⟨_, o, ho, dx, vs, rfl, h3⟩ := m.at_ _ _ (at_mem hm)
    exact ⟨a, dx, vs, rfl, ho, h3⟩
section
variable {E : XK} {K : PySem.W.Frag} {Γ : Ct} {M : SH} {k : KR} {X : KX} {R R1 R2 : Rep} {te ta tb tc tl tv : TE} {vs : List Nat} {D : EndT} {t u : TS} {c tt : TT} {tr : TA} {C : Addr} {f : Str}
theorem ho_s {fs : FR} : HasO M (iObj C fs) C fs := .inl rfl
theorem ho_m {fs : FR} {a : Addr} {i : Nat} (h : M[i]? = some (a, mObj C fs)) : HasO M (iRef a) C fs := .inr ⟨a, i, rfl, h⟩
theorem ev_fld (hc : Cls K C) (hn : NoAttr K C f) (h : Ev E ta Γ M (fun R M1 => ∃ fs, HasO M1 R C fs ∧ ∃ Rf, fs.lookup f = some Rf ∧ k Rf M1) X) : Ev E (tFld K ta f) Γ M k X := fun σ S H Q I o ox =>
  h σ S H _ I (fun v S1 H1 R M1 ⟨fs, ho, Rf, hf, q⟩ st p => by
    obtain ⟨a, dx, vs, e, ha, hi⟩ := ho.get st.e st.m p
    obtain ⟨w, hw, pw⟩ := (hi.look f).2 Rf hf
    exact ⟨a, C, dx, vs, w, e, ha, hc, hn, hw, o w S1 H1 Rf M1 q st pw⟩) ox
theorem k_fldS {fs : FR} {Rf : Rep} {P : Rep → Prop} (hf : fs.lookup f = some Rf) (h : P Rf) : ∃ fs', HasO M (iObj C fs) C fs' ∧ ∃ Rf, fs'.lookup f = some Rf ∧ P Rf := ⟨fs, .inl rfl, Rf, hf, h⟩
theorem k_fldM {fs : FR} {Rf : Rep} {a : Addr} {i : Nat} {P : Rep → Prop} (hm : M[i]? = some (a, mObj C fs)) (hf : fs.lookup f = some Rf) (h : P Rf) : ∃ fs', HasO M (iRef a) C fs' ∧ ∃ Rf, fs'.lookup f = some Rf ∧ P Rf := ⟨fs, .inr ⟨a, i, rfl, hm⟩, Rf, hf, h⟩
theorem st_fld (hc : Cls K C) (hn : NoAttr K C f) (h : Ev E tv Γ M (fun R1 M1 => Ev E ta Γ M1 (fun R2 M2 => ∃ (a : Addr) (j : Nat) (fs : FR), R2 = iRef a ∧ M2[j]? = some (a, mObj C fs) ∧ fs.length < 1000 ∧ D.nx Γ (M2.set j (a, mObj C (putR f R1 fs)))) D.ex) D.ex) : St E (sFld K ta tv f) Γ M D := fun σ S H D0 I o =>
  h σ S H _ I (fun v S1 H1 R1 M1 q1 st1 p1 => q1 σ S1 H1 _ (I.step st1) (fun x S2 H2 R2 M2 ⟨a, j, fs, e, hj, hl, q⟩ st2 p2 => by
    subst e
    cases p2
    have st := st1.trans st2
    obtain ⟨_, ob, ho, dx, vs, rfl, hi⟩ := st.m.at_ _ _ (at_mem hj)
    have wr := Stp.wrAt (P' := mObj C (putR f R1 fs)) (o := .ins C dx (putF f v vs)) hj st.e st.m ⟨dx, _, rfl, hi.put (R1.m st2.s p1)⟩
    exact ⟨a, C, dx, vs, rfl, ho, hc, hn, by rw [hi.len]; exact hl, o.nx σ S2 _ Γ _ q (st.trans wr) ((I.step st).step wr)⟩) (o.ex.step st1)) o.ex
/-! ### methods that change nothing; making -/
theorem erase_perm : ∀ {M : SH} {i : Nat} {x : Addr × MRep}, M[i]? = some x → M.Perm (x :: M.eraseIdx i)
  | [], i, x, h => by simp at h
  | y :: M, 0, x, h => by
    have e : y = x := by simpa using h
    subst e
    exact List.Perm.refl _
  | y :: M, i + 1, x, h => by
    have ih := erase_perm (M := M) (i := i) (x := x) (by simpa using h)
    exact (List.Perm.cons y ih).trans (List.Perm.swap x y _)
/-- a def, a method that changes nothing that is there -/
def roK (sp : SH → List Rep → (Rep → Prop) → Prop) : TSp := fun Rs M k _ => sp M Rs fun R => k R M
theorem ev_callRO {sp : SH → List Rep → (Rep → Prop) → Prop} (h : Ea E tr Γ M (fun Rs M1 => ∃ Rs', LeS Rs Rs' ∧ sp M1 Rs' fun R => k R M1) X) : Ev E (tCall (spT (roK sp)) [] E0 tr) Γ M k X := fun σ S H Q I o ox =>
  h σ S H _ I (fun xs S1 H1 Rs M1 ⟨Rs', le, q⟩ st p => by
    rw [List.append_nil]
    exact ⟨S1, Rs', M1, k, X0, q, st.e, st.m, le S1 _ p, o.step st, fun _ _ _ _ _ _ z => z.elim⟩) ox
def methK (C : Addr) (sp : SH → FR → List Rep → (Rep → Prop) → Prop) : TSp := fun Rs M k _ => ∃ R Rs' fs, Rs = R :: Rs' ∧ HasO M R C fs ∧ sp M fs Rs' fun R => k R M
theorem ev_methK {m : Str} {sp : SH → FR → List Rep → (Rep → Prop) → Prop} (h : Ev E ta Γ M (fun R M1 => ∃ fs, HasO M1 R C fs ∧ fs.lookup m = none ∧ Ea E tr Γ M1 (fun Rs M2 => HasO M2 R C fs ∧ ∃ Rs', LeS Rs Rs' ∧ sp M2 fs Rs' fun R' => k R' M2) X) X) : Ev E (tMeth C m (spT (methK C sp)) [] E0 ta tr) Γ M k X := fun σ S H Q I o ox =>
  h σ S H _ I (fun v S1 H1 R M1 ⟨fs, ho, hm, q⟩ st p => by
    obtain ⟨a, dx, vs, e, ha, hi⟩ := ho.get st.e st.m p
    refine ⟨a, dx, vs, e, ha, (hi.look m).1 hm, q σ S1 H1 _ (I.step st) (fun xs S2 H2 Rs M2 ⟨ho2, Rs', le, q2⟩ st2 p2 => ?_) (ox.step st)⟩
    rw [List.append_nil]
    exact ⟨S2, R :: Rs', M2, k, X0, ⟨R, Rs', fs, rfl, ho2, q2⟩, st2.e, st2.m, ⟨R.m st2.s p, le S2 _ p2⟩, o.step (st.trans st2), fun _ _ _ _ _ _ z => z.elim⟩) ox
def initK (C : Addr) (sp : List Rep → (FR → Prop) → Prop) : TSp := fun Rs M k _ => ∃ a Rs', Rs = iRef a :: Rs' ∧ M = [(a, mObj C [])] ∧ ∃ Z : FR → Prop, sp Rs' Z ∧ ∀ fs, Z fs → k iNon [(a, mObj C fs)]
theorem ev_make {sp : List Rep → (FR → Prop) → Prop} {dvs : List V} {Ds : List Rep} (hd : ∀ S, All2 S Ds dvs) (h : Ea E tr Γ M (fun Rs M1 => ∃ Rs', LeS (Rs ++ Ds) Rs' ∧ sp Rs' fun fs => k (iObj C fs) M1) X) : Ev E (tMake C (spT (initK C sp)) dvs E0 tr) Γ M k X := fun σ S H Q I o ox =>
  h σ S H _ I (fun xs S1 H1 Rs M1 ⟨Rs', le, q⟩ st p x dx hx hdx hne => by
    have s1 := Stp.newS (o := .own x) st.e st.m hdx
    have hx1 : upd H1 dx (.own x) x = none := by rw [upd_ne (Ne.symm hne)]; exact hx
    have s2 := Stp.newM (P := mObj C []) (o := .ins C dx []) s1.e s1.m hx1 ⟨dx, [], rfl, rfl, True.intro⟩
    have st2 := (st.trans s1).trans s2
    have pm : (M1 ++ [(x, mObj C [])]).Perm ([(x, mObj C [])] ++ M1) := List.perm_append_comm
    refine spT_in (ts := initK C sp) (Mf := [(x, mObj C [])]) (Fr := M1) (Rs := iRef x :: Rs') (X := X0) (k := fun R' M' => R' = iNon ∧ ∃ fs, M' = [(x, mObj C fs)] ++ M1 ∧ k (iObj C fs) M1) ⟨x, Rs', rfl, rfl, _, q, fun fs z => ⟨rfl, fs, rfl, z⟩⟩ s2.e (st2.m.perm pm) ⟨rfl, le _ _ ((p.mono s1.s).app (hd _))⟩ (fun w S3 H3 R3 M3 ⟨e3, fs, e4, q3⟩ st3 p3 => ?_) (fun _ _ _ _ _ _ z => z.elim)
    subst e3
    subst e4
    cases p3
    obtain ⟨_, ob, ho, dx', vs, rfl, hi⟩ := st3.m.at_ x (mObj C fs) (by simp)
    have fz := Stp.fz (A := []) (B := M1) (P := mObj C fs) st3.e st3.m ho
    exact ⟨rfl, o (.ref x) _ H3 (iObj C fs) M1 q3 ((st2.trans (st3.permL pm)).trans fz) ⟨x, dx', vs, rfl, upd_same, hi.mono fz.s⟩⟩) ox
/-! ### a list, however it stands -/
def HasL (K : PySem.W.Frag) (M : SH) (R : Rep) (rs : List Rep) : Prop := R = iLst rs ∨ R = aTup K rs ∨ R = aSeq K rs ∨ ∃ (a : Addr) (i : Nat), R = iRef a ∧ M[i]? = some (a, mLst rs)
theorem HasL.get {rs : List Rep} (h : HasL K M R rs) {S H : Hp} {v : V} (e : Same S H) (m : MOk S H M) (p : R.p S v) : ∃ a xs, v = .ref a ∧ (SqL K H a xs ∨ SqT K H a xs) ∧ All2 S rs xs := by
  rcases h with h | h | h | ⟨a, i, h, hm⟩
  · subst h
    obtain ⟨a, xs, e1, q1, q2⟩ := p
    exact ⟨a, xs, e1, .inl (SqL.of (e _ _ q1)), q2⟩
  · subst h
    obtain ⟨a, xs, e1, q1, q2⟩ := p
    exact ⟨a, xs, e1, .inr (Same.sqt e q1), q2⟩
  · subst h
    rcases p with ⟨a, xs, e1, q1, q2⟩ | ⟨a, xs, e1, q1, q2⟩
    · exact ⟨a, xs, e1, .inl (SqL.of (e _ _ q1)), q2⟩
    · exact ⟨a, xs, e1, .inr (Same.sqt e q1), q2⟩
  · subst h
    cases p
    obtain ⟨_, o, ho, xs, rfl, q2⟩ := m.at_ _ _ (at_mem hm)
    exact ⟨a, xs, rfl, .inl (SqL.of ho), q2⟩
theorem o_inG {x : Str} {l : List Str} (h : HasL K M R (l.map aStr)) : O2p (rIn K false) (aStr x) R M (iBl (decide (x ∈ l))) := o2_val fun v y S H e m h1 h2 => by
  cases h1
  obtain ⟨a, xs, rfl, q1, q2⟩ := h.get e m h2
  rw [All2.flat (r := aStr) (g := V.str) (fun _ _ h => h) q2] at q1
  exact ⟨_, rfl, fun Q q => ⟨a, _, rfl, q1, rfl, all_flat_str l, by rw [if_neg Bool.false_ne_true, inV_str]; exact q⟩⟩
theorem o_ninG {x : Str} {l : List Str} (h : HasL K M R (l.map aStr)) : O2p (rIn K true) (aStr x) R M (iBl (!decide (x ∈ l))) := o2_val fun v y S H e m h1 h2 => by
  cases h1
  obtain ⟨a, xs, rfl, q1, q2⟩ := h.get e m h2
  rw [All2.flat (r := aStr) (g := V.str) (fun _ _ h => h) q2] at q1
  exact ⟨_, rfl, fun Q q => ⟨a, _, rfl, q1, rfl, all_flat_str l, by rw [if_pos rfl, inV_str]; exact q⟩⟩
theorem c_lenG {rs : List Rep} (h : HasL K M R rs) : Olp (rLn K) [R] M (iInt rs.length) := ol_val fun xs S H e m p => by
  obtain ⟨v, rfl, p1⟩ := all2_1 p
  obtain ⟨a, ys, rfl, q1, q2⟩ := h.get e m p1
  rcases q1 with q1 | q1
  · exact ⟨_, rfl, fun Q q => ⟨_, rs.length, rfl, .inl ⟨ys, q1, q2.len.symm⟩, q⟩⟩
  · exact ⟨_, rfl, fun Q q => ⟨_, rs.length, rfl, .inr ⟨ys, q1, q2.len.symm⟩, q⟩⟩
/-! ### dicts whose keys are pairs of texts, all True -/
def pkV (p : Str × Str) : List Key × V := ([.inr p.1, .inr p.2], .bl true)
def iPD (ps : List (Str × Str)) : Rep := ⟨fun S v => ∃ a, v = .ref a ∧ S a = some (.dT (ps.map pkV)), fun e ⟨a, h1, h2⟩ => ⟨a, h1, e _ _ h2⟩⟩
def mPD (ps : List (Str × Str)) : MRep := ⟨fun _ o => o = .dT (ps.map pkV), fun _ h => h, fun h ys z => by rw [h] at z; cases z⟩
def HasP (M : SH) (R : Rep) (ps : List (Str × Str)) : Prop := R = iPD ps ∨ ∃ (a : Addr) (i : Nat), R = iRef a ∧ M[i]? = some (a, mPD ps)
theorem HasP.get {ps : List (Str × Str)} (h : HasP M R ps) {S H : Hp} {v : V} (e : Same S H) (m : MOk S H M) (p : R.p S v) : ∃ a, v = .ref a ∧ H a = some (.dT (ps.map pkV)) := by
  rcases h with h | ⟨a, i, h, hm⟩
  · subst h
    obtain ⟨a, h1, h2⟩ := p
    exact ⟨a, h1, e _ _ h2⟩
  · subst h
    cases p
    obtain ⟨_, o, ho, q⟩ := m.at_ _ _ (at_mem hm)
    cases q
    exact ⟨a, rfl, ho⟩
theorem valV_pk (p : Str × Str) : ∀ ps : List (Str × Str), (valV (ps.map pkV) [Sum.inr p.1, Sum.inr p.2]).isSome = decide (p ∈ ps)
  | [] => by simp [valV]
  | q :: ps => by
    rw [List.map_cons]
    by_cases e : q = p
    · subst e
      rw [show valV (pkV q :: ps.map pkV) [Sum.inr q.1, Sum.inr q.2] = some (pkV q).2 from valV_pos (p := pkV q) rfl]
      simp
    · have ne : ¬ (pkV q).1 = [Sum.inr p.1, Sum.inr p.2] := fun z => e (by
        have : ([Sum.inr q.1, Sum.inr q.2] : List Key) = [Sum.inr p.1, Sum.inr p.2] := z
        simp at this
        exact Prod.ext this.1 this.2)
      rw [valV_neg ne, valV_pk p ps]
      have : ¬ p = q := fun z => e z.symm
      simp [this]
def putP (ps : List (Str × Str)) (p : Str × Str) : List (Str × Str) := if p ∈ ps then ps else ps ++ [p]
theorem putK_pk (ps : List (Str × Str)) (p : Str × Str) : putK (ps.map pkV) [Sum.inr p.1, Sum.inr p.2] (.bl true) = (putP ps p).map pkV := by
  unfold putK putP
  rw [valV_any, valV_pk]
  by_cases h : p ∈ ps
  · rw [if_pos (by simpa using h), if_pos h, List.map_map]
    refine List.map_congr_left fun q _ => ?_
    show (if (pkV q).1 = _ then ((pkV q).1, V.bl true) else pkV q) = pkV q
    split <;> rfl
  · rw [if_neg (by simpa using h), if_neg h, List.map_append]
    rfl
theorem ev_dinP {tx ty td : TE} (h : Ea E (tCons tx (tCons ty tNil)) Γ M (fun Rs M1 => ∃ a b, Rs = [aStr a, aStr b] ∧ Ev E td Γ M1 (fun R M2 => ∃ ps, HasP M2 R ps ∧ k (iBl (decide ((a, b) ∈ ps))) M2) X) X) : Ev E (tDIn (tTup (tCons tx (tCons ty tNil))) td) Γ M k X := fun σ S H Q I o ox => by
  unfold tDIn tTup
  exact h σ S H _ I (fun xs S1 H1 Rs M1 ⟨a, b, e, q⟩ st p => by
    subst e
    obtain ⟨v, w, rfl, p1, p2⟩ := all2_2 p
    cases p1; cases p2
    refine ⟨sz_le (by simp), fun T hT => ?_⟩
    have s2 := Stp.newS (o := .tup [.str a, .str b]) st.e st.m hT
    exact q σ _ _ _ (I.step (st.trans s2)) (fun y S3 H3 R M3 ⟨ps, hp, q3⟩ st3 p3 => by
      obtain ⟨d, rfl, hd⟩ := hp.get st3.e st3.m p3
      have eb : H3 T = some (.tup ([Sum.inr a, Sum.inr b].map kV)) := st3.e _ _ (st3.s _ _ upd_same)
      refine ⟨d, _, rfl, DGet.t hd eb, ?_⟩
      rw [valV_pk (a, b)]
      exact (o.step (st.trans s2)) _ S3 H3 _ M3 q3 st3 rfl) (ox.step (st.trans s2))) ox
theorem ev_dnewT (h : ∀ a, k (iRef a) (M ++ [(a, mPD [])])) : Ev E tDNewT Γ M k X := fun σ S H Q I o ox p hp =>
  o (.ref p) S _ (iRef p) _ (h p) (Stp.newM (P := mPD []) I.ex I.m hp rfl) rfl
/-- d[a, b] = True -/
theorem tg_putP {to tx ty : TE} {kc : KC} (h : Ev E0 to Γ M (fun R M1 => ∃ d, R = iRef d ∧ Ea E0 (tCons tx (tCons ty tNil)) Γ M1 (fun Rs M2 => ∃ (a b : Str) (i : Nat) (ps : List (Str × Str)), Rs = [aStr a, aStr b] ∧ M2[i]? = some (d, mPD ps) ∧ ps.length < 1000000 ∧ kc Γ (M2.set i (d, mPD (putP ps (a, b))))) X0) X0) : Tg (gSub to (tTup (tCons tx (tCons ty tNil))) rSetD) (iBl true) Γ M vs kc := fun v σ S H Q I p o => by
  cases p
  refine h σ S H _ I (fun x S1 H1 R M1 ⟨d, e, q⟩ st p1 => ?_) (fun _ _ _ _ _ _ z => z.elim)
  subst e
  cases p1
  refine q σ S1 H1 _ (I.step st) (fun xs S2 H2 Rs M2 ⟨a, b, i, ps, e, hm, hl, q2⟩ st2 p2 => ?_) (fun _ _ _ _ _ _ z => z.elim)
  subst e
  obtain ⟨v, w, rfl, p3, p4⟩ := all2_2 p2
  cases p3; cases p4
  refine ⟨sz_le (by simp), fun T hT => ?_⟩
  have s12 := st.trans st2
  have s3 := Stp.newS (o := .tup [.str a, .str b]) s12.e s12.m hT
  obtain ⟨_, o', ho, qd⟩ := s3.m.at_ _ _ (at_mem hm)
  cases qd
  have w := Stp.wrAt (P' := mPD (putP ps (a, b))) (o := .dT (putK (ps.map pkV) [Sum.inr a, Sum.inr b] (.bl true))) hm s3.e s3.m (congrArg HO.dT (putK_pk ps (a, b)))
  refine ⟨d, _, rfl, DPut.t (k := [Sum.inr a, Sum.inr b]) ho (upd_same) (by rw [List.length_map]; exact sz_lt (by omega)), ?_⟩
  exact o σ _ _ Γ _ q2 ((s12.trans s3).trans w) (I.step ((s12.trans s3).trans w)) fun _ => rfl
theorem st_asg2 {g1 g2 : TG} (h : Ev E te Γ M (fun R M1 => Tg g1 R Γ M1 [] fun Γ1 M2 => Tg g2 R Γ1 M2 [] D.nx) D.ex) : St E (tAsg2 te g1 g2) Γ M D := fun σ S H D0 I o =>
  h σ S H _ I (fun v S2 H2 R M2 q st p => q v σ S2 H2 _ (I.step st) p fun σ3 S3 H3 Γ3 M3 q3 st3 I3 _ => q3 v σ3 S3 H3 _ I3 (R.m st3.s p) fun σ4 S4 H4 Γ4 M4 q4 st4 I4 _ => o.nx σ4 S4 H4 Γ4 M4 q4 ((st.trans st3).trans st4) I4) o.ex
/-! ### what was changed, and stays from then on: told by a field -/
theorem InsOk.re {S : Hp} {f : Str} {R R' : Rep} (hr : ∀ v, R.p S v → R'.p S v) : ∀ {fs : FR} {vs : List (Str × V)}, InsOk S fs vs → fs.lookup f = some R → InsOk S (putR f R' fs) vs
  | [], _, _, hf => by cases hf
  | _ :: _, [], h, _ => by have := h.nm; simp at this
  | (g, Q) :: fs, (g', x) :: vs, h, hf => by
    have e : g' = g := by have := h.nm; simp at this; exact this.1
    subst e
    have t : InsOk S fs vs := ⟨by have := h.nm; simp at this; exact this, h.al.2⟩
    rw [List.lookup_cons] at hf
    unfold putR
    by_cases hg : g' = f
    · subst hg
      rw [show (g' == g') = true from beq_self_eq_true g'] at hf
      have e : Q = R := Option.some.inj hf
      subst e
      rw [if_pos rfl]
      exact ⟨by simpa using t.nm, hr x h.al.1, t.al⟩
    · rw [show (f == g') = false from beq_eq_false_iff_ne.mpr fun z => hg z.symm] at hf
      rw [if_neg hg]
      have ih := InsOk.re hr t hf
      exact ⟨by simpa using ih.nm, h.al.1, ih.al⟩
theorem Stp.re {S H : Hp} {M : SH} {j : Nat} {a : Addr} {P P' : MRep} (hj : M[j]? = some (a, P)) (e : Same S H) (m : MOk S H M) (h : ∀ o, P.p S o → P'.p S o) : Stp S H S H M (M.set j (a, P')) := by
  obtain ⟨e1, e2⟩ := at_split (P' := P') hj
  rw [e2]
  generalize M.take j = A at *
  generalize M.drop (j + 1) = B at *
  subst e1
  have ed : dm (A ++ (a, P) :: B) = dm (A ++ (a, P') :: B) := by simp [dm]
  exact ⟨Same.refl _, e, fun b h1 h2 => absurd h1 h2, fun _ _ _ h => h, m.re h, fun b hb => .inl (by rw [ed]; exact hb)⟩
theorem Stp.fzAt {S H : Hp} {M : SH} {i : Nat} {a : Addr} {P : MRep} {o : HO} (hi : M[i]? = some (a, P)) (e : Same S H) (m : MOk S H M) (ho : H a = some o) : Stp S H (upd S a o) H M (M.eraseIdx i) := by
  have e1 := (at_split (P' := P) hi).1
  rw [List.eraseIdx_eq_take_drop_succ]
  generalize M.take i = A at *
  generalize M.drop (i + 1) = B at *
  subst e1
  exact Stp.fz e m ho
theorem Nv.cont {S H S2 H2 : Hp} {σ : L2.St} {M M2 : SH} (I : Nv S H σ Γ M) (st : Stp S H S2 H2 M M2) {t : TS} {D0 : Ends} (o : EndOk S H M D D0 E) (h : St E t Γ M2 D) (hH : H2 = H) : t D0 σ H := by
  have := h σ S2 H2 D0 (I.step st) (o.step st)
  rw [hH] at this
  exact this
theorem st_fzF {i j : Nat} {l x : Addr} {rs : List Rep} {fs : FR} {f : Str} (hl : M[i]? = some (l, mLst rs)) (hx : (M.eraseIdx i)[j]? = some (x, mObj C fs)) (hf : fs.lookup f = some (iRef l)) (h : St E t Γ ((M.eraseIdx i).set j (x, mObj C (putR f (iLst rs) fs))) D) : St E t Γ M D := fun σ S H D0 I o => by
  obtain ⟨_, ob, ho, xs, rfl, px⟩ := I.m.at_ l (mLst rs) (at_mem hl)
  have f1 := Stp.fzAt hl I.ex I.m ho
  have f2 := Stp.re (P' := mObj C (putR f (iLst rs) fs)) hx f1.e f1.m fun o ⟨dx, vs, e, hi⟩ => ⟨dx, vs, e, hi.re (fun v p => by cases p; exact ⟨l, xs, rfl, upd_same, px.mono f1.s⟩) hf⟩
  exact I.cont (f1.trans f2) o h rfl
theorem st_fzP {i j : Nat} {l x : Addr} {ps : List (Str × Str)} {fs : FR} {f : Str} (hl : M[i]? = some (l, mPD ps)) (hx : (M.eraseIdx i)[j]? = some (x, mObj C fs)) (hf : fs.lookup f = some (iRef l)) (h : St E t Γ ((M.eraseIdx i).set j (x, mObj C (putR f (iPD ps) fs))) D) : St E t Γ M D := fun σ S H D0 I o => by
  obtain ⟨_, ob, ho, px⟩ := I.m.at_ l (mPD ps) (at_mem hl)
  cases px
  have f1 := Stp.fzAt hl I.ex I.m ho
  have f2 := Stp.re (P' := mObj C (putR f (iPD ps) fs)) hx f1.e f1.m fun o ⟨dx, vs, e, hi⟩ => ⟨dx, vs, e, hi.re (fun v p => by cases p; exact ⟨l, rfl, upd_same⟩) hf⟩
  exact I.cont (f1.trans f2) o h rfl
end
end L3

namespace L3
open PySem L2 RZ PyProof.Rows
/-! ### methods, classes, as they may be called -/
structure ClM (P : Program) (w : World) (K : PySem.W.Frag) (mg : Str → Option Value) (base : Heap) (CX : CXT) (k : Nat) (C : Addr) (m : Str) (ts : TSp) (dvs : List V) : Prop where
  cl : Cls K C
  ex : ∃ (f : Addr) (fd : FuncData) (ps : List Str) (ds : List Value), FnOk P w K mg base CX k f fd ps (spT ts) ∧ Meth K C m f ∧ Binds K fd ps ds ∧ Vals dvs ds
structure ClI (P : Program) (w : World) (K : PySem.W.Frag) (mg : Str → Option Value) (base : Heap) (CX : CXT) (k : Nat) (C : Addr) (x : Str) (ts : TSp) (dvs : List V) : Prop where
  ex : ∃ (f : Addr) (fd : FuncData) (ps : List Str) (ds : List Value), FnOk P w K mg base CX k f fd ps (spT ts) ∧ Mk K C f ∧ mg x = some (.ref C) ∧ Binds K fd ps ds ∧ Vals dvs ds
structure ClIN (P : Program) (w : World) (K : PySem.W.Frag) (mg : Str → Option Value) (base : Heap) (CX : CXT) (k : Nat) (C : Addr) (x : Str) (ts : TSp) (n : Nat) (ks : List Str) (gV : List V → List V → List V) : Prop where
  ex : ∃ (f : Addr) (fd : FuncData) (ps : List Str) (g : List Value → List Value → List Value), FnOk P w K mg base CX k f fd ps (spT ts) ∧ Mk K C f ∧ mg x = some (.ref C) ∧ KBn K fd ps (n + 1) ks g gV
section
variable {X : Cx} {CX : CXT} {k j n : Nat} {C : Addr} {x m : Str} {ts : TSp} {dvs : List V} {p pos apos : Pos} {o e : Expr} {es : List Expr} {t tk : TA} {ta : TE} {E : XK} {ks : List Str} {gV : List V → List V → List V} {kws : List Keyword}
theorem pe_clM {pl : Sem Bool} (c : ClM X.prog X.w X.K X.mg X.base CX k C m ts dvs) (hr : Room j X.A) (hk : k ≤ j) (hx : Passes CX X E) (he : PE X o ta) (ha : PA X (e :: es) t)
    (hst : starEach (e :: es) X.env = (false, eval e X.env) :: starEach es X.env := by rfl) (hpl : (backTo pos (starEach es X.env)).any (·.1) = false := by rfl)
    (ht : eval (.Call (.Attribute o m apos) (e :: es) [] pos) X.env = (do
      let ov ← eval o X.env
      standAt apos.atName
      let (f, first) ← holding [ov] (getMethod ov m pl)
      callWith pos f first (backTo pos (starEach (e :: es) X.env)) (backToKw pos (keywordEach [] X.env))) := by rfl) :
    PE X (.Call (.Attribute o m apos) (e :: es) [] pos) (tMeth C m (spT ts) dvs E ta t) := by
  obtain ⟨f, fd, ps, ds, F, hm, b, d⟩ := c.ex
  exact pe_meth he c.cl hm F (hr.mono hk) b d hx ha hst hpl ht
theorem pe_clM0 {pl : Sem Bool} (c : ClM X.prog X.w X.K X.mg X.base CX k C m ts dvs) (hr : Room j X.A) (hk : k ≤ j) (hx : Passes CX X E) (he : PE X o ta)
    (ht : eval (.Call (.Attribute o m apos) [] [] pos) X.env = (do
      let ov ← eval o X.env
      standAt apos.atName
      let (f, first) ← holding [ov] (getMethod ov m pl)
      callWith pos f first (backTo pos (starEach [] X.env)) (backToKw pos (keywordEach [] X.env))) := by rfl) :
    PE X (.Call (.Attribute o m apos) [] [] pos) (tMeth C m (spT ts) dvs E ta tNil) := by
  obtain ⟨f, fd, ps, ds, F, hm, b, d⟩ := c.ex
  exact pe_meth0 he c.cl hm F (hr.mono hk) b d hx ht
theorem pe_clI (c : ClI X.prog X.w X.K X.mg X.base CX k C x ts dvs) (hr : Room j X.A) (hk : k + 1 ≤ j) (hx : Passes CX X E) (hg : Gl X x) (ha : PA X (e :: es) t)
    (hdb : (x == ("__debug__" : Str)) = false := by decide) (he : starEach (e :: es) X.env = (false, eval e X.env) :: starEach es X.env := by rfl) (hpl : (backTo pos (starEach es X.env)).any (·.1) = false := by rfl) :
    PE X (.Call (.Name x p) (e :: es) [] pos) (tMake C (spT ts) dvs E t) := by
  obtain ⟨f, fd, ps, ds, F, M, hm, b, d⟩ := c.ex
  exact pe_make M F (hr.mono hk) hg hm b d hx ha hdb he hpl
theorem pe_clI0 (c : ClI X.prog X.w X.K X.mg X.base CX k C x ts dvs) (hr : Room j X.A) (hk : k + 1 ≤ j) (hx : Passes CX X E) (hg : Gl X x) (hdb : (x == ("__debug__" : Str)) = false := by decide) :
    PE X (.Call (.Name x p) [] [] pos) (tMake C (spT ts) dvs E tNil) := by
  obtain ⟨f, fd, ps, ds, F, M, hm, b, d⟩ := c.ex
  exact pe_make0 M F (hr.mono hk) hg hm b d hx hdb
theorem pe_clIN (c : ClIN X.prog X.w X.K X.mg X.base CX k C x ts n ks gV) (hr : Room j X.A) (hk : k + 1 ≤ j) (hx : Passes CX X E) (hg : Gl X x) (ha : PA X (e :: es) t) (hkw : PK X kws tk)
    (hall : (backToKw pos (keywordEach kws X.env)).all (·.1.isSome) = true := by rfl) (hks : (backToKw pos (keywordEach kws X.env)).filterMap (·.1) = ks := by rfl)
    (hdb : (x == ("__debug__" : Str)) = false := by decide) (he : starEach (e :: es) X.env = (false, eval e X.env) :: starEach es X.env := by rfl)
    (hpl : ((backTo pos (starEach (e :: es) X.env)).any (·.1) || (backToKw pos (keywordEach kws X.env)).any (·.1.isNone)) = false := by rfl) :
    PE X (.Call (.Name x p) (e :: es) kws pos) (tMakeN C n ks.length (spT ts) gV E t tk) := by
  obtain ⟨f, fd, ps, g, F, M, hm, b⟩ := c.ex
  exact pe_makeN M F (hr.mono hk) hg hm b hx ha hkw hall hks hdb he hpl
theorem castOp {K : PySem.W.Frag} {g : Value → Value → Sem Value} {r : PySem.W.Frag → L2.R2} (h : X.K = K) (o : OpR X g (r X.K)) : OpR X g (r K) := h ▸ o
theorem castIx {K : PySem.W.Frag} {r : PySem.W.Frag → L2.R2} (h : X.K = K) (o : IxR X (r X.K)) : IxR X (r K) := h ▸ o
theorem castSl {K : PySem.W.Frag} {r : PySem.W.Frag → V → Option Int → Option Int → Hp → VK → Prop} (h : X.K = K) (o : L2.SlR X (r X.K)) : L2.SlR X (r K) := h ▸ o
theorem castCall {K : PySem.W.Frag} {v : Value} {r : PySem.W.Frag → List V → Hp → VK → Prop} (h : X.K = K) (o : CallR X v (r X.K)) : CallR X v (r K) := h ▸ o
theorem pe_fldK {K : PySem.W.Frag} {f : Str} (h : X.K = K) (he : PE X e ta) (hb : attributeBase e f X.env (eval e X.env) = eval e X.env) : PE X (.Attribute e f pos) (tFld K ta f) := h ▸ pe_fld he hb
theorem pt_orr {e : Expr} {t1 t2 : TT} (h1 : PT X e t1) (h2 : PT X e t2) : PT X e (fun σ H Q => t1 σ H Q ∨ t2 σ H Q) := ⟨fun pins s σ H Q I h => h.elim (h1.run pins s σ H Q I) (h2.run pins s σ H Q I)⟩
theorem pc_or {op : CmpOp} {a b : Expr} {t1 t2 : TE} (h1 : PC X op a b t1) (h2 : PC X op a b t2) : PC X op a b (fun σ H Q => t1 σ H Q ∨ t2 σ H Q) := ⟨fun pins s σ H Q I h => h.elim (h1.run pins s σ H Q I) (h2.run pins s σ H Q I)⟩
end
section
variable {P : Program} {w : World} {K : PySem.W.Frag} {mg : Str → Option Value} {base : Heap}
theorem okTD {x qual : Str} {params : Arguments} {body : List Stmt} {scope : Scope} {dvs : List V} {kws : List (Str × V)} {f : Addr} {fd : FuncData} {N ps : List Str} {kk : Nat} {ts : TSp} (F : FunD K x qual params body scope dvs kws f fd) (S : FnScope N ps scope) (len : ∀ Rs M k X, ts Rs M k X → Rs.length = ps.length)
    (hbody : ∀ (cdv : Value) (A : Around) (outer : List PySem.Env) (s : Shared) (H : Hp) (E : XK), Room kk (A.deeper (envOfC qual scope s.heap.objs.size f cdv)) →
      ∃ t, PSs (cxOf CX0 P w K mg base N qual scope f cdv A outer s H E).nox body t ∧ ∀ Rs M k X, ts Rs M k X → St E t (startC N Rs) M { nx := fun _ M' => k iNon M', rt := k, ex := X }) : FnOk P w K mg base CX0 (kk + 1) f fd ps (spT ts) := by
  refine F.ok S (fun vs H Q E h => ?_) (fun cdv A outer s H vs Q E hr h => ?_)
  · obtain ⟨_, Rs, M, k, X, h1, _, _, p, _⟩ := h
    exact p.len.trans (len Rs M k X h1)
  · obtain ⟨t, h1, h2⟩ := hbody cdv A outer s H E hr
    obtain ⟨S0, Rs, M, k, X, h3, e, m, p, o, ox⟩ := h
    exact ⟨t, h1.nox, h2 Rs M k X h3 _ S0 H _ (nv_start e m p) ⟨fun σ2 S2 H2 Γ2 M2 q st I2 => o .non S2 H2 iNon M2 q st rfl, o, fun _ _ _ _ _ z => z.elim, fun _ _ _ _ _ z => z.elim, ox⟩⟩
end
section
variable {E : XK} {K : PySem.W.Frag} {Γ : Ct} {M : SH} {k : KR} {X : KX} {R R1 R2 : Rep} {te ta tb tc tl tv : TE} {vs : List Nat} {D : EndT} {t u : TS} {c tt : TT} {tr : TA} {C : Addr} {f : Str}
theorem st_nevr : St E tNever Γ M D ↔ St E tNever Γ M D := Iff.rfl
theorem ev_or1 {t1 t2 : TE} (h : Ev E t1 Γ M k X) : Ev E (fun σ H Q => t1 σ H Q ∨ t2 σ H Q) Γ M k X := fun σ S H Q I o ox => .inl (h σ S H Q I o ox)
theorem ev_or2 {t1 t2 : TE} (h : Ev E t2 Γ M k X) : Ev E (fun σ H Q => t1 σ H Q ∨ t2 σ H Q) Γ M k X := fun σ S H Q I o ox => .inr (h σ S H Q I o ox)
theorem et_or1 {t1 t2 : TT} {kb : Bool → SH → Prop} (h : Et E t1 Γ M kb X) : Et E (fun σ H Q => t1 σ H Q ∨ t2 σ H Q) Γ M kb X := fun σ S H Q I o ox => .inl (h σ S H Q I o ox)
theorem et_or2 {t1 t2 : TT} {kb : Bool → SH → Prop} (h : Et E t2 Γ M kb X) : Et E (fun σ H Q => t1 σ H Q ∨ t2 σ H Q) Γ M kb X := fun σ S H Q I o ox => .inr (h σ S H Q I o ox)
theorem ev_meth_at {sp : Sp} {dvs : List V} {E' : XK} {m : Str} (h : Ev E (tMeth C m sp dvs E' ta tr) Γ M k X) : Ev E (tMeth C m sp dvs E' ta tr) Γ M k X := h
theorem ev_make_at {sp : Sp} {dvs : List V} {E' : XK} (h : Ev E (tMake C sp dvs E' tr) Γ M k X) : Ev E (tMake C sp dvs E' tr) Γ M k X := h
theorem ev_make3 {sp : List Rep → (FR → Prop) → Prop} (h : Ea E tr Γ M (fun Rs M1 => ∃ Rs', LeS Rs Rs' ∧ sp Rs' fun fs => k (iObj C fs) M1) X) : Ev E (tMake C (spT (initK C sp)) [] E0 tr) Γ M k X :=
  ev_make (Ds := []) (fun _ => True.intro) fun σ S H Q I o ox => h σ S H Q I (fun vs S2 H2 Rs M2 ⟨Rs', le, q⟩ st p => o vs S2 H2 Rs M2 ⟨Rs', by rw [List.append_nil]; exact le, q⟩ st p) ox
theorem k_methS {m : Str} {fs : FR} {P : FR → Prop} (hm : fs.lookup m = none) (h : P fs) : ∃ fs', HasO M (iObj C fs) C fs' ∧ fs'.lookup m = none ∧ P fs' := ⟨fs, .inl rfl, hm, h⟩
theorem k_methM {m : Str} {fs : FR} {a : Addr} {i : Nat} {P : FR → Prop} (hi : M[i]? = some (a, mObj C fs)) (hm : fs.lookup m = none) (h : P fs) : ∃ fs', HasO M (iRef a) C fs' ∧ fs'.lookup m = none ∧ P fs' := ⟨fs, .inr ⟨a, i, rfl, hi⟩, hm, h⟩
theorem k_ho2S {fs : FR} {P : Prop} (h : P) : HasO M (iObj C fs) C fs ∧ P := ⟨.inl rfl, h⟩
theorem k_ho2M {fs : FR} {a : Addr} {i : Nat} {P : Prop} (hi : M[i]? = some (a, mObj C fs)) (h : P) : HasO M (iRef a) C fs ∧ P := ⟨.inr ⟨a, i, rfl, hi⟩, h⟩
theorem k_ho3 {fs : FR} {P : Prop} (hi : HasO M R C fs) (h : P) : HasO M R C fs ∧ P := ⟨hi, h⟩
theorem k_fldG {fs : FR} {Rf : Rep} {P : Rep → Prop} (ho : HasO M R C fs) (hf : fs.lookup f = some Rf) (h : P Rf) : ∃ fs', HasO M R C fs' ∧ ∃ Rf, fs'.lookup f = some Rf ∧ P Rf := ⟨fs, ho, Rf, hf, h⟩
theorem k_methG {m : Str} {fs : FR} {P : FR → Prop} (ho : HasO M R C fs) (hm : fs.lookup m = none) (h : P fs) : ∃ fs', HasO M R C fs' ∧ fs'.lookup m = none ∧ P fs' := ⟨fs, ho, hm, h⟩
theorem k_set {a : Addr} {j : Nat} {fs : FR} {P : Addr → Nat → FR → Prop} (hm : M[j]? = some (a, mObj C fs)) (hl : fs.length < 1000) (h : P a j fs) : ∃ (b : Addr) (j : Nat) (fs : FR), iRef a = iRef b ∧ M[j]? = some (b, mObj C fs) ∧ fs.length < 1000 ∧ P b j fs := ⟨a, j, fs, rfl, hm, hl, h⟩
theorem k_pd {ps : List (Str × Str)} {P : List (Str × Str) → Prop} (hp : HasP M R ps) (h : P ps) : ∃ ps', HasP M R ps' ∧ P ps' := ⟨ps, hp, h⟩
theorem k_ss {a b : Str} {P : Str → Str → Prop} (h : P a b) : ∃ c d, [aStr a, aStr b] = [aStr c, aStr d] ∧ P c d := ⟨a, b, rfl, h⟩
theorem k_le {Rs : List Rep} {P : List Rep → Prop} (h : P Rs) : ∃ Rs', LeS Rs Rs' ∧ P Rs' := ⟨Rs, leS_rfl, h⟩
/-! ### dicts whose keys are texts -/
structure DkOk (S : Hp) (kvs : FR) (vs : List (Key × V)) : Prop where
  nm : vs.map (·.1) = kvs.map fun p => (Sum.inr p.1 : Key)
  al : All2 S (kvs.map (·.2)) (vs.map (·.2))
theorem DkOk.mono {S S' : Hp} {kvs : FR} {vs : List (Key × V)} (h : DkOk S kvs vs) (e : Same S S') : DkOk S' kvs vs := ⟨h.nm, h.al.mono e⟩
theorem DkOk.len {S : Hp} {kvs : FR} {vs : List (Key × V)} (h : DkOk S kvs vs) : vs.length = kvs.length := by
  have := congrArg List.length h.nm
  simpa using this
theorem DkOk.look {S : Hp} : ∀ {kvs : FR} {vs : List (Key × V)}, DkOk S kvs vs → ∀ z : Str, (kvs.lookup z = none → valV vs (.inr z) = none) ∧ ∀ R, kvs.lookup z = some R → ∃ v, valV vs (.inr z) = some v ∧ R.p S v
  | [], [], _, z => ⟨fun _ => rfl, fun R e => by cases e⟩
  | [], _ :: _, h, z => by have := h.nm; simp at this
  | _ :: _, [], h, z => by have := h.nm; simp at this
  | (g, R) :: kvs, (g', v) :: vs, h, z => by
    have e : g' = .inr g := by have := h.nm; simp at this; exact this.1
    subst e
    have ih := DkOk.look (kvs := kvs) (vs := vs) ⟨by have := h.nm; simp at this; exact this, h.al.2⟩ z
    rw [List.lookup_cons]
    by_cases hf : g = z
    · subst hf
      rw [beq_self_eq_true]
      refine ⟨fun z => (nomatch z), fun R' z => ?_⟩
      have e : R = R' := Option.some.inj z
      subst e
      exact ⟨v, valV_pos rfl, h.al.1⟩
    · rw [show (z == g) = false from beq_eq_false_iff_ne.mpr fun w => hf w.symm]
      rw [valV_neg (p := ((Sum.inr g : Key), v)) (fun w => hf (Sum.inr.inj w))]
      exact ih
def iDF (kvs : FR) : Rep := ⟨fun S v => ∃ a o vs, v = .ref a ∧ S a = some (.frz o (.dK vs)) ∧ DkOk S kvs vs, fun e ⟨a, o, vs, h1, h2, h3⟩ => ⟨a, o, vs, h1, e _ _ h2, h3.mono e⟩⟩
def mDK (kvs : FR) : MRep := ⟨fun S o => ∃ vs, o = .dK vs ∧ DkOk S kvs vs, fun e ⟨vs, h1, h2⟩ => ⟨vs, h1, h2.mono e⟩, fun ⟨vs, h1, _⟩ ys z => by rw [h1] at z; cases z⟩
def HasD (M : SH) (R : Rep) (kvs : FR) : Prop := R = iDF kvs ∨ ∃ (a : Addr) (i : Nat), R = iRef a ∧ M[i]? = some (a, mDK kvs)
theorem HasD.get {kvs : FR} (h : HasD M R kvs) {S H : Hp} {v : V} (e : Same S H) (m : MOk S H M) (p : R.p S v) : ∃ a vs, v = .ref a ∧ Rd H a (.dK vs) ∧ DkOk S kvs vs := by
  rcases h with h | ⟨a, i, h, hm⟩
  · subst h
    obtain ⟨a, o, vs, h1, h2, h3⟩ := p
    exact ⟨a, vs, h1, .inr ⟨o, e _ _ h2⟩, h3⟩
  · subst h
    cases p
    obtain ⟨_, o, ho, vs, rfl, h3⟩ := m.at_ _ _ (at_mem hm)
    exact ⟨a, vs, rfl, .inl ho, h3⟩
theorem ev_dinD {ty td : TE} (h : Ev E ty Γ M (fun R1 M1 => ∃ z, R1 = aStr z ∧ Ev E td Γ M1 (fun R M2 => ∃ kvs, HasD M2 R kvs ∧ k (iBl (kvs.lookup z).isSome) M2) X) X) : Ev E (tDIn ty td) Γ M k X := fun σ S H Q I o ox =>
  h σ S H _ I (fun v S1 H1 R1 M1 ⟨z, e, q⟩ st p => by
    subst e
    cases p
    exact q σ S1 H1 _ (I.step st) (fun y S2 H2 R M2 ⟨kvs, hd, q2⟩ st2 p2 => by
      obtain ⟨a, vs, rfl, hr, ok⟩ := hd.get st2.e st2.m p2
      refine ⟨a, valV vs (.inr z), rfl, .inl ⟨vs, .inr z, hr, rfl, rfl⟩, ?_⟩
      have e : (valV vs (.inr z)).isSome = (kvs.lookup z).isSome := by
        cases hl : kvs.lookup z with
        | none => rw [(ok.look z).1 hl]; rfl
        | some R => obtain ⟨w, hw, _⟩ := (ok.look z).2 R hl; rw [hw]; rfl
      rw [e]
      exact (o.step st) _ S2 H2 _ M2 q2 st2 rfl) (ox.step st)) ox
theorem ev_dgetD {ty td : TE} (h : Ev E td Γ M (fun R1 M1 => ∃ Rd : Rep, Rd = R1 ∧ Ev E ty Γ M1 (fun R2 M2 => ∃ z kvs, R2 = aStr z ∧ HasD M2 R1 kvs ∧ ∃ R, kvs.lookup z = some R ∧ k R M2) X) X) : Ev E (tDGet td ty) Γ M k X := fun σ S H Q I o ox =>
  h σ S H _ I (fun x S1 H1 R1 M1 ⟨_, _, q⟩ st p => q σ S1 H1 _ (I.step st) (fun y S2 H2 R2 M2 ⟨z, kvs, e, hd, R, hl, q2⟩ st2 p2 => by
    subst e
    cases p2
    obtain ⟨a, vs, rfl, hr, ok⟩ := hd.get st2.e st2.m (R1.m st2.s p)
    obtain ⟨w, hw, pw⟩ := (ok.look z).2 R hl
    exact ⟨a, w, rfl, .inl ⟨vs, .inr z, hr, rfl, hw.symm⟩, (o.step st) w S2 H2 R M2 q2 st2 pw⟩) (ox.step st)) ox
theorem ev_dnewK (h : ∀ a, k (iRef a) (M ++ [(a, mDK [])])) : Ev E tDNewK Γ M k X := fun σ S H Q I o ox p hp =>
  o (.ref p) S _ (iRef p) _ (h p) (Stp.newM (P := mDK []) I.ex I.m hp ⟨[], rfl, rfl, True.intro⟩) rfl
theorem st_fldM (hc : Cls K C) (hn : NoAttr K C f) (h : ∀ l, Ev E ta Γ (M ++ [(l, mLst [])]) (fun R2 M2 => ∃ (a : Addr) (j : Nat) (fs : FR), R2 = iRef a ∧ M2[j]? = some (a, mObj C fs) ∧ fs.length < 1000 ∧ D.nx Γ (M2.set j (a, mObj C (putR f (iRef l) fs)))) D.ex) : St E (sFld K ta (tLst tNil) f) Γ M D :=
  st_fld hc hn (ev_lstM (ea_nil ⟨by simp, fun l => h l⟩))
theorem st_fldT (hc : Cls K C) (hn : NoAttr K C f) (h : ∀ l, Ev E ta Γ (M ++ [(l, mPD [])]) (fun R2 M2 => ∃ (a : Addr) (j : Nat) (fs : FR), R2 = iRef a ∧ M2[j]? = some (a, mObj C fs) ∧ fs.length < 1000 ∧ D.nx Γ (M2.set j (a, mObj C (putR f (iRef l) fs)))) D.ex) : St E (sFld K ta tDNewT f) Γ M D :=
  st_fld hc hn (ev_dnewT fun l => h l)
theorem st_fldK (hc : Cls K C) (hn : NoAttr K C f) (h : ∀ l, Ev E ta Γ (M ++ [(l, mDK [])]) (fun R2 M2 => ∃ (a : Addr) (j : Nat) (fs : FR), R2 = iRef a ∧ M2[j]? = some (a, mObj C fs) ∧ fs.length < 1000 ∧ D.nx Γ (M2.set j (a, mObj C (putR f (iRef l) fs)))) D.ex) : St E (sFld K ta tDNewK f) Γ M D :=
  st_fld hc hn (ev_dnewK fun l => h l)
theorem k_ref {d : Addr} {P : Addr → Prop} (h : P d) : ∃ e, iRef d = iRef e ∧ P e := ⟨d, rfl, h⟩
theorem k_put {a b : Str} {d : Addr} {i : Nat} {ps : List (Str × Str)} {P : Str → Str → Nat → List (Str × Str) → Prop} (hm : M[i]? = some (d, mPD ps)) (hl : ps.length < 1000000) (h : P a b i ps) : ∃ (a' b' : Str) (i : Nat) (ps : List (Str × Str)), [aStr a, aStr b] = [aStr a', aStr b'] ∧ M[i]? = some (d, mPD ps) ∧ ps.length < 1000000 ∧ P a' b' i ps := ⟨a, b, i, ps, rfl, hm, hl, h⟩
/-! ### a last word at the end of a def -/
def TurnC (Γ : Ct) (M : SH) (Γ' : Ct) (M' : SH) : Prop := ∀ S H σ, Nv S H σ Γ M → ∃ S', Stp S H S' H M M' ∧ Nv S' H σ Γ' M'
def NT (kc : KC) : KC := fun Γ M => ∃ Γ' M', TurnC Γ M Γ' M' ∧ kc Γ' M'
theorem st_nt (h : St E t Γ M { D with nx := NT D.nx }) : St E t Γ M D := fun σ S H D0 I o =>
  h σ S H D0 I ⟨fun σ2 S2 H2 Γ2 M2 ⟨Γ3, M3, tn, q⟩ st I2 => let ⟨S3, st3, I3⟩ := tn S2 H2 σ2 I2; o.nx σ2 S3 H2 Γ3 M3 q (st.trans st3) I3, o.rt, o.bk, o.ct, o.ex⟩
theorem nt_of {kc : KC} (h : kc Γ M) : NT kc Γ M := ⟨Γ, M, fun S H σ I => ⟨S, Stp.refl I.ex I.m, I⟩, h⟩
theorem turn_fzP {i j : Nat} {l x : Addr} {ps : List (Str × Str)} {fs : FR} {f : Str} (hl : M[i]? = some (l, mPD ps)) (hx : (M.eraseIdx i)[j]? = some (x, mObj C fs)) (hf : fs.lookup f = some (iRef l)) : TurnC Γ M Γ ((M.eraseIdx i).set j (x, mObj C (putR f (iPD ps) fs))) := fun S H σ I => by
  obtain ⟨_, ob, ho, px⟩ := I.m.at_ l (mPD ps) (at_mem hl)
  cases px
  have f1 := Stp.fzAt hl I.ex I.m ho
  have f2 := Stp.re (P' := mObj C (putR f (iPD ps) fs)) hx f1.e f1.m fun o ⟨dx, vs, e, hi⟩ => ⟨dx, vs, e, hi.re (fun v p => by cases p; exact ⟨l, rfl, upd_same⟩) hf⟩
  exact ⟨_, f1.trans f2, I.step (f1.trans f2)⟩
theorem turn_fzF {i j : Nat} {l x : Addr} {rs : List Rep} {fs : FR} {f : Str} (hl : M[i]? = some (l, mLst rs)) (hx : (M.eraseIdx i)[j]? = some (x, mObj C fs)) (hf : fs.lookup f = some (iRef l)) : TurnC Γ M Γ ((M.eraseIdx i).set j (x, mObj C (putR f (iLst rs) fs))) := fun S H σ I => by
  obtain ⟨_, ob, ho, xs, rfl, px⟩ := I.m.at_ l (mLst rs) (at_mem hl)
  have f1 := Stp.fzAt hl I.ex I.m ho
  have f2 := Stp.re (P' := mObj C (putR f (iLst rs) fs)) hx f1.e f1.m fun o ⟨dx, vs, e, hi⟩ => ⟨dx, vs, e, hi.re (fun v p => by cases p; exact ⟨l, xs, rfl, upd_same, px.mono f1.s⟩) hf⟩
  exact ⟨_, f1.trans f2, I.step (f1.trans f2)⟩
/-! ### three at once; tests of some truth -/
theorem st_par3 {i j l : Nat} {ta : TA} (h : Ea E ta Γ M (fun Rs M1 => ∃ R1 R2 R3, Rs = [R1, R2, R3] ∧ D.nx (((Γ.set i (some R1)).set j (some R2)).set l (some R3)) M1) D.ex) : St E (tPar3 i j l ta) Γ M D := fun σ S H D0 I o =>
  h σ S H _ I (fun xs S2 H2 Rs M2 ⟨R1, R2, R3, e, q⟩ st p => by
    subst e
    match xs, p with
    | [], p => exact p.elim
    | [_], p => exact p.2.elim
    | [_, _], p => exact p.2.2.elim
    | _ :: _ :: _ :: _ :: _, p => exact p.2.2.2.elim
    | [u, v, w], p => exact ⟨u, v, w, rfl, o.nx _ S2 H2 _ M2 q st ((((I.step st).set i p.1).set j p.2.1).set l p.2.2.1)⟩) o.ex
theorem k_par3 {R3 : Rep} {P : Rep → Rep → Rep → Prop} (h : P R1 R2 R3) : ∃ A B C, [R1, R2, R3] = [A, B, C] ∧ P A B C := ⟨_, _, _, rfl, h⟩
theorem st_if_any (h : ∀ (kb : Bool → SH → Prop) (X : KX), (∀ b, kb b M) → Et E c Γ M kb X) (h1 : St E t Γ M D) (h2 : St E u Γ M D) : St E (tIfS c t u) Γ M D :=
  st_if fun σ S H Q I o ox => h (fun b M1 => M1 = M) D.ex (fun _ => rfl) σ S H Q I (fun b S2 H2 M2 e st => o b S2 H2 M2 (by
    subst e
    cases b with
    | true => simpa using h1
    | false => simpa using h2) st) ox
theorem et_some (h : ∀ (kb : Bool → SH → Prop) (X : KX), (∀ b, kb b M) → Et E c Γ M kb X) {kb : Bool → SH → Prop} (q : ∀ b, kb b M) : Et E c Γ M kb X := h kb X q
theorem o_ixN {α : Type} {l : List α} {g : α → Rep} {x : Int} (n : Nat) (e : x = n) (h : n < l.length) : O2p (rIxL K) (iLst (l.map g)) (iInt x) M (g l[n]) := by
  subst e
  exact o_ixL (atI_map (atI_nat (by simp [h])))
theorem o_ixNT {α : Type} {l : List α} {g : α → Rep} {x : Int} (n : Nat) (e : x = n) (h : n < l.length) : O2p (rIxT K) (aTup K (l.map g)) (iInt x) M (g l[n]) := by
  subst e
  exact o_ixT (atI_map (atI_nat (by simp [h])))
/-! ### comprehensions over a list of data -/
theorem ep_lcF {α : Type} {l : List α} {e : α → Rep} {j : Nat} {p : α → Bool} (hi : Ep E tl Γ M (iLst (l.map e))) (hn : l.length ≤ 1000000) (hj : j ∈ vs)
    (ht : ∀ x ∈ l, Etp E tt ((wipeC Γ vs).set j (some (e x))) M (p x)) (he : ∀ x ∈ l, p x = true → Ep E te ((wipeC Γ vs).set j (some (e x))) M (e x)) : Ep E (tLc (iList K tl) (gName j) tt te vs) Γ M (iLst ((l.filter p).map e)) := by
  have := ep_lcL (K := K) (q := id) (e' := e) hi hn hj ht he
  rwa [List.map_id] at this
theorem ep_lcM {α : Type} {l : List α} {e e' : α → Rep} {j : Nat} (hi : Ep E tl Γ M (iLst (l.map e))) (hn : l.length ≤ 1000000) (hj : j ∈ vs)
    (he : ∀ x ∈ l, Ep E te ((wipeC Γ vs).set j (some (e x))) M (e' x)) : Ep E (tLc (iList K tl) (gName j) tYes te vs) Γ M (iLst (l.map e')) := by
  have := ep_lcL (K := K) (p := fun _ => true) (q := id) (e' := e') (l := l) (e := e) (te := te) (tt := tYes) hi hn hj (fun _ _ => etp_yes) (fun x hx _ => he x hx)
  rwa [List.map_id, List.filter_eq_self.mpr fun _ _ => rfl] at this
/-- .. whose test draws: some of the items -/
theorem ev_lcD {α : Type} {l : List α} {e e' : α → Rep} {j : Nat} {p : α → Prop} (hi : Ep E tl Γ M (iLst (l.map e))) (hn : l.length ≤ 1000000) (hj : j ∈ vs)
    (ht : ∀ x ∈ l, ∀ (kb : Bool → SH → Prop), (p x → kb true M) → kb false M → Et E tt ((wipeC Γ vs).set j (some (e x))) M kb X0)
    (he : ∀ x ∈ l, p x → Ep E te ((wipeC Γ vs).set j (some (e x))) M (e' x)) (q : ∀ l' : List α, l'.Sublist l → (∀ x ∈ l', p x) → k (iLst (l'.map e')) M) : Ev E (tLc (iList K tl) (gName j) tt te vs) Γ M k X :=
  ev_lc (fun z => by rw [z] at hj; cases hj) (tip_list hi _ _ ⟨by simpa using hn, fun i acc M2 => ∃ l' : List α, acc = l'.map e' ∧ l'.Sublist (l.take i) ∧ (∀ x ∈ l', p x) ∧ M2 = M, ⟨[], rfl, by simp, by simp, rfl⟩, fun i r acc M2 hlt hr _ ⟨l', e1, e2, e3, e4⟩ => by
    subst e4
    have hlt' : i < l.length := by simpa using hlt
    replace hr : (l.map e)[i]? = some r := hr
    rw [List.getElem?_map, List.getElem?_eq_getElem hlt'] at hr
    have e5 : e l[i] = r := Option.some.inj hr
    subst e5
    have hm := List.getElem_mem hlt'
    have et : l.take (i + 1) = l.take i ++ [l[i]] := by rw [List.take_succ, List.getElem?_eq_getElem hlt']; rfl
    refine tg_name (ht _ hm _ (fun hp => ?_) ?_) (.inr hj)
    · refine (if_pos rfl).mpr (he _ hm hp _ _ ⟨l' ++ [l[i]], ?_, ?_, ?_, rfl⟩)
      · rw [e1]; simp
      · rw [et]; exact e2.append (List.Sublist.refl _)
      · intro x hx
        rcases List.mem_append.mp hx with h | h
        · exact e3 x h
        · rw [List.mem_singleton.mp h]; exact hp
    · refine (if_neg Bool.false_ne_true).mpr ⟨l', e1, ?_, e3, rfl⟩
      rw [et]
      exact e2.trans (List.sublist_append_left _ _), fun acc M2 _ ⟨l', e1, e2, e3, e4⟩ => by
    subst e1; subst e4
    rw [List.length_map, List.take_length] at e2
    exact q l' e2 e3⟩)
end
end L3

namespace L3
open PySem L2 RZ PyProof.Rows
theorem hu65_of {A : Around} {k : Nat} (hr : Room k A) : A.units + 65 < cLine := by have := hr.un; omega
/-! ### a pair among pairs -/
def prD (p : Str × Str) : PyData := .tuple [.str p.1, .str p.2]
theorem prD_rep (K : PySem.W.Frag) (p : Str × Str) : aTup K [aStr p.1, aStr p.2] = iDat K (prD p) := dat_tup (dats_cons (dat_str _ _) (dats_cons (dat_str _ _) dats_nil))
theorem eqv_prD (p q : Str × Str) : PyData.eqv (prD p) (prD q) = decide (p = q) := by
  unfold prD
  simp only [PyData.eqv, PyData.eqvAll, Bool.and_true]
  obtain ⟨a, b⟩ := p
  obtain ⟨c, d⟩ := q
  rw [Bool.eq_iff_iff]
  simp
theorem any_prD (p : Str × Str) (l : List (Str × Str)) : (l.map prD).any (fun z => PyData.eqv z (prD p)) = decide (p ∈ l) := by
  rw [List.any_map, Bool.eq_iff_iff]
  simp only [List.any_eq_true, Function.comp, eqv_prD, decide_eq_true_eq]
  exact ⟨fun ⟨x, h, e⟩ => e ▸ h, fun h => ⟨p, h, rfl⟩⟩
def PrOk (l : List (Str × Str)) : Prop := ∀ p ∈ l, StrOk p.1 ∧ StrOk p.2
theorem shp_prD {n : Nat} {p : Str × Str} (h : StrOk p.1 ∧ StrOk p.2) : Shp (n + 1) (prD p) := shp_tup fun d hd => by
  simp only [List.mem_cons, List.not_mem_nil, or_false] at hd
  rcases hd with rfl | rfl
  · exact shp_str h.1
  · exact shp_str h.2
theorem shp_prDs {n : Nat} {l : List (Str × Str)} (h : PrOk l) : Shp (n + 2) (.list (l.map prD)) := shp_list fun d hd => by
  obtain ⟨p, hp, rfl⟩ := List.mem_map.mp hd
  exact shp_prD (h p hp)
theorem prDs_rep (K : PySem.W.Frag) (l : List (Str × Str)) : iLst (l.map fun p => aTup K [aStr p.1, aStr p.2]) = iDat K (.list (l.map prD)) := by
  rw [← dat_list, List.map_map]
  congr 1
section
variable {E : XK} {K : PySem.W.Frag} {Γ : Ct} {M : SH} {k : KR} {X : KX} {R R1 R2 : Rep}
theorem o_inP {a b : Str} {l : List (Str × Str)} (hp : StrOk a ∧ StrOk b) (hl : PrOk l) : O2p (rInD K) (aTup K [aStr a, aStr b]) (iLst (l.map fun p => aTup K [aStr p.1, aStr p.2])) M (iBl (decide ((a, b) ∈ l))) := o2_val fun x y S H e _ h1 h2 => by
  rw [prDs_rep] at h2
  have h1' : (iDat K (prD (a, b))).p S x := by rw [← prD_rep]; exact h1
  refine ⟨_, rfl, fun Q q => ⟨prD (a, b), l.map prD, Dp.mono e (iDat_dp K _ h1'), Dp.mono e (iDat_dp K _ h2), (shp_prD hp).ok, (shp_prDs hl).ok, ?_⟩⟩
  rw [any_prD]
  exact q
theorem o_ninP {a b : Str} {l : List (Str × Str)} (hp : StrOk a ∧ StrOk b) (hl : PrOk l) : O2p (rNotInD K) (aTup K [aStr a, aStr b]) (iLst (l.map fun p => aTup K [aStr p.1, aStr p.2])) M (iBl (!decide ((a, b) ∈ l))) := o2_val fun x y S H e _ h1 h2 => by
  rw [prDs_rep] at h2
  have h1' : (iDat K (prD (a, b))).p S x := by rw [← prD_rep]; exact h1
  refine ⟨_, rfl, fun Q q => ⟨prD (a, b), l.map prD, Dp.mono e (iDat_dp K _ h1'), Dp.mono e (iDat_dp K _ h2), (shp_prD hp).ok, (shp_prDs hl).ok, ?_⟩⟩
  rw [any_prD]
  exact q
end
end L3

namespace L3
open PySem PySem.Spec L2 RZ PyProof.Rows
/-! ### enumerate over a tuple -/
def IteT (K : PySem.W.Frag) (a : Addr) : It where
  go i H := ∃ (xs : List V) (x : V), SqT K H a xs ∧ xs[i]? = some x
  yld i H v H' := ∃ T x, v = .ref T ∧ H T = none ∧ H' = upd H T (.tup [.int (i : Nat), x]) ∧ ∀ xs, SqT K H a xs → xs[i]? = some x
  stop i H := ∃ xs : List V, SqT K H a xs ∧ xs.length ≤ i
theorem enum_apart {h : Heap} {e it a : Addr} {i : Int} {old : Value} {items : Array Value} (he : IsEnum h e it i old) (ht : h.IsTuple a items) : e ≠ a := fun z => by
  obtain ⟨o, ho, hc, _⟩ := ht
  have hq : h.get? e = some o := by rw [z]; exact ho
  have hp := he
  unfold IsEnum at hp
  rw [hq] at hp
  have := Option.some.inj hp
  rw [this] at hc
  injection hc with hz
  exact absurd hz (by decide)
theorem turn_enumT {P : Program} {w : World} {K : PySem.W.Frag} {elts : List Expr} {kk : Nat} {tpos : Pos} (a e it : Addr) (hai : a ≠ it) :
    Turn P w K (.Tuple elts kk tpos) (IteT K a) [e, it] e (fun i h => (∃ old, IsEnum h e it ((i : Nat) : Int) old) ∧ h.IsTupleIter it a i ∧ e ≠ it) := by
  have two : ∀ b, b ∈ [e, it] → b = e ∨ b = it := fun b hb => by simpa using hb
  refine ⟨by simp, fun i h st b hb => ?_, fun i h h' st k => ?_, ?_, ?_, fun A i s Q E st q => ?_⟩
  · obtain ⟨⟨old, he⟩, ⟨o, ho, _, hd⟩, _⟩ := st
    rcases two b hb with rfl | rfl
    · exact ⟨_, he, fun v q => (nomatch q)⟩
    · exact ⟨o, ho, fun v q => by rw [hd] at q; cases q⟩
  · obtain ⟨⟨old, he⟩, hi, hne⟩ := st
    exact ⟨⟨old, k e (by simp) _ he⟩, hi.at fun o q => k it (by simp) o q, hne⟩
  · rintro X rfl rfl rfl hc i pins s σ H E I hf ⟨⟨old, he⟩, hit, hne⟩ ⟨xs, x, hq, hx⟩
    obtain ⟨its, rv, pt, hz⟩ := I.tuple hq
    obtain ⟨u, hu, ru⟩ := rv.get hx
    have hel : e < s.heap.objs.size := Heap.lt_size he
    have hil : it < s.heap.objs.size := let ⟨_, q, _⟩ := hit; Heap.lt_size q
    have hlt : i < its.toArray.size := by
      have := (List.getElem?_eq_some_iff.mp hu).1
      simpa using this
    have hh : X.A.in1.handled = none := I.ok.hd hc
    refine wpAny_pyNext_enum_itemD (Draws.tuple hh it a hai its.toArray) he ⟨hit, pt⟩ hlt hne (by have := enum_apart he pt; simp [hne, this]) fun y h' tk hy ho hst hT hsz hk => ?_
    have ey : y = u := by
      have : its.toArray[i]? = some u := by simpa using hu
      rw [this] at hy
      exact (Option.some.inj hy).symm
    subst ey
    refine ⟨_, rfl, wpAny_letOwnedTupleGo_enum (s := { s with heap := h', toks := tk + 1 }) ho fun h'' he' sb => ?_⟩
    have hT2 := (sb.2 s.heap.objs.size (Nat.ne_of_gt hel)).trans hT
    have fresh : H s.heap.objs.size = none := I.hok.fresh (Nat.le_refl _)
    have I1 : Inv X pins σ (upd H s.heap.objs.size (.tup [.int (i : Nat), x])) { s with heap := h'', toks := tk + 1 } :=
      I.turnedNew (ch := [e, it]) (fun b o hb q => by
        have n1 : b ≠ e := fun z => hb (by simp [z])
        have n2 : b ≠ it := fun z => hb (by simp [z])
        exact (sb.2 b n1).trans (hk b o n1 n2 q)) hf (Nat.le_refl _) ⟨by show 2 ≤ sizeLine; decide, [.int i tk, y], .cons ⟨_, rfl⟩ (.cons ru .nil), ⟨_, hT2, rfl, _, rfl⟩⟩
    refine ⟨.ref s.heap.objs.size, _, I1, rfl, ⟨_, x, rfl, fresh, rfl, fun ys hy => by rw [I.tuple_inj hy hq]; exact hx⟩, ⟨⟨y, by rw [show ((i + 1 : Nat) : Int) = (i : Int) + 1 by omega]; exact he'⟩, hst.1.at fun o q => (sb.2 it (Ne.symm hne)).trans q, hne⟩, fun b hb => ?_⟩
    have hb' : b < s.heap.objs.size := by rcases two b hb with rfl | rfl <;> assumption
    rw [upd_ne (Nat.ne_of_lt hb')]
    exact (hf b hb).1
  · rintro X rfl rfl rfl hc i pins s σ H E I hf ⟨⟨old, he⟩, hit, hne⟩ ⟨xs, hq, hx⟩
    obtain ⟨its, rv, pt, hz⟩ := I.tuple hq
    obtain ⟨f0, f1, f2, f3, f4, f5⟩ := hf it (by simp)
    have hl := rv.length
    have hh : X.A.in1.handled = none := I.ok.hd hc
    have over : Draws X.prog X.w X.A.in1 it [it, a] i (fun _ _ => True) (fun j h => j = i ∧ h.IsTupleIter it a i ∧ h.IsTuple a its.toArray) :=
      ⟨fun _ _ q => let ⟨o, ho, _⟩ := q.2.1; ⟨o, ho⟩, fun _ _ _ q k => ⟨q.1, q.2.1.at fun o z => k it (by simp) o z, q.2.2.at fun o z => k a (by simp) o z⟩, fun j _ _ _ hj q => absurd q.1 (Nat.ne_of_lt hj),
        fun s' Q' E' q hE => wpAny_nextOf_tuple_end hh q.2.1 q.2.2 (by simp; omega) hE⟩
    exact wpAny_pyNext_enum_endD over he ⟨rfl, hit, pt⟩ fun h' eb => ⟨rfl, I.turned (t' := s.toks) (fun b o hb q => eb b o hb q) f0 f1 f3 f4 f5⟩
  · obtain ⟨⟨_, he⟩, _⟩ := st
    exact wpAny_pyIter_enum he q
theorem new_enum (a : Addr) (items : Array Value) (n : Nat) (dct : Option Addr) (sl : Array (Option Value)) :
    Meets (Builtin.«enumerate.__new__» ⟨[.type "enumerate", .ref a], []⟩) (fun _ R s => s.heap.get? a = some { cls := .type "tuple", dict := dct, data := .seq items n, slots := sl } ∧
      R (.ok (.ret (.ref (s.heap.push { cls := .type "tuple_iterator", data := .fields #[.ref a, .int 0 0] }).objs.size)))
        { s with heap := (s.heap.push { cls := .type "tuple_iterator", data := .fields #[.ref a, .int 0 0] }).push { cls := .type "enumerate", data := .fields #[.none, .bool false, .ref s.heap.objs.size, rawInt 0, .none, .none] } }) :=
  .of_wp fun prog w A R ⟨hp, g, d, tk, os⟩ ⟨hl, h⟩ => by
    have hT : Heap.IsTuple (Shared.heap ⟨hp, g, d, tk, os⟩) a items := ⟨_, hl, rfl, n, rfl⟩
    have hs := sub_enumerate
    wp_walk using AutoSeq1.wpAny_loadPart' hl
    refine wpAny_stack_any fun st => wpAny_pure ?_
    split
    · rename_i c _ _ _ _ _
      cases (c == Value.type "enumerate") <;> (wp_walk using AutoSeq1.wpAny_loadPart' hl, wpAny_pyIter_tuple hT; exact ⟨_, rfl, h⟩)
    · wp_walk using AutoSeq1.wpAny_loadPart' hl, wpAny_pyIter_tuple hT
      exact ⟨_, rfl, h⟩
theorem call_enumT {prog : Program} {w : World} {A : Around} {E : Value → Shared → Prop} {s : Shared} {a : Addr} {items : Array Value} {Q : Value → Shared → Prop} (hT : s.heap.IsTuple a items)
    (h : ∀ h' : Heap, IsEnum h' (s.heap.objs.size + 1) s.heap.objs.size 0 .none → h'.IsTupleIter s.heap.objs.size a 0 → (∀ b o, s.heap.get? b = some o → h'.get? b = some o) → Q (.ref (s.heap.objs.size + 1)) { s with heap := h' }) :
    wpAny (model prog w) A (call (.type "enumerate") [.ref a]) Q E s := by
  obtain ⟨⟨c, dct, dt, sl⟩, hl, hc, n, hd⟩ := hT
  have hc : c = .type "tuple" := hc
  have hd : dt = .seq items n := hd
  subst hc hd
  refine callType_new F.called_enumerate (by decide) (F.typeCall_enumerate_1 _) (F.newCall_enumerate_1 _) (fun obj => F.args_object_init_2 obj _) F.entry_enumerate_new (new_enum a items n dct sl) ⟨hl, ?_⟩
  generalize hp : s.heap.push { cls := .type "tuple_iterator", data := .fields #[.ref a, .int 0 0] } = p
  have hz : p.objs.size = s.heap.objs.size + 1 := by rw [← hp]; exact Heap.size_push ..
  have k1 : ∀ b o, s.heap.get? b = some o → p.get? b = some o := fun b o q => by rw [← hp]; exact Heap.get?_push_of_some _ q
  have it : p.IsTupleIter s.heap.objs.size a 0 := by rw [← hp]; exact ⟨_, Heap.get?_push_size _ rfl, rfl, rfl⟩
  have top := Heap.get?_push_size p (o := { cls := .type "enumerate", data := .fields #[.none, .bool false, .ref s.heap.objs.size, rawInt 0, .none, .none] }) rfl
  show _ ∧ _
  rw [hz] at top ⊢
  exact ⟨⟨_, top, rfl⟩, h _ top (it.at fun o q => Heap.get?_push_of_some _ q) fun b o q => Heap.get?_push_of_some _ (k1 b o q)⟩
def iEnumT (K : PySem.W.Frag) (ta : TA) : TI := fun σ H R => ta σ H fun vs H1 => ∃ a xs, vs = [.ref a] ∧ SqT K H1 a xs ∧ R (IteT K a) H1
theorem pi_enumT {X : Cx} {e : Expr} {ta : TA} {p pos tpos : Pos} {elts : List Expr} {kk : Nat} (hg : Gl X "enumerate") (hm : X.mg "enumerate" = none) (ha : PA X [e] ta) (hs : starEach [e] X.env = [(false, eval e X.env)] := by rfl) :
    PI X (.Tuple elts kk tpos) (.Call (.Name "enumerate" p) [e] [] pos) (iEnumT X.K ta) := by
  refine ⟨fun pins s σ H R I h => Call_ (ld_blt I hg hm boot_enumerate (callWith_type1 (thn (ha.run pos pins s σ H _ I h) fun us s1 ⟨vs, H1, I1, r1, a, xs, ex, hq, q⟩ => ?_) hs rfl))⟩
  subst ex
  obtain rfl := Vals.ref1 r1
  obtain ⟨its, rv, pt, hz⟩ := I1.tuple hq
  have hne : a ≠ s1.heap.objs.size := let ⟨_, ho, _⟩ := pt; Nat.ne_of_lt (Heap.lt_size ho)
  refine call_enumT (show s1.heap.IsTuple a its.toArray from pt) fun h' he hit hk => wpAny_pyIter_enum he ?_
  have I2 : Inv X pins σ H1 { s1 with heap := h' } := I1.kept (t' := s1.toks) hk
  refine ⟨_, [s1.heap.objs.size + 1, s1.heap.objs.size], _, _, H1, rfl, I2, turn_enumT a (s1.heap.objs.size + 1) s1.heap.objs.size hne, ⟨⟨.none, he⟩, hit, Nat.succ_ne_self _⟩, fun b hb => ?_, q⟩
  have hle : s1.heap.objs.size ≤ b := by
    have z : b = s1.heap.objs.size + 1 ∨ b = s1.heap.objs.size := by simpa using hb
    rcases z with z | z
    · rw [z]; exact Nat.le_succ _
    · rw [z]; exact Nat.le_refl _
  exact I1.fpOk hle (I1.hok.fresh hle)
theorem walk_enumT {K : PySem.W.Frag} {a : Addr} {xs : List V} : Walk (IteT K a) xs.length (fun H => SqT K H a xs) (YPair (fun i => some (.int (i : Nat))) (fun i => xs[i]?)) := by
  refine ⟨fun i _ hi q => ⟨xs, xs[i], q, by simp [hi]⟩, fun _ q => ⟨xs, q, Nat.le_refl _⟩, fun i H v H' _ q y => ?_⟩
  obtain ⟨T, x, h1, h2, h3, h4⟩ := y
  exact ⟨T, _, x, h1, h2, h3, rfl, h4 xs q⟩
section
variable {E : XK} {K : PySem.W.Frag} {Γ : Ct} {M : SH} {tl : TE}
theorem tip_enumT {rl : List Rep} (h : Ep E tl Γ M (aTup K rl)) : Tip E (iEnumT K (tCons tl tNil)) Γ M rl.length (fun i r => ∃ r1 r2, r1 = iInt (i : Nat) ∧ rl[i]? = some r2 ∧ r = aTup K [r1, r2]) := fun ki X q σ S H R I o ox =>
  eap_cons h eap_nil (fun Rs M' => Rs = [aTup K rl] ∧ M' = M) X ⟨rfl, rfl⟩ σ S H _ I (fun xs S2 H2 Rs M2 ⟨e1, e2⟩ st p => by
    subst e1; subst e2
    obtain ⟨v, rfl, a, ys, rfl, p1, p2⟩ := all2_1 p
    refine ⟨a, ys, rfl, Same.sqt st.e p1, o _ S2 H2 _ _ _ q st ?_⟩
    have w := walk_enumT (K := K) (a := a) (xs := ys)
    rw [p2.len] at w
    exact tw_pair w (fun Sx H e1 e2 => Same.sqt (e1.trans e2) p1) (fun i x hi hx => ⟨_, rfl, (Option.some.inj hx).symm⟩) (fun i x hi hx => p2.getV hx)) ox
end
end L3

namespace L3
open PySem PySem.Spec L2 RZ PyProof.Rows
/-! ### a dict that is never changed again -/
def tFz (t : TS) : TS := fun D σ H => ∃ d u, H d = some u ∧ Mut (some u) ∧ ∀ od, t D σ (upd H d (.frz od u))
theorem ps_fz {X : Cx} {st : Stmt} {t : TS} (h : PS X st t) : PS X st (tFz t) := ⟨fun pins s σ H D I ⟨d, u, hd, mu, q⟩ => let ⟨od, I2⟩ := I.lock hd mu; h.run pins s σ _ D I2 (q od)⟩
theorem Stp.frzAt {S H : Hp} {M : SH} {i : Nat} {d : Addr} {P : MRep} {u : HO} {od : Obj} (hi : M[i]? = some (d, P)) (e : Same S H) (m : MOk S H M) : Stp S H (upd S d (.frz od u)) (upd H d (.frz od u)) M (M.eraseIdx i) := by
  obtain ⟨hS, _⟩ := m.mem (a := d) (List.mem_map.mpr ⟨_, at_mem hi, rfl⟩)
  have pm := erase_perm hi
  have pq : (dm M).Perm (d :: dm (M.eraseIdx i)) := List.Perm.map (fun p : Addr × MRep => p.1) pm
  have nd : (d :: dm (M.eraseIdx i)).Nodup := (pq.nodup_iff).mp m.nd
  have out : d ∉ dm (M.eraseIdx i) := (List.nodup_cons.mp nd).1
  have sub : ∀ a ∈ dm (M.eraseIdx i), a ∈ dm M := fun a ha => (pq.mem_iff).mpr (List.mem_cons_of_mem _ ha)
  have dM : d ∈ dm M := List.mem_map.mpr ⟨_, at_mem hi, rfl⟩
  have sm : Same S (upd S d (.frz od u)) := fun b o q => by rw [upd_ne (fun z => by rw [z, hS] at q; cases q)]; exact q
  refine ⟨sm, fun b o q => ?_, fun b h1 h2 => ?_, fun b o h1 q => ?_, ⟨fun b Q hq => ?_, (List.nodup_cons.mp nd).2⟩, fun b hb => .inl (sub b hb)⟩
  · by_cases hb : b = d
    · subst hb; rw [upd_same] at q ⊢; exact q
    · rw [upd_ne hb] at q ⊢; exact e _ _ q
  · by_cases hb : b = d
    · subst hb; exact .inr dM
    · rw [upd_ne hb] at h2; exact absurd h1 h2
  · rw [upd_ne (fun z => h1 (by rw [z]; exact dM))]; exact q
  · have hb : b ≠ d := fun z => out (by rw [← z]; exact List.mem_map.mpr ⟨_, hq, rfl⟩)
    obtain ⟨z, o, q1, q2⟩ := m.at_ b Q (pm.symm.subset (List.mem_cons_of_mem _ hq))
    exact ⟨by rw [upd_ne hb]; exact z, o, by rw [upd_ne hb]; exact q1, Q.m sm q2⟩
section
variable {E : XK} {K : PySem.W.Frag} {Γ : Ct} {M : SH} {k : KR} {X : KX} {R R1 R2 : Rep} {te td tl : TE} {vs : List Nat} {D : EndT} {t u : TS} {tr : TA} {C : Addr}
theorem st_tFz {i j : Nat} {d x : Addr} {kvs : FR} {fs : FR} {f : Str} (hd : M[i]? = some (d, mDK kvs)) (hx : (M.eraseIdx i)[j]? = some (x, mObj C fs)) (hf : fs.lookup f = some (iRef d)) (h : St E t Γ ((M.eraseIdx i).set j (x, mObj C (putR f (iDF kvs) fs))) D) : St E (tFz t) Γ M D := fun σ S H D0 I o => by
  obtain ⟨_, ob, ho, vs, rfl, ok⟩ := I.m.at_ d (mDK kvs) (at_mem hd)
  refine ⟨d, .dK vs, ho, True.intro, fun od => ?_⟩
  have f1 := Stp.frzAt (od := od) (u := .dK vs) hd I.ex I.m
  have f2 := Stp.re (P' := mObj C (putR f (iDF kvs) fs)) hx f1.e f1.m fun o ⟨dx, ws, e, hi⟩ => ⟨dx, ws, e, hi.re (fun v p => by cases p; exact ⟨d, od, vs, rfl, upd_same, ok.mono f1.s⟩) hf⟩
  exact h σ _ _ D0 (I.step (f1.trans f2)) (o.step (f1.trans f2))
/-! ### what it tells -/
theorem DkOk.at {S : Hp} {kvs : FR} {ws : List (Key × V)} (h : DkOk S kvs ws) {i : Nat} {kv : Key} {v : V} (e : ws[i]? = some (kv, v)) : ∃ p, kvs[i]? = some p ∧ kv = .inr p.1 ∧ p.2.p S v := by
  have h1 : (ws.map (·.1))[i]? = some kv := by rw [List.getElem?_map, e]; rfl
  rw [h.nm, List.getElem?_map] at h1
  cases hp : kvs[i]? with
  | none => rw [hp] at h1; cases h1
  | some p =>
    rw [hp] at h1
    have h2 : (ws.map (·.2))[i]? = some v := by rw [List.getElem?_map, e]; rfl
    obtain ⟨r, h3, h4⟩ := h.al.getV h2
    rw [List.getElem?_map, hp] at h3
    have e3 := Option.some.inj h3
    exact ⟨p, rfl, (Option.some.inj h1).symm, by rw [← e3] at h4; exact h4⟩
theorem tip_keysF {kvs : FR} (h : Ep E td Γ M (iDF kvs)) : Tip E (iKeys td) Γ M kvs.length (fun i r => ∃ p, kvs[i]? = some p ∧ r = aStr p.1) := fun ki X q σ S H R I o ox =>
  h (fun R' M' => R' = iDF kvs ∧ M' = M) X ⟨rfl, rfl⟩ σ S H _ I (fun v S2 H2 R' M2 ⟨e1, e2⟩ st p => by
    subst e1; subst e2
    obtain ⟨d, od, ws, rfl, hd, ok⟩ := p
    refine ⟨d, od, rfl, .inl ⟨ws, st.e _ _ hd, o _ S2 H2 _ _ _ q st ⟨fun H => H d = some (.frz od (.dK ws)), fun i H x H' => H' = H ∧ ∃ kv v, ws[i]? = some (kv, v) ∧ x = L2.kV kv, ?_, fun Sx H e1 e2 => (e1.trans e2) _ _ hd, ?_⟩⟩⟩
    · have w := walk_keys (d := d) (o := od) (kvs := ws)
      rw [ok.len] at w
      exact w
    · rintro i H x H' hi ⟨rfl, kv, v, hw, rfl⟩ Sx Mx e1 e2 m
      obtain ⟨p, hp, rfl, _⟩ := ok.at hw
      exact ⟨Sx, _, Stp.refl e2 m, ⟨p, hp, rfl⟩, rfl⟩) ox
theorem tip_valsF {kvs : FR} (h : Ep E td Γ M (iDF kvs)) : Tip E (iVals td) Γ M kvs.length (fun i r => ∃ p, kvs[i]? = some p ∧ r = p.2) := fun ki X q σ S H R I o ox =>
  h (fun R' M' => R' = iDF kvs ∧ M' = M) X ⟨rfl, rfl⟩ σ S H _ I (fun v S2 H2 R' M2 ⟨e1, e2⟩ st p => by
    subst e1; subst e2
    obtain ⟨d, od, ws, rfl, hd, ok⟩ := p
    refine ⟨d, od, ws, rfl, st.e _ _ hd, o _ S2 H2 _ _ _ q st ⟨fun H => H d = some (.frz od (.dK ws)), fun i H x H' => H' = H ∧ ∃ kv, ws[i]? = some (kv, x), ?_, fun Sx H e1 e2 => (e1.trans e2) _ _ hd, ?_⟩⟩
    · have w := walk_values (d := d) (o := od) (kvs := ws)
      rw [ok.len] at w
      exact w
    · rintro i H x H' hi ⟨rfl, kv, hw⟩ Sx Mx e1 e2 m
      obtain ⟨p, hp, _, pv⟩ := ok.at hw
      exact ⟨Sx, _, Stp.refl e2 m, ⟨p, hp, rfl⟩, p.2.m e1 pv⟩) ox
end
/-! ### len, list of such a dict -/
def rLenF : List V → Hp → VK → Prop := fun xs H Q => ∃ a kvs, xs = [V.ref a] ∧ Rd H a (.dK kvs) ∧ Q (.int kvs.length) H
theorem call_lenF {X : Cx} : CallR X (.builtin "len") rLenF := fun pins s σ H xs us Q I r ⟨a, kvs, e, ha, q⟩ => by
  subst e
  obtain rfl := Vals.ref1 r
  exact d_len I ha fun t s' I' => ⟨.int kvs.length, H, I', ⟨t, rfl⟩, q⟩
end L3

namespace L3
open PySem PySem.Spec L2 RZ PyProof.Rows
/-! ### what the iterator over a dict's keys gives, at the level of its own body -/
section
variable {prog : Program} {w : World} {A : Around} {E : Value → Shared → Prop} {s : Shared} {it d : Addr} {od : Obj} {es : Array DictEntry} {ep i : Nat}
theorem keys_one {Q : Value → Shared → Prop} (hI : s.heap.IsKeyIter it d i es.size ep) (hO : s.heap.get? d = some od) (hD : od.data = .dict es ep) (hi : i < es.size)
    (q : ∀ h', h'.IsKeyIter it d (i + 1) es.size ep → Heap.SameBut it s.heap h' → Q es[i].key { s with heap := h' }) :
    wpAny (model prog w) A (Builtin.SmallTypes.nextOf (.ref it)) Q E s := by
  obtain ⟨o, ho, hc, hd⟩ := id hI
  unfold Builtin.SmallTypes.nextOf
  refine wpAny_bind (wpAny_callSpecial?_slot (name := Str.ofString "__next__") hI.typeIs F.slot_dict_keyiterator_next (wpAny_call_entry F.slot_dict_keyiterator_next hI.typeIs F.entry_dict_keyiterator_next ?_ (F.args_dict_keyiterator_next_1 _)))
  refine wpAny_bind (wpAny_pure ?_); refine wpAny_bind (wpAny_bind ?_)
  refine wpAny_bind (wpAny_typeNameOfWhole_keyiter hI.typeIs (wpAny_pure (wpAny_bind (wpAny_fieldsOf ho hd ?_))))
  have own : Builtin.Dict_items.ownsTuple "dict_keyiterator" = false := by decide
  simp only [own, Bool.false_eq_true, if_false]
  show wpAny _ _ (ite ((Value.ref d == Value.none) = true) _ _) _ _ s
  rw [if_neg (by exact Bool.false_ne_true : ¬ ((Value.ref d == Value.none) = true))]
  refine wpAny_bind (wpAny_pure (wpAny_bind (wpAny_dictEntries hO hD ?_)))
  rw [if_neg (by simp)]
  refine wpAny_bind (wpAny_pure (wpAny_bind (wpAny_dictEpoch hO hD ?_)))
  rw [if_neg (by simp)]; refine wpAny_pure ?_
  simp only [show ¬ ((i : Int) < 0) by omega, if_false, Int.toNat_natCast, Array.getElem?_eq_getElem hi]
  refine wpAny_bind (wpAny_bind (wpAny_typeNameOfWhole_keyiter hI.typeIs (wpAny_pure ?_)))
  refine wpAny_bind (wpAny_isOneOf_keyiter hI.typeIs ?_)
  show wpAny _ _ (setField (.ref it) 1 (rawInt ((i : Int) + 1)) >>= fun _ => _) _ _ s
  refine wpAny_bind (wpAny_setField ho hd (by simp) ?_)
  have nx : (s.heap.update it (Obj.mapFields (·.setIfInBounds 1 (rawInt ((i : Int) + 1))))).IsKeyIter it d (i + 1) es.size ep := by
    refine ⟨_, Heap.get?_update_self _ ho (Obj.isFreed_of_fields (Obj.data_mapFields hd _)), (Obj.cls_mapFields ..).trans hc, ?_⟩
    rw [Obj.data_mapFields hd]; simp [rawInt]
  refine wpAny_bind (wpAny_holding (wpAny_bind (wpAny_isOneOf_keyiter (s := { s with heap := s.heap.update it (Obj.mapFields (·.setIfInBounds 1 (rawInt ((i : Int) + 1)))) }) nx.typeIs ?_)))
  exact wpAny_pure (wpAny_pure ⟨es[i].key, rfl, wpAny_pure (q _ nx (Heap.SameBut.update ..))⟩)
theorem keys_none {Q : Value → Shared → Prop} (hh : A.handled = none) (hI : s.heap.IsKeyIter it d i es.size ep) (hO : s.heap.get? d = some od) (hD : od.data = .dict es ep) (hi : es.size ≤ i)
    (q : ∀ h' e, Heap.ExtBut it s.heap h' → (∃ o, h'.get? e = some o ∧ o.cls = .type "StopIteration") → E (.ref e) { s with heap := h' }) :
    wpAny (model prog w) A (Builtin.SmallTypes.nextOf (.ref it)) Q E s := by
  obtain ⟨o, ho, hc, hd⟩ := id hI
  unfold Builtin.SmallTypes.nextOf
  refine wpAny_bind (wpAny_callSpecial?_slot (name := Str.ofString "__next__") hI.typeIs F.slot_dict_keyiterator_next (wpAny_call_entry F.slot_dict_keyiterator_next hI.typeIs F.entry_dict_keyiterator_next ?_ (F.args_dict_keyiterator_next_1 _)))
  refine wpAny_bind (wpAny_pure ?_); refine wpAny_bind (wpAny_bind ?_)
  refine wpAny_bind (wpAny_typeNameOfWhole_keyiter hI.typeIs (wpAny_pure (wpAny_bind (wpAny_fieldsOf ho hd ?_))))
  have own : Builtin.Dict_items.ownsTuple "dict_keyiterator" = false := by decide
  simp only [own, Bool.false_eq_true, if_false]
  show wpAny _ _ (ite ((Value.ref d == Value.none) = true) _ _) _ _ s
  rw [if_neg (by exact Bool.false_ne_true : ¬ ((Value.ref d == Value.none) = true))]
  refine wpAny_bind (wpAny_pure (wpAny_bind (wpAny_dictEntries hO hD ?_)))
  rw [if_neg (by simp)]
  refine wpAny_bind (wpAny_pure (wpAny_bind (wpAny_dictEpoch hO hD ?_)))
  rw [if_neg (by simp)]; refine wpAny_pure ?_
  simp only [show ¬ ((i : Int) < 0) by omega, if_false, Int.toNat_natCast, Array.getElem?_eq_none hi]
  refine wpAny_bind (wpAny_bind (wpAny_typeNameOfWhole_keyiter hI.typeIs (wpAny_pure ?_)))
  show wpAny _ _ (setField (.ref it) 0 .none >>= fun _ => _) _ _ s
  refine wpAny_bind (wpAny_setField ho hd (by simp) ?_); show wpAny _ _ (newExc (.type "StopIteration") [] >>= fun _ => _) _ _ _
  refine wpAny_bind ?_; simp only [newExc, newTuple]
  refine wpAny_bind (wpAny_newObj_type ?_ (by size_fits)); refine wpAny_bind (m := firstArgMember _ _) (wpAny_of_eq (a := Value.none) (by first | rfl | (simp only [firstArgMember]; rfl)) ?_)
  refine wpAny_newObj_type ?_ (by size_fits); simp only [raiseNew]
  refine wpAny_bind (wpAny_handled ?_); rw [show A.in1.handled = none from hh]
  refine wpAny_bind (wpAny_pure (wpAny_throw (q _ _ (((Heap.SameBut.update ..).extBut.push _).push _) ⟨_, Heap.get?_push_size _ rfl, rfl⟩)))
theorem draws_keys (hh : A.handled = none) (it d : Addr) (hne : d ≠ it) (hD : od.data = .dict es ep) :
    Draws prog w A it [it, d] es.size (fun i v => ∃ en : DictEntry, es[i]? = some en ∧ v = en.key) (fun i h => h.IsKeyIter it d i es.size ep ∧ h.get? d = some od) where
  live := fun _ _ st => let ⟨o, ho, _⟩ := st.1; ⟨o, ho⟩
  frame := fun _ _ _ st k => ⟨st.1.at fun o e => k it (by simp) o e, k d (by simp) od st.2⟩
  item := fun i s Q E hi st q => keys_one st.1 st.2 hD hi fun h' h1 sb => q _ h' s.toks ⟨_, Array.getElem?_eq_getElem hi, rfl⟩ ⟨h1, (sb.2 d hne).trans st.2⟩ sb
  done := fun s Q E st q => keys_none hh st.1 st.2 hD (Nat.le_refl _) q
end
/-! ### zip of a dict's keys and a list -/
theorem pairs_key {prog : Program} {w : World} {κ : Type} [DecidableEq κ] {knd : KeyKind prog w κ} {es : List DictEntry} {kvs : List (κ × Value)} (h : Pairs knd es kvs) : ∀ {i : Nat} {en : DictEntry} {p : κ × Value}, es[i]? = some en → kvs[i]? = some p → knd.is p.1 en.key = true := by
  induction h with
  | nil => intro i en p h1; cases h1
  | cons a b c ih =>
    intro i en p h1 h2
    cases i with
    | zero => cases h1; cases h2; exact a
    | succ j => exact ih h1 h2
def ItzK (K : PySem.W.Frag) (d : Addr) (od : Obj) (kvs : List (Key × V)) (b : Addr) : It where
  go i H := H d = some (.frz od (.dK kvs)) ∧ i < kvs.length ∧ ∃ (ys : List V) (y : V), SqL K H b ys ∧ ys[i]? = some y
  yld i H v H' := ∃ T x y, v = .ref T ∧ H T = none ∧ H' = upd H T (.tup [x, y]) ∧ (kvs[i]?.map fun p => L2.kV p.1) = some x ∧ ∀ ys, SqL K H b ys → ys[i]? = some y
  stop i H := H d = some (.frz od (.dK kvs)) ∧ i ≤ kvs.length ∧ ∃ ys : List V, SqL K H b ys ∧ i ≤ ys.length ∧ (i = kvs.length ∨ i = ys.length)
theorem zsep {z TI TO i1 i2 d b : Addr} (D : ZipApart z TI TO i1 i2 d b) : ZipSep2 z TI TO i1 i2 [i1, d] [i2, b] where
  TIz := D.TIz
  TOz := D.TOz
  TITO := D.TITO
  TIi1 := D.TIi1
  mem1 := by simp
  zf1 := by simp [D.i1z.symm, D.l1z.symm]
  Tf1 := by simp [D.TOi1, D.l1TO.symm]
  TIi2 := D.TIi2
  mem2 := by simp
  zf2 := by simp [D.i2z.symm, D.l2z.symm]
  Tf2 := by simp [D.TOi2, D.l2TO.symm]
  sep1_2 := by simp [D.i12, D.l2i1.symm]
  sep2_1 := by simp [D.i12.symm, D.l1i2.symm]
theorem five {z TI TO i1 i2 c : Addr} (h : c ∈ [z, TI, TO, i1, i2]) : c = z ∨ c = TI ∨ c = TO ∨ c = i1 ∨ c = i2 := by simpa using h
theorem turn_zipK {P : Program} {w : World} {K : PySem.W.Frag} {elts : List Expr} {kk : Nat} {tpos : Pos} {d b z TI TO i1 i2 : Addr} {od : Obj} {es : Array DictEntry} {ep : Nat} {kvs : List (Key × V)} (hD : od.data = .dict es ep) (D : ZipApart z TI TO i1 i2 d b) :
    Turn P w K (.Tuple elts kk tpos) (ItzK K d od kvs b) [z, TI, TO, i1, i2] z (fun i h => IsZip h z TI TO .none ∧ IsTupOf2 h TI (.ref i1) (.ref i2) ∧ (∃ x y, IsTupOf2 h TO x y) ∧ h.IsKeyIter i1 d i es.size ep ∧ h.IsListIter i2 b i) := by
  refine ⟨by simp, fun i h st c hc => ?_, fun i h h' st k => ?_, ?_, ?_, fun A i s Q E st q => wpAny_pyIter_zip st.1 q⟩
  · obtain ⟨hz, hTI, ⟨x, y, hTO⟩, ⟨o1, e1, _, d1⟩, ⟨o2, e2, _, d2⟩⟩ := st
    rcases five hc with rfl | rfl | rfl | rfl | rfl
    · exact ⟨_, hz, fun v q => (nomatch q)⟩
    · exact ⟨_, hTI, fun v q => (nomatch q)⟩
    · exact ⟨_, hTO, fun v q => (nomatch q)⟩
    · exact ⟨o1, e1, fun v q => by rw [d1] at q; cases q⟩
    · exact ⟨o2, e2, fun v q => by rw [d2] at q; cases q⟩
  · obtain ⟨hz, hTI, ⟨x, y, hTO⟩, h1, h2⟩ := st
    exact ⟨k z (by simp) _ hz, k TI (by simp) _ hTI, ⟨x, y, k TO (by simp) _ hTO⟩, h1.at fun o => k i1 (by simp) o, h2.at fun o => k i2 (by simp) o⟩
  · rintro X rfl rfl rfl hc i pins s σ H E I hf ⟨hz, hTI, ⟨x0, y0, hTO⟩, h1, h2⟩ ⟨hd, hi, ys, y, hq, hy⟩
    obtain ⟨_, hgd, _, es', ep', vs, hdt, hsz, kv, hm⟩ := I.frzK hd
    obtain ⟨rfl, rfl⟩ := dict_ep hD hdt
    obtain ⟨its, rv, pl, _⟩ := I.list hq
    obtain ⟨u, hu, ru⟩ := rv.get hy
    have hh : X.A.in1.handled = none := I.ok.hd hc
    have l2 : i < its.toArray.size := by
      have := (List.getElem?_eq_some_iff.mp hu).1
      simpa using this
    have hzl : z < s.heap.objs.size := Heap.lt_size hz
    refine wpAny_pyNext_zipD2_item (zsep D) (draws_keys hh i1 d D.l1i1 hD) (Draws.list hh i2 b D.l2i2 its.toArray) hz hTI hTO ⟨h1, hgd⟩ ⟨h2, pl.isList⟩ (by omega) l2 fun x1 x2 h' tk hx1 hx2 z' TO' s1 s2 hT hs' hk => ?_
    obtain ⟨en, he, rfl⟩ := hx1
    have ex2 : u = x2 := by
      rw [show its.toArray[i]? = some u by simpa using hu] at hx2
      exact Option.some.inj hx2
    subst ex2
    have hkey : ∃ k, (kvs[i]?.map fun p => L2.kV p.1) = some (L2.kV k) ∧ RelV (L2.kV k) en.key := by
      obtain ⟨o', es2, ho', _, hd', _, pr, _⟩ := hm
      rw [hgd] at ho'
      cases ho'
      obtain ⟨rfl, _⟩ := dict_ep hD hd'
      obtain ⟨⟨k, v⟩, hkv⟩ : ∃ p, kvs[i]? = some p := ⟨kvs[i], List.getElem?_eq_getElem hi⟩
      obtain ⟨u', hu', _⟩ := kv_get kv hkv
      exact ⟨k, by rw [hkv]; rfl, relV_key (pairs_key pr (by rw [Array.getElem?_toList]; exact he) hu')⟩
    obtain ⟨k, ek, rk⟩ := hkey
    refine ⟨_, rfl, wpAny_letOwnedTupleGo_zip (s := { s with heap := h', toks := tk }) z' fun h'' z'' sb => ?_⟩
    have hT2 := (sb.2 s.heap.objs.size (Nat.ne_of_gt hzl)).trans hT
    have fresh : H s.heap.objs.size = none := I.hok.fresh (Nat.le_refl _)
    have I1 : Inv X pins σ (upd H s.heap.objs.size (.tup [L2.kV k, y])) { s with heap := h'', toks := tk } :=
      I.turnedNew (ch := [z, TI, TO, i1, i2]) (fun c o hb q => by
        have n : c ≠ z ∧ c ≠ TI ∧ c ≠ TO ∧ c ≠ i1 ∧ c ≠ i2 := by simpa using hb
        exact (sb.2 c n.1).trans (hk c o n.1 n.2.2.1 n.2.2.2.1 n.2.2.2.2 q)) hf (Nat.le_refl _) ⟨by show 2 ≤ sizeLine; decide, [en.key, u], .cons rk (.cons ru .nil), ⟨_, hT2, rfl, _, rfl⟩⟩
    refine ⟨.ref s.heap.objs.size, _, I1, rfl, ⟨_, _, y, rfl, fresh, rfl, ek, fun l hl => by rw [I.list_inj hl hq]; exact hy⟩, ⟨z'', (sb.2 _ D.TIz).trans (hk _ _ D.TIz D.TITO D.TIi1 D.TIi2 hTI), ⟨_, _, (sb.2 _ D.TOz).trans TO'⟩, s1.1.at fun o q => (sb.2 _ D.i1z).trans q, s2.1.at fun o q => (sb.2 _ D.i2z).trans q⟩, fun c hc => ?_⟩
    have hlt : c < s.heap.objs.size := by
      rcases five hc with rfl | rfl | rfl | rfl | rfl
      · exact hzl
      · exact Heap.lt_size hTI
      · exact Heap.lt_size hTO
      · exact let ⟨_, e, _⟩ := h1; Heap.lt_size e
      · exact let ⟨_, e, _⟩ := h2; Heap.lt_size e
    rw [upd_ne (Nat.ne_of_lt hlt)]
    exact (hf c hc).1
  · rintro X rfl rfl rfl hc i pins s σ H E I hf ⟨hz, hTI, ⟨x0, y0, hTO⟩, h1, h2⟩ ⟨hd, hi, ys, hq, hle, hend⟩
    obtain ⟨_, hgd, _, es', ep', vs, hdt, hsz, kv, hm⟩ := I.frzK hd
    obtain ⟨rfl, rfl⟩ := dict_ep hD hdt
    obtain ⟨its, rv, pl, _⟩ := I.list hq
    have hh : X.A.in1.handled = none := I.ok.hd hc
    have l2 : ys.length = its.toArray.size := by simpa using rv.length
    exact wpAny_pyNext_zipD2_end (zsep D) (draws_keys hh i1 d D.l1i1 hD) (Draws.list hh i2 b D.l2i2 its.toArray) hz hTI hTO ⟨h1, hgd⟩ ⟨h2, pl.isList⟩ (by omega) (by omega) (by omega) fun h' tk hk =>
      ⟨rfl, I.turnedL (t' := tk) (ch := [z, TI, TO, i1, i2]) (fun c o hb q => by
        have n : c ≠ z ∧ c ≠ TI ∧ c ≠ TO ∧ c ≠ i1 ∧ c ≠ i2 := by simpa using hb
        exact hk c o n.1 n.2.2.1 n.2.2.2.1 n.2.2.2.2 q) hf⟩
abbrev zk1 (h : Heap) (d n ep : Nat) : Heap := h.push { cls := .type "dict_keyiterator", data := .fields #[.ref d, .int 0 0, .int n 0, .int ep 0] }
abbrev zk2 (h : Heap) (d n ep b : Nat) : Heap := (zk1 h d n ep).push { cls := .type "list_iterator", data := .fields #[.ref b, .int 0 0] }
abbrev zk3 (h : Heap) (d n ep b : Nat) : Heap := (zk2 h d n ep b).push { cls := .type "tuple", data := .seq #[.ref h.objs.size, .ref (zk1 h d n ep).objs.size] }
abbrev zk4 (h : Heap) (d n ep b : Nat) : Heap := (zk3 h d n ep b).push { cls := .type "tuple", data := .seq #[.none, .none] }
abbrev zk5 (h : Heap) (d n ep b : Nat) : Heap := (zk4 h d n ep b).push { cls := .type "zip", data := .fields #[.none, .bool false, .bool false, .ref (zk2 h d n ep b).objs.size, .ref (zk3 h d n ep b).objs.size] }
theorem new_zipK (d b : Addr) (od : Obj) (es : Array DictEntry) (ep : Nat) (ys : Array Value) (hs : (d == sysModules) = false) (hx : od.ExactDict) (hD : od.data = .dict es ep) :
    Meets (Builtin.«zip.__new__» ⟨[.type "zip", .ref d, .ref b], []⟩) (fun _ R s => s.heap.get? d = some od ∧ s.heap.IsList b ys ∧ R (.ok (.ret (.ref (zk4 s.heap d es.size ep b).objs.size))) { s with heap := zk5 s.heap d es.size ep b }) :=
  .of_wp fun prog w A R ⟨hp, g, dr, tk, os⟩ ⟨h1, h2, h⟩ => by
    have hsub := sub_zip
    have q1 : (Shared.heap ⟨hp, g, dr, tk, os⟩).get? d = some od := h1
    have q2 : Heap.IsList (Shared.heap ⟨zk1 hp d es.size ep, g, dr, tk, os⟩) b ys := Heap.IsList.push h2 _
    wp_walk using iter_keys hs q1 hx hD, wpAny_pyIter_list q2
    exact ⟨_, rfl, h⟩
theorem call_zipK {prog : Program} {w : World} {A : Around} {E : Value → Shared → Prop} {s : Shared} {d b : Addr} {od : Obj} {es : Array DictEntry} {ep : Nat} {ys : Array Value} {Q : Value → Shared → Prop} (hs : (d == sysModules) = false) (ho : s.heap.get? d = some od) (hx : od.ExactDict) (hD : od.data = .dict es ep) (hb : s.heap.IsList b ys)
    (h : ∀ h', IsZip h' (s.heap.objs.size + 4) (s.heap.objs.size + 2) (s.heap.objs.size + 3) .none → IsTupOf2 h' (s.heap.objs.size + 2) (.ref s.heap.objs.size) (.ref (s.heap.objs.size + 1)) → IsTupOf2 h' (s.heap.objs.size + 3) .none .none →
      h'.IsKeyIter s.heap.objs.size d 0 es.size ep → h'.IsListIter (s.heap.objs.size + 1) b 0 → (∀ c o, s.heap.get? c = some o → h'.get? c = some o) → Q (.ref (s.heap.objs.size + 4)) { s with heap := h' }) :
    wpAny (model prog w) A (call (.type "zip") [.ref d, .ref b]) Q E s := by
  refine callType_new F.called_zip (by decide) (F.typeCall_zip_2 _ _) (F.newCall_zip_2 _ _) (fun obj => F.args_object_init_3 obj _ _) F.entry_zip_new (new_zipK d b od es ep ys hs hx hD) ⟨ho, hb, ?_⟩
  have up : ∀ {g : Heap} {x : Obj} {c : Addr} {o : Obj}, g.get? c = some o → (g.push x).get? c = some o := fun q => Heap.get?_push_of_some _ q
  have z1 : (zk1 s.heap d es.size ep).objs.size = s.heap.objs.size + 1 := Heap.size_push ..
  have z2 : (zk2 s.heap d es.size ep b).objs.size = s.heap.objs.size + 2 := by rw [Heap.size_push, z1]
  have z3 : (zk3 s.heap d es.size ep b).objs.size = s.heap.objs.size + 3 := by rw [Heap.size_push, z2]
  have z4 : (zk4 s.heap d es.size ep b).objs.size = s.heap.objs.size + 4 := by rw [Heap.size_push, z3]
  have g5 : (zk5 s.heap d es.size ep b).get? (zk4 s.heap d es.size ep b).objs.size = some _ := Heap.get?_push_size _ rfl
  have g4 : (zk5 s.heap d es.size ep b).get? (zk3 s.heap d es.size ep b).objs.size = some _ := up (Heap.get?_push_size _ rfl)
  have g3 : (zk5 s.heap d es.size ep b).get? (zk2 s.heap d es.size ep b).objs.size = some _ := up (up (Heap.get?_push_size _ rfl))
  have g2 : (zk5 s.heap d es.size ep b).get? (zk1 s.heap d es.size ep).objs.size = some _ := up (up (up (Heap.get?_push_size _ rfl)))
  have g1 : (zk5 s.heap d es.size ep b).get? s.heap.objs.size = some _ := up (up (up (up (Heap.get?_push_size _ rfl))))
  show _ ∧ _
  rw [z2, z3, z4] at g5; rw [z1, z2] at g3; rw [z3] at g4; rw [z1] at g2; rw [z4]
  exact ⟨⟨_, g5, rfl⟩, h _ g5 g3 g4 ⟨_, g1, rfl, rfl⟩ ⟨_, g2, rfl, rfl⟩ fun c o q => up (up (up (up (up q))))⟩
def iZipK (K : PySem.W.Frag) (ta : TA) : TI := fun σ H R => ta σ H fun vs H1 => ∃ d b od kvs ys, vs = [.ref d, .ref b] ∧ H1 d = some (.frz od (.dK kvs)) ∧ SqL K H1 b ys ∧ R (ItzK K d od kvs b) H1
theorem pi_zipK {X : Cx} {e e2 : Expr} {ta : TA} {p pos tpos : Pos} {elts : List Expr} {kk : Nat} (hg : Gl X "zip") (hm : X.mg "zip" = none) (ha : PA X [e, e2] ta)
    (hs : starEach [e, e2] X.env = (false, eval e X.env) :: starEach [e2] X.env := by rfl) (hpl : (backTo pos (starEach [e2] X.env)).any (·.1) = false := by rfl) :
    PI X (.Tuple elts kk tpos) (.Call (.Name "zip" p) [e, e2] [] pos) (iZipK X.K ta) := by
  refine ⟨fun pins s σ H R I h => Call_ (ld_blt I hg hm boot_zip (callWith_type1 (thn (ha.run pos pins s σ H _ I h) fun us s1 ⟨vs, H1, I1, r1, d, b, od, kvs, ys, ex, hd, hq, q⟩ => ?_) hs hpl))⟩
  subst ex
  cases r1 with | cons r rr =>
  cases rr with | cons r' rr =>
  cases rr; cases r; cases r'
  obtain ⟨hsy, hgd, hx, es, ep, vs, hdt, hsz, kv, hm⟩ := I1.frzK hd
  obtain ⟨its, rv, pl, _⟩ := I1.list hq
  refine call_zipK hsy hgd hx hdt pl.isList fun h' hz hTI hTO h1 h2 hk => wpAny_pyIter_zip hz ?_
  have I2 : Inv X pins σ H1 { s1 with heap := h' } := I1.kept (t' := s1.toks) hk
  refine ⟨s1.heap.objs.size + 4, [s1.heap.objs.size + 4, s1.heap.objs.size + 2, s1.heap.objs.size + 3, s1.heap.objs.size, s1.heap.objs.size + 1], _, _, H1, rfl, I2, turn_zipK hdt (PySem.W.ktu_apart s1.heap.objs.size d b (Heap.lt_size hgd) pl.lt), ⟨hz, hTI, ⟨_, _, hTO⟩, h1, h2⟩, fun c hc => ?_, q⟩
  have hle : s1.heap.objs.size ≤ c := by
    rcases five hc with e | e | e | e | e <;> rw [e]
    · exact Nat.le_add_right _ _
    · exact Nat.le_add_right _ _
    · exact Nat.le_add_right _ _
    · exact Nat.le_refl _
    · exact Nat.le_add_right _ _
  exact I1.fpOk hle (I1.hok.fresh hle)
theorem walk_zipK {K : PySem.W.Frag} {d b : Addr} {od : Obj} {kvs : List (Key × V)} {ys : List V} {n : Nat} (hn : n = min kvs.length ys.length) : Walk (ItzK K d od kvs b) n (fun H => H d = some (.frz od (.dK kvs)) ∧ SqL K H b ys) (YPair (fun i => kvs[i]?.map fun p => L2.kV p.1) (fun i => ys[i]?)) := by
  subst hn
  refine ⟨fun i _ hi q => ⟨q.1, by omega, ys, ys[i]'(by omega), q.2, List.getElem?_eq_getElem _⟩, fun _ q => ⟨q.1, by omega, ys, q.2, by omega, by omega⟩, fun i H v H' _ q y => ?_⟩
  obtain ⟨T, x, z, h1, h2, h3, h4, h5⟩ := y
  exact ⟨T, x, z, h1, h2, h3, h4, h5 ys q.2⟩
section
variable {E : XK} {K : PySem.W.Frag} {Γ : Ct} {M : SH} {k : KR} {X : KX} {R R1 R2 : Rep} {te ta tb tl td : TE} {vs : List Nat} {D : EndT} {t u : TS} {tr : TA} {C : Addr}
theorem tip_zipK {kvs : FR} {rl : List Rep} {n : Nat} (h : Ep E ta Γ M (iDF kvs)) (h' : Ep E tb Γ M (iLst rl)) (hn : n = min kvs.length rl.length) : Tip E (iZipK K (tCons ta (tCons tb tNil))) Γ M n (fun i r => ∃ q1 q2, (∃ p, kvs[i]? = some p ∧ q1 = aStr p.1) ∧ rl[i]? = some q2 ∧ r = aTup K [q1, q2]) := fun ki X q σ S H R I o ox =>
  eap_cons h (eap_cons h' eap_nil) (fun Rs M' => Rs = [iDF kvs, iLst rl] ∧ M' = M) X ⟨rfl, rfl⟩ σ S H _ I (fun xs S2 H2 Rs M2 ⟨e1, e2⟩ st p => by
    subst e1; subst e2
    obtain ⟨v, w, rfl, p1, p2⟩ := all2_2 p
    obtain ⟨d, od, ws, rfl, hd, ok⟩ := p1
    obtain ⟨a, ys, rfl, ha, al⟩ := p2
    refine ⟨d, a, od, ws, ys, rfl, st.e _ _ hd, SqL.of (st.e _ _ ha), o _ S2 H2 _ _ _ q st ?_⟩
    have w := walk_zipK (K := K) (d := d) (b := a) (od := od) (kvs := ws) (ys := ys) (n := n) (by rw [ok.len, al.len]; exact hn)
    refine tw_pair w (fun Sx H e1 e2 => ⟨(e1.trans e2) _ _ hd, SqL.of ((e1.trans e2) _ _ ha)⟩) (fun i x hi hx => ?_) (fun i x hi hx => al.getV hx)
    cases hw : ws[i]? with
    | none => rw [hw] at hx; cases hx
    | some p =>
      rw [hw] at hx
      obtain ⟨q, hq, e, _⟩ := ok.at (kv := p.1) (v := p.2) hw
      refine ⟨aStr q.1, ⟨q, hq, rfl⟩, ?_⟩
      have : x = L2.kV p.1 := (Option.some.inj hx).symm
      rw [this, e]
      rfl) ox
end
end L3

namespace L3
open PySem PySem.Spec L2 RZ PyProof.Rows
section
variable {E : XK} {K : PySem.W.Frag} {Γ : Ct} {M : SH} {k : KR} {X : KX} {R R1 R2 : Rep} {te ta tb tc tl tv : TE} {vs : List Nat} {D : EndT} {t u : TS} {c tt : TT} {tr tk : TA} {C : Addr} {f : Str} {wi : TI}
/-! ### a method that changes what is there -/
theorem ev_methM {m : Str} {ts : TSp} (h : Ev E ta Γ M (fun R M1 => ∃ fs, HasO M1 R C fs ∧ fs.lookup m = none ∧ Ea E tr Γ M1 (fun Rs M2 => ∃ Rs', LeS (R :: Rs) Rs' ∧ ts Rs' M2 k X0) X) X) : Ev E (tMeth C m (spT ts) [] E0 ta tr) Γ M k X := fun σ S H Q I o ox =>
  h σ S H _ I (fun v S1 H1 R M1 ⟨fs, ho, hm, q⟩ st p => by
    obtain ⟨a, dx, vs, e, ha, hi⟩ := ho.get st.e st.m p
    refine ⟨a, dx, vs, e, ha, (hi.look m).1 hm, q σ S1 H1 _ (I.step st) (fun xs S2 H2 Rs M2 ⟨Rs', le, q2⟩ st2 p2 => ?_) (ox.step st)⟩
    rw [List.append_nil]
    exact ⟨S2, Rs', M2, k, X0, q2, st2.e, st2.m, le S2 (v :: xs) ⟨R.m st2.s p, p2⟩, o.step (st.trans st2), fun _ _ _ _ _ _ z => z.elim⟩) ox
theorem ev_makeN {n m : Nat} {sp : List Rep → (FR → Prop) → Prop} {gV : List V → List V → List V} {gR : List Rep → List Rep → List Rep} (hg : ∀ S (R : Rep) Rs Zs v vs zs, R.p S v → All2 S Rs vs → All2 S Zs zs → All2 S (R :: gR Rs Zs) (gV (v :: vs) zs))
    (h : Ea E tr Γ M (fun Rs M1 => Rs.length = n ∧ Ea E tk Γ M1 (fun Zs M2 => Zs.length = m ∧ ∃ Rs', LeS (gR Rs Zs) Rs' ∧ sp Rs' fun fs => k (iObj C fs) M2) X) X) : Ev E (tMakeN C n m (spT (initK C sp)) gV E0 tr tk) Γ M k X := fun σ S H Q I o ox =>
  h σ S H _ I (fun vs S0 H0 Rs M0 ⟨e1, q⟩ st0 p => q σ S0 H0 _ (I.step st0) (fun zs S1 H1 Zs M1 ⟨e2, Rs', le, q⟩ st1 p2 => ⟨p.len.trans e1, p2.len.trans e2, fun x dx hx hdx hne => by
    have st := st0.trans st1
    have s1 := Stp.newS (o := .own x) st.e st.m hdx
    have hx1 : upd H1 dx (.own x) x = none := by rw [upd_ne (Ne.symm hne)]; exact hx
    have s2 := Stp.newM (P := mObj C []) (o := .ins C dx []) s1.e s1.m hx1 ⟨dx, [], rfl, rfl, True.intro⟩
    have st2 := (st.trans s1).trans s2
    have pm : (M1 ++ [(x, mObj C [])]).Perm ([(x, mObj C [])] ++ M1) := List.perm_append_comm
    have al := hg _ (iRef x) Rs Zs (.ref x) vs zs rfl ((p.mono st1.s).mono s1.s) (p2.mono s1.s)
    have al2 : ∃ xs, gV (.ref x :: vs) zs = .ref x :: xs ∧ All2 (upd S1 dx (.own x)) (gR Rs Zs) xs := by
      generalize gV (.ref x :: vs) zs = ys at al
      match ys, al with
      | [], al => exact al.elim
      | y :: ys, al => exact ⟨ys, by rw [show y = .ref x from al.1], al.2⟩
    obtain ⟨xs, ex, al3⟩ := al2
    rw [ex]
    refine spT_in (ts := initK C sp) (Mf := [(x, mObj C [])]) (Fr := M1) (Rs := iRef x :: Rs') (X := X0) (k := fun R' M' => R' = iNon ∧ ∃ fs, M' = [(x, mObj C fs)] ++ M1 ∧ k (iObj C fs) M1) ⟨x, Rs', rfl, rfl, _, q, fun fs z => ⟨rfl, fs, rfl, z⟩⟩ s2.e (st2.m.perm pm) ⟨rfl, le _ _ al3⟩ (fun w S3 H3 R3 M3 ⟨e3, fs, e4, q3⟩ st3 p3 => ?_) (fun _ _ _ _ _ _ z => z.elim)
    subst e3
    subst e4
    cases p3
    obtain ⟨_, ob, ho, dx', vs', rfl, hi⟩ := st3.m.at_ x (mObj C fs) (by simp)
    have fz := Stp.fz (A := []) (B := M1) (P := mObj C fs) st3.e st3.m ho
    exact ⟨rfl, o (.ref x) _ H3 (iObj C fs) M1 q3 ((st2.trans (st3.permL pm)).trans fz) ⟨x, dx', vs', rfl, upd_same, hi.mono fz.s⟩⟩⟩) (ox.step st0)) ox
/-! ### dicts: list, len, whether there is none -/
theorem hd_f {kvs : FR} : HasD M (iDF kvs) kvs := .inl rfl
theorem hd_m {kvs : FR} {a : Addr} {i : Nat} (h : M[i]? = some (a, mDK kvs)) : HasD M (iRef a) kvs := .inr ⟨a, i, rfl, h⟩
theorem k_hd {kvs : FR} {P : FR → Prop} (h : HasD M R kvs) (q : P kvs) : ∃ kvs', HasD M R kvs' ∧ P kvs' := ⟨kvs, h, q⟩
theorem k_hg {z : Str} {kvs : FR} {Rf : Rep} {P : Rep → Prop} (h : HasD M R kvs) (hl : kvs.lookup z = some Rf) (q : P Rf) : ∃ z' kvs', aStr z = aStr z' ∧ HasD M R kvs' ∧ ∃ Rf, kvs'.lookup z' = some Rf ∧ P Rf := ⟨z, kvs, rfl, h, Rf, hl, q⟩
theorem k_rd {P : Prop} (q : P) : ∃ Rd : Rep, Rd = R ∧ P := ⟨R, rfl, q⟩
theorem c_lenD {kvs : FR} (h : HasD M R kvs) : Olp rLenF [R] M (iInt kvs.length) := ol_val fun xs S H e m p => by
  obtain ⟨v, rfl, p1⟩ := all2_1 p
  obtain ⟨a, ws, rfl, hr, ok⟩ := h.get e m p1
  exact ⟨_, rfl, fun Q q => ⟨a, ws, rfl, hr, by rw [ok.len]; exact q⟩⟩
def rListK : List V → Hp → VK → Prop := fun xs H Q => ∃ (a : Addr) (kvs : List (Key × V)), xs = [.ref a] ∧ Rd H a (.dK kvs) ∧ ∀ p, H p = none → Q (.ref p) (upd H p (.lst (kvs.map fun kv => L2.kV kv.1)))
theorem call_listK {X : Cx} (hc : X.calm = true) : CallR X (.type "list") rListK := call_listD hc
theorem c_listK {kvs : FR} (h : HasD M R kvs) : Olp rListK [R] M (iLst (kvs.map fun p => aStr p.1)) := ol_newL fun xs S H e m p => by
  obtain ⟨v, rfl, p1⟩ := all2_1 p
  obtain ⟨a, ws, rfl, hr, ok⟩ := h.get e m p1
  refine ⟨ws.map fun kv => L2.kV kv.1, ?_, fun Q q => ⟨a, ws, rfl, hr, q⟩⟩
  have gen : ∀ (kvs : FR) (ws : List (Key × V)), ws.map (·.1) = kvs.map (fun p => (Sum.inr p.1 : Key)) → All2 S (kvs.map fun p => aStr p.1) (ws.map fun kv => L2.kV kv.1) := by
    intro kvs
    induction kvs with
    | nil => intro ws e; cases ws with
      | nil => exact True.intro
      | cons _ _ => simp at e
    | cons p kvs ih => intro ws e; cases ws with
      | nil => simp at e
      | cons w ws =>
        simp at e
        refine ⟨?_, ih ws (by simpa using e.2)⟩
        show L2.kV w.1 = _
        rw [e.1]
        rfl
  exact gen kvs ws ok.nm
def tDE : TE := tDNewK
theorem pe_dE {X : Cx} {pos : Pos} : PE X (.Dict [] [] pos) tDE := pe_dnewK
def iDE : Rep := ⟨fun S v => ∃ a, v = .ref a ∧ S a = some (.dK []), fun e ⟨a, h1, h2⟩ => ⟨a, h1, e _ _ h2⟩⟩
theorem ev_dE (h : k iDE M) : Ev E tDE Γ M k X := fun σ S H Q I o ox p hp =>
  o (.ref p) (upd S p (.dK [])) _ iDE M h (Stp.newS I.ex I.m hp) ⟨p, rfl, upd_same⟩
def rNeE : L2.R2 := fun x y H Q => ∃ a b ks, x = .ref a ∧ y = .ref b ∧ Rd H a (.dK ks) ∧ Rd H b (.dK []) ∧ Q (.bl (!ks.isEmpty)) H
theorem op_neE {X : Cx} (hu : X.A.units < cLine) : OpR X (compareOp .NotEq) rNeE := by
  intro pins s σ H x y v u Q I rx ry h
  obtain ⟨a, b, ks, rfl, rfl, ea, eb, q⟩ := h
  obtain rfl : v = Value.ref a := rx
  obtain rfl : u = Value.ref b := ry
  obtain ⟨_, ya, va, ra, da⟩ := dk_rd I.hok ea
  obtain ⟨_, yb, vb, rb, db⟩ := dk_rd I.hok eb
  have lb : vb.length = 0 := by rw [← rb.length]; rfl
  have la : va.length = ks.length := by rw [← ra.length]
  refine PySem.W.keq_ne (knd := mixKind X.prog X.w) (r := true) ya yb da db hu (fun hl => hits_all rb ra fun p hp => ?_) (fin_bl I q ?_)
  · have : ks.length = 0 := by omega
    rw [List.length_eq_zero_iff.mp this] at hp
    cases hp
  · rw [lb, la]
    cases ks <;> rfl
theorem o_neE {kvs : FR} (h : HasD M R kvs) : O2p rNeE R iDE M (iBl (!kvs.isEmpty)) := o2_val fun x y S H e m p1 p2 => by
  obtain ⟨a, ws, rfl, hr, ok⟩ := h.get e m p1
  obtain ⟨b, rfl, hb⟩ := p2
  have el : ws.isEmpty = kvs.isEmpty := by
    have := ok.len
    cases ws <;> cases kvs <;> simp_all
  exact ⟨_, rfl, fun Q q => ⟨a, b, ws, rfl, rfl, hr, .inl (e _ _ hb), by rw [el]; exact q⟩⟩
/-! ### dicts: stores, displays -/
def putD (kvs : FR) (z : Str) (R : Rep) : FR := if (kvs.lookup z).isSome then kvs.map (fun p => if p.1 = z then (p.1, R) else p) else kvs ++ [(z, R)]
theorem DkOk.put {S : Hp} {kvs : FR} {ws : List (Key × V)} (h : DkOk S kvs ws) {z : Str} {R : Rep} {v : V} (p : R.p S v) : DkOk S (putD kvs z R) (putK ws (.inr z) v) := by
  have e : (valV ws (.inr z)).isSome = (kvs.lookup z).isSome := by
    cases hl : kvs.lookup z with
    | none => rw [(h.look z).1 hl]; rfl
    | some R => obtain ⟨w, hw, _⟩ := (h.look z).2 R hl; rw [hw]; rfl
  unfold putD putK
  rw [valV_any, e]
  cases (kvs.lookup z).isSome with
  | true =>
    rw [if_pos rfl, if_pos rfl]
    have gen : ∀ (kvs : FR) (ws : List (Key × V)), ws.map (·.1) = kvs.map (fun p => (Sum.inr p.1 : Key)) → All2 S (kvs.map (·.2)) (ws.map (·.2)) → DkOk S (kvs.map fun p => if p.1 = z then (p.1, R) else p) (ws.map fun kv => if kv.1 = Sum.inr z then (kv.1, v) else kv) := by
      intro kvs
      induction kvs with
      | nil => intro ws e al; cases ws with
        | nil => exact ⟨rfl, True.intro⟩
        | cons _ _ => simp at e
      | cons q kvs ih => intro ws e al; cases ws with
        | nil => simp at e
        | cons w ws =>
          simp at e
          obtain ⟨w1, w2⟩ := w
          obtain ⟨q1, q2⟩ := q
          obtain ⟨rfl, e2⟩ := e
          have ih2 := ih ws (by simpa using e2) al.2
          by_cases hq : q1 = z
          · subst hq
            refine ⟨?_, ?_⟩
            · simp only [List.map_cons, if_true]
              rw [ih2.nm]
            · simp only [List.map_cons, if_true]
              exact ⟨p, ih2.al⟩
          · have hq2 : ¬ (Sum.inr q1 : Key) = Sum.inr z := fun e => hq (Sum.inr.inj e)
            refine ⟨?_, ?_⟩
            · simp only [List.map_cons, if_neg hq, if_neg hq2]
              rw [ih2.nm]
            · simp only [List.map_cons, if_neg hq, if_neg hq2]
              exact ⟨al.1, ih2.al⟩
    exact gen kvs ws h.nm h.al
  | false =>
    rw [if_neg Bool.false_ne_true, if_neg Bool.false_ne_true]
    refine ⟨by simp [h.nm], ?_⟩
    rw [List.map_append, List.map_append]
    exact h.al.app (All2.one p)
theorem putD_len (kvs : FR) (z : Str) (R : Rep) : (putD kvs z R).length ≤ kvs.length + 1 := by
  unfold putD; split <;> simp
theorem putD_new {kvs : FR} {z : Str} {R : Rep} (h : kvs.lookup z = none) : putD kvs z R = kvs ++ [(z, R)] := by
  unfold putD; rw [h]; rfl
/-- d[z] = R -/
theorem tg_putD {to ti : TE} {kc : KC} (h : Ev E0 to Γ M (fun R1 M1 => ∃ d, R1 = iRef d ∧ Ev E0 ti Γ M1 (fun R2 M2 => ∃ (z : Str) (i : Nat) (kvs : FR), R2 = aStr z ∧ M2[i]? = some (d, mDK kvs) ∧ kvs.length < 1000000 ∧ kc Γ (M2.set i (d, mDK (putD kvs z R)))) X0) X0) : Tg (gSub to ti rSetD) R Γ M vs kc := fun v σ S H Q I p o => by
  refine h σ S H _ I (fun x S1 H1 R1 M1 ⟨d, e, q⟩ st p1 => ?_) (fun _ _ _ _ _ _ z => z.elim)
  subst e
  cases p1
  refine q σ S1 H1 _ (I.step st) (fun y S2 H2 R2 M2 ⟨z, i, kvs, e, hm, hl, q2⟩ st2 p2 => ?_) (fun _ _ _ _ _ _ z => z.elim)
  subst e
  cases p2
  have s := st.trans st2
  obtain ⟨_, o', ho, ws, rfl, ok⟩ := s.m.at_ _ _ (at_mem hm)
  have w := Stp.wrAt (P' := mDK (putD kvs z R)) (o := .dK (putK ws (.inr z) v)) hm s.e s.m ⟨_, rfl, ok.put (R.m s.s p)⟩
  exact ⟨d, _, rfl, DPut.k (k := .inr z) ho (by rw [ok.len]; exact sz_lt (by omega)), o σ _ _ Γ _ q2 (s.trans w) (I.step (s.trans w)) fun _ => rfl⟩
/-- the pairs of a display -/
def Ed (E : XK) (trs : List (TE × TE)) (Γ : Ct) (M : SH) (Kd : FR → SH → Prop) (X : KX) : Prop := ∀ σ S H Q, Nv S H σ Γ M → (∀ (ws : List (Key × V)) S2 H2 kvs M2, Kd kvs M2 → Stp S H S2 H2 M M2 → DkOk S2 kvs ws → Q (ws.map fun kv => (L2.kV kv.1, kv.2)) H2) → OutX S H M X E → tPairs trs σ H Q
theorem ed_nil {Kd : FR → SH → Prop} (h : Kd [] M) : Ed E [] Γ M Kd X := fun σ S H Q I o ox => o [] S H [] M h (Stp.refl I.ex I.m) ⟨rfl, True.intro⟩
theorem ed_cons {Kd : FR → SH → Prop} {r : List (TE × TE)} (h : Ev E ta Γ M (fun R M1 => ∃ z, R = aStr z ∧ Ev E tb Γ M1 (fun R2 M2 => Ed E r Γ M2 (fun kvs M3 => Kd ((z, R2) :: kvs) M3) X) X) X) : Ed E ((ta, tb) :: r) Γ M Kd X := fun σ S H Q I o ox =>
  h σ S H _ I (fun v S1 H1 R M1 ⟨z, e, q⟩ st p => by
    subst e
    cases p
    exact q σ S1 H1 _ (I.step st) (fun w S2 H2 R2 M2 q2 st2 p2 => q2 σ S2 H2 _ ((I.step st).step st2) (fun ws S3 H3 kvs M3 q3 st3 ok =>
      o ((.inr z, w) :: ws) S3 H3 _ M3 q3 ((st.trans st2).trans st3) ⟨by simp [ok.nm], R2.m st3.s p2, ok.al⟩) ((ox.step st).step st2)) (ox.step st)) ox
theorem merge_new : ∀ (ws acc : List (Key × V)), ((acc ++ ws).map (·.1)).Nodup → ws.foldl (fun a kv => putK a kv.1 kv.2) acc = acc ++ ws
  | [], acc, _ => by simp
  | p :: ws, acc, h => by
    have nin : ¬ p.1 ∈ acc.map (·.1) := fun hm => by
      rw [List.map_append, List.nodup_append] at h
      exact h.2.2 _ hm _ (by simp) rfl
    have e : putK acc p.1 p.2 = acc ++ [p] := by
      unfold putK
      rw [if_neg]
      intro ha
      obtain ⟨q, hq, e⟩ := List.any_eq_true.mp ha
      exact nin (List.mem_map.mpr ⟨q, hq, of_decide_eq_true e⟩)
    rw [List.foldl_cons, e, merge_new ws (acc ++ [p]) (by simpa using h)]
    simp
theorem ev_disp {trs : List (TE × TE)} (h : ∀ p, Ed E trs Γ (M ++ [(p, mDK [])]) (fun kvs M2 => ∃ i, M2[i]? = some (p, mDK []) ∧ kvs.length ≤ 15 ∧ (kvs.map (·.1)).Nodup ∧ k (iRef p) (M2.set i (p, mDK kvs))) X) : Ev E (tDisp trs) Γ M k X := fun σ S H Q I o ox p hp => by
  have s0 := Stp.newM (P := mDK []) (o := .dK []) I.ex I.m hp ⟨[], rfl, rfl, True.intro⟩
  refine h p σ S _ _ (I.step s0) (fun ws S2 H2 kvs M2 ⟨i, hm, hl, nd, q⟩ st ok => ?_) (ox.step s0)
  have s := s0.trans st
  obtain ⟨_, ob, ho, us, rfl, ok0⟩ := s.m.at_ _ _ (at_mem hm)
  have e0 : us = [] := by
    have := ok0.len
    exact List.length_eq_zero_iff.mp this
  subst e0
  refine ⟨ho, ws, rfl, by rw [ok.len]; exact hl, ?_⟩
  have en : mergeK [] ws = ws := merge_new ws [] (by
    have e1 : ws.map (·.1) = (kvs.map (·.1)).map (Sum.inr : Str → Key) := by rw [ok.nm, List.map_map]; rfl
    rw [List.nil_append, e1]
    have pw : ∀ l : List Str, l.Nodup → (l.map (Sum.inr : Str → Key)).Nodup := by
      intro l
      induction l with
      | nil => intro _; simp
      | cons a l ih =>
        intro h
        rw [List.nodup_cons] at h
        rw [List.map_cons, List.nodup_cons]
        refine ⟨fun hm => ?_, ih h.2⟩
        obtain ⟨b, hb, e⟩ := List.mem_map.mp hm
        exact h.1 (Sum.inr.inj e ▸ hb)
    exact pw _ nd)
  rw [en]
  have w := Stp.wrAt (P' := mDK kvs) (o := .dK ws) hm s.e s.m ⟨ws, rfl, ok⟩
  exact o (.ref p) S2 _ (iRef p) _ q (s.trans w) rfl
theorem st_tFzL {i j : Nat} {d : Addr} {kvs : FR} (hd : M[i]? = some (d, mDK kvs)) (hj : Γ[j]? = some (some (iRef d))) (h : St E t (Γ.set j (some (iDF kvs))) (M.eraseIdx i) D) : St E (tFz t) Γ M D := fun σ S H D0 I o => by
  obtain ⟨_, ob, ho, vs, rfl, ok⟩ := I.m.at_ d (mDK kvs) (at_mem hd)
  refine ⟨d, .dK vs, ho, True.intro, fun od => ?_⟩
  have f1 := Stp.frzAt (od := od) (u := .dK vs) hd I.ex I.m
  have I2 := I.step f1
  have sl := I.sl j (iRef d) hj
  refine h σ _ _ D0 ?_ (o.step f1)
  obtain ⟨v, hv, pv⟩ := sl
  cases pv
  have := I2.set j (R := iDF kvs) (v := .ref d) ⟨d, od, vs, rfl, upd_same, ok.mono f1.s⟩
  rwa [show σ.set j (some (.ref d)) = σ from by
    refine List.ext_getElem? fun n => ?_
    by_cases hn : j = n
    · subst hn
      obtain ⟨hlt, _⟩ := List.getElem?_eq_some_iff.mp hv
      rw [List.getElem?_set_self hlt, hv]
    · rw [List.getElem?_set_ne hn]] at this
/-! ### lists: stores, del -/
theorem ixN_of {n j : Nat} (hj : j < n) : ixN n (j : Int) = some j := by
  unfold ixN
  rw [if_pos (by omega), if_pos (by omega)]
  rfl
theorem All2.erase {S : Hp} : ∀ (n : Nat) {rs : List Rep} {xs : List V}, All2 S rs xs → All2 S (rs.eraseIdx n) (xs.eraseIdx n)
  | _, [], [], _ => True.intro
  | _, [], _ :: _, h => h.elim
  | _, _ :: _, [], h => h.elim
  | 0, _ :: _, _ :: _, h => h.2
  | n + 1, _ :: _, _ :: _, h => ⟨h.1, All2.erase n h.2⟩
theorem tg_setL {to ti : TE} {kc : KC} (h : Ev E0 to Γ M (fun R1 M1 => ∃ a, R1 = iRef a ∧ Ev E0 ti Γ M1 (fun R2 M2 => ∃ (x : Int) (n i : Nat) (rs : List Rep), R2 = iInt x ∧ x = n ∧ M2[i]? = some (a, mLst rs) ∧ n < rs.length ∧ kc Γ (M2.set i (a, mLst (rs.set n R)))) X0) X0) : Tg (gSub to ti rSetL) R Γ M vs kc := fun v σ S H Q I p o => by
  refine h σ S H _ I (fun x S1 H1 R1 M1 ⟨a, e, q⟩ st p1 => ?_) (fun _ _ _ _ _ _ z => z.elim)
  subst e
  cases p1
  refine q σ S1 H1 _ (I.step st) (fun y S2 H2 R2 M2 ⟨x, n, i, rs, e, ex, hm, hl, q2⟩ st2 p2 => ?_) (fun _ _ _ _ _ _ z => z.elim)
  subst e
  subst ex
  cases p2
  have s := st.trans st2
  obtain ⟨_, o', ho, xs, rfl, al⟩ := s.m.at_ _ _ (at_mem hm)
  have w := Stp.wrAt (P' := mLst (rs.set n R)) (o := .lst (xs.set n v)) hm s.e s.m ⟨_, rfl, All2.set (R.m s.s p) n al⟩
  exact ⟨a, xs, n, n, rfl, rfl, ho, ixN_of (by rw [al.len]; exact hl), o σ _ _ Γ _ q2 (s.trans w) (I.step (s.trans w)) fun _ => rfl⟩
theorem st_delL {to ti : TE} (h : Ev E to Γ M (fun R1 M1 => ∃ a, R1 = iRef a ∧ Ev E ti Γ M1 (fun R2 M2 => ∃ (x : Int) (n i : Nat) (rs : List Rep), R2 = iInt x ∧ x = n ∧ M2[i]? = some (a, mLst rs) ∧ n < rs.length ∧ n < 1000000 ∧ D.nx Γ (M2.set i (a, mLst (rs.eraseIdx n)))) D.ex) D.ex) : St E (tDelL to ti) Γ M D := fun σ S H D0 I o =>
  h σ S H _ I (fun x S1 H1 R1 M1 ⟨a, e, q⟩ st p1 => by
    subst e
    cases p1
    exact q σ S1 H1 _ (I.step st) (fun y S2 H2 R2 M2 ⟨x, n, i, rs, e, ex, hm, hl, hb, q2⟩ st2 p2 => by
      subst e
      subst ex
      cases p2
      have s := st.trans st2
      obtain ⟨_, o', ho, xs, rfl, al⟩ := s.m.at_ _ _ (at_mem hm)
      have w := Stp.wrAt (P' := mLst (rs.eraseIdx n)) (o := .lst (xs.eraseIdx n)) hm s.e s.m ⟨_, rfl, All2.erase n al⟩
      exact ⟨a, xs, n, n, rfl, rfl, ho, by omega, by omega, (ixN_seq (ixN_of (by rw [al.len]; exact hl))).1, o.nx σ _ _ Γ _ q2 (s.trans w) (I.step (s.trans w))⟩) (o.ex.step st)) o.ex
/-! ### == of lists of texts -/
theorem eqv_strs : ∀ l m : List Str, PyData.eqvAll (l.map PyData.str) (m.map PyData.str) = decide (l = m)
  | [], [] => by simp [PyData.eqvAll]
  | [], _ :: _ => by simp [PyData.eqvAll]
  | _ :: _, [] => by simp [PyData.eqvAll]
  | a :: l, b :: m => by
    simp only [List.map_cons, PyData.eqvAll, PyData.eqv, eqv_strs l m]
    rw [Bool.eq_iff_iff]
    simp
theorem o_neStrs {l m : List Str} (hl : ∀ z ∈ l, StrOk z) (hm : ∀ z ∈ m, StrOk z) : O2p (rNeD K) (iLst (l.map aStr)) (iLst (m.map aStr)) M (iBl (!decide (l = m))) := by
  have e : ∀ l : List Str, iLst (l.map aStr) = iDat K (.list (l.map PyData.str)) := fun l => by rw [← dat_list, List.map_map]; rfl
  have h := o_neD (K := K) (M := M) (d := .list (l.map PyData.str)) (e := .list (m.map PyData.str)) (shp_list (shp_strs hl)).ok (shp_list (shp_strs hm)).ok
  rw [show PyData.eqv (.list (l.map PyData.str)) (.list (m.map PyData.str)) = decide (l = m) from by rw [← eqv_strs]; rfl] at h
  rw [e, e]
  exact h
theorem o_eqStrs {l m : List Str} (hl : ∀ z ∈ l, StrOk z) (hm : ∀ z ∈ m, StrOk z) : O2p (rEqD K) (iLst (l.map aStr)) (iLst (m.map aStr)) M (iBl (decide (l = m))) := by
  have e : ∀ l : List Str, iLst (l.map aStr) = iDat K (.list (l.map PyData.str)) := fun l => by rw [← dat_list, List.map_map]; rfl
  have h := o_eqD (K := K) (M := M) (d := .list (l.map PyData.str)) (e := .list (m.map PyData.str)) (shp_list (shp_strs hl)).ok (shp_list (shp_strs hm)).ok
  rw [show PyData.eqv (.list (l.map PyData.str)) (.list (m.map PyData.str)) = decide (l = m) from by rw [← eqv_strs]; rfl] at h
  rw [e, e]
  exact h
/-! ### a comprehension whose list is to be changed -/
theorem ev_lcX {g : TG} (hv : vs ≠ []) (h : Ti E wi Γ M (fun n rs M1 => n ≤ 1000000 ∧ ∃ J : Nat → List Rep → SH → Prop, J 0 [] M1 ∧ (∀ i r acc M2, i < n → rs i r → acc.length ≤ i → J i acc M2 →
      Tg g r (wipeC Γ vs) M2 vs fun Γ3 M3 => Et E tt Γ3 M3 (fun b M4 => if b = true then Ev E te Γ3 M4 (fun R M5 => J (i + 1) (acc ++ [R]) M5) X0 else J (i + 1) acc M4) X0) ∧ ∀ acc M2, acc.length ≤ n → J n acc M2 → ∀ a, k (iRef a) (M2 ++ [(a, mLst acc)])) X) : Ev E (tLc wi g tt te vs) Γ M k X := fun σ S H Q I o ox =>
  h σ S H _ I (fun Jt S1 H1 n rs M1 ⟨hn, V, v0, vs', vd⟩ st w Dl hD => by
    obtain ⟨G, Y, wk, hG, hY⟩ := w
    have s0 := st.trans (Stp.newM (o := .lst []) (P := mLst []) st.e st.m hD ⟨[], rfl, True.intro⟩)
    refine lc_it wk (fun i H' => ∃ Sx Mx acc, Same Sx H' ∧ Stp S H Sx H' M (Mx ++ [(Dl, mLst acc)]) ∧ Same S1 Sx ∧ acc.length ≤ i ∧ V i acc Mx) ⟨S1, M1, [], s0.e, s0, Same.refl _, Nat.zero_le _, v0⟩ (fun i H' _ ⟨Sx, Mx, acc, ex, _, s1, _⟩ => hG Sx H' s1 ex) ?_ ?_
    · rintro i x H' H'' hi ⟨Sx, Mx, acc, ex, sx, s1, la, vx⟩ y
      obtain ⟨S', r, s', hr, pr⟩ := hY i H' x H'' hi y Sx (Mx ++ [(Dl, mLst acc)]) s1 ex sx.m
      have I' : Nv S' H'' (L2.wipe σ vs) (wipeC Γ vs) Mx := by
        have := (I.step (sx.trans s')).wipe vs
        exact ⟨this.ex, this.len, this.sl, this.m.left⟩
      have m' : MOk S' H'' (Mx ++ [(Dl, mLst acc)]) := s'.m
      refine vs' i r acc Mx hi hr la vx x (L2.wipe σ vs) S' H'' _ I' pr fun σ2 S2 H2 Γ2 M2 q st2 I2 w2 => ⟨?_, ?_⟩
      · rw [w2 hv]
        have un : ∀ u ∈ vs, (L2.wipe σ vs).set u none = L2.wipe σ vs := by
          intro u hu
          have gen : ∀ ws : List Nat, u ∈ ws → (L2.wipe σ ws).set u none = L2.wipe σ ws := by
            intro ws
            induction ws with
            | nil => intro z; cases z
            | cons w ws ih =>
              intro z
              show ((L2.wipe σ ws).set w none).set u none = (L2.wipe σ ws).set w none
              by_cases e : w = u
              · subst e; rw [List.set_set]
              · rcases List.mem_cons.mp z with z | z
                · exact absurd z.symm e
                · rw [List.set_comm _ _ e, ih z]
          exact gen vs hu
        have aux : ∀ us : List Nat, (∀ u ∈ us, u ∈ vs) → L2.wipe (L2.wipe σ vs) us = L2.wipe σ vs := by
          intro us
          induction us with
          | nil => intro _; rfl
          | cons u us ih =>
            intro hu
            show (L2.wipe (L2.wipe σ vs) us).set u none = L2.wipe σ vs
            rw [ih fun z hz => hu z (List.mem_cons_of_mem _ hz)]
            exact un u (hu u (List.mem_cons_self ..))
        exact aux vs fun _ h => h
      · have sf2 := st2.frame m'
        refine q σ2 S2 H2 _ I2 (fun b S3 H3 M3 q3 st3 => ?_) (fun _ _ _ _ _ _ z => z.elim)
        have sf3 := st3.frame sf2.m
        cases b with
        | true =>
          rw [if_pos rfl] at q3 ⊢
          refine q3 σ2 S3 H3 _ (I2.step st3) (fun z S4 H4 R4 M4 q4 st4 p4 => ?_) (fun _ _ _ _ _ _ z => z.elim)
          have sf4 := st4.frame sf3.m
          have tot := (((sx.trans s').trans sf2).trans sf3).trans sf4
          obtain ⟨_, ob, ho, xs, rfl, pa⟩ := tot.m.at_ Dl (mLst acc) (List.mem_append_right _ (List.mem_singleton.mpr rfl))
          have wr := Stp.wrM (A := M4) (B := []) (a := Dl) (P := mLst acc) (P' := mLst (acc ++ [R4])) (o := .lst (xs ++ [z])) tot.e tot.m ⟨_, rfl, pa.app (All2.one p4)⟩
          refine ⟨xs, ho, by rw [pa.len]; exact sz_lt (by omega), S4, M4, acc ++ [R4], wr.e, tot.trans wr, ?_, by simp; omega, q4⟩
          exact s1.trans (s'.s.trans (sf2.s.trans (sf3.s.trans sf4.s)))
        | false =>
          rw [if_neg Bool.false_ne_true] at q3 ⊢
          exact ⟨S3, M3, acc, sf3.e, ((sx.trans s').trans sf2).trans sf3, s1.trans (s'.s.trans (sf2.s.trans sf3.s)), by omega, q3⟩
    · rintro H' ⟨Sx, Mx, acc, ex, sx, s1, la, vx⟩
      exact o (.ref Dl) _ H' (iRef Dl) _ (vd acc Mx la vx Dl) sx rfl) ox
end
end L3

namespace L3
open PySem PySem.Spec L2 RZ PyProof.Rows
theorem hu0_of {A : Around} {k : Nat} (hr : Room k A) : A.units < cLine := by have := hr.un; omega
section
variable {E : XK} {K : PySem.W.Frag} {Γ : Ct} {M : SH} {k : KR} {X : KX} {R R1 R2 : Rep} {te ta tb : TE}
theorem hl_m {rs : List Rep} {a : Addr} {i : Nat} (h : M[i]? = some (a, mLst rs)) : HasL K M (iRef a) rs := .inr (.inr (.inr ⟨a, i, rfl, h⟩))
theorem k_setL {a : Addr} {n i : Nat} {x : Int} {rs : List Rep} {P : Nat → Nat → List Rep → Prop} (e : x = n) (hm : M[i]? = some (a, mLst rs)) (hn : n < rs.length) (h : P n i rs) : ∃ (y : Int) (n i : Nat) (rs : List Rep), iInt x = iInt y ∧ y = n ∧ M[i]? = some (a, mLst rs) ∧ n < rs.length ∧ P n i rs := ⟨x, n, i, rs, rfl, e, hm, hn, h⟩
theorem k_delL {a : Addr} {n i : Nat} {x : Int} {rs : List Rep} {P : Nat → Nat → List Rep → Prop} (e : x = n) (hm : M[i]? = some (a, mLst rs)) (hn : n < rs.length) (hb : n < 1000000) (h : P n i rs) : ∃ (y : Int) (n i : Nat) (rs : List Rep), iInt x = iInt y ∧ y = n ∧ M[i]? = some (a, mLst rs) ∧ n < rs.length ∧ n < 1000000 ∧ P n i rs := ⟨x, n, i, rs, rfl, e, hm, hn, hb, h⟩
theorem k_putD {a : Addr} {i : Nat} {z : Str} {kvs : FR} {P : Str → Nat → FR → Prop} (hm : M[i]? = some (a, mDK kvs)) (hl : kvs.length < 1000000) (h : P z i kvs) : ∃ (z' : Str) (i : Nat) (kvs : FR), aStr z = aStr z' ∧ M[i]? = some (a, mDK kvs) ∧ kvs.length < 1000000 ∧ P z' i kvs := ⟨z, i, kvs, rfl, hm, hl, h⟩
theorem o_ixMN {α : Type} {l : List α} {g : α → Rep} {x : Int} {a : Addr} (i n : Nat) (hm : M[i]? = some (a, mLst (l.map g))) (e : x = n) (h : n < l.length) : O2p (rIxL K) (iRef a) (iInt x) M (g l[n]) := by
  subst e
  exact o_ixM (at_mem hm) (atI_map (atI_nat (by simp [h])))
theorem o_ixM1 {rs : List Rep} {x : Int} {a : Addr} (i : Nat) (hm : M[i]? = some (a, mLst rs)) (h : atI rs x = some R) : O2p (rIxL K) (iRef a) (iInt x) M R := o_ixM (at_mem hm) h
theorem k_app3 {R : Rep} {a : Addr} {j : Nat} {rs : List Rep} {P : Rep → Nat → List Rep → Prop} (hm : M[j]? = some (a, mLst rs)) (hl : rs.length < 1000000) (h : P R j rs) : ∃ (R' : Rep) (j : Nat) (rs : List Rep), [R] = [R'] ∧ M[j]? = some (a, mLst rs) ∧ rs.length < 1000000 ∧ P R' j rs := ⟨R, j, rs, rfl, hm, hl, h⟩
theorem ev_dninD {ty td : TE} (h : Ev E ty Γ M (fun R1 M1 => ∃ z, R1 = aStr z ∧ Ev E td Γ M1 (fun R M2 => ∃ kvs, HasD M2 R kvs ∧ k (iBl (!(kvs.lookup z).isSome)) M2) X) X) : Ev E (tDNotIn ty td) Γ M k X := fun σ S H Q I o ox =>
  h σ S H _ I (fun v S1 H1 R1 M1 ⟨z, e, q⟩ st p => by
    subst e
    cases p
    exact q σ S1 H1 _ (I.step st) (fun y S2 H2 R M2 ⟨kvs, hd, q2⟩ st2 p2 => by
      obtain ⟨a, vs, rfl, hr, ok⟩ := hd.get st2.e st2.m p2
      refine ⟨a, valV vs (.inr z), rfl, .inl ⟨vs, .inr z, hr, rfl, rfl⟩, ?_⟩
      have e : (valV vs (.inr z)).isSome = (kvs.lookup z).isSome := by
        cases hl : kvs.lookup z with
        | none => rw [(ok.look z).1 hl]; rfl
        | some R => obtain ⟨w, hw, _⟩ := (ok.look z).2 R hl; rw [hw]; rfl
      rw [e]
      exact (o.step st) _ S2 H2 _ M2 q2 st2 rfl) (ox.step st)) ox
theorem HasO.app {C : Addr} {fs : FR} (h : HasO M R C fs) (N : SH) : HasO (M ++ N) R C fs := by
  rcases h with h | ⟨a, i, h1, h2⟩
  · exact .inl h
  · exact .inr ⟨a, i, h1, by rw [List.getElem?_append_left (List.getElem?_eq_some_iff.mp h2).1]; exact h2⟩
/-- a list that is to be changed is put under a name -/
def tAsgLM (te : TE) (g : TG) : TS := tAsg te g
theorem ps_lm {X : Cx} {st : Stmt} {g : TG} (h : PS X st (tAsg te g)) : PS X st (tAsgLM te g) := h
theorem st_asgLM {tr : TA} {j : Nat} {D : EndT} (h : Ea E tr Γ M (fun Rs M1 => Rs.length ≤ 1000000 ∧ ∀ a, D.nx (Γ.set j (some (iRef a))) (M1 ++ [(a, mLst Rs)])) D.ex) : St E (tAsgLM (tLst tr) (gName j)) Γ M D := st_asg (ev_lstM h)
theorem st_join {α : Type} {t u : TS} {D : EndT} {P : α → Prop} {G : α → Ct} {N : α → SH} (h1 : St E t Γ M { D with nx := LJ P G N }) (h2 : ∀ a, P a → St E u (G a) (N a) D) : St E (tSeq t u) Γ M D :=
  st_seq fun σ S H D0 I o => h1 σ S H D0 I ⟨fun σ2 S2 H2 Γ2 M2 ⟨a, ha, hw, hm⟩ st I2 => by
    subst hm
    exact o.nx σ2 S2 H2 Γ2 _ (st_wk hw (h2 a ha)) st I2, o.rt, o.bk, o.ct, o.ex⟩
theorem look_is (y : Str) : ∀ kvs : FR, (kvs.lookup y).isSome = decide (y ∈ kvs.map (·.1))
  | [] => by simp
  | (g, Q) :: kvs => by
    rw [List.lookup_cons]
    by_cases h : y = g
    · subst h; simp
    · rw [show (y == g) = false from beq_eq_false_iff_ne.mpr h, look_is y kvs]
      simp [h]
theorem putD_is (kvs : FR) (z : Str) (R : Rep) (y : Str) : ((putD kvs z R).lookup y).isSome = ((kvs.lookup y).isSome || decide (y = z)) := by
  rw [look_is, look_is]
  unfold putD
  rw [look_is]
  by_cases h : z ∈ kvs.map (·.1)
  · rw [if_pos (decide_eq_true h), List.map_map, show ((fun p : Str × Rep => p.1) ∘ fun p : Str × Rep => if p.1 = z then (p.1, R) else p) = (fun p : Str × Rep => p.1) from funext fun p => by show (if p.1 = z then (p.1, R) else p).1 = p.1; split <;> rfl]
    rw [Bool.eq_iff_iff]
    simp only [Bool.or_eq_true, decide_eq_true_eq]
    exact ⟨.inl, fun w => w.elim id fun e => e ▸ h⟩
  · rw [if_neg (fun w => h (of_decide_eq_true w)), List.map_append]
    rw [Bool.eq_iff_iff]
    simp only [Bool.or_eq_true, decide_eq_true_eq, List.mem_append, List.map_cons, List.map_nil, List.mem_singleton]
theorem c_min2 {i j : Int} : Olp (fun xs H Q => ∃ i j, xs = [.int i, .int j] ∧ Q (.int (if j < i then j else i)) H) [iInt i, iInt j] M (iInt (min i j)) := ol_val fun xs S H e _ h => by
  obtain ⟨v, w, rfl, h1, h2⟩ := all2_2 h
  cases h1; cases h2
  refine ⟨_, rfl, fun Q q => ⟨i, j, rfl, ?_⟩⟩
  rwa [show (if j < i then j else i) = min i j by omega]
theorem at_last {x : Addr × MRep} : (M ++ [x])[M.length]? = some x := by simp
theorem set_last {x y : Addr × MRep} : (M ++ [x]).set M.length y = M ++ [y] := by
  rw [List.set_append_right _ _ (Nat.le_refl _), Nat.sub_self]
  rfl
theorem erase_last {x : Addr × MRep} : (M ++ [x]).eraseIdx M.length = M := by
  rw [List.eraseIdx_append_of_length_le (Nat.le_refl _), Nat.sub_self]
  simp
/-- what was made, and is not told, is forgotten -/
theorem ev_fgt (h : Ev E te Γ M (fun R M1 => ∃ (i : Nat) (a : Addr) (P : MRep), M1[i]? = some (a, P) ∧ k R (M1.eraseIdx i)) X) : Ev E te Γ M k X := fun σ S H Q I o ox => h σ S H Q I (fun v S2 H2 R M2 ⟨i, a, P, hm, q⟩ st p => by
  obtain ⟨_, ob, ho, _⟩ := st.m.at_ a P (at_mem hm)
  have fz := Stp.fzAt hm st.e st.m ho
  exact o v _ H2 R _ q (st.trans fz) (R.m fz.s p)) ox
/-- over the keys of a dict -/
theorem ep_lcKeys {α : Type} {l : List α} {f : α → Str} {g e' : α → Rep} {td : TE} {vs : List Nat} {j : Nat} (hi : Ep E td Γ M (iDF (l.map fun x => (f x, g x)))) (hn : l.length ≤ 1000000) (hj : j ∈ vs)
    (he : ∀ x ∈ l, Ep E te ((wipeC Γ vs).set j (some (aStr (f x)))) M (e' x)) : Ep E (tLc (iKeys td) (gName j) tYes te vs) Γ M (iLst (l.map e')) := fun k X q =>
  ev_lc (fun z => by rw [z] at hj; cases hj) (tip_keysF hi _ _ ⟨by simpa using hn, fun i acc M2 => acc = (l.take i).map e' ∧ M2 = M, ⟨rfl, rfl⟩, fun i r acc M2 hlt hr _ ⟨e1, e2⟩ => by
    subst e1; subst e2
    obtain ⟨p, hp, rfl⟩ := hr
    have hlt' : i < l.length := by simpa using hlt
    rw [List.getElem?_map, List.getElem?_eq_getElem hlt'] at hp
    cases hp
    refine tg_name (et_yes ?_) (.inr hj)
    refine (if_pos rfl).mpr (he _ (List.getElem_mem hlt') _ _ ⟨?_, rfl⟩)
    rw [List.take_succ, List.getElem?_eq_getElem hlt', List.map_append]
    rfl, fun acc M2 _ ⟨e1, e2⟩ => by
    subst e1; subst e2
    rw [List.length_map, List.take_length]
    exact q⟩)
/-- over a range, what is made may be drawn -/
theorem ev_lcRng {α : Type} {e : α → Rep} {P : Nat → α → Prop} {m : Nat} {tr : TA} {vs : List Nat} {j : Nat} (hm : Eap E tr Γ M [iInt m]) (hn : m ≤ 1000000) (hj : j ∈ vs)
    (he : ∀ i, i < m → ∀ k' : KR, (∀ x, P i x → k' (e x) M) → Ev E te ((wipeC Γ vs).set j (some (iInt (i : Nat)))) M k' X0)
    (q : ∀ l : List α, l.length = m → (∀ i x, l[i]? = some x → P i x) → k (iLst (l.map e)) M) : Ev E (tLc (iRng1 tr) (gName j) tYes te vs) Γ M k X :=
  ev_lc (fun z => by rw [z] at hj; cases hj) (ti_rng1 (hm _ _ ⟨m, rfl, hn, hn, fun i acc M2 => ∃ l : List α, acc = l.map e ∧ l.length = i ∧ (∀ i x, l[i]? = some x → P i x) ∧ M2 = M, ⟨[], rfl, rfl, (fun i x h => by simp at h), rfl⟩, fun i r acc M2 hlt hr _ ⟨l, e1, e2, e3, e4⟩ => by
    subst e1; subst e4; subst e2; subst hr
    refine tg_name (et_yes ?_) (.inr hj)
    refine (if_pos rfl).mpr (he _ hlt _ fun x hx => ⟨l ++ [x], by simp, by simp, fun i y hy => ?_, rfl⟩)
    rcases Nat.lt_or_ge i l.length with h | h
    · rw [List.getElem?_append_left h] at hy
      exact e3 i y hy
    · rw [List.getElem?_append_right h] at hy
      obtain ⟨h2, h3⟩ := List.getElem?_eq_some_iff.mp hy
      have : i = l.length := by simp at h2; omega
      subst this
      simp at h3
      subst h3
      exact hx, fun acc M2 _ ⟨l, e1, e2, e3, e4⟩ => by
    subst e1; subst e4
    exact q l e2 e3⟩))
/-- a promise of what is told, to be met at a def's end: the words of the memory may be put otherwise -/
theorem k_cast {M' : SH} (e : M = M') (h : k R M') : k R M := by rw [e]; exact h
end
end L3

/-! ### l[::step], the step one or minus one -/
namespace L3
open PySem PySem.Spec L2 RZ PyProof.Rows
def tStepL (K : PySem.W.Frag) (te : TE) (ts : TO) : TE := fun σ H Q => te σ H fun x H1 => ts σ H1 fun o H2 => ∃ a xs, x = .ref a ∧ SqL K H2 a xs ∧
  ((o = some 1 ∧ ∀ p, H2 p = none → Q (.ref p) (upd H2 p (.lst xs))) ∨ (o = some (-1) ∧ ∀ p, H2 p = none → Q (.ref p) (upd H2 p (.lst xs.reverse))))
theorem pe_stepL {X : Cx} {e st : Expr} {te : TE} {ts : TO} {p3 pos : Pos} (he : PE X e te) (hst : PO X (some st) ts) : PE X (.Subscript e (.Slice none none (some st) p3) pos) (tStepL X.K te ts) := by
  refine ⟨fun pins s σ H Q I h => ?_⟩
  refine Subscript_ (thn (he.run pins s σ H _ I h) fun v s1 ⟨x, H1, I1, r1, q1⟩ => ?_)
  refine wpAny_Slice (thn (po_none.run pins s1 σ H1 (fun o H2 => o = none ∧ H2 = H1) I1 ⟨rfl, rfl⟩) fun vl s2 ⟨l, H2, I2, pl, el, e2⟩ => ?_)
  subst el e2
  refine thn (po_none.run pins s2 σ H2 (fun o H3 => o = none ∧ H3 = H2) I2 ⟨rfl, rfl⟩) fun vu s3 ⟨u, H3, I3, pu, eu, e3⟩ => ?_
  subst eu e3
  refine thn (hst.run pins s3 σ H3 _ I3 q1) fun vs s4 ⟨o, H4, I4, ps, a, xs, ex, hx, q⟩ => ?_
  subst ex
  cases r1
  have I5 : Inv X pins σ H4 { s4 with heap := s4.heap.push { cls := .type "slice", data := .fields #[vl, vu, vs] } } := I4.kept (t' := s4.toks) fun b ob q => Heap.get?_push_of_some _ q
  obtain ⟨its, r, ht, hz⟩ := I5.list hx
  have hlen := r.length
  have h0 : o ≠ some 0 := by rcases q with ⟨q, _⟩ | ⟨q, _⟩ <;> rw [q] <;> decide
  show wpAny (model X.prog X.w) X.A (subscriptTail e (.Slice none none (some st) p3) (.ref a) (.ref s4.heap.objs.size)) (EP X pins σ Q) X.xe { s4 with heap := s4.heap.push { cls := .type "slice", data := .fields #[vl, vu, vs] } }
  refine tail_any (ops := [.ref a, .ref s4.heap.objs.size]) ht.isList.typeIs (PySem.slot_list_getitem.lookup) ?_ (by with_unfolding_all rfl)
  refine wpAny_getItem_list_slice ht.isList (Heap.IsSliceOf.new _ vl vu vs) pl pu ps h0 ?_ (by rw [List.size_toArray]; omega)
  rcases q with ⟨rfl, q⟩ | ⟨rfl, q⟩
  · have e1 : slicePick its.toArray none none (some 1) = its.toArray := slicePick_all its.toArray
    rw [e1]
    refine ⟨.ref _, _, I5.laid (t' := s4.toks) (o := .lst xs) (fun b ob q => Heap.get?_push_of_some _ q) (Nat.le_refl _) ?_, rfl, q _ (I5.hok.fresh (Nat.le_refl _))⟩
    exact ⟨hz, _, 0, r, Heap.get?_push_size _ rfl⟩
  · rw [PySem.W.krv_pick]
    refine ⟨.ref _, _, I5.laid (t' := s4.toks) (o := .lst xs.reverse) (fun b ob q => Heap.get?_push_of_some _ q) (Nat.le_refl _) ?_, rfl, q _ (I5.hok.fresh (Nat.le_refl _))⟩
    exact ⟨by rw [List.length_reverse]; exact hz, _, 0, r.reverse, Heap.get?_push_size _ rfl⟩
section
variable {E : XK} {K : PySem.W.Frag} {Γ : Ct} {M : SH} {k : KR} {X : KX} {R R1 R2 : Rep} {te ta tb : TE} {D : EndT} {t u : TS} {tr : TA} {vs : List Nat}
theorem ev_stepL {ts : TO} (h : Ev E te Γ M (fun R1 M1 => ∃ rs : List Rep, R1 = iLst rs ∧ EoC E ts Γ M1 fun o M2 => (o = some 1 ∧ k (iLst rs) M2) ∨ (o = some (-1) ∧ k (iLst rs.reverse) M2)) X) : Ev E (tStepL K te ts) Γ M k X := fun σ S H Q I o ox =>
  h σ S H _ I (fun v S1 H1 R' M1 ⟨rs, e, q⟩ st p => by
    subst e
    obtain ⟨a, xs, rfl, h1, h2⟩ := p
    refine q σ S1 H1 _ (I.step st) fun oo S2 H2 M2 q2 st2 => ?_
    have s := st.trans st2
    have ha : S2 a = some (.lst xs) := st2.s _ _ h1
    refine ⟨a, xs, rfl, SqL.of (s.e _ _ ha), ?_⟩
    rcases q2 with ⟨rfl, q2⟩ | ⟨rfl, q2⟩
    · refine .inl ⟨rfl, fun p hp => ?_⟩
      have w := Stp.newS (o := .lst xs) s.e s.m hp
      exact o (.ref p) _ _ _ _ q2 (s.trans w) ⟨p, xs, rfl, upd_same, (h2.mono st2.s).mono w.s⟩
    · refine .inr ⟨rfl, fun p hp => ?_⟩
      have w := Stp.newS (o := .lst xs.reverse) s.e s.m hp
      exact o (.ref p) _ _ _ _ q2 (s.trans w) ⟨p, xs.reverse, rfl, upd_same, ((h2.mono st2.s).mono w.s).rev⟩) ox
/-! ### l.index(z), t.index(z) of texts -/
def rIdxT (K : PySem.W.Frag) : V → List V → Hp → VK → Prop := fun x xs H Q => ∃ p, ∃ ys : List Str, ∃ z j, x = .ref p ∧ xs = [.str z] ∧ SqT K H p (ys.map V.str) ∧ ys[j]? = some z ∧ (∀ m, m < j → ys[m]? ≠ some z) ∧ Q (.int (j : Nat)) H
theorem mt_indexT {X : Cx} : MtR X "tuple.index" (rIdxT X.K) := mt_tup_index
theorem idx_at [BEq α] [LawfulBEq α] : ∀ {l : List α} {z : α}, z ∈ l → l[l.idxOf z]? = some z ∧ ∀ m, m < l.idxOf z → l[m]? ≠ some z := by
  intro l z h
  have h1 := List.idxOf_lt_length_of_mem h
  refine ⟨?_, fun m hm e => ?_⟩
  · rw [List.getElem?_eq_getElem h1, List.getElem_idxOf h1]
  · have h2 : m < l.length := by omega
    rw [List.getElem?_eq_getElem h2] at e
    have h3 := Option.some.inj e
    have := List.not_of_lt_findIdx (p := (· == z)) (xs := l) (i := m) hm
    rw [h3] at this
    simp at this
theorem ev_idxL (h : Ev E ta Γ M (fun R1 M1 => ∃ l : List Str, R1 = iLst (l.map aStr) ∧ Ea E tr Γ M1 (fun Rs M2 => ∃ z, Rs = [aStr z] ∧ z ∈ l ∧ k (iInt (l.idxOf z : Nat)) M2) X) X) : Ev E (tBM K "list" (rIndex K) ta tr) Γ M k X := fun σ S H Q I o ox =>
  h σ S H _ I (fun x S1 H1 R1 M1 ⟨l, e, q⟩ st p1 => by
    subst e
    refine ⟨ty_lst x S1 H1 st.e st.m p1, q σ S1 H1 _ (I.step st) (fun xs S2 H2 Rs M2 ⟨z, e2, hz, q2⟩ st2 p2 => ?_) (ox.step st)⟩
    subst e2
    obtain ⟨v, rfl, p⟩ := all2_1 p2
    cases p
    obtain ⟨a, ys, rfl, h1, h2⟩ := p1
    have ey : ys = l.map V.str := All2.flat (r := aStr) (g := V.str) (fun _ _ h => h) h2
    subst ey
    obtain ⟨i1, i2⟩ := idx_at hz
    refine ⟨a, _, .str z, l.idxOf z, .str z, rfl, rfl, SqL.of ((st2.s.trans st2.e) _ _ h1), rfl, all_flat_str l, by rw [List.getElem?_map, i1]; rfl, ?_, fun m z' hm e => ?_, (o.step st) _ S2 H2 _ M2 q2 st2 rfl⟩
    · show (z == z) = true
      exact beq_self_eq_true z
    · rw [List.getElem?_map] at e
      cases hl : l[m]? with
      | none => rw [hl] at e; cases e
      | some w =>
        rw [hl] at e
        cases e
        show (w == z) = false
        exact beq_eq_false_iff_ne.mpr fun c => i2 m hm (by rw [hl, c])) ox
/-- a tuple made of a list, of which it is known that it has no attributes of its own -/
def aTupD (rs : List Rep) : Rep := ⟨fun S v => ∃ a ob xs, v = .ref a ∧ S a = some (.frz ob (.tup xs)) ∧ ob.dict = none ∧ All2 S rs xs, fun e ⟨a, ob, xs, h1, h2, h3, h4⟩ => ⟨a, ob, xs, h1, e _ _ h2, h3, h4.mono e⟩⟩
theorem tupD_seq {rs : List Rep} (S : Hp) (v : V) (h : (aTupD rs).p S v) : (aTup K rs).p S v := by
  obtain ⟨a, ob, xs, h1, h2, _, h4⟩ := h
  exact ⟨a, xs, h1, .inl (.inr ⟨ob, h2⟩), h4⟩
def rTupD (K : PySem.W.Frag) : List V → Hp → VK → Prop := fun xs H Q => ∃ p ys, xs = [.ref p] ∧ SqL K H p ys ∧ ∀ (l : Addr) (ob : Obj), H l = none → ob.dict = none → Q (.ref l) (upd H l (.frz ob (.tup ys)))
theorem call_tupD {X : Cx} : CallR X (.type "tuple") (rTupD X.K) := by
  intro pins s σ H xs us Q I r h
  obtain ⟨p, ys, rfl, hq, q⟩ := h
  obtain ⟨u, rfl, rx⟩ := vals1 r
  cases rx
  obtain ⟨its, r', pl, hz⟩ := I.list hq
  have hlen := r'.length
  refine call_tuple_list pl.isList (fun h' kp => ?_) (by simp only [List.size_toArray] <;> omega)
  have I1 : Inv X pins σ H { s with heap := h' } := I.kept (t' := s.toks) kp
  have I2 : Inv X pins σ (upd H h'.objs.size (.frz { cls := .type "tuple", data := .seq its.toArray } (.tup ys))) { s with heap := h'.push { cls := .type "tuple", data := .seq its.toArray } } :=
    I1.laid (t' := s.toks) (fun b o e => Heap.get?_push_of_some _ e) (Nat.le_refl _) (show ObjOk X.prog X.w _ _ _ (.frz _ (.tup ys)) from ⟨Heap.get?_push_size _ rfl, hz, its, r', IsTup.new _ _⟩)
  exact ⟨.ref h'.objs.size, _, I2, rfl, q _ _ (I1.hok.fresh (Nat.le_refl _)) rfl⟩
theorem c_tupD {rs : List Rep} : Olp (rTupD K) [iLst rs] M (aTupD rs) := fun _ q xs S H Q e m h1 o => by
  obtain ⟨v, rfl, a, ys, rfl, q1, q2⟩ := all2_1 h1
  exact ⟨a, ys, rfl, SqL.of (e _ _ q1), fun l ob hl hd => o (.ref l) (upd S l (.frz ob (.tup ys))) _ (aTupD rs) M q (Stp.newS e m hl) ⟨l, ob, ys, rfl, upd_same, hd, q2.mono (Same.newS (Same.refl _) (e.free hl))⟩⟩
theorem o_ixTD {α : Type} {l : List α} {g : α → Rep} {x : Int} (n : Nat) (e : x = n) (h : n < l.length) : O2p (rIxT K) (aTupD (l.map g)) (iInt x) M (g l[n]) := fun k q y z S H Q e1 m p1 p2 o => o_ixNT n e h k q y z S H Q e1 m (tupD_seq S y p1) p2 o
def tBMT (r : V → List V → Hp → VK → Prop) (to : TE) (t : TA) : TE := fun σ H Q => to σ H fun x H1 => (∃ (p : Addr) (ob : Obj) (xs : List V), x = .ref p ∧ H1 p = some (.frz ob (.tup xs)) ∧ ob.dict = none) ∧ t σ H1 fun ys H2 => r x ys H2 Q
theorem pe_bmT {X : Cx} {name : Str} {id : String} {r : V → List V → Hp → VK → Prop} {o e : Expr} {es : List Expr} {to : TE} {t : TA} {apos cpos : Pos} (slot : Slot "tuple" name id) (hty : typeOf (.builtin id) = pure (.type "method_descriptor")) (hm : MtR X id r) (ho : PE X o to) (ha : PA X (e :: es) t)
    (hbase : attributeBase o name X.env (eval o X.env) = eval o X.env := by rfl)
    (hfew : ((backTo cpos (starEach (e :: es) X.env)).all (fun x => !x.1) && (backToKw cpos (keywordEach [] X.env)).all (fun x => x.1.isSome)
      && decide ((e :: es).length + ([] : List Keyword).length + (if ([] : List Keyword).isEmpty then 0 else 1) < 30)) = true := by rfl)
    (hline : (apos.endLine == cpos.line) = true := by rfl) (hs : starEach (e :: es) X.env = (false, eval e X.env) :: starEach es X.env := by rfl) (hplain : (backTo cpos (starEach es X.env)).any (·.1) = false := by rfl) :
    PE X (.Call (.Attribute o name apos) (e :: es) [] cpos) (tBMT r to t) := by
  refine ⟨fun pins s σ H Q I h => ?_⟩
  refine wpAny_Call_method_late hbase hfew hline rfl (thn (ho.run pins s σ H _ I h) fun v s1 ⟨x, H1, I1, r1, ⟨p, ob, xs, ex, hp, hd⟩, q1⟩ => ?_)
  subst ex
  cases r1
  obtain ⟨h0, hob⟩ := (show ObjOk X.prog X.w H1 s1.heap p (.frz ob (.tup xs)) from I1.hok p _ hp)
  obtain ⟨_, its, _, o2, ho2, hc, _⟩ := (show ObjOk X.prog X.w H1 s1.heap p (.tup xs) from hob)
  refine ⟨"tuple", id, PySem.F.plainAttrs_tuple, slot, hty, ⟨o2, ho2, hc⟩, fun a e => by cases e; exact ⟨ob, h0, hd⟩, ?_⟩
  have hA := ha.run cpos pins s1 σ H1 _ I1 q1
  rw [hs] at hA ⊢
  refine Calls.callWith_builtin (by show (false || (backTo cpos (starEach es X.env)).any (·.1)) = false; rw [hplain] <;> rfl) (Calls.evalArgs_plain ?_)
  exact thn hA fun us s2 ⟨vs, H2, I2, r2, q2⟩ => hm pins s2 σ H2 (.ref p) vs (.ref p) us Q I2 rfl r2 q2
theorem ev_idxT (h : Ev E ta Γ M (fun R1 M1 => ∃ l : List Str, R1 = aTupD (l.map aStr) ∧ Ea E tr Γ M1 (fun Rs M2 => ∃ z, Rs = [aStr z] ∧ z ∈ l ∧ k (iInt (l.idxOf z : Nat)) M2) X) X) : Ev E (tBMT (rIdxT K) ta tr) Γ M k X := fun σ S H Q I o ox =>
  h σ S H _ I (fun x S1 H1 R1 M1 ⟨l, e, q⟩ st p1 => by
    subst e
    obtain ⟨a, ob, ys, rfl, h1, hd, h2⟩ := p1
    have ey : ys = l.map V.str := All2.flat (r := aStr) (g := V.str) (fun _ _ h => h) h2
    subst ey
    refine ⟨⟨a, ob, _, rfl, st.e _ _ h1, hd⟩, q σ S1 H1 _ (I.step st) (fun xs S2 H2 Rs M2 ⟨z, e2, hz, q2⟩ st2 p2 => ?_) (ox.step st)⟩
    subst e2
    obtain ⟨v, rfl, p⟩ := all2_1 p2
    cases p
    obtain ⟨i1, i2⟩ := idx_at hz
    exact ⟨a, l, z, l.idxOf z, rfl, rfl, .inl (.inr ⟨ob, (st2.s.trans st2.e) _ _ h1⟩), i1, i2, (o.step st) _ S2 H2 _ M2 q2 st2 rfl⟩) ox
theorem k_strs {f : List Rep → Rep} {l : List Str} {P : List Str → Prop} (h : P l) : ∃ l', f (l.map aStr) = f (l'.map aStr) ∧ P l' := ⟨l, rfl, h⟩
theorem k_lstR {rs : List Rep} {P : List Rep → Prop} (h : P rs) : ∃ rs', iLst rs = iLst rs' ∧ P rs' := ⟨rs, rfl, h⟩
theorem k_zin {z : Str} {l : List Str} {P : Str → Prop} (hz : z ∈ l) (h : P z) : ∃ z', [aStr z] = [aStr z'] ∧ z' ∈ l ∧ P z' := ⟨z, rfl, hz, h⟩
/-! ### dicts whose keys are numbers -/
def DiOk (S : Hp) (f : Int → Option Rep) (ws : List (Key × V)) : Prop := ∀ i R, f i = some R → ∃ v, valV ws (.inl i) = some v ∧ R.p S v
theorem DiOk.mono {S S' : Hp} {f : Int → Option Rep} {ws : List (Key × V)} (h : DiOk S f ws) (e : Same S S') : DiOk S' f ws := fun i R hf => by
  obtain ⟨v, h1, h2⟩ := h i R hf
  exact ⟨v, h1, R.m e h2⟩
def iDI (f : Int → Option Rep) : Rep := ⟨fun S v => ∃ a o ws, v = .ref a ∧ S a = some (.frz o (.dK ws)) ∧ DiOk S f ws, fun e ⟨a, o, ws, h1, h2, h3⟩ => ⟨a, o, ws, h1, e _ _ h2, h3.mono e⟩⟩
def mDI (n : Nat) (f : Int → Option Rep) : MRep := ⟨fun S o => ∃ ws, o = .dK ws ∧ ws.length ≤ n ∧ DiOk S f ws, fun e ⟨ws, h1, h2, h3⟩ => ⟨ws, h1, h2, h3.mono e⟩, fun ⟨ws, h1, _⟩ ys z => by rw [h1] at z; cases z⟩
def HasI (M : SH) (R : Rep) (f : Int → Option Rep) : Prop := R = iDI f ∨ ∃ (a : Addr) (i n : Nat), R = iRef a ∧ M[i]? = some (a, mDI n f)
theorem HasI.get {f : Int → Option Rep} (h : HasI M R f) {S H : Hp} {v : V} (e : Same S H) (m : MOk S H M) (p : R.p S v) : ∃ a ws, v = .ref a ∧ Rd H a (.dK ws) ∧ DiOk S f ws := by
  rcases h with h | ⟨a, i, n, h, hm⟩
  · subst h
    obtain ⟨a, o, vs, h1, h2, h3⟩ := p
    exact ⟨a, vs, h1, .inr ⟨o, e _ _ h2⟩, h3⟩
  · subst h
    cases p
    obtain ⟨_, o, ho, vs, rfl, _, h3⟩ := m.at_ _ _ (at_mem hm)
    exact ⟨a, vs, rfl, .inl ho, h3⟩
theorem hi_f {f : Int → Option Rep} : HasI M (iDI f) f := .inl rfl
theorem hi_m {f : Int → Option Rep} {a : Addr} {i n : Nat} (h : M[i]? = some (a, mDI n f)) : HasI M (iRef a) f := .inr ⟨a, i, n, rfl, h⟩
theorem k_hgI {z : Int} {f : Int → Option Rep} {Rf : Rep} {P : Rep → Prop} (h : HasI M R f) (hl : f z = some Rf) (q : P Rf) : ∃ z' f', iInt z = iInt z' ∧ HasI M R f' ∧ ∃ Rf, f' z' = some Rf ∧ P Rf := ⟨z, f, rfl, h, Rf, hl, q⟩
def tDGetI (td ty : TE) : TE := tDGet td ty
theorem pe_dgetI {X : Cx} {o i : Expr} {td ty : TE} {pos : Pos} (h : PE X (.Subscript o i pos) (tDGet td ty)) : PE X (.Subscript o i pos) (tDGetI td ty) := h
theorem ev_dgetI {ty td : TE} (h : Ev E td Γ M (fun R1 M1 => ∃ Rd : Rep, Rd = R1 ∧ Ev E ty Γ M1 (fun R2 M2 => ∃ z f, R2 = iInt z ∧ HasI M2 R1 f ∧ ∃ R, f z = some R ∧ k R M2) X) X) : Ev E (tDGetI td ty) Γ M k X := fun σ S H Q I o ox =>
  h σ S H _ I (fun x S1 H1 R1 M1 ⟨_, _, q⟩ st p => q σ S1 H1 _ (I.step st) (fun y S2 H2 R2 M2 ⟨z, f, e, hd, R, hl, q2⟩ st2 p2 => by
    subst e
    cases p2
    obtain ⟨a, vs, rfl, hr, ok⟩ := hd.get st2.e st2.m (R1.m st2.s p)
    obtain ⟨w, hw, pw⟩ := ok z R hl
    exact ⟨a, w, rfl, .inl ⟨vs, .inl z, hr, rfl, hw.symm⟩, (o.step st) w S2 H2 R M2 q2 st2 pw⟩) (ox.step st)) ox
def putI (f : Int → Option Rep) (i : Int) (R : Rep) : Int → Option Rep := fun j => if j = i then some R else f j
theorem putK_len (ws : List (Key × V)) (k : Key) (v : V) : (putK ws k v).length ≤ ws.length + 1 := by
  unfold putK; split <;> simp
theorem DiOk.put {S : Hp} {f : Int → Option Rep} {ws : List (Key × V)} (h : DiOk S f ws) {i : Int} {v : V} (p : R.p S v) : DiOk S (putI f i R) (putK ws (.inl i) v) := fun j R' hj => by
  unfold putI at hj
  by_cases e : j = i
  · rw [if_pos e] at hj
    subst e
    cases hj
    exact ⟨v, by rw [valV_put, if_pos rfl], p⟩
  · rw [if_neg e] at hj
    obtain ⟨w, h1, h2⟩ := h j R' hj
    exact ⟨w, by rw [valV_put, if_neg fun c => e (Sum.inl.inj c)]; exact h1, h2⟩
def rSetDI : V → V → V → Hp → (Hp → Prop) → Prop := rSetD
def gSubI (to ti : TE) : TG := gSub to ti rSetD
theorem pg_subI {X : Cx} {tg : Expr} {to ti : TE} (h : PG X tg (gSub to ti rSetD)) : PG X tg (gSubI to ti) := h
theorem tg_putI {to ti : TE} {kc : KC} (h : Ev E0 to Γ M (fun R1 M1 => ∃ d, R1 = iRef d ∧ Ev E0 ti Γ M1 (fun R2 M2 => ∃ (z : Int) (i n : Nat) (f : Int → Option Rep), R2 = iInt z ∧ M2[i]? = some (d, mDI n f) ∧ n < 1000000 ∧ kc Γ (M2.set i (d, mDI (n + 1) (putI f z R)))) X0) X0) : Tg (gSubI to ti) R Γ M vs kc := fun v σ S H Q I p o => by
  refine h σ S H _ I (fun x S1 H1 R1 M1 ⟨d, e, q⟩ st p1 => ?_) (fun _ _ _ _ _ _ z => z.elim)
  subst e
  cases p1
  refine q σ S1 H1 _ (I.step st) (fun y S2 H2 R2 M2 ⟨z, i, n, f, e, hm, hl, q2⟩ st2 p2 => ?_) (fun _ _ _ _ _ _ z => z.elim)
  subst e
  cases p2
  have s := st.trans st2
  obtain ⟨_, o', ho, ws, rfl, hn, ok⟩ := s.m.at_ _ _ (at_mem hm)
  have w := Stp.wrAt (P' := mDI (n + 1) (putI f z R)) (o := .dK (putK ws (.inl z) v)) hm s.e s.m ⟨_, rfl, by have := putK_len ws (.inl z) v; omega, ok.put (R.m s.s p)⟩
  exact ⟨d, _, rfl, DPut.k (k := .inl z) ho (sz_lt (by omega)), o σ _ _ Γ _ q2 (s.trans w) (I.step (s.trans w)) fun _ => rfl⟩
theorem k_putI {a : Addr} {i n : Nat} {z : Int} {f : Int → Option Rep} {P : Int → Nat → Nat → (Int → Option Rep) → Prop} (hm : M[i]? = some (a, mDI n f)) (hl : n < 1000000) (h : P z i n f) : ∃ (z' : Int) (i n : Nat) (f : Int → Option Rep), iInt z = iInt z' ∧ M[i]? = some (a, mDI n f) ∧ n < 1000000 ∧ P z' i n f := ⟨z, i, n, f, rfl, hm, hl, h⟩
/-- {i: v} -/
def tDisp1 (tk tv : TE) : TE := tDisp [(tk, tv)]
theorem pe_disp1 {X : Cx} {e : Expr} {tk tv : TE} (h : PE X e (tDisp [(tk, tv)])) : PE X e (tDisp1 tk tv) := h
theorem ev_disp1 (h : ∀ p, Ev E ta Γ (M ++ [(p, mDI 0 fun _ => none)]) (fun R1 M1 => ∃ z, R1 = iInt z ∧ Ev E tb Γ M1 (fun R2 M2 => ∃ i, M2[i]? = some (p, mDI 0 fun _ => none) ∧ k (iRef p) (M2.set i (p, mDI 1 (putI (fun _ => none) z R2)))) X) X) : Ev E (tDisp1 ta tb) Γ M k X := fun σ S H Q I o ox p hp => by
  have s0 := Stp.newM (P := mDI 0 fun _ => none) (o := .dK []) I.ex I.m hp ⟨[], rfl, Nat.le_refl _, fun i R e => by cases e⟩
  refine h p σ S _ _ (I.step s0) (fun v S1 H1 R1 M1 ⟨z, e, q⟩ st p1 => ?_) (ox.step s0)
  subst e
  cases p1
  refine q σ S1 H1 _ ((I.step s0).step st) (fun w S2 H2 R2 M2 ⟨i, hm, q2⟩ st2 p2 => ?_) ((ox.step s0).step st)
  have s := (s0.trans st).trans st2
  obtain ⟨_, ob, ho, us, rfl, hn, ok0⟩ := s.m.at_ _ _ (at_mem hm)
  have e0 : us = [] := List.length_eq_zero_iff.mp (by omega)
  subst e0
  refine ⟨ho, [(.inl z, w)], rfl, by simp, ?_⟩
  have en : mergeK [] [((.inl z : Key), w)] = putK [] (.inl z) w := rfl
  rw [en]
  have wr := Stp.wrAt (P' := mDI 1 (putI (fun _ => none) z R2)) (o := .dK (putK [] (.inl z) w)) hm s.e s.m ⟨_, rfl, putK_len [] (.inl z) w, DiOk.put (fun i R e => by cases e) p2⟩
  exact o (.ref p) S2 _ (iRef p) _ q2 (s.trans wr) rfl
theorem st_tFzI {i j n : Nat} {d : Addr} {f : Int → Option Rep} (hd : M[i]? = some (d, mDI n f)) (hj : Γ[j]? = some (some (iRef d))) (h : St E t (Γ.set j (some (iDI f))) (M.eraseIdx i) D) : St E (tFz t) Γ M D := fun σ S H D0 I o => by
  obtain ⟨_, ob, ho, vs, rfl, hn, ok⟩ := I.m.at_ d (mDI n f) (at_mem hd)
  refine ⟨d, .dK vs, ho, True.intro, fun od => ?_⟩
  have f1 := Stp.frzAt (od := od) (u := .dK vs) hd I.ex I.m
  have I2 := I.step f1
  have sl := I.sl j (iRef d) hj
  refine h σ _ _ D0 ?_ (o.step f1)
  obtain ⟨v, hv, pv⟩ := sl
  cases pv
  have := I2.set j (R := iDI f) (v := .ref d) ⟨d, od, vs, rfl, upd_same, ok.mono f1.s⟩
  rwa [show σ.set j (some (.ref d)) = σ from by
    refine List.ext_getElem? fun n => ?_
    by_cases hn : j = n
    · subst hn
      obtain ⟨hlt, _⟩ := List.getElem?_eq_some_iff.mp hv
      rw [List.getElem?_set_self hlt, hv]
    · rw [List.getElem?_set_ne hn]] at this
end
end L3
namespace L3
open PySem PySem.Spec L2 RZ PyProof.Rows
section
variable {E : XK} {K : PySem.W.Frag} {Γ : Ct} {M : SH} {te tl : TE} {vs : List Nat}
theorem ep_lcG {α : Type} {l : List α} {e e' : α → Rep} {g : TG} (hi : Ep E tl Γ M (iLst (l.map e))) (hn : l.length ≤ 1000000) (hv : vs ≠ [])
    (h : ∀ x ∈ l, Tg g (e x) (wipeC Γ vs) M vs fun Γ3 M3 => M3 = M ∧ Ep E te Γ3 M (e' x)) : Ep E (tLc (iList K tl) g tYes te vs) Γ M (iLst (l.map e')) := by
  refine Ep.to (ep_lc (n := l.length) hv (by have := tip_list (K := K) hi; rwa [List.length_map] at this) hn (fun _ => true) (fun i => id ((l.map e').getD i iNon)) fun i r hi hr => ?_) (congrArg iLst ?_)
  · rw [List.getElem?_map, List.getElem?_eq_getElem hi] at hr
    cases hr
    have e1 : id ((l.map e').getD i iNon) = e' l[i] := by simp [hi]
    rw [e1]
    have hx := h _ (List.getElem_mem hi)
    intro x σ S H Q I p o
    exact hx x σ S H Q I p fun σ2 S2 H2 Γ2 M3 ⟨e3, h1⟩ st I2 w2 => o σ2 S2 H2 Γ2 M3 ⟨e3, etp_yes, fun _ => h1⟩ st I2 w2
  · have := given_all (l.map e') id iNon
    rw [List.length_map, List.map_id] at this
    exact this
end
end L3

namespace L3
open PySem PySem.Spec L2 RZ PyProof.Rows
section
variable {E : XK} {K : PySem.W.Frag} {Γ : Ct} {M : SH} {k : KR} {X : KX} {R R1 R2 : Rep} {te ta tb tl : TE} {D : EndT} {t u : TS} {tr : TA} {vs : List Nat}
theorem all2_rg (S : Hp) (a : Int) : ∀ (n : Nat), All2 S ((List.range n).map fun i => iInt (a + (i : Nat))) ((List.range n).map fun i => V.int (a + (i : Nat)))
  | 0 => True.intro
  | n + 1 => by
    rw [List.range_succ, List.map_append, List.map_append]
    exact (all2_rg S a n).app (All2.one rfl)
/-- list(range(n)), list(range(a, b)) -/
theorem ev_lRg1 (h : Ev E te Γ M (fun R M1 => ∃ n : Nat, R = iInt n ∧ n ≤ 1000000 ∧ k (iLst ((List.range n).map fun i => iInt ((i : Nat) : Int))) M1) X) : Ev E (tLstRg (tRg1 te)) Γ M k X := fun σ S H Q I o ox =>
  h σ S H _ I (fun v S2 H2 R M2 ⟨n, e, hn, q⟩ st p => by
    subst e
    cases p
    refine ⟨n, rfl, RgOk.of_le (by omega) (by omega) (by omega) (by omega), fun a ha => ?_⟩
    have w := Stp.newS (o := .lst (rgV 0 n)) st.e st.m ha
    refine o (.ref a) _ _ _ _ q (st.trans w) ⟨a, _, rfl, upd_same, ?_⟩
    have e1 : ((n : Int) - 0).toNat = n := by omega
    unfold rgV
    rw [e1]
    have := all2_rg (upd S2 a (.lst (rgV 0 n))) 0 n
    have e2 : (fun i : Nat => iInt (0 + (i : Int))) = fun i : Nat => iInt (i : Int) := by funext i; rw [Int.zero_add]
    rw [e2] at this
    exact this) ox
theorem ev_lRg2 (h : Ev E ta Γ M (fun R1 M1 => ∃ a, R1 = iInt a ∧ Ev E tb Γ M1 (fun R2 M2 => ∃ b, R2 = iInt b ∧ -1000000 ≤ a ∧ a ≤ 1000000 ∧ -1000000 ≤ b ∧ b ≤ 1000000 ∧ k (iLst ((List.range (b - a).toNat).map fun i => iInt (a + (i : Nat)))) M2) X) X) : Ev E (tLstRg (tRg2 ta tb)) Γ M k X := fun σ S H Q I o ox =>
  h σ S H _ I (fun v S1 H1 R M1 ⟨a, e, q⟩ st p => by
    subst e
    cases p
    exact q σ S1 H1 _ (I.step st) (fun w S2 H2 R2 M2 ⟨b, e, h1, h2, h3, h4, q2⟩ st2 p2 => by
      subst e
      cases p2
      refine ⟨a, b, rfl, rfl, ⟨by omega, by omega, by omega, by omega, by omega⟩, fun c hc => ?_⟩
      have s := st.trans st2
      have w := Stp.newS (o := .lst (rgV a b)) s.e s.m hc
      exact o (.ref c) _ _ _ _ q2 (s.trans w) ⟨c, _, rfl, upd_same, all2_rg _ a _⟩) (ox.step st)) ox
/-- over a list, what is made may be drawn -/
theorem ev_lcLs {α β : Type} {e : α → Rep} {e' : β → Rep} {P : α → β → Prop} {j : Nat} (hj : j ∈ vs)
    (h : Ev E tl Γ M (fun R M1 => ∃ l : List α, R = iLst (l.map e) ∧ l.length ≤ 1000000 ∧
      (∀ x, x ∈ l → ∀ k' : KR, (∀ y, P x y → k' (e' y) M1) → Ev E te ((wipeC Γ vs).set j (some (e x))) M1 k' X0) ∧
      (∀ l' : List β, l'.length = l.length → (∀ (i : Nat) (x : α) (y : β), l[i]? = some x → l'[i]? = some y → P x y) → k (iLst (l'.map e')) M1)) X) : Ev E (tLc (iList K tl) (gName j) tYes te vs) Γ M k X := by
  refine ev_lc (fun z => by rw [z] at hj; cases hj) (ti_list (h.mono fun R M1 ⟨l, e1, hn, he, q⟩ => ?_))
  refine ⟨_, e1, by rw [List.length_map]; exact hn, fun i acc M2 => ∃ l' : List β, acc = l'.map e' ∧ l'.length = i ∧ (∀ (i : Nat) (x : α) (y : β), l[i]? = some x → l'[i]? = some y → P x y) ∧ M2 = M1, ⟨[], rfl, rfl, (fun i x y h h2 => by simp at h2), rfl⟩, fun i r acc M2 hlt hr _ ⟨l', e2, e3, e4, e5⟩ => ?_, fun acc M2 _ ⟨l', e2, e3, e4, e5⟩ => ?_⟩
  · subst e2; subst e5; subst e3
    rw [List.length_map] at hlt
    rw [List.getElem?_map, List.getElem?_eq_getElem hlt] at hr
    cases hr
    refine tg_name (et_yes ?_) (.inr hj)
    refine (if_pos rfl).mpr (he _ (List.getElem_mem hlt) _ fun y hy => ⟨l' ++ [y], by simp, by simp, fun i x z hx hz => ?_, rfl⟩)
    rcases Nat.lt_or_ge i l'.length with h | h
    · rw [List.getElem?_append_left h] at hz
      exact e4 i x z hx hz
    · rw [List.getElem?_append_right h] at hz
      obtain ⟨h2, h3⟩ := List.getElem?_eq_some_iff.mp hz
      have : i = l'.length := by simp at h2; omega
      subst this
      simp at h3
      subst h3
      rw [List.getElem?_eq_getElem hlt] at hx
      cases hx
      exact hy
  · subst e2; subst e5
    rw [List.length_map] at e3
    exact q l' e3 e4
end
end L3

namespace L3
open PySem PySem.Spec L2 RZ PyProof.Rows
section
variable {E : XK} {K : PySem.W.Frag} {Γ : Ct} {M : SH} {k : KR} {X : KX} {R R1 R2 : Rep}
theorem all2_repl {S : Hp} {v : V} (p : R.p S v) : ∀ n : Nat, All2 S (List.replicate n R) (List.replicate n v)
  | 0 => True.intro
  | n + 1 => ⟨p, all2_repl p n⟩
/-- [x] * n -/
theorem o_repN {i : Int} (n : Nat) (e : i = n) (h : n ≤ 1000000) : O2p rRep (iLst [R]) (iInt i) M (iLst (List.replicate n R)) := o2_newL fun x y S H e1 _ h1 h2 => by
  subst e
  obtain ⟨a, xs, rfl, q1, q2⟩ := h1
  cases h2
  obtain ⟨v, rfl, p⟩ := all2_1 q2
  refine ⟨List.replicate n v, all2_repl p n, fun Q q => ⟨a, n, [v], rfl, rfl, e1 _ _ q1, by omega, by omega, ?_, fun p hp => ?_⟩⟩
  · exact sz_le (by show 1 * ((n : Int)).toNat ≤ 1000000; omega)
  · have : (List.replicate ((n : Int)).toNat [v]).flatten = List.replicate n v := by
      rw [show ((n : Int)).toNat = n by omega]
      have : ∀ m : Nat, (List.replicate m [v]).flatten = List.replicate m v := by
        intro m
        induction m with
        | zero => rfl
        | succ m ih => rw [List.replicate_succ, List.flatten_cons, ih]; rfl
      exact this n
    rw [this]
    exact q p hp
end
end L3
/-! ### l.index(z) in a comprehension -/
namespace L3
open PySem PySem.Spec L2 RZ PyProof.Rows
theorem pe_idxC {X : Cx} {K : PySem.W.Frag} (hK : X.K = K) {o e : Expr} {es : List Expr} {to : TE} {t : TA} {apos cpos : Pos} (ho : PE X o to) (ha : PA X (e :: es) t)
    (hbase : attributeBase o "index" X.env (eval o X.env) = eval o X.env := by rfl)
    (hfew : ((backTo cpos (starEach (e :: es) X.env)).all (fun x => !x.1) && (backToKw cpos (keywordEach [] X.env)).all (fun x => x.1.isSome)
      && decide ((e :: es).length + ([] : List Keyword).length + (if ([] : List Keyword).isEmpty then 0 else 1) < 30)) = true := by rfl)
    (hline : (apos.endLine == cpos.line) = true := by rfl) (hs : starEach (e :: es) X.env = (false, eval e X.env) :: starEach es X.env := by rfl) (hplain : (backTo cpos (starEach es X.env)).any (·.1) = false := by rfl) :
    PE X (.Call (.Attribute o "index" apos) (e :: es) [] cpos) (tBM K "list" (rIndex K) to t) := by
  subst hK
  exact pe_bm PySem.F.plainAttrs_list PySem.F.slot_list_index PySem.F.type_list_index mt_index ho ha hbase hfew hline hs hplain
end L3
/-! ### the rest of a sequence by a name of its own: the goals stay small -/
namespace L3
open PySem PySem.Spec L2 RZ PyProof.Rows
section
variable {E : XK} {Γ : Ct} {M : SH} {D : EndT} {t u : TS}
theorem st_seqL (h : let r := u; St E t Γ M { D with nx := fun Γ1 M1 => St E r Γ1 M1 D }) : St E (tSeq t u) Γ M D := st_seq h
end
end L3
/-! ### what a goal is, told ahead of the rules tried at it -/
namespace L3
open PySem PySem.Spec L2 RZ PyProof.Rows
section
variable {E : XK} {K : PySem.W.Frag} {Γ : Ct} {M : SH} {D : EndT} {t u : TS} {te : TE} {tt : TT} {ta : TA} {k : KR} {X : KX} {R R1 R2 : Rep} {Rs : List Rep} {C : Addr}
theorem gSt (h : St E t Γ M D) : St E t Γ M D := h
theorem gEv (h : Ev E te Γ M k X) : Ev E te Γ M k X := h
theorem gEx {α : Sort _} {p : α → Prop} (h : ∃ x, p x) : ∃ x, p x := h
theorem gAnd {p q : Prop} (h : p ∧ q) : p ∧ q := h
theorem gIte {b : Bool} {p q : Prop} (h : if b = true then p else q) : if b = true then p else q := h
theorem gEq {α : Sort _} {x y : α} (h : x = y) : x = y := h
theorem gWk {Γ1 : Ct} (h : Wk Γ Γ1) : Wk Γ Γ1 := h
theorem gEa {ka : List Rep → SH → Prop} (h : Ea E ta Γ M ka X) : Ea E ta Γ M ka X := h
theorem gEt {kb : Bool → SH → Prop} (h : Et E tt Γ M kb X) : Et E tt Γ M kb X := h
theorem gEp (h : Ep E te Γ M R) : Ep E te Γ M R := h
theorem gEtp {b : Bool} (h : Etp E tt Γ M b) : Etp E tt Γ M b := h
theorem gEap (h : Eap E ta Γ M Rs) : Eap E ta Γ M Rs := h
theorem k_at_at {i : Nat} {P : Rep → Prop} (h : ∃ R, Γ[i]? = some (some R) ∧ P R) : ∃ R, Γ[i]? = some (some R) ∧ P R := h
theorem k_fld_at {f : Str} {P : Rep → Prop} (h : ∃ fs', HasO M R C fs' ∧ ∃ Rf, fs'.lookup f = some Rf ∧ P Rf) : ∃ fs', HasO M R C fs' ∧ ∃ Rf, fs'.lookup f = some Rf ∧ P Rf := h
theorem k_meth_at {m : Str} {P : FR → Prop} (h : ∃ fs', HasO M R C fs' ∧ fs'.lookup m = none ∧ P fs') : ∃ fs', HasO M R C fs' ∧ fs'.lookup m = none ∧ P fs' := h
theorem k_hg_at {z : Str} {P : Rep → Prop} (h : ∃ z' kvs', aStr z = aStr z' ∧ HasD M R kvs' ∧ ∃ Rf, kvs'.lookup z' = some Rf ∧ P Rf) : ∃ z' kvs', aStr z = aStr z' ∧ HasD M R kvs' ∧ ∃ Rf, kvs'.lookup z' = some Rf ∧ P Rf := h
theorem k_hd_at {P : FR → Prop} (h : ∃ kvs', HasD M R kvs' ∧ P kvs') : ∃ kvs', HasD M R kvs' ∧ P kvs' := h
theorem k_pd_at {P : List (Str × Str) → Prop} (h : ∃ ps', HasP M R ps' ∧ P ps') : ∃ ps', HasP M R ps' ∧ P ps' := h
theorem k_putD_at {a : Addr} {z : Str} {P : Str → Nat → FR → Prop} (h : ∃ (z' : Str) (i : Nat) (kvs : FR), aStr z = aStr z' ∧ M[i]? = some (a, mDK kvs) ∧ kvs.length < 1000000 ∧ P z' i kvs) : ∃ (z' : Str) (i : Nat) (kvs : FR), aStr z = aStr z' ∧ M[i]? = some (a, mDK kvs) ∧ kvs.length < 1000000 ∧ P z' i kvs := h
theorem k_setL_at {a : Addr} {x : Int} {P : Int → Nat → Nat → List Rep → Prop} (h : ∃ (y : Int) (n i : Nat) (rs : List Rep), iInt x = iInt y ∧ y = n ∧ M[i]? = some (a, mLst rs) ∧ n < rs.length ∧ P y n i rs) : ∃ (y : Int) (n i : Nat) (rs : List Rep), iInt x = iInt y ∧ y = n ∧ M[i]? = some (a, mLst rs) ∧ n < rs.length ∧ P y n i rs := h
theorem k_put_at {d : Addr} {a b : Str} {P : Str → Str → Nat → List (Str × Str) → Prop} (h : ∃ (a' b' : Str) (i : Nat) (ps : List (Str × Str)), [aStr a, aStr b] = [aStr a', aStr b'] ∧ M[i]? = some (d, mPD ps) ∧ ps.length < 1000000 ∧ P a' b' i ps) : ∃ (a' b' : Str) (i : Nat) (ps : List (Str × Str)), [aStr a, aStr b] = [aStr a', aStr b'] ∧ M[i]? = some (d, mPD ps) ∧ ps.length < 1000000 ∧ P a' b' i ps := h
theorem k_set_at {a : Addr} {P : Addr → Nat → FR → Prop} (h : ∃ (b : Addr) (j : Nat) (fs : FR), iRef a = iRef b ∧ M[j]? = some (b, mObj C fs) ∧ fs.length < 1000 ∧ P b j fs) : ∃ (b : Addr) (j : Nat) (fs : FR), iRef a = iRef b ∧ M[j]? = some (b, mObj C fs) ∧ fs.length < 1000 ∧ P b j fs := h
theorem k_app_at {a : Addr} {Q : Nat → List Rep → Addr → Prop} (h : ∃ (b : Addr) (i : Nat) (rs : List Rep), iRef a = iRef b ∧ M[i]? = some (b, mLst rs) ∧ Q i rs b) : ∃ (b : Addr) (i : Nat) (rs : List Rep), iRef a = iRef b ∧ M[i]? = some (b, mLst rs) ∧ Q i rs b := h
end
end L3

namespace L3
open PySem PySem.Spec L2 RZ PyProof.Rows
def dropH (S : Hp) (a : Addr) : Hp := fun b => if b = a then none else S b
theorem drop_same (S : Hp) (a : Addr) : dropH S a a = none := if_pos rfl
theorem drop_ne {S : Hp} {a b : Addr} (h : b ≠ a) : dropH S a b = S b := if_neg h
section
variable {E : XK} {K : PySem.W.Frag} {Γ : Ct} {M : SH} {k : KR} {X : KX} {R R1 R2 : Rep} {te ta tb : TE} {tr : TA} {D : EndT} {t : TS}
/-- a def that only reckons a truth, asked of a list that is changed later -/
theorem ev_callLk {α : Type} {args : α → List Rep} {pre : α → Prop} {c : α → Bool} (h : Ea E tr Γ M (fun Rs M1 => ∃ (i : Nat) (a : Addr) (rs : List Rep) (R2 : Rep) (x : α), Rs = [iRef a, R2] ∧ M1[i]? = some (a, mLst rs) ∧ LeS [iLst rs, R2] (args x) ∧ pre x ∧ k (iBl (c x)) M1) X) :
    Ev E (tCall (spT (pureTs args pre fun x => iBl (c x))) [] E0 tr) Γ M k X := fun σ S H Q I o ox =>
  h σ S H _ I (fun xs S1 H1 Rs M1 ⟨i, a, rs, R2, x, e, hm, le, hp, q⟩ st p => by
    subst e
    obtain ⟨v, w, rfl, p1, p2⟩ := all2_2 p
    cases p1
    obtain ⟨hS, ob, ho, ys, rfl, al⟩ := st.m.at_ a (mLst rs) (at_mem hm)
    have nin : ∀ b o, S1 b = some o → b ≠ a := fun b o q z => by rw [z, hS] at q; cases q
    have sm : Same S1 (upd S1 a (.lst ys)) := fun b o q => by rw [upd_ne (nin b o q)]; exact q
    have e1 : Same (upd S1 a (.lst ys)) H1 := fun b o q => by
      by_cases hb : b = a
      · subst hb; rw [upd_same] at q; cases q; exact ho
      · rw [upd_ne hb] at q; exact st.e _ _ q
    refine ⟨upd S1 a (.lst ys), args x, [], fun R M2 => R = iBl (c x) ∧ M2 = [], X0, ⟨x, rfl, hp, rfl, rfl, rfl⟩, e1, ⟨fun _ _ z => (by cases z), List.nodup_nil⟩, ?_, ?_, fun _ _ _ _ _ _ z => z.elim⟩
    · refine le _ _ ⟨⟨a, ys, rfl, upd_same, al.mono sm⟩, R2.m sm p2, True.intro⟩
    · rintro v S2 H2 R M2 ⟨rfl, rfl⟩ st2 pv
      cases pv
      have f2 : ∀ b o, H1 b = some o → H2 b = some o := fun b o q => st2.fr b o (by simp [dm]) q
      have s2 : Same S1 (dropH S2 a) := fun b o q => by
        rw [drop_ne (nin b o q)]
        exact st2.s _ _ (sm _ _ q)
      refine (o.step st) _ (dropH S2 a) H2 (iBl (c x)) M1 q ⟨s2, fun b o q => ?_, fun b h1 h2 => ?_, fun b o _ q => f2 b o q, ⟨fun b P hb => ?_, st.m.nd⟩, fun b hb => .inl hb⟩ rfl
      · by_cases hb : b = a
        · subst hb; rw [drop_same] at q; cases q
        · rw [drop_ne hb] at q; exact st2.e _ _ q
      · by_cases hb : b = a
        · subst hb; rw [drop_same] at h2; exact absurd rfl h2
        · rw [drop_ne hb] at h2
          rcases st2.new b (by rw [upd_ne hb]; exact h1) h2 with z | z
          · exact .inl z
          · simp [dm] at z
      · obtain ⟨z, o2, q1, q2⟩ := st.m.at_ b P hb
        refine ⟨?_, o2, f2 _ _ q1, P.m s2 q2⟩
        by_cases hb2 : b = a
        · subst hb2; exact drop_same S2 b
        · rw [drop_ne hb2]
          cases hs : S2 b with
          | none => rfl
          | some u =>
            rcases st2.new b (by rw [upd_ne hb2]; exact z) (by rw [hs]; exact fun c => by cases c) with w | w
            · obtain ⟨xs, e⟩ := w o2 q1
              exact absurd e (P.nt q2 xs)
            · simp [dm] at w) ox
/-- dict(l), l a list of pairs -/
def rDictP (K : PySem.W.Frag) : List V → Hp → VK → Prop := fun xs H Q => ∃ (a : Addr) (ps : List Addr) (kvs : List (Key × V)), xs = [.ref a] ∧ SqL K H a (ps.map V.ref) ∧ Paired (fun p kv => SqT K H p [kV kv.1, kv.2]) ps kvs ∧
    ∀ p, H p = none → Q (.ref p) (upd H p (.dK (mergeK [] kvs)))
theorem call_dictPK {X : Cx} (hc : X.calm = true) : CallR X (.type "dict") (rDictP X.K) := call_dictP hc
theorem pairs_of {S H : Hp} (e : Same S H) : ∀ {kvs : FR} {xs : List V}, All2 S (kvs.map fun p => aTup K [aStr p.1, p.2]) xs → ∃ (ps : List Addr) (ws : List (Key × V)), xs = ps.map V.ref ∧ Paired (fun p (kv : Key × V) => SqT K H p [kV kv.1, kv.2]) ps ws ∧ DkOk S kvs ws
  | [], [], _ => ⟨[], [], rfl, .nil, rfl, True.intro⟩
  | [], _ :: _, h => h.elim
  | _ :: _, [], h => h.elim
  | (z, R) :: kvs, x :: xs, h => by
    obtain ⟨⟨a, ys, rfl, h1, h2⟩, h3⟩ := h
    obtain ⟨ps, ws, rfl, h4, h5⟩ := pairs_of e h3
    obtain ⟨v, w, rfl, p1, p2⟩ := all2_2 h2
    cases p1
    exact ⟨a :: ps, (.inr z, w) :: ws, rfl, .cons (Same.sqt e h1) h4, by simp [h5.nm], p2, h5.al⟩
theorem nd_inr : ∀ l : List Str, l.Nodup → (l.map (Sum.inr : Str → Key)).Nodup := by
  intro l
  induction l with
  | nil => intro _; simp
  | cons a l ih =>
    intro h
    rw [List.nodup_cons] at h
    rw [List.map_cons, List.nodup_cons]
    refine ⟨fun hm => ?_, ih h.2⟩
    obtain ⟨b, hb, e⟩ := List.mem_map.mp hm
    exact h.1 (Sum.inr.inj e ▸ hb)
theorem ev_dictP (h : Ev E ta Γ M (fun R M1 => ∃ kvs : FR, R = iLst (kvs.map fun p => aTup K [aStr p.1, p.2]) ∧ (kvs.map (·.1)).Nodup ∧ ∀ p, k (iRef p) (M1 ++ [(p, mDK kvs)])) X) : Ev E (tCB (rDictP K) (tCons ta tNil)) Γ M k X := fun σ S H Q I o ox =>
  h σ S H _ I (fun v S1 H1 R M1 ⟨kvs, e, nd, q⟩ st p => by
    subst e
    obtain ⟨a, xs, rfl, h1, h2⟩ := p
    obtain ⟨ps, ws, rfl, h3, ok⟩ := pairs_of st.e h2
    refine ⟨a, ps, ws, rfl, SqL.of (st.e _ _ h1), h3, fun p hp => ?_⟩
    have en : mergeK [] ws = ws := merge_new ws [] (by
      have e1 : ws.map (·.1) = (kvs.map (·.1)).map (Sum.inr : Str → Key) := by rw [ok.nm, List.map_map]; rfl
      rw [List.nil_append, e1]
      exact nd_inr _ nd)
    rw [en]
    exact o (.ref p) _ _ (iRef p) _ (q p) (st.trans (Stp.newM (P := mDK kvs) st.e st.m hp ⟨ws, rfl, ok⟩)) rfl) ox
end
end L3

namespace L3
open PySem PySem.Spec L2 RZ PyProof.Rows
/-- a comprehension's target of three names -/
theorem blk_tup3 {X : Cx} {i j l : Nat} {x y z : Str} {scope : Scope} {px py pz tpos : Pos} {kk : Nat} (hN : X.N.Nodup) (hc : X.calm = true := by rfl) (hi : X.N[i]? = some x := by rfl) (hj : X.N[j]? = some y := by rfl) (hl : X.N[l]? = some z := by rfl)
    (hx : ∀ C cl, (compEnvC scope cl C X.env).scope.names.lookup x = some .local := by intro _ _; rfl) (hy : ∀ C cl, (compEnvC scope cl C X.env).scope.names.lookup y = some .local := by intro _ _; rfl) (hz : ∀ C cl, (compEnvC scope cl C X.env).scope.names.lookup z = some .local := by intro _ _; rfl) (s : Shared) (H : Hp) (C : Addr) (cl : List (Str × Addr)) (fp : List Addr) :
    PG (X.blk s H scope (compEnvC scope cl C X.env) fp) (.Tuple [.Name x px, .Name y py, .Name z pz] kk tpos) (gTup X.K 3 (gCons (gName i) (gCons (gName j) (gCons (gName l) gNil)))) :=
  pg_tup (X := X.blk s H scope (compEnvC scope cl C X.env) fp) hc (pgs_cons (pg_name hN hi (.inl (hx C cl)) (.inr (hx C cl))) (pgs_cons (pg_name hN hj (.inl (hy C cl)) (.inr (hy C cl))) (pgs_cons (pg_name hN hl (.inl (hz C cl)) (.inr (hz C cl))) pgs_nil)))
section
variable {E : XK} {K : PySem.W.Frag} {Γ : Ct} {M : SH} {k : KR} {X : KX} {R R1 R2 : Rep} {te ta tb : TE} {tr : TA} {D : EndT} {t : TS}
/-- dict(d), a copy -/
def rDictD : List V → Hp → VK → Prop := fun xs H Q => ∃ (a : Addr) (kvs : List (Key × V)), xs = [.ref a] ∧ Rd H a (.dK kvs) ∧ ∀ p, H p = none → Q (.ref p) (upd H p (.dK kvs))
theorem call_dictDC {X : Cx} : CallR X (.type "dict") rDictD := call_dictD
theorem ev_dictD (h : Ev E ta Γ M (fun R M1 => ∃ kvs, HasD M1 R kvs ∧ ∀ p, k (iRef p) (M1 ++ [(p, mDK kvs)])) X) : Ev E (tCB rDictD (tCons ta tNil)) Γ M k X := fun σ S H Q I o ox =>
  h σ S H _ I (fun v S1 H1 R M1 ⟨kvs, hd, q⟩ st p => by
    obtain ⟨a, ws, rfl, hr, ok⟩ := hd.get st.e st.m p
    exact ⟨a, ws, rfl, hr, fun p hp => o (.ref p) _ _ (iRef p) _ (q p) (st.trans (Stp.newM (P := mDK kvs) st.e st.m hp ⟨ws, rfl, ok⟩)) rfl⟩) ox
end
end L3

namespace L3
open PySem PySem.Spec L2 RZ PyProof.Rows
section
variable {E : XK} {K : PySem.W.Frag} {Γ : Ct} {M : SH} {D : EndT} {t : TS}
/-- made stable here, or not -/
def tFzO (t : TS) : TS := fun D σ H => t D σ H ∨ tFz t D σ H
theorem ps_fzO {X : Cx} {st : Stmt} {t : TS} (h : PS X st t) : PS X st (tFzO t) := ⟨fun pins s σ H D I q => q.elim (h.run pins s σ H D I) ((ps_fz h).run pins s σ H D I)⟩
theorem st_fzOl (h : St E t Γ M D) : St E (tFzO t) Γ M D := fun σ S H D0 I o => .inl (h σ S H D0 I o)
theorem st_fzOr (h : St E (tFz t) Γ M D) : St E (tFzO t) Γ M D := fun σ S H D0 I o => .inr (h σ S H D0 I o)
end
end L3

namespace L3
open PySem PySem.Spec L2 RZ PyProof.Rows
/-- t.index(z) in a comprehension -/
theorem pe_idxTC {X : Cx} {K : PySem.W.Frag} (hK : X.K = K) {o e : Expr} {es : List Expr} {to : TE} {t : TA} {apos cpos : Pos} (ho : PE X o to) (ha : PA X (e :: es) t)
    (hb : attributeBase o "index" X.env (eval o X.env) = eval o X.env := by rfl)
    (hf : ((backTo cpos (starEach (e :: es) X.env)).all (fun x => !x.1) && (backToKw cpos (keywordEach [] X.env)).all (fun x => x.1.isSome) && decide ((e :: es).length + ([] : List Keyword).length + (if ([] : List Keyword).isEmpty then 0 else 1) < 30)) = true := by rfl)
    (hl : (apos.endLine == cpos.line) = true := by rfl) (hs : starEach (e :: es) X.env = (false, eval e X.env) :: starEach es X.env := by rfl) (hp : (backTo cpos (starEach es X.env)).any (·.1) = false := by rfl) :
    PE X (.Call (.Attribute o "index" apos) (e :: es) [] cpos) (tBMT (rIdxT K) to t) := by
  subst hK
  exact pe_bmT PySem.F.slot_tuple_index PySem.F.type_tuple_index mt_indexT ho ha hb hf hl hs hp
section
variable {E : XK} {K : PySem.W.Frag} {Γ : Ct} {M : SH} {te tl : TE} {vs : List Nat}
theorem ep_tupD {rs : List Rep} (h : Ep E te Γ M (aTupD rs)) : Ep E te Γ M (aTup K rs) := h.wk tupD_seq
theorem ep_lcTM {α : Type} {l : List α} {e e' : α → Rep} {j : Nat} (hi : Ep E tl Γ M (aTup K (l.map e))) (hn : l.length ≤ 1000000) (hj : j ∈ vs)
    (he : ∀ x ∈ l, Ep E te ((wipeC Γ vs).set j (some (e x))) M (e' x)) : Ep E (tLc (L2.iTup K tl) (gName j) tYes te vs) Γ M (iLst (l.map e')) := by
  have := ep_lcT (K := K) (p := fun _ => true) (q := id) (e' := e') (l := l) (e := e) (te := te) (tt := tYes) hi hn hj (fun _ _ => etp_yes) (fun x hx _ => he x hx)
  rwa [List.map_id, List.filter_eq_self.mpr fun _ _ => rfl] at this
end
end L3

namespace L3
open PySem PySem.Spec L2 RZ PyProof.Rows
section
variable {E : XK} {K : PySem.W.Frag} {Γ : Ct} {M : SH} {k : KR} {X : KX} {ta : TE}
/-- sorted(l), l a list of whole numbers that may be changed -/
theorem ev_sortI (h : Ev E ta Γ M (fun R M1 => ∃ (a : Addr) (i : Nat) (ns : List Int), R = iRef a ∧ M1[i]? = some (a, mLst (ns.map iInt)) ∧ ∀ ns' : List Int, ns'.Perm ns → k (iLst (ns'.map iInt)) M1) X) : Ev E (tCB (rSortedI K) (tCons ta tNil)) Γ M k X := fun σ S H Q I o ox =>
  h σ S H _ I (fun v S1 H1 R M1 ⟨a, i, ns, e, hm, q⟩ st p => by
    subst e
    cases p
    obtain ⟨_, ob, ho, ys, rfl, al⟩ := st.m.at_ a _ (at_mem hm)
    have ey : ys = ns.map V.int := All2.flat (r := iInt) (g := V.int) (fun _ _ h => h) al
    subst ey
    refine ⟨a, ns, rfl, SqL.of ho, fun ns' c hp _ hc => ?_⟩
    have w := Stp.newS (o := .lst (ns'.map V.int)) st.e st.m hc
    refine o (.ref c) _ _ _ _ (q ns' hp) (st.trans w) ⟨c, _, rfl, upd_same, ?_⟩
    have gen : ∀ (S : Hp) (l : List Int), All2 S (l.map iInt) (l.map V.int) := fun S l => by
      induction l with
      | nil => exact True.intro
      | cons x l ih => exact ⟨rfl, ih⟩
    exact gen _ ns') ox
end
end L3

namespace L3
open PySem PySem.Spec L2 RZ PyProof.Rows
section
variable {E : XK} {K : PySem.W.Frag} {Γ : Ct} {M : SH} {k : KR} {X : KX} {ta : TE}
theorem inV_int (x : Int) : ∀ l : List Int, inV (.int x) (l.map V.int) = decide (x ∈ l)
  | [] => rfl
  | y :: l => by
    have ih := inV_int x l
    unfold inV at ih ⊢
    rw [List.map_cons, List.any_cons, ih]
    have e : eqV (V.int y) (V.int x) = decide (x = y) := by
      unfold eqV
      by_cases h : x = y
      · subst h; simp
      · have h' : ¬ y = x := fun z => h z.symm
        simp [h, h']
    rw [e]
    by_cases h : x = y
    · simp [h]
    · simp [h]
theorem all_flat_int (l : List Int) : (l.map V.int).all flatV = true := by
  rw [List.all_eq_true]
  intro v hv
  obtain ⟨x, _, rfl⟩ := List.mem_map.mp hv
  rfl
/-- n in l, l a list of whole numbers -/
theorem o_inI {x : Int} {l : List Int} : O2p (rIn K false) (iInt x) (iLst (l.map iInt)) M (iBl (decide (x ∈ l))) := o2_val fun v y S H e _ h1 h2 => by
  cases h1
  obtain ⟨a, xs, rfl, q1, q2⟩ := h2
  rw [All2.flat (r := iInt) (g := V.int) (fun _ _ h => h) q2] at q1
  exact ⟨_, rfl, fun Q q => ⟨a, _, rfl, .inl (SqL.of (e _ _ q1)), rfl, all_flat_int l, by rw [if_neg Bool.false_ne_true, inV_int]; exact q⟩⟩
theorem o_ninI {x : Int} {l : List Int} : O2p (rIn K true) (iInt x) (iLst (l.map iInt)) M (iBl (!decide (x ∈ l))) := o2_val fun v y S H e _ h1 h2 => by
  cases h1
  obtain ⟨a, xs, rfl, q1, q2⟩ := h2
  rw [All2.flat (r := iInt) (g := V.int) (fun _ _ h => h) q2] at q1
  exact ⟨_, rfl, fun Q q => ⟨a, _, rfl, .inl (SqL.of (e _ _ q1)), rfl, all_flat_int l, by rw [if_pos rfl, inV_int]; exact q⟩⟩
end
end L3

/-! len(set(l)), l a list of texts that are all unlike -/
namespace L3
open PySem PySem.Spec L2 RZ PyProof.Rows
section
variable {prog : Program} {w : World} {A : Around} {R : Result → Shared → Prop} {It : Addr} {fp wr : List Addr} {G : Array GenState → Array GenState → Prop} {n : Nat} {P : Nat → Value → Prop} {St : Nat → Shared → Prop}
/-- the set at D is kept by what stays at D -/
theorem setOf_at {h h2 : Heap} {D : Addr} {S : Str → Bool} {m : Nat} (hS : h.SetOf (PySem.strKind prog w) D S m) (st : ∀ o, h.get? D = some o → h2.get? D = some o) : h2.SetOf (PySem.strKind prog w) D S m :=
  let ⟨o, es, ep, t, ho, more⟩ := hS
  ⟨o, es, ep, t, st o ho, more⟩
/-- the walk that puts text after text into the set at D, none of them twice -/
theorem setRun (W : WalksS prog w A.in1 It fp wr G n P St) {D : Addr} (off : D ∉ fp) {zs : List Str} (nd : zs.Nodup) (zn : zs.length = n) (small : n < 4000) (sign : ∀ i v, P i v → ∃ t, v = .str (zs.getD i Str.empty) t) :
    ∀ (m i : Nat) (s : Shared), i + m = n → St i s → s.heap.SetOf (PySem.strKind prog w) D (fun z => decide (z ∈ zs.take i)) i →
      (∀ s2, Moved (D :: wr) G s s2 → (∃ S, s2.heap.SetOf (PySem.strKind prog w) D S n) → R (.ok (.ret .none)) s2) →
      codeAny (model prog w) A (.builtin "set.update.loop" ⟨[.ref D, .ref It], []⟩) R s := by
  have offw : D ∉ wr := fun e => off (W.sub _ e)
  have wide : ∀ b ∈ wr, b ∈ D :: wr := fun b e => List.mem_cons_of_mem D e
  intro m
  induction m with
  | zero =>
    intro i s im st hS fin
    have e : i = n := by omega
    cases e
    refine codeAny_builtin F.entry_set_update_loop ?_
    rw [Around.under_plainId F.plain_set_update_loop _]
    show wpAny (model prog w) A.in1 (pyNext (.ref It) >>= _) _ _ s
    exact wpAny_bind (W.done s _ _ st fun s2 mv => wpAny_pure (fin s2 (mv.mono wide) ⟨_, setOf_at hS fun o e => mv.heap D o offw e⟩))
  | succ m ih =>
    intro i s im st hS fin
    have il : i < n := by omega
    have iz : i < zs.length := by omega
    refine codeAny_builtin F.entry_set_update_loop ?_
    rw [Around.under_plainId F.plain_set_update_loop _]
    show wpAny (model prog w) A.in1 (pyNext (.ref It) >>= _) _ _ s
    refine wpAny_bind (W.item i s _ _ il st fun v s2 pv st2 mv => ?_)
    obtain ⟨t, ev⟩ := sign i v pv
    rw [List.getD_eq_getElem?_getD, List.getElem?_eq_getElem iz, Option.getD_some] at ev
    subst ev
    have hS2 := setOf_at hS fun o e => mv.heap D o offw e
    show wpAny (model prog w) A.in1 (holding [Value.str zs[i] t] (setAdd D (.str zs[i] t)) >>= _) _ _ s2
    refine wpAny_bind (wpAny_holding ?_)
    unfold setAdd
    refine wpAny_holding (wpAny_bind ((PySem.strKind prog w).pyHash (k := zs[i]) (strKind_is _ _ _ _) ?_))
    refine wpAny_setAddHashed_of (knd := PySem.strKind prog w) (s := { s2 with toks := s2.toks + 1 }) (strKind_is _ _ _ _) rfl hS2 (by unfold scanBound; omega) fun h3 sb hS3 => ?_
    have new : zs[i] ∉ zs.take i := fun hm => by
      obtain ⟨j, hj, e⟩ := List.getElem_of_mem hm
      rw [List.length_take] at hj
      rw [List.getElem_take] at e
      exact List.pairwise_iff_getElem.mp nd j i (by omega) iz (by omega) e
    have hS4 : h3.SetOf (PySem.strKind prog w) D (fun z => decide (z ∈ zs.take (i + 1))) (i + 1) := by
      refine SetOf_congr hS3 (fun z => ?_) ?_
      · have e0 : zs.take (i + 1) = zs.take i ++ [zs[i]] := by rw [List.take_succ, List.getElem?_eq_getElem iz]; rfl
        rw [e0, Bool.eq_iff_iff, Bool.or_eq_true, decide_eq_true_eq, decide_eq_true_eq, decide_eq_true_eq, List.mem_append, List.mem_singleton]
      · rw [if_neg (by simpa using new)]
    refine wpAny_pure ⟨plainId_quiet F.plain_set_update_loop _, ih (i + 1) _ (by omega) (W.frame _ s2 _ _ st2 (Nat.le_succ _) fun b hb o e => ?_) hS4 fun s4 mv2 hS5 => fin s4 (Moved.trans W.gtrans ((mv.mono wide).then_heap (Nat.le_succ _) fun b o hb e => ?_) mv2) hS5⟩
    · exact (sb.2 b fun q : b = D => off (q ▸ hb)).trans e
    · exact (sb.2 b fun q : b = D => hb (q ▸ List.mem_cons_self)).trans e
end
section
variable {prog : Program} {w : World} {A : Around} {E : Value → Shared → Prop} {s : Shared}
/-- a heap with a new thing behind -/
abbrev seen (s : Shared) (o : Obj) : Shared := { s with heap := s.heap.push o }
abbrev bare (led : Bool) : Obj := { cls := .type "set", dict := none, data := .set #[] 0 (.fresh 0 0 led) }
theorem callSet {l : Addr} {us : Array Value} {zs : List Str} {Q : Value → Shared → Prop} (calm : A.handled = none) (hl : s.heap.IsList l us) (tx : StrsAre us.toList zs) (nd : zs.Nodup) (small : us.size < 4000) (uz : us.size = zs.length)
    (q : ∀ (g : Heap) (tk : Nat), (∃ S, g.SetOf (PySem.strKind prog w) s.heap.objs.size S us.size) → (∀ b o, b < s.heap.objs.size → s.heap.get? b = some o → g.get? b = some o) → Q (.ref s.heap.objs.size) { s with heap := g, toks := tk }) :
    wpAny (model prog w) A (call (.type "set") [.ref l]) Q E s := by
  have mro := PySem.F.called_set.mro
  obtain ⟨mro1, mro2, mro3⟩ := mro
  have f1 := PySem.F.called_set.made
  have f2 := PySem.F.called_set.sub
  have f3 := PySem.F.called_set.notType
  have f4 := PySem.F.called_set.canCreate
  have f5 := PySem.F.typeCall_set_1 (.ref l)
  refine wpAny_call (codeAny_of_tree (wpAny_pure ⟨Code.quiet_builtin _ (by decide +kernel), codeAny_builtin PySem.F.entry_type_call ?_⟩))
  rw [Around.under_plain (weight_type_call_type "set" [.ref l] []) rfl]
  repeat (any_goals (first | assumption | wp_step))
  refine codeAny_mono (code_set_new_1 (.ref l) (E := E) (Q₁ := fun v s1 => ∃ led, v = .ref s.heap.objs.size ∧ s1 = seen s (bare led)) fun led => ⟨led, rfl, rfl⟩) fun r s1 hr => ?_
  match r, hr with
  | .error e, hr => exact hr
  | .ok (.ret v), hr =>
    obtain ⟨led, rfl, rfl⟩ := hr
    have at0 : (seen s (bare led)).heap.get? s.heap.objs.size = some (bare led) := Heap.get?_push_size _ rfl
    have f6 := PySem.F.called_set.init.lookup
    have f7 := PySem.F.called_set.init.bind (.ref s.heap.objs.size)
    have f8 : (seen s (bare led)).TypeIs (.ref s.heap.objs.size) "set" := ⟨_, at0, rfl⟩
    repeat (any_goals (first | assumption | wp_step))
    refine codeAny_mono (codeAny_call_builtin (R := wants (fun v s2 => v = .none ∧ ∃ g tk, s2 = { s with heap := g, toks := tk } ∧ (∃ S, g.SetOf (PySem.strKind prog w) s.heap.objs.size S us.size) ∧ ∀ b o, b < s.heap.objs.size → s.heap.get? b = some o → g.get? b = some o) E) PySem.F.called_set.init.plain PySem.F.entry_set_init (check_set_init_1 f8 ?_)) fun r2 s2 hr2 => ?_
    · obtain ⟨⟨lc, ld, lx, ls⟩, at1, lc1, ln, lx1⟩ := hl
      simp only at lc1 lx1
      cases lc1
      cases lx1
      have at2 : (seen s (bare led)).heap.get? l = some { cls := .type "list", dict := ld, data := .seq us ln, slots := ls } := Heap.get?_push_of_some _ at1
      have g1 := PySem.F.sub_list_set
      have g2 := PySem.F.sub_list_frozenset
      have g3 : (Value.type "list" == Value.type "dict") = false := by decide
      have ll : l < s.heap.objs.size := Heap.lt_size at1
      have li : (seen s (bare led)).heap.IsList l us := ⟨_, at2, rfl, ln, rfl⟩
      unfold Builtin.«set.__init__» noKeywords Builtin.Frozenset.updateFrom
      generalize hw : pyIter = walk
      wp_walk
      subst hw
      refine wpAny_pyIter_list li (wpAny_bind (wpAny_runValue ?_))
      have sz : (seen s (bare led)).heap.objs.size = s.heap.objs.size + 1 := Heap.size_push ..
      refine setRun ((Walks.list (by simp [calm]) (seen s (bare led)).heap.objs.size l (by rw [sz]; exact Nat.ne_of_lt (Nat.lt_succ_of_lt ll)) us).toS) (D := s.heap.objs.size) (by rw [sz, List.mem_cons, List.mem_singleton, not_or]; exact ⟨Nat.ne_of_lt (Nat.lt_succ_self _), Nat.ne_of_gt ll⟩) nd uz.symm small (fun i v e => SS.strs_at tx i v (by rw [Array.getElem?_toList]; exact e)) us.size 0 _ (Nat.zero_add _)
        ⟨⟨_, Heap.get?_push_size _ rfl, rfl, rfl⟩, li.push _⟩ ?_ fun s3 mv hS => ?_
      · exact SetOf_congr ((setObjOf_fresh (knd := PySem.strKind prog w) led).setOf (Heap.get?_push_of_some _ at0) (by unfold scanBound; omega)) (fun _ => by simp) rfl
      · obtain ⟨g, g5, g6, g7, g8⟩ := s3
        have e1 : g5 = s.gens := mv.gens
        have e2 : g6 = s.drawn := mv.drawn
        have e3 : g8 = s.os := mv.os
        subst e1 e2 e3
        refine wpAny_pure (wpAny_pure ⟨rfl, g, g7, rfl, hS, fun b o lt e => mv.heap b o ?_ (Heap.get?_push_of_some _ (Heap.get?_push_of_some _ e))⟩)
        rw [sz, List.mem_cons, List.mem_singleton, not_or]
        exact ⟨Nat.ne_of_lt lt, Nat.ne_of_lt (Nat.lt_succ_of_lt lt)⟩
    · match r2, hr2 with
      | .error e, hr2 => exact hr2
      | .ok (.ret v), hr2 =>
        obtain ⟨rfl, g, tk, rfl, hS, st⟩ := hr2
        repeat (any_goals (first | assumption | wp_step))
        exact q g tk hS st
      | .ok .next, hr2 => exact hr2.elim
      | .ok .brk, hr2 => exact hr2.elim
      | .ok .cont, hr2 => exact hr2.elim
  | .ok .next, hr => exact hr.elim
  | .ok .brk, hr => exact hr.elim
  | .ok .cont, hr => exact hr.elim
end
section
variable {X : Cx} {a : Expr} {ta : TE}
def tLenSetN (K : PySem.W.Frag) (ta : TE) : TE := fun σ H Q => ta σ H fun x H1 => ∃ (l : Addr) (zs : List Str), x = V.ref l ∧ SqL K H1 l (zs.map V.str) ∧ zs.length < 4000 ∧ zs.Nodup ∧ Q (.int zs.length) H1
/-- len(set(l)) -/
theorem pe_lenSetN {p1 p2 p3 p4 : Pos} (calm : X.calm = true) (gl : Gl X "len") (ml : X.mg "len" = none) (gs : Gl X "set") (ms : X.mg "set" = none) (ha : PE X a ta) (na : starEach [a] X.env = (false, eval a X.env) :: starEach [] X.env := by rfl) :
    PE X (.Call (.Name "len" p1) [.Call (.Name "set" p2) [a] [] p3] [] p4) (tLenSetN X.K ta) := ⟨fun pins s σ H Q I h => by
  refine Call_ (ld_blt I gl ml PySem.boot_len ?_)
  refine callWith_builtin1 (args_cons (Call_ (ld_blt I gs ms boot_set ?_)) rfl) rfl rfl
  refine callWith_type1 (args_cons (thn (ha.run pins s σ H _ I h) fun v s1 ⟨x, H1, I1, rx, l, zs, ex, hq, small, nd, q⟩ => args_nil ?_) na) na rfl
  cases ex
  cases rx
  obtain ⟨us, r, pl, _⟩ := I1.list hq
  have uz : us.toArray.size = zs.length := by rw [List.size_toArray, ← r.length, List.length_map]
  refine callSet (I1.ok.hd calm) pl.isList (by simpa using strsAre_of r) nd (by omega) uz fun g tk hS st => args_nil ?_
  rw [uz] at hS
  obtain ⟨S, o, es, ep, t, ho, hex, hd, _, _, _, hf, hn⟩ := hS
  have I2 : Inv X pins σ H1 { s1 with heap := g, toks := tk } := I1.kept fun b o e => st b o (Heap.lt_size e) e
  exact call_len_set ho hex hd hf (by rw [hn]; omega) ⟨.int zs.length, H1, I2.tok _, ⟨_, by rw [hn]⟩, q⟩⟩
end
section
variable {E : XK} {K : PySem.W.Frag} {Γ : Ct} {M : SH} {k : KR} {X : KX} {ta : TE}
theorem ev_lenSetN (h : Ev E ta Γ M (fun R M1 => ∃ zs : List Str, R = iLst (zs.map aStr) ∧ zs.length < 4000 ∧ zs.Nodup ∧ k (iInt (zs.length : Nat)) M1) X) : Ev E (tLenSetN K ta) Γ M k X := fun σ S H Q I o ox =>
  h σ S H _ I (fun v S2 H2 R M2 ⟨zs, e, small, nd, q⟩ st p => by
    subst e
    obtain ⟨l, xs, rfl, q1, q2⟩ := p
    rw [All2.flat (r := aStr) (g := V.str) (fun _ _ h => h) q2] at q1
    exact ⟨l, zs, rfl, SqL.of (st.e _ _ q1), small, nd, o _ _ _ _ _ q st rfl⟩) ox
end
end L3

/-! == and != by a class's own __eq__ (with any answer), == of dicts whose keys are pairs of texts, isinstance of own classes, list(d.items()) -/
namespace L3
open PySem PySem.Spec L2 RZ PyProof.Rows
/-! ### low -/
section
variable {M : Model} {prog : Program} {w : World} {A : Around} {E : Value → Shared → Prop} {s : Shared} {K : PySem.W.Frag} {x C f L : Addr} {ox : Obj} {od : Option Obj} {b tb : Value} {h₀ : Heap} {m : Str → Option Value}
theorem ifBound_objNe {args : List Value} {Q : Option Value → Shared → Prop} (X : K.In s.heap) (I : PySem.W.InstAt s.heap x ox C od) (hs : PySem.W.findIn K (.ref C) "__ne__" = some (some (.builtin "object.__ne__")))
    (h : wpAny M A (call (.builtin "object.__ne__") (.ref x :: args)) (fun v => Q (some v)) E s) : wpAny M A (callSpecialIfBound? (.ref x) "__ne__" args) Q E s := by
  simp only [callSpecialIfBound?, bindSpecialIfBound?]
  refine wpAny_holding (wpAny_bind (wpAny_bind (wpAny_bind (I.type.here ((PySem.W.looks_findIn X hs).here ?_)))))
  refine wpAny_bind (wpAny_askSetting (wpAny_ite ?_))
  have fin : wpAny M A (call (.builtin "object.__ne__") ([.ref x] ++ args) >>= fun v => pure (some v)) Q E s := wpAny_bind (wpAny_mono h (fun v s' h' => wpAny_pure h') fun _ _ h' => h')
  split
  · exact wpAny_bind (wpAny_of_eq (PySem.F.cmp_object.ne.bind _) (wpAny_pure (by exact fin)))
  · exact wpAny_tryCatch (wpAny_bind (wpAny_of_eq (PySem.F.cmp_object.ne.bind _) (wpAny_pure (by exact fin))))
theorem entry_objNe {Q : Fin → Shared → Prop} (hu : A.units < cLine) (X : K.In s.heap) (I : PySem.W.InstAt s.heap x ox C od) (hs : PySem.W.findIn K (.ref C) "__eq__" = some (some (.ref f))) (hf : PySem.W.isFn K (.ref f) = true)
    (h : wpAny (model prog w) A (call (.ref f) [.ref x, b]) (fun v s' => ∃ r, v = .bool r ∧ Q (.done (.ret (.bool (!r)))) s') E s) : wpAny (model prog w) A (Builtin.«object.__ne__» ⟨[.ref x, b], []⟩) Q E s := by
  unfold Builtin.«object.__ne__»
  refine wpAny_bind (m := slotArgs "__ne__" 1 _) (wpAny_pure ?_)
  refine wpAny_bind (m := cRoomFor _ _) (wpAny_cRoomFor hu ?_)
  refine wpAny_bind (m := callSpecialIfBound? (.ref x) (Str.ofString "__eq__") _) (PySem.W.ifBound_K X I hs hf (wpAny_mono h (fun r s' hq => ?_) fun _ _ y => y))
  obtain ⟨r, rfl, q⟩ := hq
  exact wpAny_bind (m := truthy (.bool r)) (wpAny_truthy_bool (wpAny_pure q))
theorem ne_K {Q : Value → Shared → Prop} (hu : A.units + 1 < cLine) (F : PyProof.Rows.Fr h₀ L s.heap m) (X₀ : K.In h₀) (I : PySem.W.InstAt s.heap x ox C od) (hb : PySem.W.Looks (model prog w) s.heap (typeOf b) tb) (hn : PySem.W.notFirst K C tb = true) (hm : PySem.W.mroIn K C (.type "object") = some true)
    (hne : PySem.W.findIn K (.ref C) "__ne__" = some (some (.builtin "object.__ne__"))) (hs : PySem.W.findIn K (.ref C) "__eq__" = some (some (.ref f))) (hf : PySem.W.isFn K (.ref f) = true)
    (h : wpAny (model prog w) A.in1 (call (.ref f) [.ref x, b]) (fun v s' => ∃ r, v = .bool r ∧ Q (.bool (!r)) s') E s) : wpAny (model prog w) A (richCompare .NotEq (.ref x) b) Q E s := by
  have X := X₀.keeps F.keep
  have hu0 : A.units < cLine := Nat.lt_of_succ_lt hu
  have one : wpAny (model prog w) A (tryCompare (.ref x) (cmpInfo .NotEq).2.1 b) (fun r s' => ∃ v, r = some v ∧ Q v s') E s := by
    unfold tryCompare
    refine wpAny_bind (ifBound_objNe X I hne (wpAny_call (codeAny_call_builtin PySem.F.cmp_object.ne.plain PySem.F.cmpEntry_ne (PySem.W.check_slot PySem.F.cmpKind_ne PySem.F.cmpSplit_ne (I.type.andThen (PySem.W.looks_mroIn X hm)) (PySem.F.cmpArgs_ne _ _)
      (entry_objNe (A := A.in1) (by exact hu) X I hs hf (wpAny_mono h (fun v s' hv => ?_) fun _ _ y => y))))))
    obtain ⟨r, rfl, q⟩ := hv
    exact ⟨r, rfl, wpAny_pure ⟨_, rfl, q⟩⟩
  unfold richCompare
  simp only [oneThing_ref]
  refine wpAny_holding (wpAny_bind (wpAny_cRoomFor hu0 ?_))
  refine wpAny_bind (I.type.here (wpAny_bind (hb.here ?_)))
  split
  · rename_i q
    have e : PySem.W.subIn K tb (.ref C) = some false := by
      rcases Bool.or_eq_true_iff.mp hn with e | e
      · rw [beq_iff_eq.mp e] at q; simp at q
      · exact beq_iff_eq.mp e
    refine wpAny_bind ((PySem.W.looks_subIn X e).here ?_)
    simp only [Bool.false_eq_true, if_false]
    refine wpAny_bind (wpAny_mono one (fun r s' z => ?_) fun _ _ e => e)
    obtain ⟨v, rfl, hq⟩ := z
    exact wpAny_pure hq
  · refine wpAny_bind (wpAny_pure ?_)
    simp only [Bool.false_eq_true, if_false]
    refine wpAny_bind (wpAny_mono one (fun r s' z => ?_) fun _ _ e => e)
    obtain ⟨v, rfl, hq⟩ := z
    exact wpAny_pure hq
theorem subIn_bt {T : String} {l : List Value} (h : fastBuiltinMro T = some l) (hl : ∀ v ∈ l, ∃ n, v = .type n) : PySem.W.subIn K (.type T) (.ref C) = some false := by
  show (fastBuiltinMro T).map (·.contains (.ref C)) = some false
  rw [h]
  show some (l.contains (.ref C)) = some false
  congr 1
  rw [← Bool.not_eq_true, List.contains_iff_mem]
  intro hm
  obtain ⟨n, e⟩ := hl _ hm
  cases e
end
/-! dicts whose keys are tuples, every value True -/
section
variable {prog : Program} {w : World} {A : Around} {E : Value → Shared → Prop} {s : Shared} {K : Type} [DecidableEq K] {knd : HeapKind prog w K} {a b : Addr} {xs ys : List (K × Addr × Value)}
theorem samePairsT {nm : String} {Q : Bool → Shared → Prop} (ha : (a == sysModules) = false) (hb : (b == sysModules) = false)
    (da : s.heap.DictOfH knd a xs) (db : s.heap.DictOfH knd b ys) (va : ∀ x ∈ xs, x.2.2 = .bool true) (vb : ∀ y ∈ ys, y.2.2 = .bool true) (hu : knd.room A) (h : Q (xs.length == ys.length && xs.all fun x => decide (x.1 ∈ ys.map (·.1))) s) :
    wpAny (model prog w) A (Builtin.Dict.samePairs nm a b) Q E s := by
  obtain ⟨oa, es, ep, hoa, _, hda, hea, hka, hna⟩ := da
  obtain ⟨ob, es', ep', hob, _, hdb, heb, hkb, hnb⟩ := db
  have hla : es.size = xs.length := size_of_entries hea
  have hlb : es'.size = ys.length := size_of_entries heb
  unfold Builtin.Dict.samePairs Builtin.Dict.showsAll
  rw [if_neg (show ¬ (a == sysModules) = true by rw [ha]; exact Bool.false_ne_true), if_neg (show ¬ (b == sysModules) = true by rw [hb]; exact Bool.false_ne_true)]
  refine wpAny_bind (wpAny_pure (wpAny_bind (wpAny_pure ?_)))
  refine wpAny_bind (wpAny_dictEntries hoa hda ?_)
  dsimp only
  refine wpAny_bind (wpAny_dictEntries hob hdb ?_)
  by_cases hsz : es.size = es'.size
  case neg =>
    rw [if_pos (by simpa using hsz)]
    have hbf : (xs.length == ys.length) = false := by rw [← hla, ← hlb]; simpa using hsz
    rw [hbf, Bool.false_and] at h
    exact wpAny_bind (wpAny_rule (wpAny_pure h))
  case pos =>
    have hbt : (xs.length == ys.length) = true := by rw [← hla, ← hlb, hsz]; simp
    rw [hbt, Bool.true_and] at h
    rw [if_neg (by rw [hsz]; simp)]
    refine wpAny_bind (wpAny_dictEpoch hoa hda ?_)
    refine wpAny_bind ?_
    rw [Std.Legacy.Range.forIn_eq_forIn_range']
    simp only [Std.Legacy.Range.size, Nat.sub_zero, Nat.add_sub_cancel, Nat.div_one]
    refine wpAny_forIn_list _
      (fun rest q s' => s' = s ∧ q = (none, ()) ∧ ∃ i, rest = List.range' i (es.size - i) ∧ i ≤ es.size ∧ (xs.all fun x => decide (x.1 ∈ ys.map (·.1))) = ((xs.drop i).all fun x => decide (x.1 ∈ ys.map (·.1))))
      _ ?_ ?_ _ _ ⟨rfl, rfl, 0, by simp, Nat.zero_le _, by rw [List.drop_zero]⟩
    · rintro x rest q s' ⟨rfl, rfl, i, hr, hi, hpre⟩
      have hlt : i < es.size := by
        rcases Nat.lt_or_ge i es.size with h | h
        · exact h
        · rw [Nat.sub_eq_zero_of_le h] at hr; simp at hr
      obtain ⟨rfl, hrest⟩ : x = i ∧ rest = List.range' (i + 1) (es.size - (i + 1)) := by
        have e : es.size - i = (es.size - (i + 1)) + 1 := by omega
        rw [e, List.range'_succ] at hr
        injection hr with h1 h2
        exact ⟨h1, h2⟩
      refine wpAny_bind (wpAny_dictEntries hoa hda ?_)
      have hlx : x < xs.length := by omega
      obtain ⟨k, p, v, hkv⟩ : ∃ k p v, xs[x] = (k, p, v) := ⟨_, _, _, rfl⟩
      have hex : es[x]? = some ⟨knd.hash k, .ref p, v⟩ := by rw [entry_at hea x, List.getElem?_eq_getElem hlx, hkv]; rfl
      rw [hex]
      have hv : v = .bool true := by have := va _ (List.getElem_mem hlx); rw [hkv] at this; exact this
      have hkp : knd.is s'.heap k p := by have := hka _ (List.getElem_mem hlx); rw [hkv] at this; exact this
      subst hv
      have hdrop : xs.drop x = (k, p, .bool true) :: xs.drop (x + 1) := by rw [← hkv]; exact List.drop_eq_getElem_cons hlx
      rw [hdrop, List.all_cons] at hpre
      refine wpAny_bind (wpAny_holding (wpAny_bind (wpAny_dictFind_heap hu hkp hob hdb heb hkb hnb (fun hno => ?_) (fun j p' hj => ?_))))
      · have hn : k ∉ ys.map (·.1) := by
          intro hm
          obtain ⟨y, hy, e⟩ := List.mem_map.mp hm
          obtain ⟨j, hj⟩ := List.getElem?_of_mem hy
          refine hno j y.2 ?_
          rw [hj, ← e]
        rw [show decide (((k, p, Value.bool true) : K × Addr × Value).1 ∈ ys.map (·.1)) = false from decide_eq_false hn, Bool.false_and] at hpre
        rw [hpre] at h
        refine wpAny_pure ?_
        show wpAny _ _ (if (!false) = true then _ else _) _ _ _
        rw [if_pos (by decide)]
        exact wpAny_pure (wpAny_pure h)
      · have hm : k ∈ ys.map (·.1) := List.mem_map.mpr ⟨(k, p'), List.mem_of_getElem? hj, rfl⟩
        rw [show decide (((k, p, Value.bool true) : K × Addr × Value).1 ∈ ys.map (·.1)) = true from decide_eq_true hm, Bool.true_and] at hpre
        have hej : es'[j]? = some ⟨knd.hash k, .ref p'.1, p'.2⟩ := by rw [entry_at heb j, hj]; rfl
        have hv2 : p'.2 = .bool true := vb _ (List.mem_of_getElem? hj)
        refine wpAny_bind (wpAny_dictEntries hob hdb ?_)
        rw [hej]
        show wpAny _ _ (holding [p'.2] (eqBool (.bool true) p'.2)) _ _ _
        rw [hv2]
        refine wpAny_holding (SeqAt.EqAt.same (.bool true) prog w E _ ?_)
        show wpAny _ _ (if (!true) = true then _ else _) _ _ _
        rw [if_neg (by decide)]
        refine wpAny_bind (wpAny_dictEpoch hoa hda ?_)
        rw [if_neg (by simp)]
        exact wpAny_pure ⟨rfl, rfl, x + 1, hrest, hlt, hpre⟩
    · rintro q s' ⟨rfl, rfl, i, hr, hi, hpre⟩
      have hin : i = es.size := by
        rcases Nat.lt_or_ge i es.size with h | h
        · have e : es.size - i = (es.size - (i + 1)) + 1 := by omega
          rw [e, List.range'_succ] at hr; exact nomatch hr
        · exact Nat.le_antisymm hi h
      refine wpAny_pure ?_
      rw [hin, hla, List.drop_length] at hpre
      rw [hpre] at h
      exact h
theorem eq_dictT {Q : Value → Shared → Prop} (ha : (a == sysModules) = false) (hb : (b == sysModules) = false)
    (da : s.heap.DictOfH knd a xs) (db : s.heap.DictOfH knd b ys) (va : ∀ x ∈ xs, x.2.2 = .bool true) (vb : ∀ y ∈ ys, y.2.2 = .bool true) (hu : A.units < cLine) (hr : knd.room A.in1) (h : Q (.bool (xs.length == ys.length && xs.all fun x => decide (x.1 ∈ ys.map (·.1)))) s) :
    wpAny (model prog w) A (compareOp .Eq (.ref a) (.ref b)) Q E s := by
  refine wpAny_richCompare_same_room (op := .Eq) da.typeIs db.typeIs PySem.F.slot_dict_eq (wpAny_call_entry PySem.F.slot_dict_eq da.typeIs PySem.F.entry_dict_eq ?_ (PySem.F.args_dict_eq_2 _ _)) hu
  show wpAny _ _ (Builtin.Dict.dictSlotArgs "__eq__" ⟨[.ref a, .ref b], []⟩ >>= _) _ _ s
  refine wpAny_bind ?_
  unfold Builtin.Dict.dictSlotArgs
  refine wpAny_bind (wpAny_notOrdered_dict da.typeIs ?_)
  show wpAny _ _ (pure (Value.ref a, Value.ref b)) _ _ s
  refine wpAny_pure ?_
  refine wpAny_bind (wpAny_isInstance (T := "dict") db.typeIs PySem.F.sub_dict_dict ?_)
  simp only [Bool.not_true, Bool.false_eq_true, if_false]
  refine wpAny_bind (wpAny_pure (wpAny_bind (wpAny_pure ?_)))
  refine wpAny_bind (samePairsT ha hb da db va vb hr ?_)
  refine wpAny_pure ⟨_, rfl, ?_, ?_⟩
  · exact fun x => nomatch x
  · simpa using h
end
/-! ### what is asked of a class, besides Cls -/
structure OwnQ (K : PySem.W.Frag) (C : Addr) : Prop where
  ca : PySem.W.findIn K (.ref C) "__class__" = some (some (.builtin "object.__class__"))
  cn : PySem.W.specialIn K (.builtin "object.__class__") "__get__" = some (some (.builtin "getset_descriptor.__get__"))
  ct : PySem.W.takesIn K (.builtin "object.__class__") = some true
  mo : PySem.W.mroIn K C (.type "object") = some true
  ne : PySem.W.findIn K (.ref C) "__ne__" = some (some (.builtin "object.__ne__"))
  ci : (PySem.W.clsIn K C).isSome = true
  ty : PySem.W.typeIn K (.ref C) = some (.type "type")
theorem kit_same {K : PySem.W.Frag} {C : Addr} : PySem.W.kitOne K (.ref C) (.ref C) = some true := by
  unfold PySem.W.kitOne
  rw [if_pos (by simp)]
theorem kit_bt {K : PySem.W.Frag} {C : Addr} {T : String} (q : OwnQ K C) (h : PySem.W.subIn K (.type T) (.ref C) = some false) : PySem.W.kitOne K (.type T) (.ref C) = some false := by
  unfold PySem.W.kitOne
  rw [if_neg (by simp)]
  show (if ((PySem.W.clsIn K C).isSome && PySem.W.typeIn K (.ref C) == some (.type "type")) = true then PySem.W.subIn K (.type T) (.ref C) else none) = some false
  rw [if_pos (by rw [q.ci, q.ty]; simp)]
  exact h
/-- the plain types that come here -/
def PlT (T : String) : Prop := T = "NoneType" ∨ T = "int" ∨ T = "bool" ∨ T = "str" ∨ T = "list" ∨ T = "tuple"
theorem PlT.sub {K : PySem.W.Frag} {C : Addr} {T : String} (h : PlT T) : PySem.W.subIn K (.type T) (.ref C) = some false := by
  rcases h with rfl | rfl | rfl | rfl | rfl | rfl
  · exact subIn_bt (l := [.type "NoneType", .type "object"]) (by decide +kernel) (by simp)
  · exact subIn_bt (l := [.type "int", .type "object"]) (by decide +kernel) (by simp)
  · exact subIn_bt (l := [.type "bool", .type "int", .type "object"]) (by decide +kernel) (by simp)
  · exact subIn_bt (l := [.type "str", .type "object"]) (by decide +kernel) (by simp)
  · exact subIn_bt (l := [.type "list", .type "object"]) (by decide +kernel) (by simp)
  · exact subIn_bt (l := [.type "tuple", .type "object"]) (by decide +kernel) (by simp)
section
variable {X : Cx} {CX : CXT} {pins : List (Addr × Obj)} {σ : L2.St} {H : Hp} {s : Shared} {C : Addr} {k j : Nat} {ts : TSp} {E : XK}
/-- the other side of ==: of a plain type, or an instance of the class itself -/
def Oth (K : PySem.W.Frag) (C : Addr) (H : Hp) (y : V) : Prop := (∃ T, PlT T ∧ TyX K H y (.type T)) ∨ ∃ b dy gs, y = .ref b ∧ H b = some (.ins C dy gs)
theorem oth_looks {y : V} {u : Value} (I : Inv X pins σ H s) (ry : RelV y u) (h : Oth X.K C H y) : ∃ tb, PySem.W.Looks (model X.prog X.w) s.heap (typeOf u) tb ∧ PySem.W.notFirst X.K C tb = true := by
  rcases h with ⟨T, hT, ty⟩ | ⟨b, dy, gs, rfl, hb⟩
  · obtain ⟨P, Z, p, _⟩ := kit_of I ry ty
    exact ⟨_, Z.ty _ _ I.kIn p, by unfold PySem.W.notFirst; rw [hT.sub]; simp⟩
  · cases (show u = Value.ref b from ry)
    obtain ⟨mA, J, _⟩ := ins_get I.hok hb
    obtain ⟨od, J, _⟩ := J.look
    exact ⟨_, J.type, by simp [PySem.W.notFirst]⟩
def rEqC (K : PySem.W.Frag) (C : Addr) (sp : Sp) (E : XK) : R2 := fun x y H Q => ∃ a dx fs, x = .ref a ∧ H a = some (.ins C dx fs) ∧ Oth K C H y ∧ sp [x, y] H (fun v H' => ∃ r, v = .bl r ∧ Q (.bl r) H') E
def rNeC (K : PySem.W.Frag) (C : Addr) (sp : Sp) (E : XK) : R2 := fun x y H Q => ∃ a dx fs, x = .ref a ∧ H a = some (.ins C dx fs) ∧ Oth K C H y ∧ sp [x, y] H (fun v H' => ∃ r, v = .bl r ∧ Q (.bl (!r)) H') E
theorem op_eqC (c : ClM X.prog X.w X.K X.mg X.base CX k C "__eq__" ts []) (hr : Room j X.A) (hk : k ≤ j) (hx : Passes CX X E) : OpR X (compareOp .Eq) (rEqC X.K C (spT ts) E) := by
  intro pins s σ H x y v u Q I rx ry h
  obtain ⟨a, dx, fs, rfl, ha, ho, hsp⟩ := h
  obtain ⟨f, fd, ps, ds, F, hm, b, d⟩ := c.ex
  cases (show v = Value.ref a from rx)
  obtain ⟨tb, hb, hn⟩ := oth_looks I ry ho
  obtain ⟨mA, J, _⟩ := ins_get I.hok ha
  obtain ⟨od, J, _⟩ := J.look
  obtain ⟨m, hF⟩ := I.fr
  show wpAny (model X.prog X.w) X.A (richCompare .Eq (.ref a) u) _ X.xe s
  refine PySem.W.cmp_K (op := .Eq) hr.units0 hF I.ok.mod.kin J hb hn hm.at_ hm.fn ?_
  refine wpAny_mono (run_fn F (hr.mono hk) b d hx I (vs := [V.ref a, y]) (us := [.ref a, u]) (.cons rfl (.cons ry .nil)) hsp) (fun v s' z => ?_) fun _ _ x => x
  obtain ⟨z, H', I', rz, r, ez, q⟩ := z
  subst ez
  cases rz
  exact ⟨.bl r, H', I', rfl, q⟩
theorem op_neC (c : ClM X.prog X.w X.K X.mg X.base CX k C "__eq__" ts []) (oq : OwnQ X.K C) (hr : Room j X.A) (hk : k + 1 ≤ j) (hx : Passes CX X E) : OpR X (compareOp .NotEq) (rNeC X.K C (spT ts) E) := by
  intro pins s σ H x y v u Q I rx ry h
  obtain ⟨a, dx, fs, rfl, ha, ho, hsp⟩ := h
  obtain ⟨f, fd, ps, ds, F, hm, b, d⟩ := c.ex
  cases (show v = Value.ref a from rx)
  obtain ⟨tb, hb, hn⟩ := oth_looks I ry ho
  obtain ⟨mA, J, _⟩ := ins_get I.hok ha
  obtain ⟨od, J, _⟩ := J.look
  obtain ⟨m, hF⟩ := I.fr
  show wpAny (model X.prog X.w) X.A (richCompare .NotEq (.ref a) u) _ X.xe s
  have hu : X.A.units + 1 < cLine := by have := hr.un; omega
  refine ne_K hu hF I.ok.mod.kin J hb hn oq.mo oq.ne hm.at_ hm.fn ?_
  have r2 : Vals ([V.ref a, y] ++ []) ([Value.ref a, u] ++ ds) := Vals.append (Paired.cons rfl (.cons ry .nil) : Vals [V.ref a, y] [Value.ref a, u]) d
  have hl : ([Value.ref a, u] ++ ds).length = ps.length := by rw [← r2.length]; exact F.len _ _ _ _ hsp
  have hr1 : Room k X.A.in1 := Room.in1 (hr.mono hk)
  refine wpAny_call (codeAny_mono (F.run X.A.in1 X.stack s H ⟨[.ref a, u], []⟩ ([.ref a, u] ++ ds) [V.ref a, y] _ E hr1 I.env0.in1 (b s _ I.kIn hl) r2 hsp) fun r s' hq => ?_)
  cases r with
  | error e => exact hx pins σ H s e s' I hq
  | ok fl =>
    cases fl with
    | ret w =>
      obtain ⟨z, H', I', rz, r, ez, q⟩ := I.after hq
      subst ez
      cases rz
      exact ⟨r, rfl, .bl _, H', I', rfl, q⟩
    | next => exact False.elim hq
    | brk => exact False.elim hq
    | cont => exact False.elim hq
/-- == of two dicts whose keys are pairs of texts -/
def rEqT : R2 := fun x y H Q => ∃ (a b : Addr) (ps qs : List (Str × Str)), x = .ref a ∧ y = .ref b ∧ H a = some (.dT (ps.map pkV)) ∧ H b = some (.dT (qs.map pkV)) ∧ Q (.bl (ps.length == qs.length && ps.all fun p => decide (p ∈ qs))) H
theorem kt_true {H : Hp} : ∀ {ps : List (Str × Str)} {xs : List (List Key × Addr × Value)}, KT H (ps.map pkV) xs → (∀ x ∈ xs, x.2.2 = .bool true) ∧ xs.map (·.1) = ps.map (fun p => [Sum.inr p.1, Sum.inr p.2])
  | [], _, .nil => ⟨fun x h => by simp at h, rfl⟩
  | p :: ps, _, .cons h t => by
    obtain ⟨h1, h2⟩ := kt_true t
    refine ⟨fun x hx => ?_, ?_⟩
    · rcases List.mem_cons.mp hx with e | hx
      · subst e; exact h.2.2
      · exact h1 x hx
    · rw [List.map_cons, List.map_cons, h2, ← h.1]; rfl
theorem all_keys {K β α : Type} [DecidableEq K] {f : α → K} (inj : ∀ p p', f p = f p' → p = p') {xs ys : List (K × β)} {ps qs : List α} [∀ p : α, Decidable (p ∈ qs)] (na : xs.map (fun x => x.1) = ps.map f) (nb : ys.map (fun x => x.1) = qs.map f) :
    (xs.all fun x => decide (x.1 ∈ ys.map (fun y => y.1))) = (ps.all fun p => decide (p ∈ qs)) := by
  rw [show (xs.all fun x => decide (x.1 ∈ ys.map (fun y => y.1))) = (xs.map (fun x => x.1)).all (fun c => decide (c ∈ ys.map (fun y => y.1))) from by rw [List.all_map]; rfl, na, nb, List.all_map]
  congr 1
  funext p
  show decide (f p ∈ qs.map f) = decide (p ∈ qs)
  refine decide_eq_decide.mpr ⟨fun h => ?_, fun h => List.mem_map.mpr ⟨p, h, rfl⟩⟩
  obtain ⟨p', hp, e⟩ := List.mem_map.mp h
  rwa [inj _ _ e] at hp
theorem op_eqT (hu : X.A.units + 1 < cLine) : OpR X (compareOp .Eq) rEqT := by
  intro pins s σ H x y v u Q I rx ry h
  obtain ⟨a, b, ps, qs, rfl, rfl, ea, eb, q⟩ := h
  cases (show v = Value.ref a from rx)
  cases (show u = Value.ref b from ry)
  obtain ⟨_, ha, xs, ra, da⟩ := dt_of I.hok ea
  obtain ⟨_, hb, ys, rb, db⟩ := dt_of I.hok eb
  obtain ⟨va, na⟩ := kt_true ra
  obtain ⟨vb, nb⟩ := kt_true rb
  refine eq_dictT ha hb da db va vb (Nat.lt_of_succ_lt hu) (tupleKind_room_in1 hu) ⟨.bl _, H, I, rfl, ?_⟩
  have lx : xs.length = ps.length := by have := congrArg List.length na; simpa using this
  have ly : ys.length = qs.length := by have := congrArg List.length nb; simpa using this
  have e := all_keys (f := fun p : Str × Str => ([Sum.inr p.1, Sum.inr p.2] : List Key)) (fun p p' e => by
    have e1 : p.1 = p'.1 := by injection e with e1 _; injection e1
    have e2 : p.2 = p'.2 := by injection e with _ e2; injection e2 with e3 _; injection e3
    exact Prod.ext e1 e2) na nb
  rw [lx, ly, e]
  exact q
end
/-! ### list(d.items()), the dict frozen or not -/
def rItemsR : V → Hp → VK → Prop := fun x H Q => ∃ (d : Addr) (kvs : List (Key × V)), x = .ref d ∧ Rd H d (.dK kvs) ∧
  ∀ (H' : Hp) (p : Addr) (ts : List Addr), (∀ b o, H b = some o → H' b = some o) → H p = none → (∀ t ∈ ts, H t = none) → p ∉ ts → H' p = some (.lst (ts.map V.ref)) → Paired (fun (t : Addr) (q : Key × V) => H' t = some (.tup [kV q.1, q.2])) ts kvs → Q (.ref p) H'
def tItemsR (te : TE) : TE := fun σ H Q => te σ H fun x H1 => rItemsR x H1 Q
theorem pe_itemsR {X : Cx} {e : Expr} {te : TE} {p apos cpos pos : Pos} (hc : X.calm = true) (he : PE X e te) (hg : Gl X "list") (hm : X.mg "list" = none) (hv : bootBuiltins "list" = some (.type "list")) (hbase : attributeBase e "items" X.env (eval e X.env) = eval e X.env := by rfl) (hline : (apos.endLine == cpos.line) = true := by rfl)
    (hs : starEach [.Call (.Attribute e "items" apos) [] [] cpos] X.env = (false, eval (.Call (.Attribute e "items" apos) [] [] cpos) X.env) :: starEach [] X.env := by rfl) :
    PE X (.Call (.Name "list" p) [.Call (.Attribute e "items" apos) [] [] cpos] [] pos) (tItemsR te) := by
  refine ⟨fun pins s σ H Q I hq => ?_⟩
  refine wpAny_Call_Name_kw (ld_blt I hg hm hv (callWith_type1 ?_ hs rfl))
  rw [hs]
  show wpAny _ _ (spliced ((false, eval (.Call (.Attribute e "items" apos) [] [] cpos) X.env) :: backTo pos (starEach [] X.env))) _ _ s
  refine Calls.spliced_cons (wpAny_Call_method (T := "dict") (id := "dict.items") hbase rfl hline PySem.F.plainAttrs_dict PySem.F.slot_dict_items PySem.F.type_dict_items (thn (he.run pins s σ H _ I hq) fun u s1 ⟨x, H1, I1, rx, d, kvs, ex, hd, q⟩ => ?_))
  subst ex
  cases (show u = Value.ref d from rx)
  obtain ⟨hz, hs0, vs, kv, hdo⟩ := dk_rd I1.hok hd
  obtain ⟨ep, hat⟩ := hdo.dictAt
  have lk : kvs.length = vs.length := Paired.length kv
  have I2 : Inv X pins σ H1 { s1 with heap := s1.heap.push { cls := .type "dict_items", data := .fields #[.ref d] } } := I1.kept (t' := s1.toks) fun b ob q => Heap.get?_push_of_some _ q
  refine ⟨hdo.typeIs, hdo.mapOf.noDict, ?_⟩
  show wpAny _ _ (callWith cpos (.builtin "dict.items") [.ref d] [] []) _ X.xe s1
  refine method_meetsIn PySem.F.slot_dict_items PySem.F.entry_dict_items rfl (PySem.evalArgs_none ⟨rfl, hdo.typeIs, PySem.F.args_dict_items_1 _, _, meets_dict_items (mixKind X.prog X.w) d hs0, ⟨vs, hdo⟩, Calls.spliced_nil ?_⟩)
  refine PySem.W.kdx_call (knd := mixKind X.prog X.w) (kvs := vs) (ep := ep) (I1.ok.hd hc) ⟨_, Heap.get?_push_size _ rfl, rfl, rfl⟩ (hat.push _) (by omega) fun h' tk acc c as hk hS hl hG hacc => ?_
  obtain ⟨H', k1, k2, k3, k4, k5, k6, J⟩ := LiI.items_laid (tk := tk) I2 hz kv hk hS hl hG hacc
  exact ⟨.ref _, H', J, rfl, q H' _ as k1 k2 k3 k4 k5 k6⟩
/-- many new objects, kept in the stable part -/
theorem Stp.grow {S H H' : Hp} {M : SH} (e : Same S H) (m : MOk S H M) (hx : ∀ b o, H b = some o → H' b = some o) (D : List Addr) (new : ∀ b ∈ D, H b = none) : Stp S H (fun b => if b ∈ D then H' b else S b) H' M M := by
  have nS : ∀ b ∈ D, S b = none := fun b hb => by
    cases q : S b with
    | none => rfl
    | some u => have := e _ _ q; rw [new b hb] at this; cases this
  have sm : Same S (fun b => if b ∈ D then H' b else S b) := fun b u q => by
    show (if b ∈ D then H' b else S b) = some u
    rw [if_neg (fun z => by rw [nS b z] at q; cases q)]
    exact q
  refine ⟨sm, fun b u q => ?_, fun b h1 h2 => ?_, fun b u _ q => hx b u q, ⟨fun b P hp => ?_, m.nd⟩, fun _ h => .inl h⟩
  · by_cases hb : b ∈ D
    · simpa only [if_pos hb] using q
    · have q' : S b = some u := by simpa only [if_neg hb] using q
      exact hx _ _ (e _ _ q')
  · by_cases hb : b ∈ D
    · exact .inl (fre_none (new b hb))
    · exact absurd (by simpa only [if_neg hb] using h1) h2
  · obtain ⟨z, u, q1, q2⟩ := m.at_ b P hp
    have hb : b ∉ D := fun w => by rw [new b w] at q1; cases q1
    exact ⟨by simpa only [if_neg hb] using z, u, hx _ _ q1, P.m sm q2⟩
section
variable {E : XK} {K : PySem.W.Frag} {Γ : Ct} {M : SH} {k : KR} {X : KX} {R R1 R2 : Rep} {te ta tb tl : TE} {vs : List Nat} {D : EndT} {t u : TS} {c tt : TT} {tr : TA} {C : Addr}
theorem items_all {S : Hp} : ∀ {ts : List Addr} {vs : List (Key × V)} {kvs : FR}, Paired (fun (t : Addr) (q : Key × V) => S t = some (.tup [kV q.1, q.2])) ts vs → DkOk S kvs vs → All2 S (kvs.map fun p => aTup K [aStr p.1, p.2]) (ts.map V.ref)
  | _, _, [], .nil, _ => True.intro
  | _, _, _ :: _, .nil, h => by have := h.nm; simp at this
  | _, _, [], .cons _ _, h => by have := h.nm; simp at this
  | t :: ts, v :: vs, p :: kvs, .cons h r, ok => by
    have nm := ok.nm
    have al := ok.al
    rw [List.map_cons, List.map_cons] at nm
    injection nm with n1 n2
    refine ⟨⟨t, _, rfl, SqT.of h, ?_, al.1, True.intro⟩, items_all r ⟨n2, al.2⟩⟩
    rw [n1]
    rfl
theorem ev_itemsR (h : Ev E te Γ M (fun R M1 => ∃ kvs, HasD M1 R kvs ∧ k (iLst (kvs.map fun p => aTup K [aStr p.1, p.2])) M1) X) : Ev E (tItemsR te) Γ M k X := fun σ S H Q I o ox =>
  h σ S H _ I (fun v S1 H1 R M1 ⟨kvs, hd, q⟩ st p => by
    obtain ⟨a, ws, rfl, hr, ok⟩ := hd.get st.e st.m p
    refine ⟨a, ws, rfl, hr, fun H' p' ts hx hp hts hpn hl hpr => ?_⟩
    have g := Stp.grow st.e st.m hx (p' :: ts) (fun b hb => by
      rcases List.mem_cons.mp hb with e | hb
      · rw [e]; exact hp
      · exact hts b hb)
    refine o (.ref p') _ H' _ M1 q (st.trans g) ⟨p', ts.map V.ref, rfl, (if_pos (List.mem_cons_self ..)).trans hl, ?_⟩
    refine items_all (vs := ws) ?_ (ok.mono g.s)
    have gen : ∀ {l : List Addr} {w : List (Key × V)}, (∀ b ∈ l, b ∈ ts) → Paired (fun (t : Addr) (q : Key × V) => H' t = some (.tup [kV q.1, q.2])) l w → Paired (fun (t : Addr) (q : Key × V) => (if t ∈ p' :: ts then H' t else S1 t) = some (.tup [kV q.1, q.2])) l w := by
      intro l w hs pr
      induction pr with
      | nil => exact .nil
      | cons h t ih =>
        refine .cons ?_ (ih fun b hb => hs b (List.mem_cons_of_mem _ hb))
        rw [if_pos (List.mem_cons_of_mem _ (hs _ (List.mem_cons_self ..)))]
        exact h
    exact gen (fun _ h => h) hpr) ox
/-! ### the typed rules -/
def OthR (K : PySem.W.Frag) (C : Addr) (M : SH) (R : Rep) : Prop := ∀ S H y, Same S H → MOk S H M → R.p S y → Oth K C H y
theorem othR_T {T : String} (h : IsT K R T) (hT : PlT T) : OthR K C M R := fun S H y e _ p => .inl ⟨T, hT, h S H y e p⟩
theorem othR_O {fs : FR} (h : HasO M R C fs) : OthR K C M R := fun S H y e m p => by
  obtain ⟨a, dx, vs, rfl, ha, _⟩ := h.get e m p
  exact .inr ⟨a, dx, vs, rfl, ha⟩
theorem o_eqC {ts : TSp} {fs : FR} (ho : HasO M R1 C fs) (hy : OthR K C M R2) (q : ts [R1, R2] M (fun R M' => ∃ b, R = iBl b ∧ k (iBl b) M') X0) : O2 (rEqC K C (spT ts) E0) R1 R2 M k := fun x y S H Q e m h1 h2 o => by
  obtain ⟨a, dx, vs, rfl, ha, hi⟩ := ho.get e m h1
  refine ⟨a, dx, vs, rfl, ha, hy S H y e m h2, S, [R1, R2], M, _, X0, q, e, m, ⟨h1, h2, True.intro⟩, fun v S2 H2 R M2 ⟨b, eR, q2⟩ st p => ?_, fun _ _ _ _ _ _ z => z.elim⟩
  subst eR; cases p
  exact ⟨b, rfl, o _ S2 H2 (iBl b) M2 q2 st rfl⟩
theorem o_neC {ts : TSp} {fs : FR} (ho : HasO M R1 C fs) (hy : OthR K C M R2) (q : ts [R1, R2] M (fun R M' => ∃ b, R = iBl b ∧ k (iBl (!b)) M') X0) : O2 (rNeC K C (spT ts) E0) R1 R2 M k := fun x y S H Q e m h1 h2 o => by
  obtain ⟨a, dx, vs, rfl, ha, hi⟩ := ho.get e m h1
  refine ⟨a, dx, vs, rfl, ha, hy S H y e m h2, S, [R1, R2], M, _, X0, q, e, m, ⟨h1, h2, True.intro⟩, fun v S2 H2 R M2 ⟨b, eR, q2⟩ st p => ?_, fun _ _ _ _ _ _ z => z.elim⟩
  subst eR; cases p
  exact ⟨b, rfl, o _ S2 H2 (iBl (!b)) M2 q2 st rfl⟩
theorem o_eqT {ps qs : List (Str × Str)} (h1 : HasP M R1 ps) (h2 : HasP M R2 qs) : O2p rEqT R1 R2 M (iBl (ps.length == qs.length && ps.all fun p => decide (p ∈ qs))) := o2_val fun x y S H e m p1 p2 => by
  obtain ⟨a, rfl, ha⟩ := h1.get e m p1
  obtain ⟨b, rfl, hb⟩ := h2.get e m p2
  exact ⟨_, rfl, fun Q q => ⟨a, b, ps, qs, rfl, rfl, ha, hb, q⟩⟩
theorem ev_ref {a : Addr} (q : k (iRef a) M) : Ev E (tC (.ref a)) Γ M k X := fun σ S H Q I o _ => o _ S H (iRef a) M q (Stp.refl I.ex I.m) rfl
theorem c_isiO {fs : FR} (cl : Cls K C) (oq : OwnQ K C) (h : HasO M R C fs) : Olp (rIsi K) [R, iRef C] M (iBl true) := ol_val fun xs S H e m p => by
  obtain ⟨v, w, rfl, p1, p2⟩ := all2_2 p
  cases p2
  obtain ⟨a, dx, vs, rfl, ha, _⟩ := h.get e m p1
  exact ⟨_, rfl, fun Q q => ⟨.ref a, .ref C, _, _, true, rfl, .own C, .base (.ins ha cl oq.ca oq.cn oq.ct oq.mo), kit_same, q⟩⟩
theorem c_isiP {T : String} (oq : OwnQ K C) (h : IsT K R T) (hT : PlT T) : Olp (rIsi K) [R, iRef C] M (iBl false) := ol_val fun xs S H e m p => by
  obtain ⟨v, w, rfl, p1, p2⟩ := all2_2 p
  cases p2
  exact ⟨_, rfl, fun Q q => ⟨v, .ref C, _, _, false, rfl, .own C, h S H v e p1, kit_bt oq hT.sub, q⟩⟩
end
end L3

/-! small words: room for ==, data that is equal -/
namespace L3
open PySem L2 RZ PyProof.Rows
theorem hu1_of {A : Around} {k : Nat} (hr : Room k A) : A.units + 1 < cLine := by have := hr.un; omega
theorem eqvAll_map {α : Type} [DecidableEq α] {g : α → PyData} (h : ∀ x y, PyData.eqv (g x) (g y) = decide (x = y)) : ∀ l m : List α, PyData.eqvAll (l.map g) (m.map g) = decide (l = m)
  | [], [] => by simp [PyData.eqvAll]
  | [], _ :: _ => by simp [PyData.eqvAll]
  | _ :: _, [] => by simp [PyData.eqvAll]
  | a :: l, b :: m => by
    simp only [List.map_cons, PyData.eqvAll, h a b, eqvAll_map h l m]
    rw [Bool.eq_iff_iff]
    simp
theorem eqv_str (x y : Str) : PyData.eqv (.str x) (.str y) = decide (x = y) := by
  show (x == y) = _
  rw [Bool.eq_iff_iff]
  simp
theorem eqv_int (x y : Int) : PyData.eqv (.int x) (.int y) = decide (x = y) := by
  show (x == y) = _
  rw [Bool.eq_iff_iff]
  simp
theorem eqv_tuple (xs ys : List PyData) : PyData.eqv (.tuple xs) (.tuple ys) = PyData.eqvAll xs ys := by simp [PyData.eqv]
theorem eqv_list (xs ys : List PyData) : PyData.eqv (.list xs) (.list ys) = PyData.eqvAll xs ys := by simp [PyData.eqv]
section
variable {K : PySem.W.Frag} {M : SH}
/-- == and != of lists of data of one kind -/
theorem o_eqL {α : Type} [DecidableEq α] {g : α → PyData} {e : α → Rep} (he : ∀ x, e x = iDat K (g x)) (h : ∀ x y, PyData.eqv (g x) (g y) = decide (x = y)) {l m : List α} (hl : ∀ x ∈ l, Shp 63 (g x)) (hm : ∀ x ∈ m, Shp 63 (g x)) :
    O2p (rEqD K) (iLst (l.map e)) (iLst (m.map e)) M (iBl (decide (l = m))) := by
  have := o_eqD (K := K) (M := M) (d := .list (l.map g)) (e := .list (m.map g)) ((shp_list (fun d hd => by obtain ⟨x, hx, rfl⟩ := List.mem_map.mp hd; exact hl x hx) : Shp 64 _).ok) ((shp_list (fun d hd => by obtain ⟨x, hx, rfl⟩ := List.mem_map.mp hd; exact hm x hx) : Shp 64 _).ok)
  rw [eqv_list, eqvAll_map h] at this
  refine this.as ?_ ?_
  · exact dat_lst (dat_maps he l)
  · exact dat_lst (dat_maps he m)
theorem o_neL {α : Type} [DecidableEq α] {g : α → PyData} {e : α → Rep} (he : ∀ x, e x = iDat K (g x)) (h : ∀ x y, PyData.eqv (g x) (g y) = decide (x = y)) {l m : List α} (hl : ∀ x ∈ l, Shp 63 (g x)) (hm : ∀ x ∈ m, Shp 63 (g x)) :
    O2p (rNeD K) (iLst (l.map e)) (iLst (m.map e)) M (iBl (!decide (l = m))) := by
  have := o_neD (K := K) (M := M) (d := .list (l.map g)) (e := .list (m.map g)) ((shp_list (fun d hd => by obtain ⟨x, hx, rfl⟩ := List.mem_map.mp hd; exact hl x hx) : Shp 64 _).ok) ((shp_list (fun d hd => by obtain ⟨x, hx, rfl⟩ := List.mem_map.mp hd; exact hm x hx) : Shp 64 _).ok)
  rw [eqv_list, eqvAll_map h] at this
  refine this.as ?_ ?_
  · exact dat_lst (dat_maps he l)
  · exact dat_lst (dat_maps he m)
end
section
variable {E : XK} {K : PySem.W.Frag} {Γ : Ct} {M : SH} {k : KR} {X : KX} {R R1 R2 : Rep} {te ta tb tl : TE} {vs : List Nat} {D : EndT} {t u : TS} {c tt : TT} {tr : TA} {wi : TI} {n : Nat} {rs : Nat → Rep → Prop}
/-- a comprehension whose list is to be changed -/
theorem ev_lcPX {g : TG} (hv : vs ≠ []) (hi : Tip E wi Γ M n rs) (hn : n ≤ 1000000) (f : Nat → Bool) (v : Nat → Rep)
    (h : ∀ i r, i < n → rs i r → Tg g r (wipeC Γ vs) M vs fun Γ3 M3 => M3 = M ∧ Etp E tt Γ3 M (f i) ∧ (f i = true → Ep E te Γ3 M (v i))) (q : ∀ a, k (iRef a) (M ++ [(a, mLst (given n f v))])) : Ev E (tLc wi g tt te vs) Γ M k X :=
  ev_lcX hv (hi _ _ ⟨hn, fun i acc M2 => given i f v = acc ∧ M = M2, ⟨rfl, rfl⟩, fun i r acc M2 hlt hr _ ⟨e1, e2⟩ => by
    subst e1; subst e2
    refine fun x σ S H Q I p o => h i r hlt hr x σ S H Q I p fun σ2 S2 H2 Γ2 M3 ⟨e3, h1, h2⟩ st I2 w2 => ?_
    subst e3
    refine o σ2 S2 H2 Γ2 _ (h1 _ _ ?_) st I2 w2
    cases hf : f i with
    | true => simpa using h2 hf _ _ ⟨given_yes hf, rfl⟩
    | false => simpa using given_no (v := v) hf, fun acc M2 _ ⟨e1, e2⟩ a => by
    subst e1; subst e2
    exact q a⟩)
theorem ev_lcLX {α β : Type} {l : List α} {e : α → Rep} {j : Nat} {p : α → Bool} {q : α → β} {e' : β → Rep} (hi : Ep E tl Γ M (iLst (l.map e))) (hn : l.length ≤ 1000000) (hj : j ∈ vs)
    (ht : ∀ x ∈ l, Etp E tt ((wipeC Γ vs).set j (some (e x))) M (p x)) (he : ∀ x ∈ l, p x = true → Ep E te ((wipeC Γ vs).set j (some (e x))) M (e' (q x)))
    (hq : ∀ a, k (iRef a) (M ++ [(a, mLst (((l.filter p).map q).map e'))])) : Ev E (tLc (iList K tl) (gName j) tt te vs) Γ M k X := by
  cases l with
  | nil =>
    exact ev_lcPX (fun z => by rw [z] at hj; cases hj) (tip_list hi) (by simp) (fun _ => true) (fun _ => iNon) (fun i r hi _ => by simp at hi) hq
  | cons d l' =>
    refine ev_lcPX (fun z => by rw [z] at hj; cases hj) (tip_list hi) (by simpa using hn) (fun i => p ((d :: l').getD i d)) (fun i => e' (q ((d :: l').getD i d))) (fun i r hi hr => ?_) ?_
    · rw [List.getElem?_map] at hr
      have hi' : i < (d :: l').length := by simpa using hi
      rw [List.getElem?_eq_getElem hi'] at hr
      have hx : (d :: l').getD i d = (d :: l')[i] := by rw [List.getD_eq_getElem?_getD, List.getElem?_eq_getElem hi']; rfl
      have hm : (d :: l')[i] ∈ (d :: l') := List.getElem_mem hi'
      cases hr
      rw [hx]
      exact tg_name ⟨rfl, ht _ hm, fun z => he _ hm z⟩ (.inr hj)
    · have := given_list (d :: l') p (fun x => e' (q x)) d
      rw [List.length_map, this, show ((d :: l').filter p).map (fun x => e' (q x)) = (((d :: l').filter p).map q).map e' by rw [List.map_map]; rfl]
      exact hq
theorem ev_lcFX {α : Type} {l : List α} {e : α → Rep} {j : Nat} {p : α → Bool} (hi : Ep E tl Γ M (iLst (l.map e))) (hn : l.length ≤ 1000000) (hj : j ∈ vs)
    (ht : ∀ x ∈ l, Etp E tt ((wipeC Γ vs).set j (some (e x))) M (p x)) (he : ∀ x ∈ l, p x = true → Ep E te ((wipeC Γ vs).set j (some (e x))) M (e x))
    (hq : ∀ a, k (iRef a) (M ++ [(a, mLst ((l.filter p).map e))])) : Ev E (tLc (iList K tl) (gName j) tt te vs) Γ M k X :=
  ev_lcLX (q := id) (e' := e) hi hn hj ht he (by rw [List.map_id]; exact hq)
end
end L3

/-! dict comprehensions with keys of any kind; dicts whose keys are tuples; two fors in a comprehension; x += e -/
namespace L3
open PySem PySem.Spec L2 RZ PyProof.Rows
/-! ### {k: v for ..}, low -/
/-- the store that a comprehension makes -/
theorem putAny {X : Cx} {pins : List (Addr × Obj)} {σ : L2.St} {H H2 : Hp} {s : Shared} {E : Value → Shared → Prop} {D : Addr} {y v : V} {ku vu : Value} {Q : Unit → Shared → Prop}
    (room : X.A.units + 1 < cLine) (inv : Inv X pins σ H s) (put : DPut H D y v H2) (ky : RelV y ku) (vy : RelV v vu) (next : ∀ s2, Inv X pins σ H2 s2 → Q () s2) :
    wpAny (model X.prog X.w) X.A (dictSet D ku vu) Q E s := by
  rcases put with ⟨kvs, key, hD, rfl, small, rfl⟩ | ⟨kvs, key, b, hD, rfl, hb, small, rfl⟩
  · exact d_dictSet inv hD small ky vy next
  · cases (show ku = Value.ref b from ky)
    obtain ⟨lz, nD, xs, rel, held⟩ := dt_of inv.hok hD
    have lx : xs.length ≤ sizeLine := Paired.length rel ▸ lz
    have lp := length_putK kvs key v
    refine wpAny_dictSet_heap (hsz := lx) (show (tupleKind (mixKind X.prog X.w)).room X.A from Nat.lt_of_succ_lt room) (key_of inv.hok hb) held (fun g held2 same => next _ ?_)
    obtain ⟨ob, ents, ep, a1, a2, a3, a4, _, a5⟩ := held2
    have mu : Mut (H D) := by rw [hD]; trivial
    refine d_write inv mu same ⟨ob, a1⟩ ⟨by omega, nD, _, ?_, ob, ents, ep, a1, a2, a3, a4, a5⟩
    exact (rel.put key hb vy).keeps fun c ys ec => (upd_ne (ne_of ec hD fun z => nomatch z)).trans ec
def tDcA (o0 : HO) (wi : TI) (g : TG) (tt : TT) (tk tv : TE) (vs : List Nat) : TE := fun σ H Q => wi σ H fun J H1 => ∀ D, H1 D = none →
  ∃ W : Nat → Nat → Hp → Prop, (∃ m, W 0 m (upd H1 D o0)) ∧ ∀ i m H, W i m H →
    (J.stop i H ∧ Q (.ref D) H) ∨ (J.go i H ∧ ∃ Z : Hp → Prop, (∀ H', Z H' → ∃ n, n < m ∧ W (i + 1) n H') ∧
      ∀ x H', J.yld i H x H' → g x (L2.wipe σ vs) H' fun σ2 H2 => L2.wipe σ2 vs = L2.wipe σ vs ∧ tt σ2 H2 fun b H3 =>
        if b = true then tk σ2 H3 fun y H4 => tv σ2 H4 fun z H5 => ∃ H6, DPut H5 D y z H6 ∧ Z H6 else Z H3)
theorem cls_empty {P : Program} {w : World} {H : Hp} {o0 : HO} (h0 : o0 = .dK [] ∨ o0 = .dT []) (h : Heap) (big : sysModules < h.objs.size) : ObjOk P w H (h.push { cls := .type "dict", data := .dict #[] }) h.objs.size o0 := by
  rcases h0 with rfl | rfl
  · exact dk_empty h big
  · exact dt_empty h big
section
variable {X : Cx} {kx vx tg iter : Expr} {ifs : List Expr} {scope : Scope} {own : List (Str × Nat)} {wi : TI} {g : TG} {tt : TT} {tk tv : TE}
/-- what a turn leaves behind: the block's context as at the turn's begin -/
theorem turnEnd {B : Cx} {ps : List (Addr × Obj)} {σ σ2 : L2.St} {H2 : Hp} {h1 : Heap} {s2 : Shared} {fp : List Addr} {it : Addr} {tg : Expr} {J : It} {tn : Nat → Heap → Prop} {i : Nat} (T : Turn B.prog B.w B.K tg J fp it tn) (t1 : tn i h1) (vs : List Nat)
    (J2 : Inv B ([] ++ pinsAt fp h1) σ2 H2 s2) (e : L2.wipe σ2 vs = L2.wipe σ vs) : Inv B [] (L2.wipe σ vs) H2 s2 ∧ tn i s2.heap ∧ ∀ b ∈ fp, H2 b = none := by
  have held : ∀ b ∈ fp, ∀ o, h1.get? b = some o → s2.heap.get? b = some o ∧ H2 b = none := fun b hb o q => by
    have z := J2.pin (b, o) (List.mem_append_right _ (List.mem_append_right _ (mem_pinsAt hb q)))
    exact ⟨z.1, z.2.1⟩
  refine ⟨(J2.unpinned (pins := [])).weak (by rw [← e, L2.wipe_length]) (fun j v q => ?_), T.keep _ _ _ t1 fun b hb o q => (held b hb o q).1, fun b hb => ?_⟩
  · rw [← e] at q
    exact (wipe_some q).1
  · obtain ⟨o, q, _⟩ := T.obj _ _ t1 b hb
    exact (held b hb o q).2
theorem dcRun {s0 : Shared} {Hb : Hp} {ce : Env} {fp : List Addr} {D it : Addr} {tn : Nat → Heap → Prop} {J : It} {σ : L2.St} {W : Nat → Nat → Hp → Prop} {R : Result → Shared → Prop} {pos : Pos} {s4 : Shared} {m0 : Nat} (vs : List Nat) (room : X.A.units + 1 < cLine) (calm : X.calm = true)
    (T : Turn X.prog X.w X.K tg J fp it tn) (pg : PG (X.blk s0 Hb scope ce fp) tg g) (pt : PTs (X.blk s0 Hb scope ce fp) ifs tt) (pk : PE (X.blk s0 Hb scope ce fp) kx tk) (pv : PE (X.blk s0 Hb scope ce fp) vx tv)
    (turn : ∀ i m H, W i m H → (J.stop i H ∧ ∀ s', Inv (X.blk s0 Hb scope ce fp) [] (L2.wipe σ vs) H s' → R (.ok .next) s') ∨ (J.go i H ∧ ∃ Z : Hp → Prop, (∀ H', Z H' → ∃ n, n < m ∧ W (i + 1) n H') ∧
      ∀ x H', J.yld i H x H' → g x (L2.wipe σ vs) H' fun σ2 H2 => L2.wipe σ2 vs = L2.wipe σ vs ∧ tt σ2 H2 fun b H3 =>
        if b = true then tk σ2 H3 fun y H4 => tv σ2 H4 fun z H5 => ∃ H6, DPut H5 D y z H6 ∧ Z H6 else Z H3))
    (I0 : Inv (X.blk s0 Hb scope ce fp) [] (L2.wipe σ vs) Hb s4) (t0 : tn 0 s4.heap) (n0 : ∀ b ∈ fp, Hb b = none) (w0 : W 0 m0 Hb) :
    codeAny (model X.prog X.w) X.A (.compLoop (.DictComp kx vx [⟨tg, iter, ifs, 0⟩] scope pos) 0 (.ref it) (.ref D) ce) R s4 := by
  let B := X.blk s0 Hb scope ce fp
  have ready : ∀ {σ' : L2.St} {H' : Hp} {s' : Shared}, Inv B [] σ' H' s' → (∀ b ∈ fp, H' b = none) → ∀ b ∈ fp, FpOk B [] H' b := fun Iv nn b hb => by
    obtain ⟨c1, c2⟩ := Iv.ok.exf b hb
    exact ⟨nn b hb, c1, Iv.ok.exfs b hb, .inl hb, fun x c e => c2 x c e, fun p hp => absurd hp (by rw [List.nil_append]; exact List.not_mem_nil)⟩
  refine compLoop_anyD (fun n s' => ∃ i H', Inv B [] (L2.wipe σ vs) H' s' ∧ tn i s'.heap ∧ (∀ b ∈ fp, H' b = none) ∧ W i n H') (fun n s5 ⟨i, H5, I5, t5, n5, w5⟩ => ?_) m0 ⟨0, Hb, I0, t0, n0, w0⟩
  have fr := ready I5 n5
  rcases turn i n H5 w5 with ⟨stop, told⟩ | ⟨go, Z, back, step⟩
  · refine thnF (T.done B rfl rfl rfl calm i [] s5 _ H5 (fun _ _ => False) I5 fr t5 stop) fun r s6 z => ?_
    obtain ⟨rfl, I6⟩ := z
    exact told s6 I6
  · refine thnF (T.item B rfl rfl rfl calm i [] s5 _ H5 (fun _ _ => False) I5 fr t5 go) fun r s6 z => ?_
    obtain ⟨u, rfl, h6⟩ := z
    refine thnF h6 fun _ s7 z => ?_
    obtain ⟨x, H7, I7, r7, y7, t7, n7⟩ := z
    have P7 := I7.pinned (ready I7 n7) (T.obj _ _ t7)
    refine thnF (pg.run _ s7 _ H7 x u _ P7 r7 (step x H7 y7)) fun _ s8 z => ?_
    obtain ⟨σ8, H8, I8, e8, q8⟩ := z
    have close : ∀ {s' : Shared} {H' : Hp}, Inv B ([] ++ pinsAt fp s7.heap) σ8 H' s' → Z H' → ∃ k, k < n ∧ ∃ i H', Inv B [] (L2.wipe σ vs) H' s' ∧ tn i s'.heap ∧ (∀ b ∈ fp, H' b = none) ∧ W i k H' := fun Iz hz => by
      obtain ⟨k, hk, w'⟩ := back _ hz
      obtain ⟨a1, a2, a3⟩ := turnEnd (B := B) (ps := []) T t7 vs Iz e8
      exact ⟨k, hk, i + 1, _, a1, a2, a3, w'⟩
    refine thnF (pt.run _ s8 σ8 H8 _ I8 q8) fun b s9 z => ?_
    obtain ⟨H9, I9, q9⟩ := z
    by_cases hb : b = true
    · rw [if_pos hb] at q9 ⊢
      refine thnF (pk.run _ s9 σ8 H9 _ I9 q9) fun ku s10 z => ?_
      obtain ⟨yk, H10, I10, r10, q10⟩ := z
      refine thnF (pv.run _ s10 σ8 H10 _ I10 q10) fun vu s11 z => ?_
      obtain ⟨yv, H11, I11, r11, H12, put, hz⟩ := z
      exact putAny (X := B) room I11 put r10 r11 fun s12 I12 => close I12 hz
    · rw [if_neg hb] at q9 ⊢
      exact close I9 q9
/-- {k: v for target in iter if ..}: the value goes to use -/
theorem dcCore {o0 : HO} {pos pos2 : Pos} {use : Option (Value → Sem Unit)} {Qf : Value → Shared → Prop} {pins : List (Addr × Obj)} {s : Shared} {σ : L2.St} {H : Hp} {Q : VK} (I : Inv X pins σ H s) (h0 : o0 = .dK [] ∨ o0 = .dT []) (room : X.A.units + 1 < cLine) (calm : X.calm = true) (nodup : X.N.Nodup) (hi : PI X tg iter wi) (ok : BlkOk X.N X.env.scope scope own)
    (pg : ∀ s H C cl fp, PG (X.blk s H scope (compEnvC scope cl C X.env) fp) tg g) (pt : ∀ s H C cl fp, PTs (X.blk s H scope (compEnvC scope cl C X.env) fp) ifs tt)
    (pk : ∀ s H C cl fp, PE (X.blk s H scope (compEnvC scope cl C X.env) fp) kx tk) (pv : ∀ s H C cl fp, PE (X.blk s H scope (compEnvC scope cl C X.env) fp) vx tv)
    (fo : ∀ x, foldedSetIterable iter X.env x = pure x) (h : tDcA o0 wi g tt tk tv (own.map (·.2)) σ H Q)
    (back : ∀ D C s' m H', Inv X pins σ H' s' → Q (.ref D) H' → s'.heap.Ns C m → FpOk X pins H' C → compPost (model X.prog X.w) X.A X.xe use Qf (.ref D) C (.ok .next) s') :
    wpAny (model X.prog X.w) X.A (comprehension (.DictComp kx vx [⟨tg, iter, ifs, 0⟩] scope pos) scope X.env pos2 newDict false (eval iter X.env) use) Qf X.xe s := by
  have cells : ∀ y ∈ scope.names, y.2 = .free → ∃ c, X.env.cells.lookup y.1 = some c := fun y hy e => I.ok.has _ ((ok.free y hy e).elim .inl .inr)
  refine wpAny_comprehension_free (use := use) rfl fo (closure_ok cells) ok.kind (fun y hy e => by rw [ok.uniq y hy, e]) ?_
  refine thn (hi.run pins s σ H _ I h) fun xv s1 hx => thn hx fun itv s2 z => ?_
  obtain ⟨it, fp, tn, J, H2, rfl, I2, T, t2, f2, q⟩ := z
  refine wpAny_newObj_type (newEnv_comp ?_)
  try dsimp only
  obtain ⟨W, ⟨m0, w0⟩, turn⟩ := q s2.heap.objs.size (I2.hok.fresh (Nat.le_refl _))
  generalize eD : s2.heap.objs.size = D at w0 turn ⊢
  have newD : H2 D = none := I2.hok.fresh (Nat.le_of_eq eD)
  have keep3 : ∀ b o, s2.heap.get? b = some o → (s2.heap.push { cls := .type "dict", data := .dict #[] }).get? b = some o := fun b o e => Heap.get?_push_of_some _ e
  have I3 : Inv X pins σ (upd H2 D o0) { s2 with heap := s2.heap.push { cls := .type "dict", data := .dict #[] } } := by
    refine I2.laid (t' := s2.toks) keep3 (Nat.le_of_eq eD) ?_
    rw [← eD]
    exact cls_empty h0 s2.heap I2.big
  suffices main : ∀ s3 : Shared, Inv X pins σ (upd H2 D o0) s3 → s3.heap = s2.heap.push { cls := .type "dict", data := .dict #[] } →
      codeAny (model X.prog X.w) X.A (.compStart (.DictComp kx vx [⟨tg, iter, ifs, 0⟩] scope pos) 0 (.ref it) (.ref D)
        (compEnvC scope (cellsFrom (s3.heap.objs.size + 1) scope.names (cloFrom X.env.cells scope.names [])) s3.heap.objs.size X.env))
        (compPost (model X.prog X.w) X.A X.xe use Qf (.ref D) s3.heap.objs.size)
        { s3 with heap := pushCells (s3.heap.push { cls := .type "dict", data := .dict #[] }) scope.names } from main _ I3 rfl
  clear I3
  intro s3 I3 h3
  have f3 : ∀ b ∈ fp, FpOk X pins (upd H2 D o0) b ∧ b < s3.heap.objs.size := fun b hb => by
    obtain ⟨o, e, _⟩ := T.obj _ _ t2 b hb
    have lt := Heap.lt_size e
    rw [eD] at lt
    refine ⟨⟨(upd_ne (Nat.ne_of_lt lt)).trans (f2 b hb).1, (f2 b hb).2⟩, ?_⟩
    rw [h3, Heap.size_push, eD]
    exact Nat.lt_succ_of_lt lt
  have t3 : tn 0 s3.heap := T.keep _ _ _ t2 fun b _ o e => by rw [h3]; exact keep3 b o e
  have I4 := block_start I3 ok nodup f3
  generalize eH : upd H2 D o0 = H3 at I3 I4 w0 f3
  generalize ec : cellsFrom (s3.heap.objs.size + 1) scope.names (cloFrom X.env.cells scope.names []) = cl at I4 ⊢
  generalize eS : ({ s3 with heap := pushCells (s3.heap.push { cls := .type "dict", data := .dict #[] }) scope.names } : Shared) = s4 at I4 ⊢
  have t4 : tn 0 s4.heap := T.keep _ _ _ t3 fun b _ o e => by rw [← eS]; exact pushCells_keeps _ _ _ _ (Heap.get?_push_of_some _ e)
  have run := dcRun (X := X) (s0 := s3) (Hb := H3) (ce := compEnvC scope cl s3.heap.objs.size X.env) (D := D) (R := compPost (model X.prog X.w) X.A X.xe use Qf (.ref D) s3.heap.objs.size) (pos := pos) (m0 := m0) (W := W) (σ := σ) (it := it) (iter := iter) (kx := kx) (vx := vx) (ifs := ifs) (own.map (·.2)) room calm T (pg _ _ _ _ _) (pt _ _ _ _ _) (pk _ _ _ _ _) (pv _ _ _ _ _) (fun i m Hx w => ?_) I4 t4 (fun b hb => (f3 b hb).1.1) w0
  · exact codeAny_compStart_dict run (T.self X.A 0 _ _ _ t4 run)
  · rcases turn i m Hx w with ⟨a, b⟩ | z
    · refine .inl ⟨a, fun s' Iz => ?_⟩
      have I7 : Inv X pins σ Hx s' := I3.call' (ch := fp) Iz.os Iz.base Iz.hok Iz.bare fun b hb => by
        obtain ⟨_, z1, _, z3, z4, z5⟩ := (f3 b hb).1
        exact ⟨z3, z1, z4, z5⟩
      have nC : Hx s3.heap.objs.size = none := Iz.free
      obtain ⟨mm, hn, _⟩ := Iz.loc
      exact back D s3.heap.objs.size s' mm Hx I7 b hn (I3.fpOk (Nat.le_refl _) nC)
    · exact .inr z
/-- as a value -/
theorem pe_dcA {o0 : HO} {pos : Pos} (h0 : o0 = .dK [] ∨ o0 = .dT []) (room : X.A.units + 1 < cLine) (calm : X.calm = true) (nodup : X.N.Nodup) (hi : PI X tg iter wi) (ok : BlkOk X.N X.env.scope scope own)
    (pg : ∀ s H C cl fp, PG (X.blk s H scope (compEnvC scope cl C X.env) fp) tg g) (pt : ∀ s H C cl fp, PTs (X.blk s H scope (compEnvC scope cl C X.env) fp) ifs tt)
    (pk : ∀ s H C cl fp, PE (X.blk s H scope (compEnvC scope cl C X.env) fp) kx tk) (pv : ∀ s H C cl fp, PE (X.blk s H scope (compEnvC scope cl C X.env) fp) vx tv)
    (fo : ∀ x, foldedSetIterable iter X.env x = pure x := by intro _; rfl) : PE X (.DictComp kx vx [⟨tg, iter, ifs, 0⟩] scope pos) (tDcA o0 wi g tt tk tv (own.map (·.2))) := by
  refine ⟨fun pins s σ H Q I h => ?_⟩
  rw [arm_eval_DictComp]
  refine dcCore I h0 room calm nodup hi ok pg pt pk pv fo h fun D C s' mm Hx I7 b hn f => ?_
  obtain ⟨g0, g1, _, g3, g4, g5⟩ := f
  exact ⟨mm, hn, fun h' sb => ⟨.ref D, Hx, I7.turned (t' := s'.toks) (fun b o hb e => (sb.2 b hb).trans e) g0 g1 g3 g4 g5, rfl, b⟩⟩
/-- y = {..} -/
theorem ps_setDcA {o0 : HO} {i : Nat} {y : Str} {py pos spos : Pos} (h0 : o0 = .dK [] ∨ o0 = .dT []) (room : X.A.units + 1 < cLine) (calm : X.calm = true) (nodup : X.N.Nodup) (hy : X.N[i]? = some y) (loc : X.env.scope.names.lookup y = some .local)
    (sw : swapsWith (.DictComp kx vx [⟨tg, iter, ifs, 0⟩] scope pos) (some (.Name y py)) spos.line X.env = pure true) (hi : PI X tg iter wi) (ok : BlkOk X.N X.env.scope scope own)
    (pg : ∀ s H C cl fp, PG (X.blk s H scope (compEnvC scope cl C X.env) fp) tg g) (pt : ∀ s H C cl fp, PTs (X.blk s H scope (compEnvC scope cl C X.env) fp) ifs tt)
    (pk : ∀ s H C cl fp, PE (X.blk s H scope (compEnvC scope cl C X.env) fp) kx tk) (pv : ∀ s H C cl fp, PE (X.blk s H scope (compEnvC scope cl C X.env) fp) vx tv)
    (fo : ∀ x, foldedSetIterable iter X.env x = pure x := by intro _; rfl) : PS X (.Assign [.Name y py] (.DictComp kx vx [⟨tg, iter, ifs, 0⟩] scope pos) spos) (tAsg (tDcA o0 wi g tt tk tv (own.map (·.2))) (gName i)) := by
  refine ⟨fun pins s σ H D I h => ?_⟩
  rw [exec_Assign_Name_used _ _ _ _ sw]
  refine wpAny_bind (wpAny_standAt (wpAny_bind (wpAny_bind ?_)))
  refine thn (dcCore (Qf := fun _ s' => SP X pins D .next s') (use := some (assign (.Name y py) X.env)) (Q := fun x H1 => gName i x σ H1 D.nx) I h0 room calm nodup hi ok pg pt pk pv fo h fun L C s' mm Hx I7 b hn f => ?_) fun _ s' hq => wpAny_pure (wpAny_pure hq)
  obtain ⟨_, g1, g2, g3, g4, g5⟩ := f
  show wpAny _ _ (assign (.Name y py) X.env (.ref L)) _ _ _
  refine wpAny_assign_Name (store_ok2 (v := V.ref L) I7 nodup hy (.inl loc) rfl (fun s2 I2 z => ?_) (.inr loc))
  obtain ⟨a, sb, ha⟩ := z
  have apart : C ≠ a := ha.elim (fun z => by rw [z]; exact g1) fun z e => g4 y a z e.symm
  exact ⟨mm, hn.sameBut sb apart, fun h3 sb3 => ⟨_, Hx, I2.turned (t' := s2.toks) (fun b o hb e => (sb3.2 b hb).trans e) ‹_› g1 g3 g4 g5, b⟩⟩
theorem sw_dict {kx vx : Expr} {gs : List Comprehension} {scope : Scope} {pos py : Pos} {y : Str} {l : Nat} {env : Env} (kind : env.scope.kind = .function) (loc : env.scope.names.lookup y = some .local) (line : (py.line == pos.line) = true)
    (apart : (scope.names.any fun (n, k) => n == y && (k == .local || k == .cell)) = false) : swapsWith (.DictComp kx vx gs scope pos) (some (.Name y py)) l env = pure true := by
  have k1 : env.kindOf y = some .local := loc
  have k2 : env.blockKind = .function := by unfold Env.blockKind; rw [kind]; rfl
  unfold swapsWith
  simp only [k2, k1, apart, Expr.pos, line]
  rfl
end
/-! ### typed -/
theorem wipe_self (σ : L2.St) (vs : List Nat) : L2.wipe (L2.wipe σ vs) vs = L2.wipe σ vs := by
  have one : ∀ u ∈ vs, (L2.wipe σ vs).set u none = L2.wipe σ vs := by
    intro u hu
    have gen : ∀ ws : List Nat, u ∈ ws → (L2.wipe σ ws).set u none = L2.wipe σ ws := by
      intro ws
      induction ws with
      | nil => intro z; cases z
      | cons w ws ih =>
        intro z
        show ((L2.wipe σ ws).set w none).set u none = (L2.wipe σ ws).set w none
        by_cases e : w = u
        · subst e; rw [List.set_set]
        · rcases List.mem_cons.mp z with z | z
          · exact absurd z.symm e
          · rw [List.set_comm _ _ e, ih z]
    exact gen vs hu
  have all : ∀ us : List Nat, (∀ u ∈ us, u ∈ vs) → L2.wipe (L2.wipe σ vs) us = L2.wipe σ vs := by
    intro us
    induction us with
    | nil => intro _; rfl
    | cons u us ih =>
      intro hu
      show (L2.wipe (L2.wipe σ vs) us).set u none = L2.wipe σ vs
      rw [ih fun z hz => hu z (List.mem_cons_of_mem _ hz)]
      exact one u (hu u (List.mem_cons_self ..))
  exact all vs fun _ h => h
/-- a key and a value may be put -/
def PutOk (P : MRep) (Rk Rv : Rep) (P' : MRep) : Prop := ∀ S H D y z o, Same S H → P.p S o → H D = some o → Rk.p S y → Rv.p S z → ∃ o', DPut H D y z (upd H D o') ∧ P'.p S o'
section
variable {E : XK} {K : PySem.W.Frag} {Γ : Ct} {M : SH} {k : KR} {X : KX} {R R1 R2 : Rep} {te ta tb tl tk tv : TE} {vs : List Nat} {D : EndT} {t u : TS} {c tt : TT} {tr : TA} {wi : TI} {n : Nat} {rs : Nat → Rep → Prop}
theorem ev_dcG {β : Type} {o0 : HO} {g : TG} (P : β → MRep) (b0 : β) (h00 : ∀ S, (P b0).p S o0) (hv : vs ≠ [])
    (h : Ti E wi Γ M (fun n rs M1 => ∃ J : Nat → β → SH → Prop, J 0 b0 M1 ∧ (∀ i r acc M2, i < n → rs i r → J i acc M2 →
      Tg g r (wipeC Γ vs) M2 vs fun Γ3 M3 => Et E tt Γ3 M3 (fun b M4 => if b = true then Ev E tk Γ3 M4 (fun Rk M5 => Ev E tv Γ3 M5 (fun Rv M6 => ∃ acc', PutOk (P acc) Rk Rv (P acc') ∧ J (i + 1) acc' M6) X0) X0 else J (i + 1) acc M4) X0) ∧
      ∀ acc M2, J n acc M2 → ∀ a, k (iRef a) (M2 ++ [(a, P acc)])) X) : Ev E (tDcA o0 wi g tt tk tv vs) Γ M k X := fun σ S H Q I o ox =>
  h σ S H _ I (fun Jt S1 H1 n rs M1 ⟨V, v0, vs', vd⟩ st w Dl hD => by
    obtain ⟨G, Y, wk, hG, hY⟩ := w
    have s0 := st.trans (Stp.newM (o := o0) (P := P b0) st.e st.m hD (h00 _))
    refine ⟨fun i m H' => m = n - i ∧ i ≤ n ∧ ∃ Sx Mx acc, Same Sx H' ∧ Stp S H Sx H' M (Mx ++ [(Dl, P acc)]) ∧ Same S1 Sx ∧ V i acc Mx, ⟨n, by simp, Nat.zero_le _, S1, M1, b0, s0.e, s0, Same.refl _, v0⟩, ?_⟩
    rintro i m H' ⟨rfl, hi, Sx, Mx, acc, ex, sx, s1, vx⟩
    have hq := hG Sx H' s1 ex
    by_cases hlt : i < n
    · refine .inr ⟨wk.goes i H' hlt hq, fun H'' => ∃ Sx Mx acc, Same Sx H'' ∧ Stp S H Sx H'' M (Mx ++ [(Dl, P acc)]) ∧ Same S1 Sx ∧ V (i + 1) acc Mx, fun H'' z => ⟨n - (i + 1), by omega, rfl, hlt, z⟩, fun x H'' y => ?_⟩
      obtain ⟨S', r, s', hr, pr⟩ := hY i H' x H'' hlt (wk.yields i H' x H'' hlt hq y) Sx (Mx ++ [(Dl, P acc)]) s1 ex sx.m
      have I' : Nv S' H'' (L2.wipe σ vs) (wipeC Γ vs) Mx := by
        have := (I.step (sx.trans s')).wipe vs
        exact ⟨this.ex, this.len, this.sl, this.m.left⟩
      have m' : MOk S' H'' (Mx ++ [(Dl, P acc)]) := s'.m
      refine vs' i r acc Mx hlt hr vx x (L2.wipe σ vs) S' H'' _ I' pr fun σ2 S2 H2 Γ2 M2 q st2 I2 w2 => ⟨(w2 hv).trans (wipe_self σ vs), ?_⟩
      have sf2 := st2.frame m'
      refine q σ2 S2 H2 _ I2 (fun b S3 H3 M3 q3 st3 => ?_) (fun _ _ _ _ _ _ z => z.elim)
      have sf3 := st3.frame sf2.m
      cases b with
      | false =>
        rw [if_neg Bool.false_ne_true] at q3
        rw [if_neg Bool.false_ne_true]
        exact ⟨S3, M3, acc, sf3.e, ((sx.trans s').trans sf2).trans sf3, s1.trans (s'.s.trans (sf2.s.trans sf3.s)), q3⟩
      | true =>
        rw [if_pos rfl] at q3
        rw [if_pos rfl]
        refine q3 σ2 S3 H3 _ (I2.step st3) (fun y S4 H4 R4 M4 q4 st4 p4 => ?_) (fun _ _ _ _ _ _ z => z.elim)
        have sf4 := st4.frame sf3.m
        refine q4 σ2 S4 H4 _ ((I2.step st3).step st4) (fun z S5 H5 R5 M5 q5 st5 p5 => ?_) (fun _ _ _ _ _ _ z => z.elim)
        have sf5 := st5.frame sf4.m
        have tot := ((((sx.trans s').trans sf2).trans sf3).trans sf4).trans sf5
        obtain ⟨acc', put, jn⟩ := q5
        obtain ⟨_, ob, ho, pa⟩ := tot.m.at_ Dl (P acc) (List.mem_append_right _ (List.mem_singleton.mpr rfl))
        obtain ⟨o', dp, po⟩ := put S5 H5 Dl y z ob tot.e pa ho (R4.m sf5.s p4) p5
        have wr := Stp.wrM (A := M5) (B := []) (a := Dl) (P := P acc) (P' := P acc') (o := o') tot.e tot.m po
        exact ⟨_, dp, S5, M5, acc', wr.e, tot.trans wr, s1.trans (s'.s.trans (sf2.s.trans (sf3.s.trans (sf4.s.trans sf5.s)))), jn⟩
    · have e : i = n := by omega
      subst e
      exact .inl ⟨wk.stops H' hq, o (.ref Dl) Sx H' (iRef Dl) _ (vd acc Mx vx Dl) sx rfl⟩) ox
end
end L3

/-! dicts whose keys are tuples of texts and whole numbers -/
namespace L3
open PySem PySem.Spec L2 RZ PyProof.Rows
def kR : Key → Rep
  | .inl i => iInt i
  | .inr z => aStr z
theorem kR_p {S : Hp} {q : Key} {v : V} : (kR q).p S v ↔ v = kV q := by
  cases q <;> exact Iff.rfl
theorem kRs_p {S : Hp} : ∀ {ks : List Key} {vs : List V}, All2 S (ks.map kR) vs ↔ vs = ks.map kV
  | [], [] => ⟨fun _ => rfl, fun _ => True.intro⟩
  | [], _ :: _ => ⟨fun h => h.elim, fun h => nomatch h⟩
  | _ :: _, [] => ⟨fun h => h.elim, fun h => nomatch h⟩
  | q :: ks, v :: vs => by
    constructor
    · rintro ⟨h1, h2⟩
      rw [List.map_cons, kR_p.mp h1, kRs_p.mp h2]
    · intro h
      rw [List.map_cons] at h
      injection h with h1 h2
      exact ⟨kR_p.mpr h1, kRs_p.mpr h2⟩
/-- a tuple that may be a key -/
def aKey (ks : List Key) : Rep := ⟨fun S v => ∃ b, v = .ref b ∧ S b = some (.tup (ks.map kV)), fun e ⟨b, h1, h2⟩ => ⟨b, h1, e _ _ h2⟩⟩
theorem key_tup {K : PySem.W.Frag} {ks : List Key} (S : Hp) (v : V) (h : (aKey ks).p S v) : (aTup K (ks.map kR)).p S v := by
  obtain ⟨b, rfl, hb⟩ := h
  exact ⟨b, _, rfl, SqT.of hb, kRs_p.mpr rfl⟩
/-! what such a dict holds -/
abbrev KRs := List (List Key × Rep)
structure DtOk (S : Hp) (kvs : KRs) (ws : List (List Key × V)) : Prop where
  nm : ws.map (·.1) = kvs.map (·.1)
  al : All2 S (kvs.map (·.2)) (ws.map (·.2))
theorem DtOk.mono {S S' : Hp} {kvs : KRs} {ws : List (List Key × V)} (h : DtOk S kvs ws) (e : Same S S') : DtOk S' kvs ws := ⟨h.nm, h.al.mono e⟩
theorem DtOk.len {S : Hp} {kvs : KRs} {ws : List (List Key × V)} (h : DtOk S kvs ws) : ws.length = kvs.length := by
  have := congrArg List.length h.nm
  simpa using this
def lookT (kvs : KRs) (q : List Key) : Option Rep := (kvs.find? fun kv => decide (kv.1 = q)).map (·.2)
theorem lookT_pos {p : List Key × Rep} {r : KRs} {q : List Key} (e : p.1 = q) : lookT (p :: r) q = some p.2 := by simp [lookT, List.find?_cons, e]
theorem lookT_neg {p : List Key × Rep} {r : KRs} {q : List Key} (e : ¬ p.1 = q) : lookT (p :: r) q = lookT r q := by simp [lookT, List.find?_cons, e]
theorem DtOk.look {S : Hp} : ∀ {kvs : KRs} {ws : List (List Key × V)}, DtOk S kvs ws → ∀ q, (lookT kvs q = none → valV ws q = none) ∧ ∀ R, lookT kvs q = some R → ∃ v, valV ws q = some v ∧ R.p S v
  | [], [], _, q => ⟨fun _ => rfl, fun R e => by cases e⟩
  | [], _ :: _, h, _ => by have := h.nm; simp at this
  | _ :: _, [], h, _ => by have := h.nm; simp at this
  | (g, R) :: kvs, (g', v) :: ws, h, q => by
    have e : g' = g := by have := h.nm; simp at this; exact this.1
    subst e
    have ih := DtOk.look (kvs := kvs) (ws := ws) ⟨by have := h.nm; simp at this; exact this, h.al.2⟩ q
    by_cases hf : g' = q
    · rw [lookT_pos (p := (g', R)) hf, valV_pos (p := (g', v)) hf]
      refine ⟨fun z => (nomatch z), fun R' z => ?_⟩
      cases z
      exact ⟨v, rfl, h.al.1⟩
    · rw [lookT_neg (p := (g', R)) hf, valV_neg (p := (g', v)) hf]
      exact ih
theorem DtOk.isSome {S : Hp} {kvs : KRs} {ws : List (List Key × V)} (h : DtOk S kvs ws) (q : List Key) : (valV ws q).isSome = (lookT kvs q).isSome := by
  cases hl : lookT kvs q with
  | none => rw [(h.look q).1 hl]; rfl
  | some R =>
    obtain ⟨v, hv, _⟩ := (h.look q).2 R hl
    rw [hv]
    rfl
def putT (kvs : KRs) (q : List Key) (R : Rep) : KRs := if (lookT kvs q).isSome then kvs.map (fun p => if p.1 = q then (p.1, R) else p) else kvs ++ [(q, R)]
theorem putT_len (kvs : KRs) (q : List Key) (R : Rep) : (putT kvs q R).length ≤ kvs.length + 1 := by unfold putT; split <;> simp
theorem putT_new {kvs : KRs} {q : List Key} {R : Rep} (h : lookT kvs q = none) : putT kvs q R = kvs ++ [(q, R)] := by unfold putT; rw [h]; rfl
theorem DtOk.put {S : Hp} {kvs : KRs} {ws : List (List Key × V)} (h : DtOk S kvs ws) {q : List Key} {R : Rep} {v : V} (p : R.p S v) : DtOk S (putT kvs q R) (putK ws q v) := by
  unfold putT putK
  rw [valV_any, h.isSome]
  cases (lookT kvs q).isSome with
  | true =>
    rw [if_pos rfl, if_pos rfl]
    have gen : ∀ (kvs : KRs) (ws : List (List Key × V)), ws.map (·.1) = kvs.map (·.1) → All2 S (kvs.map (·.2)) (ws.map (·.2)) → DtOk S (kvs.map fun p => if p.1 = q then (p.1, R) else p) (ws.map fun kv => if kv.1 = q then (kv.1, v) else kv) := by
      intro kvs
      induction kvs with
      | nil => intro ws e al; cases ws with
        | nil => exact ⟨rfl, True.intro⟩
        | cons _ _ => simp at e
      | cons x kvs ih => intro ws e al; cases ws with
        | nil => simp at e
        | cons w ws =>
          obtain ⟨w1, w2⟩ := w
          obtain ⟨x1, x2⟩ := x
          simp only [List.map_cons, List.cons.injEq] at e
          obtain ⟨rfl, e2⟩ := e
          have ih2 := ih ws e2 al.2
          by_cases hq : w1 = q
          · refine ⟨?_, ?_⟩
            · simp only [List.map_cons, if_pos hq]
              rw [ih2.nm]
            · simp only [List.map_cons, if_pos hq]
              exact ⟨p, ih2.al⟩
          · refine ⟨?_, ?_⟩
            · simp only [List.map_cons, if_neg hq]
              rw [ih2.nm]
            · simp only [List.map_cons, if_neg hq]
              exact ⟨al.1, ih2.al⟩
    exact gen kvs ws h.nm h.al
  | false =>
    rw [if_neg Bool.false_ne_true, if_neg Bool.false_ne_true]
    refine ⟨by rw [List.map_append, List.map_append, h.nm]; rfl, ?_⟩
    rw [List.map_append, List.map_append]
    exact h.al.app (All2.one p)
def iDT (kvs : KRs) : Rep := ⟨fun S v => ∃ a o ws, v = .ref a ∧ S a = some (.frz o (.dT ws)) ∧ DtOk S kvs ws, fun e ⟨a, o, ws, h1, h2, h3⟩ => ⟨a, o, ws, h1, e _ _ h2, h3.mono e⟩⟩
def mDT (kvs : KRs) : MRep := ⟨fun S o => ∃ ws, o = .dT ws ∧ DtOk S kvs ws, fun e ⟨ws, h1, h2⟩ => ⟨ws, h1, h2.mono e⟩, fun ⟨ws, h1, _⟩ ys z => by rw [h1] at z; cases z⟩
def HasT (M : SH) (R : Rep) (kvs : KRs) : Prop := R = iDT kvs ∨ ∃ (a : Addr) (i : Nat), R = iRef a ∧ M[i]? = some (a, mDT kvs)
theorem ht_f {M : SH} {kvs : KRs} : HasT M (iDT kvs) kvs := .inl rfl
theorem ht_m {M : SH} {kvs : KRs} {a : Addr} {i : Nat} (h : M[i]? = some (a, mDT kvs)) : HasT M (iRef a) kvs := .inr ⟨a, i, rfl, h⟩
theorem HasT.get {M : SH} {R : Rep} {kvs : KRs} (h : HasT M R kvs) {S H : Hp} {v : V} (e : Same S H) (m : MOk S H M) (p : R.p S v) : ∃ a ws, v = .ref a ∧ Rd H a (.dT ws) ∧ DtOk S kvs ws := by
  rcases h with h | ⟨a, i, h, hm⟩
  · subst h
    obtain ⟨a, o, ws, h1, h2, h3⟩ := p
    exact ⟨a, ws, h1, .inr ⟨o, e _ _ h2⟩, h3⟩
  · subst h
    cases p
    obtain ⟨_, o, ho, ws, rfl, h3⟩ := m.at_ _ _ (at_mem hm)
    exact ⟨a, ws, rfl, .inl ho, h3⟩
theorem putOk_T {kvs : KRs} {q : List Key} {R : Rep} (h : kvs.length < 1000000) : PutOk (mDT kvs) (aKey q) R (mDT (putT kvs q R)) := fun S H D y z o e p ho ky vz => by
  obtain ⟨ws, rfl, ok⟩ := p
  obtain ⟨b, rfl, hb⟩ := ky
  exact ⟨_, DPut.t ho (e _ _ hb) (by rw [ok.len]; exact sz_lt (by omega)), _, rfl, ok.put vz⟩
theorem putOk_D {kvs : FR} {q : Str} {R : Rep} (h : kvs.length < 1000000) : PutOk (mDK kvs) (aStr q) R (mDK (putD kvs q R)) := fun S H D y z o e p ho ky vz => by
  obtain ⟨ws, rfl, ok⟩ := p
  cases ky
  exact ⟨_, DPut.k (k := Sum.inr q) ho (by rw [ok.len]; exact sz_lt (by omega)), _, rfl, ok.put vz⟩
section
variable {E : XK} {K : PySem.W.Frag} {Γ : Ct} {M : SH} {k : KR} {X : KX} {R R1 R2 : Rep} {te ta tb tl td ty : TE} {vs : List Nat} {D : EndT} {t u : TS} {c tt : TT} {tr : TA}
theorem ev_dinT (h : Ev E ty Γ M (fun R1 M1 => ∃ q, R1 = aKey q ∧ Ev E td Γ M1 (fun R M2 => ∃ kvs, HasT M2 R kvs ∧ k (iBl (lookT kvs q).isSome) M2) X) X) : Ev E (tDIn ty td) Γ M k X := fun σ S H Q I o ox =>
  h σ S H _ I (fun v S1 H1 R1 M1 ⟨q, e, hq⟩ st p => by
    subst e
    obtain ⟨b, rfl, hb⟩ := p
    refine hq σ S1 H1 _ (I.step st) (fun w S2 H2 R2 M2 ⟨kvs, hd, q2⟩ st2 p2 => ?_) (ox.step st)
    obtain ⟨a, ws, rfl, hr, ok⟩ := hd.get st2.e st2.m p2
    refine ⟨a, valV ws q, rfl, .inr ⟨ws, q, b, hr, rfl, st2.e _ _ (st2.s _ _ hb), rfl⟩, ?_⟩
    rw [ok.isSome]
    exact o _ S2 H2 _ M2 q2 (st.trans st2) rfl) ox
theorem ev_dninT (h : Ev E ty Γ M (fun R1 M1 => ∃ q, R1 = aKey q ∧ Ev E td Γ M1 (fun R M2 => ∃ kvs, HasT M2 R kvs ∧ k (iBl (!(lookT kvs q).isSome)) M2) X) X) : Ev E (tDNotIn ty td) Γ M k X := fun σ S H Q I o ox =>
  h σ S H _ I (fun v S1 H1 R1 M1 ⟨q, e, hq⟩ st p => by
    subst e
    obtain ⟨b, rfl, hb⟩ := p
    refine hq σ S1 H1 _ (I.step st) (fun w S2 H2 R2 M2 ⟨kvs, hd, q2⟩ st2 p2 => ?_) (ox.step st)
    obtain ⟨a, ws, rfl, hr, ok⟩ := hd.get st2.e st2.m p2
    refine ⟨a, valV ws q, rfl, .inr ⟨ws, q, b, hr, rfl, st2.e _ _ (st2.s _ _ hb), rfl⟩, ?_⟩
    rw [ok.isSome]
    exact o _ S2 H2 _ M2 q2 (st.trans st2) rfl) ox
theorem ev_dgetT (h : Ev E td Γ M (fun R1 M1 => ∃ Rd : Rep, Rd = R1 ∧ Ev E ty Γ M1 (fun R2 M2 => ∃ q kvs, R2 = aKey q ∧ HasT M2 R1 kvs ∧ ∃ R, lookT kvs q = some R ∧ k R M2) X) X) : Ev E (tDGet td ty) Γ M k X := fun σ S H Q I o ox =>
  h σ S H _ I (fun v S1 H1 R1 M1 ⟨_, _, hq⟩ st p => by
    refine hq σ S1 H1 _ (I.step st) (fun w S2 H2 R2 M2 ⟨q, kvs, e, hd, R, hl, q2⟩ st2 p2 => ?_) (ox.step st)
    subst e
    obtain ⟨b, rfl, hb⟩ := p2
    obtain ⟨a, ws, rfl, hr, ok⟩ := hd.get st2.e st2.m (R1.m st2.s p)
    obtain ⟨x, hx, px⟩ := (ok.look q).2 R hl
    exact ⟨a, x, rfl, .inr ⟨ws, q, b, hr, rfl, st2.e _ _ hb, hx.symm⟩, o x S2 H2 R M2 q2 (st.trans st2) px⟩) ox
/-- d[t] = v -/
theorem tg_putT {to ti : TE} {kc : KC} (h : Ev E0 to Γ M (fun R1 M1 => ∃ d, R1 = iRef d ∧ Ev E0 ti Γ M1 (fun R2 M2 => ∃ (q : List Key) (i : Nat) (kvs : KRs), R2 = aKey q ∧ M2[i]? = some (d, mDT kvs) ∧ kvs.length < 1000000 ∧ kc Γ (M2.set i (d, mDT (putT kvs q R)))) X0) X0) : Tg (gSub to ti rSetD) R Γ M vs kc := fun v σ S H Q I p o => by
  refine h σ S H _ I (fun w S1 H1 R1 M1 ⟨d, e, hq⟩ st1 p1 => ?_) (fun _ _ _ _ _ _ z => z.elim)
  subst e; cases p1
  refine hq σ S1 H1 _ (I.step st1) (fun w2 S2 H2 R2 M2 ⟨q, i, kvs, e, hi, hl, q2⟩ st2 p2 => ?_) (fun _ _ _ _ _ _ z => z.elim)
  subst e
  obtain ⟨b, rfl, hb⟩ := p2
  have st := st1.trans st2
  obtain ⟨_, ob, ho, ws, rfl, ok⟩ := st2.m.at_ d (mDT kvs) (at_mem hi)
  have wr := Stp.wrAt (P' := mDT (putT kvs q R)) (o := .dT (putK ws q v)) hi st2.e st2.m ⟨_, rfl, ok.put (R.m st.s p)⟩
  exact ⟨d, _, rfl, DPut.t ho (st2.e _ _ hb) (by rw [ok.len]; exact sz_lt (by omega)), o σ S2 _ Γ _ q2 (st.trans wr) ((I.step st).step wr) fun _ => rfl⟩
/-- list(d) -/
def rListT : List V → Hp → VK → Prop := fun xs H Q => ∃ d kvs, xs = [V.ref d] ∧ Rd H d (.dT kvs) ∧ ∀ p bs, H p = none → IsKeys H kvs bs → Q (.ref p) (upd H p (.lst (bs.map V.ref)))
theorem keys_all {S : Hp} : ∀ {ws : List (List Key × V)} {bs : List Addr}, Paired (fun (p : List Key × V) b => S b = some (.tup (p.1.map kV))) ws bs → All2 S (ws.map fun p => aKey p.1) (bs.map V.ref)
  | _, _, .nil => True.intro
  | _, _, .cons h r => ⟨⟨_, rfl, h⟩, keys_all r⟩
/-- tuples that stand become words of the stable part -/
theorem Stp.growT {S H : Hp} {M : SH} (e : Same S H) (m : MOk S H M) (bs : List Addr) (hb : ∀ b ∈ bs, ∃ xs, H b = some (.tup xs)) : Stp S H (fun b => if b ∈ bs then H b else S b) H M M := by
  have sm : Same S (fun b => if b ∈ bs then H b else S b) := fun b u q => by
    show (if b ∈ bs then H b else S b) = some u
    split
    · exact e _ _ q
    · exact q
  have nM : ∀ a P, (a, P) ∈ M → a ∉ bs := fun a P h z => by
    obtain ⟨_, o, q1, q2⟩ := m.at_ a P h
    obtain ⟨xs, q3⟩ := hb a z
    rw [q1] at q3
    exact P.nt q2 xs (Option.some.inj q3)
  refine ⟨sm, fun b u q => ?_, fun b h1 h2 => .inl fun o q => ?_, fun b u _ q => q, ⟨fun a P h => ?_, m.nd⟩, fun b h => .inl h⟩
  · have q : (if b ∈ bs then H b else S b) = some u := q
    split at q
    · exact q
    · exact e _ _ q
  · have h2 : (if b ∈ bs then H b else S b) ≠ none := h2
    split at h2
    · rename_i z
      obtain ⟨xs, q3⟩ := hb b z
      rw [q] at q3
      exact ⟨xs, Option.some.inj q3⟩
    · exact absurd h1 h2
  · obtain ⟨z, o, q1, q2⟩ := m.at_ a P h
    exact ⟨(if_neg (nM a P h)).trans z, o, q1, P.m sm q2⟩
theorem ol_listT {kvs : KRs} (hd : HasT M R kvs) (q : k (iLst (kvs.map fun p => aKey p.1)) M ∨ ∀ a, k (iRef a) (M ++ [(a, mLst (kvs.map fun p => aKey p.1))])) : Ol rListT [R] M k := fun xs S1 H1 Q se sm p o => by
    have st := Stp.refl se sm
    obtain ⟨v, rfl, p1⟩ := all2_1 p
    obtain ⟨a, ws, rfl, hr, ok⟩ := hd.get st.e st.m p1
    refine ⟨a, ws, rfl, hr, fun l bs hl ik => ?_⟩
    have tb : ∀ b ∈ bs, ∃ xs, H1 b = some (.tup xs) := by
      have gen : ∀ {ws : List (List Key × V)} {bs : List Addr}, Paired (fun (p : List Key × V) b => H1 b = some (.tup (p.1.map kV))) ws bs → ∀ b ∈ bs, ∃ xs, H1 b = some (.tup xs) := by
        intro ws bs h
        induction h with
        | nil => intro b hb; cases hb
        | cons h _ ih =>
          intro b hb
          rcases List.mem_cons.mp hb with rfl | hb
          · exact ⟨_, h⟩
          · exact ih b hb
      exact gen ik
    have g := st.trans (Stp.growT st.e st.m bs tb)
    have ka : All2 (fun b => if b ∈ bs then H1 b else S1 b) (kvs.map fun p => aKey p.1) (bs.map V.ref) := by
      have ik2 : Paired (fun (p : List Key × V) b => (fun b => if b ∈ bs then H1 b else S1 b) b = some (.tup (p.1.map kV))) ws bs := by
        have gen : ∀ {ws : List (List Key × V)} {cs : List Addr}, (∀ b ∈ cs, b ∈ bs) → Paired (fun (p : List Key × V) b => H1 b = some (.tup (p.1.map kV))) ws cs → Paired (fun (p : List Key × V) b => (fun b => if b ∈ bs then H1 b else S1 b) b = some (.tup (p.1.map kV))) ws cs := by
          intro ws cs hs h
          induction h with
          | nil => exact .nil
          | cons h _ ih => exact .cons ((if_pos (hs _ (List.mem_cons_self ..))).trans h) (ih fun b hb => hs b (List.mem_cons_of_mem _ hb))
        exact gen (fun _ h => h) ik
      have := keys_all ik2
      have en : ws.map (fun p => aKey p.1) = kvs.map fun p => aKey p.1 := by
        have := congrArg (List.map aKey) ok.nm
        rwa [List.map_map, List.map_map] at this
      rwa [en] at this
    rcases q with q | q
    · exact o (.ref l) _ _ _ M q (g.trans (Stp.newS g.e g.m hl)) ⟨l, _, rfl, upd_same, ka.mono (Same.newS (Same.refl _) (g.e.free hl))⟩
    · exact o (.ref l) _ _ (iRef l) _ (q l) (g.trans (Stp.newM g.e g.m hl ⟨_, rfl, ka⟩)) rfl
/-- a dict with tuple keys is never changed again -/
theorem st_tFzT {i j : Nat} {d : Addr} {kvs : KRs} (hd : M[i]? = some (d, mDT kvs)) (hj : Γ[j]? = some (some (iRef d))) (h : St E t (Γ.set j (some (iDT kvs))) (M.eraseIdx i) D) : St E (tFz t) Γ M D := fun σ S H D0 I o => by
  obtain ⟨_, ob, ho, ws, rfl, ok⟩ := I.m.at_ d (mDT kvs) (at_mem hd)
  refine ⟨d, .dT ws, ho, True.intro, fun od => ?_⟩
  have f1 := Stp.frzAt (od := od) (u := .dT ws) hd I.ex I.m
  obtain ⟨v, hv, pv⟩ := I.sl j (iRef d) hj
  have I1 := I.step f1
  have I2 := I1.set j (v := v) (R := iDT kvs) (by cases pv; exact ⟨d, od, ws, rfl, upd_same, ok.mono f1.s⟩)
  have e2 : σ.set j (some v) = σ := by
    refine List.ext_getElem? fun n => ?_
    by_cases hn : j = n
    · subst hn
      rw [hv, List.getElem?_set_self (List.getElem?_eq_some_iff.mp hv).1]
    · rw [List.getElem?_set_ne hn]
  rw [e2] at I2
  exact h σ _ _ D0 I2 (o.step f1)
/-! ### tuples as keys -/
theorem ev_tupK (h : Ea E tr Γ M (fun Rs M1 => ∃ ks : List Key, Rs = ks.map kR ∧ ks.length ≤ 1000000 ∧ k (aKey ks) M1) X) : Ev E (tTup tr) Γ M k X := fun σ S H Q I o ox =>
  h σ S H _ I (fun xs S1 H1 Rs M1 ⟨ks, e, hl, q⟩ st p => by
    subst e
    have ex := kRs_p.mp p
    subst ex
    exact ⟨sz_le (by rw [List.length_map]; exact hl), fun a ha => o (.ref a) (upd S1 a (.tup (ks.map kV))) _ (aKey ks) M1 q (st.trans (Stp.newS st.e st.m ha)) ⟨a, rfl, upd_same⟩⟩) ox
theorem o_ixK {ks : List Key} {i : Int} {q : Key} (h : atI ks i = some q) : O2p (rIxT K) (aKey ks) (iInt i) M (kR q) := o2_val fun x y S H e m h1 h2 => by
  have := o_ixT (K := K) (M := M) (rs := ks.map kR) (atI_map (f := kR) h) (fun R' M' => R' = kR q ∧ M' = M) ⟨rfl, rfl⟩ x y S H
  cases h2
  obtain ⟨b, rfl, hb⟩ := h1
  have hv : atI (ks.map kV) i = some (kV q) := atI_map h
  exact ⟨kV q, kR_p.mpr rfl, fun Q hq => ⟨b, _, i, kV q, rfl, rfl, SqT.of (e _ _ hb), hv, hq⟩⟩
theorem tg_tupK {gs : TGs} {ks : List Key} {n : Nat} {kc : KC} (hn : ks.length = n) (h : Tgs gs (ks.map kR) Γ M vs kc) : Tg (gTup K n gs) (aKey ks) Γ M vs kc := fun v σ S H Q I p o => by
  obtain ⟨b, rfl, hb⟩ := p
  exact ⟨b, _, rfl, SqT.of (I.ex _ _ hb), by rw [List.length_map]; exact hn, h _ σ S H Q I (kRs_p.mpr rfl) o⟩
theorem ep_keyTup {ks : List Key} (h : Ep E te Γ M (aKey ks)) : Ep E te Γ M (aTup K (ks.map kR)) := h.wk key_tup
/-! ### x += e -/
theorem st_augI {j : Nat} {g : Int → Int → Int} (h : ∃ i, Γ[j]? = some (some (iInt i)) ∧ Ev E te Γ M (fun R M1 => ∃ x, R = iInt x ∧ D.nx (Γ.set j (some (iInt (g i x)))) M1) D.ex) : St E (tAug j te (ipI g)) Γ M D := fun σ S H D0 I o => by
  obtain ⟨i, hj, h⟩ := h
  obtain ⟨v, hv, pv⟩ := I.sl j (iInt i) hj
  cases pv
  exact ⟨.int i, hv, h σ S H _ I (fun w S1 H1 R M1 ⟨x, e, q⟩ st p => by
    subst e; cases p
    exact ⟨i, x, rfl, rfl, o.nx _ S1 H1 _ M1 q st ((I.step st).set j rfl)⟩) o.ex⟩
end
end L3

/-! comprehensions with two fors -/
namespace L3
open PySem PySem.Spec L2 RZ PyProof.Rows
section
variable {E : XK} {K : PySem.W.Frag} {Γ : Ct} {M : SH} {k : KR} {X : KX} {R R1 R2 : Rep} {te ta tb tl : TE} {vs vs1 : List Nat} {tt tt1 : TT} {wi wi1 : TI} {g g1 : TG}
theorem ev_lc2 (hv : vs ≠ []) (hv1 : vs1 ≠ []) (h : Ti E wi Γ M (fun n rs M1 => ∃ J : Nat → List Rep → SH → Prop, J 0 [] M1 ∧ (∀ i r acc M2, i < n → rs i r → J i acc M2 →
      Tg g r (wipeC Γ vs) M2 vs fun Γ3 M3 => Et E tt Γ3 M3 (fun b M4 => if b = true then
        Ti E wi1 Γ3 M4 (fun n1 rs1 M5 => ∃ J1 : Nat → List Rep → SH → Prop, J1 0 acc M5 ∧ (∀ j r1 acc1 M6, j < n1 → rs1 j r1 → J1 j acc1 M6 →
          Tg g1 r1 (wipeC Γ3 vs1) M6 vs1 fun Γ7 M7 => Et E tt1 Γ7 M7 (fun b M8 => if b = true then acc1.length < 1000000 ∧ Ev E te Γ7 M8 (fun R M9 => J1 (j + 1) (acc1 ++ [R]) M9) X0 else J1 (j + 1) acc1 M8) X0) ∧
          ∀ acc1 M6, J1 n1 acc1 M6 → J (i + 1) acc1 M6) X0
        else J (i + 1) acc M4) X0) ∧ ∀ acc M2, J n acc M2 → k (iLst acc) M2) X) : Ev E (tLc2 wi g tt wi1 g1 tt1 te vs vs1) Γ M k X := fun σ S H Q I o ox =>
  h σ S H _ I (fun Jt S1 H1 n rs M1 ⟨V, v0, vs', vd⟩ st w Dl hD => by
    obtain ⟨G, Y, wk, hG, hY⟩ := w
    have s0 := st.trans (Stp.newM (o := .lst []) (P := mLst []) st.e st.m hD ⟨[], rfl, True.intro⟩)
    refine ⟨fun i m H' => m = n - i ∧ i ≤ n ∧ ∃ Sx Mx acc, Same Sx H' ∧ Stp S H Sx H' M (Mx ++ [(Dl, mLst acc)]) ∧ Same S1 Sx ∧ V i acc Mx, ⟨n, by simp, Nat.zero_le _, S1, M1, [], s0.e, s0, Same.refl _, v0⟩, ?_⟩
    rintro i m H' ⟨rfl, hi, Sx, Mx, acc, ex, sx, s1, vx⟩
    have hq := hG Sx H' s1 ex
    by_cases hlt : i < n
    · refine .inr ⟨wk.goes i H' hlt hq, fun H'' => ∃ Sx Mx acc, Same Sx H'' ∧ Stp S H Sx H'' M (Mx ++ [(Dl, mLst acc)]) ∧ Same S1 Sx ∧ V (i + 1) acc Mx, fun H'' z => ⟨n - (i + 1), by omega, rfl, hlt, z⟩, fun x H'' y => ?_⟩
      obtain ⟨S', r, s', hr, pr⟩ := hY i H' x H'' hlt (wk.yields i H' x H'' hlt hq y) Sx (Mx ++ [(Dl, mLst acc)]) s1 ex sx.m
      have I' : Nv S' H'' (L2.wipe σ vs) (wipeC Γ vs) Mx := by
        have := (I.step (sx.trans s')).wipe vs
        exact ⟨this.ex, this.len, this.sl, this.m.left⟩
      have m' : MOk S' H'' (Mx ++ [(Dl, mLst acc)]) := s'.m
      refine vs' i r acc Mx hlt hr vx x (L2.wipe σ vs) S' H'' _ I' pr fun σ2 S2 H2 Γ2 M2 q st2 I2 w2 => ⟨(w2 hv).trans (wipe_self σ vs), ?_⟩
      have sf2 := st2.frame m'
      refine q σ2 S2 H2 _ I2 (fun b S3 H3 M3 q3 st3 => ?_) (fun _ _ _ _ _ _ z => z.elim)
      have sf3 := st3.frame sf2.m
      cases b with
      | false =>
        rw [if_neg Bool.false_ne_true] at q3
        rw [if_neg Bool.false_ne_true]
        exact ⟨S3, M3, acc, sf3.e, ((sx.trans s').trans sf2).trans sf3, s1.trans (s'.s.trans (sf2.s.trans sf3.s)), q3⟩
      | true =>
        rw [if_pos rfl] at q3
        rw [if_pos rfl]
        have I3 := I2.step st3
        refine q3 σ2 S3 H3 _ I3 (fun J1t S4 H4 n1 rs1 M4 ⟨V1, u0, us, ud⟩ st4 w4 => ?_) (fun _ _ _ _ _ _ z => z.elim)
        obtain ⟨G1, Y1, wk1, hG1, hY1⟩ := w4
        have sf4 := st4.frame sf3.m
        have I4 := I3.step st4
        have tot4 := (((sx.trans s').trans sf2).trans sf3).trans sf4
        have same4 := s1.trans (s'.s.trans (sf2.s.trans (sf3.s.trans sf4.s)))
        refine ⟨fun j m H5 => m = n1 - j ∧ j ≤ n1 ∧ ∃ Sy My acc1, Same Sy H5 ∧ Stp S4 H4 Sy H5 (M4 ++ [(Dl, mLst acc)]) (My ++ [(Dl, mLst acc1)]) ∧ V1 j acc1 My, ⟨n1, by simp, Nat.zero_le _, S4, M4, acc, sf4.e, Stp.refl sf4.e sf4.m, u0⟩, ?_⟩
        rintro j m H5 ⟨rfl, hj, Sy, My, acc1, ey, sy, vy⟩
        have hq1 := hG1 Sy H5 sy.s ey
        by_cases hlt1 : j < n1
        · refine .inr ⟨wk1.goes j H5 hlt1 hq1, fun H6 => ∃ Sy My acc1, Same Sy H6 ∧ Stp S4 H4 Sy H6 (M4 ++ [(Dl, mLst acc)]) (My ++ [(Dl, mLst acc1)]) ∧ V1 (j + 1) acc1 My, fun H6 z => ⟨n1 - (j + 1), by omega, rfl, hlt1, z⟩, fun x1 H6 y1 => ?_⟩
          obtain ⟨S6, r1, s6, hr1, pr1⟩ := hY1 j H5 x1 H6 hlt1 (wk1.yields j H5 x1 H6 hlt1 hq1 y1) Sy (My ++ [(Dl, mLst acc1)]) sy.s ey sy.m
          have m6 : MOk S6 H6 (My ++ [(Dl, mLst acc1)]) := s6.m
          have I6 : Nv S6 H6 (L2.wipe σ2 vs1) (wipeC Γ2 vs1) My := by
            have z : Nv S6 H6 (L2.wipe σ2 vs1) (wipeC Γ2 vs1) (My ++ [(Dl, mLst acc1)]) := (Nv.step (M := M4 ++ [(Dl, mLst acc)]) ⟨I4.ex, I4.len, I4.sl, sf4.m⟩ (sy.trans s6)).wipe vs1
            exact ⟨z.ex, z.len, z.sl, z.m.left⟩
          refine us j r1 acc1 My hlt1 hr1 vy x1 (L2.wipe σ2 vs1) S6 H6 _ I6 pr1 fun σ7 S7 H7 Γ7 M7 q7 st7 I7 w7 => ⟨(w7 hv1).trans (wipe_self σ2 vs1), ?_⟩
          have sf7 := st7.frame m6
          refine q7 σ7 S7 H7 _ I7 (fun b S8 H8 M8 q8 st8 => ?_) (fun _ _ _ _ _ _ z => z.elim)
          have sf8 := st8.frame sf7.m
          cases b with
          | false =>
            rw [if_neg Bool.false_ne_true] at q8
            rw [if_neg Bool.false_ne_true]
            exact ⟨S8, M8, acc1, sf8.e, ((sy.trans s6).trans sf7).trans sf8, q8⟩
          | true =>
            rw [if_pos rfl] at q8
            rw [if_pos rfl]
            obtain ⟨hl, q8⟩ := q8
            refine q8 σ7 S8 H8 _ (I7.step st8) (fun z S9 H9 R9 M9 q9 st9 p9 => ?_) (fun _ _ _ _ _ _ z => z.elim)
            have sf9 := st9.frame sf8.m
            have tot := (((sy.trans s6).trans sf7).trans sf8).trans sf9
            obtain ⟨_, ob, ho, xs, rfl, pa⟩ := tot.m.at_ Dl (mLst acc1) (List.mem_append_right _ (List.mem_singleton.mpr rfl))
            have wr := Stp.wrM (A := M9) (B := []) (a := Dl) (P := mLst acc1) (P' := mLst (acc1 ++ [R9])) (o := .lst (xs ++ [z])) tot.e tot.m ⟨_, rfl, pa.app (All2.one p9)⟩
            exact ⟨xs, ho, by rw [pa.len]; exact sz_lt (by omega), S9, M9, acc1 ++ [R9], wr.e, tot.trans wr, q9⟩
        · have e : j = n1 := by omega
          subst e
          exact .inl ⟨wk1.stops H5 hq1, Sy, My, acc1, ey, tot4.trans sy, same4.trans sy.s, ud acc1 My vy⟩
    · have e : i = n := by omega
      subst e
      obtain ⟨_, ob, ho, xs, rfl, pa⟩ := sx.m.at_ Dl (mLst acc) (List.mem_append_right _ (List.mem_singleton.mpr rfl))
      have fz := Stp.fz (A := Mx) (B := []) ex sx.m ho
      have fin := sx.trans fz
      rw [List.append_nil] at fin
      exact .inl ⟨wk.stops H' hq, o (.ref Dl) _ H' (iLst acc) Mx (vd acc Mx vx) fin ⟨Dl, xs, rfl, upd_same, pa.mono fz.s⟩⟩) ox
/-- over data, what is made may not be drawn -/
theorem ep_lc2L {α β γ : Type} {rs : Nat → Rep → Prop} (hv : vs ≠ []) (hv1 : vs1 ≠ []) {l : List α} {m : α → List β} {p : α → β → Bool} {q : α → β → γ} {e : γ → Rep} (hi : Tip E wi Γ M l.length rs) (hn : (l.flatMap fun x => (((m x).filter (p x)).map (q x))).length < 1000000)
    (h : ∀ i x r, l[i]? = some x → rs i r → Tg g r (wipeC Γ vs) M vs fun Γ3 M3 => M3 = M ∧ Etp E tt Γ3 M true ∧ ∃ rs1 : Nat → Rep → Prop, Tip E wi1 Γ3 M (m x).length rs1 ∧
      ∀ j y r1, (m x)[j]? = some y → rs1 j r1 → Tg g1 r1 (wipeC Γ3 vs1) M vs1 fun Γ7 M7 => M7 = M ∧ Etp E tt1 Γ7 M (p x y) ∧ (p x y = true → Ep E te Γ7 M (e (q x y)))) :
    Ep E (tLc2 wi g tt wi1 g1 tt1 te vs vs1) Γ M (iLst ((l.flatMap fun x => (((m x).filter (p x)).map (q x))).map e)) := fun k X hk => by
  refine ev_lc2 hv hv1 (hi _ _ ⟨fun i acc M2 => acc = ((l.take i).flatMap fun x => (((m x).filter (p x)).map (q x))).map e ∧ M2 = M, ⟨rfl, rfl⟩, fun i r acc M2 hlt hr he => ?_, fun acc M2 he => ?_⟩)
  · obtain ⟨rfl, rfl⟩ := he
    have hx : l[i]? = some l[i] := List.getElem?_eq_getElem hlt
    generalize l[i] = x at hx
    intro v σ S H Q I pv o
    refine h i x r hx hr v σ S H Q I pv fun σ2 S2 H2 Γ2 M3 z st I2 w2 => ?_
    obtain ⟨rfl, z1, rs1, z2, z3⟩ := z
    refine o σ2 S2 H2 Γ2 _ (z1 _ _ ?_) st I2 w2
    rw [if_pos rfl]
    refine z2 _ _ ⟨fun j acc M4 => acc = ((l.take i).flatMap fun x => (((m x).filter (p x)).map (q x))).map e ++ ((((m x).take j).filter (p x)).map (q x)).map e ∧ M4 = M3, ⟨by simp, rfl⟩, fun j r1 acc1 M6 hj hr1 he1 => ?_, fun acc1 M6 he1 => ?_⟩
    · obtain ⟨rfl, rfl⟩ := he1
      have hy : (m x)[j]? = some (m x)[j] := List.getElem?_eq_getElem hj
      intro v5 σ5 S5 H5 Q5 I5 pv5 o5
      refine z3 j _ r1 hy hr1 v5 σ5 S5 H5 Q5 I5 pv5 fun σ7 S7 H7 Γ7 M7 z st I7 w7 => ?_
      obtain ⟨rfl, y1, y2⟩ := z
      refine o5 σ7 S7 H7 Γ7 _ (y1 _ _ ?_) st I7 w7
      have tk : ((m x).take (j + 1)).filter (p x) = ((m x).take j).filter (p x) ++ if p x (m x)[j] = true then [(m x)[j]] else [] := by
        rw [List.take_succ, hy, List.filter_append]
        show _ ++ [(m x)[j]].filter (p x) = _
        rw [List.filter_cons]
        split <;> rfl
      refine ite_b (fun c => ?_) (fun c => ?_)
      · refine ⟨?_, y2 c _ _ ⟨?_, rfl⟩⟩
        · have sub : ((l.take i).flatMap fun x => (((m x).filter (p x)).map (q x))).length + ((((m x).take j).filter (p x)).map (q x)).length ≤ (l.flatMap fun x => (((m x).filter (p x)).map (q x))).length := by
            have e1 : l = l.take i ++ (x :: l.drop (i + 1)) := by
              have hi := (List.getElem?_eq_some_iff.mp hx).1
              have hx2 := (List.getElem?_eq_some_iff.mp hx).2
              rw [← hx2, ← List.drop_eq_getElem_cons, List.take_append_drop]
            have e2 : (((m x).take j).filter (p x)).length ≤ ((m x).filter (p x)).length := ((List.take_sublist j (m x)).filter _).length_le
            conv => rhs; rw [e1]
            rw [List.flatMap_append, List.flatMap_cons, List.length_append, List.length_append, List.length_map, List.length_map]
            omega
          rw [List.length_append, List.length_map, List.length_map]
          omega
        · rw [tk, if_pos c]
          simp
      · refine ⟨?_, rfl⟩
        rw [tk, if_neg (by rw [c]; exact Bool.false_ne_true)]
        simp
    · obtain ⟨rfl, rfl⟩ := he1
      refine ⟨?_, rfl⟩
      rw [List.take_length, List.take_succ, hx, List.flatMap_append, List.map_append]
      simp
  · obtain ⟨rfl, rfl⟩ := he
    rw [List.take_length]
    exact hk
/-- over a list, then over a list or a tuple; the targets names -/
theorem ep_lc2S {α β γ : Type} {l : List α} {ea : α → Rep} {m : List β} {eb : β → Rep} {i j : Nat} {p : α → β → Bool} {q : α → β → γ} {e : γ → Rep} {ts : TE} (hi : Ep E tl Γ M (iLst (l.map ea))) (hn : (l.flatMap fun x => ((m.filter (p x)).map (q x))).length < 1000000) (vi : i ∈ vs) (vj : j ∈ vs1)
    (hm : ∀ x ∈ l, Ep E ts ((wipeC Γ vs).set i (some (ea x))) M (aSeq K (m.map eb)))
    (hp : ∀ x ∈ l, ∀ y ∈ m, Etp E tt1 ((wipeC ((wipeC Γ vs).set i (some (ea x))) vs1).set j (some (eb y))) M (p x y))
    (he : ∀ x ∈ l, ∀ y ∈ m, p x y = true → Ep E te ((wipeC ((wipeC Γ vs).set i (some (ea x))) vs1).set j (some (eb y))) M (e (q x y))) :
    Ep E (tLc2 (iList K tl) (gName i) tYes (iSeq K ts) (gName j) tt1 te vs vs1) Γ M (iLst ((l.flatMap fun x => ((m.filter (p x)).map (q x))).map e)) := by
  have hi2 := tip_list (K := K) hi
  rw [List.length_map] at hi2
  refine ep_lc2L (m := fun _ => m) (fun z => by rw [z] at vi; cases vi) (fun z => by rw [z] at vj; cases vj) hi2 hn fun i' x r hx hr => ?_
  rw [List.getElem?_map, hx] at hr
  cases hr
  have mx := List.mem_of_getElem? hx
  refine tg_name ⟨rfl, etp_yes, fun j r => (m.map eb)[j]? = some r, ?_, fun j' y r1 hy hr1 => ?_⟩ (.inr vi)
  · have := tip_seq (hm x mx)
    rwa [List.length_map] at this
  · have hr1 : (m.map eb)[j']? = some r1 := hr1
    rw [List.getElem?_map, hy] at hr1
    cases hr1
    have my := List.mem_of_getElem? hy
    exact tg_name ⟨rfl, hp x mx y my, he x mx y my⟩ (.inr vj)
end
end L3

/-! tuples as keys, marked; calls of defs that change nothing, with defaults and keywords -/
namespace L3
open PySem PySem.Spec L2 RZ PyProof.Rows
def tTupK (tr : TA) : TE := tTup tr
theorem pe_tupK {X : Cx} {e : Expr} {tr : TA} (h : PE X e (tTup tr)) : PE X e (tTupK tr) := h
theorem castPI {X : Cx} {tg e : Expr} {K : PySem.W.Frag} {r : PySem.W.Frag → TI} (h : X.K = K) (o : PI X tg e (r X.K)) : PI X tg e (r K) := h ▸ o
theorem call_listKT {X : Cx} (hc : X.calm = true) : CallR X (.type "list") rListT := call_list_dT hc
def tDInT (ty td : TE) : TE := tDIn ty td
def tDNotInT (ty td : TE) : TE := tDNotIn ty td
def tDGetT (td ty : TE) : TE := tDGet td ty
def gSubT (to ti : TE) : TG := gSub to ti rSetD
theorem pc_inT {X : Cx} {op : CmpOp} {i o : Expr} {ty td : TE} (h : PC X op i o (tDIn ty td)) : PC X op i o (tDInT ty td) := h
theorem pc_ninT {X : Cx} {op : CmpOp} {i o : Expr} {ty td : TE} (h : PC X op i o (tDNotIn ty td)) : PC X op i o (tDNotInT ty td) := h
theorem pe_dgetT {X : Cx} {e : Expr} {td ty : TE} (h : PE X e (tDGet td ty)) : PE X e (tDGetT td ty) := h
theorem pg_subT {X : Cx} {tg : Expr} {to ti : TE} (h : PG X tg (gSub to ti rSetD)) : PG X tg (gSubT to ti) := h
/-- none, or a whole number -/
def iOpt : Option Int → Rep
  | none => iNon
  | some i => iInt i
/-- none, or a key -/
def kOpt : Option (List Key) → Rep
  | none => iNon
  | some q => aKey q
section
variable {E : XK} {K : PySem.W.Frag} {Γ : Ct} {M : SH} {k : KR} {X : KX} {R R1 R2 : Rep} {te ta tb tl td ty : TE} {vs : List Nat} {D : EndT} {t u : TS} {c tt : TT} {tr tk : TA}
theorem ev_inT (h : Ev E ty Γ M (fun R1 M1 => ∃ q, R1 = aKey q ∧ Ev E td Γ M1 (fun R M2 => ∃ kvs, HasT M2 R kvs ∧ k (iBl (lookT kvs q).isSome) M2) X) X) : Ev E (tDInT ty td) Γ M k X := ev_dinT h
theorem ev_ninT (h : Ev E ty Γ M (fun R1 M1 => ∃ q, R1 = aKey q ∧ Ev E td Γ M1 (fun R M2 => ∃ kvs, HasT M2 R kvs ∧ k (iBl (!(lookT kvs q).isSome)) M2) X) X) : Ev E (tDNotInT ty td) Γ M k X := ev_dninT h
theorem ev_getT (h : Ev E td Γ M (fun R1 M1 => ∃ Rd : Rep, Rd = R1 ∧ Ev E ty Γ M1 (fun R2 M2 => ∃ q kvs, R2 = aKey q ∧ HasT M2 R1 kvs ∧ ∃ R, lookT kvs q = some R ∧ k R M2) X) X) : Ev E (tDGetT td ty) Γ M k X := ev_dgetT h
theorem tg_putT1 {to ti : TE} {kc : KC} (h : Ev E0 to Γ M (fun R1 M1 => ∃ d, R1 = iRef d ∧ Ev E0 ti Γ M1 (fun R2 M2 => ∃ (q : List Key) (i : Nat) (kvs : KRs), R2 = aKey q ∧ M2[i]? = some (d, mDT kvs) ∧ kvs.length < 1000000 ∧ kc Γ (M2.set i (d, mDT (putT kvs q R)))) X0) X0) : Tg (gSubT to ti) R Γ M vs kc := tg_putT h
theorem k_key {q : List Key} {P : List Key → Prop} (h : P q) : ∃ q', aKey q = aKey q' ∧ P q' := ⟨q, rfl, h⟩
theorem k_ht_at {P : KRs → Prop} (h : ∃ kvs', HasT M R kvs' ∧ P kvs') : ∃ kvs', HasT M R kvs' ∧ P kvs' := h
theorem k_ht {kvs : KRs} {P : KRs → Prop} (h : HasT M R kvs) (q : P kvs) : ∃ kvs', HasT M R kvs' ∧ P kvs' := ⟨kvs, h, q⟩
theorem k_atI_at {j : Nat} {P : Int → Prop} (h : ∃ i, Γ[j]? = some (some (iInt i)) ∧ P i) : ∃ i, Γ[j]? = some (some (iInt i)) ∧ P i := h
theorem k_atI {j : Nat} {i : Int} {P : Int → Prop} (h : Γ[j]? = some (some (iInt i))) (q : P i) : ∃ i, Γ[j]? = some (some (iInt i)) ∧ P i := ⟨i, h, q⟩
theorem k_putT_at {d : Addr} {q : List Key} {P : List Key → Nat → KRs → Prop} (h : ∃ (q' : List Key) (i : Nat) (kvs : KRs), aKey q = aKey q' ∧ M[i]? = some (d, mDT kvs) ∧ kvs.length < 1000000 ∧ P q' i kvs) : ∃ (q' : List Key) (i : Nat) (kvs : KRs), aKey q = aKey q' ∧ M[i]? = some (d, mDT kvs) ∧ kvs.length < 1000000 ∧ P q' i kvs := h
theorem k_putT {d : Addr} {i : Nat} {q : List Key} {kvs : KRs} {P : List Key → Nat → KRs → Prop} (hm : M[i]? = some (d, mDT kvs)) (hl : kvs.length < 1000000) (h : P q i kvs) : ∃ (q' : List Key) (i : Nat) (kvs : KRs), aKey q = aKey q' ∧ M[i]? = some (d, mDT kvs) ∧ kvs.length < 1000000 ∧ P q' i kvs := ⟨q, i, kvs, rfl, hm, hl, h⟩
theorem ev_tupK1 (h : Ea E tr Γ M (fun Rs M1 => ∃ ks : List Key, Rs = ks.map kR ∧ ks.length ≤ 1000000 ∧ k (aKey ks) M1) X) : Ev E (tTupK tr) Γ M k X := ev_tupK h
theorem k_keySI {z : Str} {i : Int} {P : List Key → Prop} (h : P [.inr z, .inl i]) : ∃ ks : List Key, [aStr z, iInt i] = ks.map kR ∧ ks.length ≤ 1000000 ∧ P ks := ⟨_, rfl, Nat.le_of_ble_eq_true rfl, h⟩
theorem tg_tupSI {gs : TGs} {z : Str} {i : Int} {n : Nat} {kc : KC} (hn : 2 = n) (h : Tgs gs [aStr z, iInt i] Γ M vs kc) : Tg (gTup K n gs) (aKey [.inr z, .inl i]) Γ M vs kc := tg_tupK (ks := [.inr z, .inl i]) hn h
theorem o_ixSI0 {z : Str} {i : Int} : O2p (rIxT K) (aKey [.inr z, .inl i]) (iInt 0) M (aStr z) := o_ixK (ks := [.inr z, .inl i]) (q := .inr z) rfl
theorem o_ixSI1 {z : Str} {i : Int} : O2p (rIxT K) (aKey [.inr z, .inl i]) (iInt 1) M (iInt i) := o_ixK (ks := [.inr z, .inl i]) (q := .inl i) rfl
theorem ev_callKD {sp : List Rep → (Rep → Prop) → Prop} {dvs : List V} {Ds : List Rep} (hd : ∀ S, All2 S Ds dvs) (h : Ea E tr Γ M (fun Rs M1 => ∃ Rs', LeS (Rs ++ Ds) Rs' ∧ sp Rs' fun R => k R M1) X) : Ev E (tCall (spT (pureK sp)) dvs E0 tr) Γ M k X := fun σ S H Q I o ox =>
  h σ S H _ I (fun xs S1 H1 Rs M1 ⟨Rs', le, q⟩ st p =>
    spT_in (Mf := []) (Fr := M1) (Rs := Rs') (X := X0) (k := k) ⟨rfl, q⟩ st.e st.m (le S1 _ (p.app (hd S1))) (o.step st) (fun _ _ _ _ _ _ z => z.elim)) ox
theorem ev_callKDn {sp : List Rep → (Rep → Prop) → Prop} (h : Ea E tr Γ M (fun Rs M1 => ∃ Rs', LeS (Rs ++ [iNon]) Rs' ∧ sp Rs' fun R => k R M1) X) : Ev E (tCall (spT (pureK sp)) [.non] E0 tr) Γ M k X :=
  ev_callKD (Ds := [iNon]) (fun _ => ⟨rfl, True.intro⟩) h
theorem ev_callKN {sp : List Rep → (Rep → Prop) → Prop} {n m : Nat} (h : Ea E tr Γ M (fun Rs M1 => Rs.length = n ∧ Ea E tk Γ M1 (fun Zs M2 => Zs.length = m ∧ ∃ Rs', LeS (Rs ++ Zs) Rs' ∧ sp Rs' fun R => k R M2) X) X) : Ev E (tCallN n m (spT (pureK sp)) (fun vs zs => vs ++ zs) E0 tr tk) Γ M k X := fun σ S H Q I o ox =>
  h σ S H _ I (fun vs S1 H1 Rs M1 ⟨e1, q⟩ st p => q σ S1 H1 _ (I.step st) (fun zs S2 H2 Zs M2 ⟨e2, Rs', le, q2⟩ st2 p2 => by
    refine ⟨p.len.trans e1, p2.len.trans e2, ?_⟩
    exact spT_in (Mf := []) (Fr := M2) (Rs := Rs') (X := X0) (k := k) ⟨rfl, q2⟩ st2.e st2.m (le S2 _ ((p.mono st2.s).app p2)) (o.step (st.trans st2)) (fun _ _ _ _ _ _ z => z.elim)) (ox.step st)) ox
/-- over a range whose bound is read as it comes; what is made may be drawn -/
theorem ev_lcRngD {α : Type} {e : α → Rep} {P : Nat → α → Prop} {j : Nat} (hj : j ∈ vs) (h : Ea E tr Γ M (fun Rs M1 => ∃ m : Nat, Rs = [iInt m] ∧ m ≤ 1000000 ∧
      (∀ i, i < m → ∀ k' : KR, (∀ x, P i x → k' (e x) M1) → Ev E te ((wipeC Γ vs).set j (some (iInt (i : Nat)))) M1 k' X0) ∧
      ∀ l : List α, l.length = m → (∀ i x, l[i]? = some x → P i x) → k (iLst (l.map e)) M1) X) : Ev E (tLc (iRng1 tr) (gName j) tYes te vs) Γ M k X := by
  refine ev_lc (fun z => by rw [z] at hj; cases hj) (ti_rng1 fun σ S H Q I o ox => h σ S H Q I (fun xs S2 H2 Rs M2 z st p => ?_) ox)
  obtain ⟨m, e1, hn, he, q⟩ := z
  refine o xs S2 H2 Rs M2 ⟨m, e1, hn, hn, fun i acc M3 => ∃ l : List α, acc = l.map e ∧ l.length = i ∧ (∀ i x, l[i]? = some x → P i x) ∧ M3 = M2, ⟨[], rfl, rfl, (fun i x h => by simp at h), rfl⟩, fun i r acc M3 hlt hr _ z => ?_, fun acc M3 _ z => ?_⟩ st p
  · obtain ⟨l, e1, e2, e3, e4⟩ := z
    subst e1; subst e4; subst e2; subst hr
    refine tg_name (et_yes ?_) (.inr hj)
    refine (if_pos rfl).mpr (he _ hlt _ fun x hx => ⟨l ++ [x], by simp, by simp, fun i y hy => ?_, rfl⟩)
    rcases Nat.lt_or_ge i l.length with h | h
    · rw [List.getElem?_append_left h] at hy
      exact e3 i y hy
    · rw [List.getElem?_append_right h] at hy
      obtain ⟨h2, h3⟩ := List.getElem?_eq_some_iff.mp hy
      have : i = l.length := by simp at h2; omega
      subst this
      simp at h3
      subst h3
      exact hx
  · obtain ⟨l, e1, e2, e3, e4⟩ := z
    subst e1; subst e4
    exact q l e2 e3
theorem c_maxL {ns : List Int} (h : 0 < ns.length) (q : ∀ m, m ∈ ns → (∀ k ∈ ns, k ≤ m) → k (iInt m) M) : Ol (rMax K) [iLst (ns.map iInt)] M k := fun xs S H Q e m p o => by
  obtain ⟨v, rfl, a, ys, rfl, p1, p2⟩ := all2_1 p
  have : ys = ns.map V.int := All2.flat (fun _ _ h => h) p2
  subst this
  exact ⟨a, ns, rfl, SqL.of (e _ _ p1), h, fun x hx hl => o _ S H (iInt x) M (q x hx hl) (Stp.refl e m) rfl⟩
/-- min(l), l a list of whole numbers that is not empty -/
theorem c_minL {ns : List Int} (h : 0 < ns.length) (q : ∀ m, m ∈ ns → (∀ k ∈ ns, m ≤ k) → k (iInt m) M) : Ol (rMin K) [iLst (ns.map iInt)] M k := fun xs S H Q e m p o => by
  obtain ⟨v, rfl, a, ys, rfl, p1, p2⟩ := all2_1 p
  have : ys = ns.map V.int := All2.flat (fun _ _ h => h) p2
  subst this
  exact ⟨a, ns, rfl, SqL.of (e _ _ p1), h, fun x hx hl => o _ S H (iInt x) M (q x hx hl) (Stp.refl e m) rfl⟩
end
end L3

/-! {} for tuple keys, len of it -/
namespace L3
open PySem PySem.Spec L2 RZ PyProof.Rows
def tDNewTT : TE := tDNewT
theorem pe_dnewTT {X : Cx} {pos : Pos} : PE X (.Dict [] [] pos) tDNewTT := pe_dnewT
section
variable {E : XK} {K : PySem.W.Frag} {Γ : Ct} {M : SH} {k : KR} {X : KX} {R R1 R2 : Rep} {te ta tb tl td ty : TE} {vs : List Nat} {D : EndT} {t u : TS} {c tt : TT} {tr tk : TA}
theorem ev_dnewTT (h : ∀ a, k (iRef a) (M ++ [(a, mDT [])])) : Ev E tDNewTT Γ M k X := fun σ S H Q I o _ => fun p hp =>
  o (.ref p) S _ (iRef p) _ (h p) (Stp.newM (o := .dT []) I.ex I.m hp ⟨[], rfl, rfl, True.intro⟩) rfl
theorem c_lenDT {a : Addr} {i : Nat} {kvs : KRs} (h : M[i]? = some (a, mDT kvs)) : Olp rLenT [iRef a] M (iInt kvs.length) := ol_val fun xs S H e m p => by
  obtain ⟨v, rfl, p1⟩ := all2_1 p
  cases p1
  obtain ⟨_, o, ho, ws, rfl, ok⟩ := m.at_ _ _ (at_mem h)
  exact ⟨_, rfl, fun Q q => ⟨a, ws, rfl, ho, by rw [ok.len]; exact q⟩⟩
end
end L3

/-! walks that come to their end while an exception is handled -/
namespace L3
open PySem PySem.Spec PyProof.Rows L2 HotX
section
variable {prog : Program} {w : World} {A : Around} {E : Value → Shared → Prop} {s : Shared}
/-- nothing is handled, or one whose context is None -/
def HdOk (A : Around) (h : Heap) : Prop := A.handled = none ∨ ∃ x1, HotAt A x1 h
theorem HotAt.kept {A : Around} {x1 : Addr} {h h' : Heap} (t : HotAt A x1 h) (k : ∀ o, h.get? x1 = some o → h'.get? x1 = some o) : HotAt A x1 h' := by
  obtain ⟨a, o, vs, h1, h2, h3⟩ := t
  exact ⟨a, o, vs, k _ h1, h2, h3⟩
/-- a new StopIteration is raised -/
theorem stop_new {α : Type} {Q : α → Shared → Prop} (hd : HdOk A s.heap)
    (hE : ∀ h' e, (∀ b o, s.heap.get? b = some o → h'.get? b = some o) → s.heap.objs.size ≤ e → (∃ o, h'.get? e = some o ∧ o.cls = .type "StopIteration") → E (.ref e) { s with heap := h' }) :
    wpAny (model prog w) A (do let e ← newExc (.type "StopIteration") []; raiseNew e) Q E s := by
  refine wpAny_bind ?_
  simp only [newExc, newTuple]
  refine wpAny_bind (wpAny_newObj_type ?_ (by size_fits))
  refine wpAny_bind (m := firstArgMember _ _) (wpAny_of_eq (a := Value.none) (by first | rfl | (simp only [firstArgMember]; rfl)) ?_)
  refine wpAny_newObj_type ?_ (by size_fits)
  have kp : ∀ {o1 o2 : Obj} b o, s.heap.get? b = some o → ((s.heap.push o1).push o2).get? b = some o := fun b o q => Heap.get?_push_of_some _ (Heap.get?_push_of_some _ q)
  rcases hd with hn | ⟨x1, hot⟩
  · simp only [raiseNew]
    refine wpAny_bind (wpAny_handled ?_)
    first | rw [show A.in1.handled = none from hn] | rw [hn]
    refine wpAny_bind (wpAny_pure (wpAny_throw ?_))
    exact hE _ _ (fun b o q => kp b o q) (by rw [Heap.size_push]; exact Nat.le_succ _) ⟨_, Heap.get?_push_size _ rfl, rfl⟩
  · obtain ⟨_, o1, _, h1, _, _⟩ := id hot
    have ne : x1 ≠ (s.heap.push { cls := .type "tuple", data := .seq (#[] : Array Value) }).objs.size := Nat.ne_of_lt (Heap.lt_size (Heap.get?_push_of_some _ h1))
    refine raiseNew_hot (HotAt.kept hot fun o q => kp _ o q) ne (Heap.get?_push_size _ rfl) rfl (by simp; omega) ?_
    refine hE _ _ (fun b o q => ?_) (by rw [Heap.size_push]; exact Nat.le_succ _) ⟨_, Heap.get?_update_self _ (Heap.get?_push_size _ rfl) rfl, rfl⟩
    rw [Heap.get?_update_other _ _ (Nat.ne_of_gt (Heap.lt_size (Heap.get?_push_of_some _ q)))]
    exact kp b o q
/-- a list's iterator, asked within zip, at its end -/
theorem nextOf_list_stop {it l : Addr} {i : Nat} {items} {Q : Value → Shared → Prop} (hd : HdOk A s.heap) (hx1 : ∀ x1, A.handled = some (.ref x1) → x1 ≠ it)
    (hit : s.heap.IsListIter it l i) (hl : s.heap.IsList l items) (hx : items[i]? = none)
    (hE : ∀ h' e, Heap.ExtBut it s.heap h' → (∃ o, h'.get? e = some o ∧ o.cls = .type "StopIteration") → E (.ref e) { s with heap := h' }) :
    wpAny (model prog w) A (Builtin.SmallTypes.nextOf (.ref it)) Q E s := by
  obtain ⟨o, ho, hc, hdd⟩ := id hit
  obtain ⟨ol, hol, _, nl, hdl⟩ := hl
  unfold Builtin.SmallTypes.nextOf
  refine wpAny_bind (wpAny_callSpecial?_slot (name := Str.ofString "__next__") hit.typeIs slot_listiter_next
    (wpAny_call_entry slot_listiter_next hit.typeIs entry_listiter_next ?_ (args_listiter_next _)))
  show wpAny _ _ (field (.ref it) 0 >>= _) _ _ s
  refine wpAny_bind (wpAny_field ho hdd (x := .ref l) rfl ?_)
  show wpAny _ _ (if (Value.ref l == Value.none) = true then _ else _) _ _ s
  rw [if_neg (show ¬ ((Value.ref l == Value.none) = true) from Bool.false_ne_true)]
  show wpAny _ _ (field (.ref it) 1 >>= _) _ _ s
  refine wpAny_bind (wpAny_field ho hdd (x := .int i 0) rfl ?_)
  show wpAny _ _ (seqItems? (.ref l) >>= _) _ _ s
  refine wpAny_bind (wpAny_seqItems hol hdl ?_)
  simp only [Int.toNat_natCast, hx]
  refine wpAny_bind (wpAny_rule (wpAny_bind (wpAny_setField ho hdd (by simp) ?_)))
  show wpAny _ A.in1 (do let e ← newExc (.type "StopIteration") []; raiseNew e) _ _ _
  refine stop_new (A := A.in1) ?_ fun h' e k _ q => hE h' e (fun b o ne q' => k b o ((Heap.SameBut.update ..).extBut b o ne q')) q
  rcases hd with h | ⟨x1, h⟩
  · exact .inl h
  · exact .inr ⟨x1, HotAt.kept h fun o q => (Heap.SameBut.update ..).extBut _ _ (hx1 x1 h.1) q⟩
/-- zip's turn where the first list is at its end -/
theorem zip_stop {z TI TO i1 i2 l1 l2 : Addr} {k1 : Nat} {xs : Array Value} {a b : Value} {Q : Option Value → Shared → Prop} (hd : HdOk A s.heap) (hx1 : ∀ x1, A.handled = some (.ref x1) → x1 ≠ z ∧ x1 ≠ i1) (D : ZipApart z TI TO i1 i2 l1 l2)
    (hz : IsZip s.heap z TI TO .none) (hTI : IsPair s.heap TI (.ref i1) (.ref i2)) (hTO : IsPair s.heap TO a b)
    (h1 : s.heap.IsListIter i1 l1 k1) (hl1 : s.heap.IsList l1 xs) (hend : xs[k1]? = none)
    (hQ : ∀ h', (∀ c o, c ≠ z → c ≠ i1 → s.heap.get? c = some o → h'.get? c = some o) → Q none { s with heap := h' }) :
    wpAny (model prog w) A (pyNext (.ref z)) Q E s := by
  have hT : s.TypeIs (.ref z) "zip" := ⟨_, hz, rfl⟩
  unfold pyNext
  refine wpAny_bind (wpAny_attempt (wpAny_callSpecial?_slot (name := Str.ofString "__next__") hT F.slot_zip_next (wpAny_call_entry F.slot_zip_next hT F.entry_zip_next ?_ (F.args_zip_next_1 _))))
  show wpAny _ _ (field (.ref z) 2 >>= _) _ _ _
  refine wpAny_bind (wpAny_field hz rfl (x := .bool false) rfl ?_)
  show wpAny _ _ (field (.ref z) 3 >>= _) _ _ _
  refine wpAny_bind (wpAny_field hz rfl (x := .ref TI) rfl ?_)
  refine wpAny_bind (wpAny_seqItems hTI rfl ?_)
  show wpAny _ _ (Builtin.SmallTypes.ownedTupleIsFree (.ref z) >>= _) _ _ _
  refine wpAny_bind ?_
  unfold Builtin.SmallTypes.ownedTupleIsFree
  refine wpAny_bind (wpAny_field hz rfl (x := .none) rfl (wpAny_pure ?_))
  simp only [if_true]
  refine wpAny_bind (wpAny_rule ?_)
  refine wpAny_bind (wpAny_field hz rfl (x := .ref TO) rfl ?_)
  refine wpAny_bind (wpAny_setField_rec hz (by simp) fun h₁ hz₁ hs₁ => ?_)
  replace hz₁ : IsZip h₁ z TI TO .ellipsis := hz₁
  refine wpAny_bind ?_
  simp only [List.zipIdx_cons, List.zipIdx_nil, List.forIn_cons, List.forIn_nil]
  refine wpAny_bind (wpAny_bind (wpAny_onRaise ?_))
  show wpAny _ _ (Builtin.SmallTypes.nextOf (.ref i1) >>= _) _ _ _
  have hd1 : HdOk A.in1 h₁ := by
    rcases hd with h | ⟨x1, h⟩
    · exact .inl h
    · exact .inr ⟨x1, HotAt.kept (A := A) h fun o q => hs₁.extBut _ _ (hx1 x1 h.1).1 q⟩
  refine wpAny_bind (nextOf_list_stop (A := A.in1) (s := { s with heap := h₁ }) hd1 (fun x1 q => (hx1 x1 q).2) (h1.extBut hs₁.extBut D.i1z) (hl1.extBut hs₁.extBut D.l1z) hend fun h₂ e hs₂ he => ?_)
  obtain ⟨oe, hoe, hce⟩ := he
  have hz₂ : IsZip h₂ z TI TO .ellipsis := hs₂ _ _ D.i1z.symm hz₁
  have hez : e ≠ z := fun x => by subst x; rw [hz₂] at hoe; cases hoe; simp at hce
  refine wpAny_setField_rec hz₂ (by simp) fun h₃ _ hs₃ => ?_
  refine wpAny_bind (wpAny_isInstance (T := "StopIteration") (b := true) ⟨_, hs₃.extBut _ _ hez hoe, hce⟩ isSubtype_stop ?_)
  exact wpAny_pure (hQ _ fun c o c1 c2 x => hs₃.extBut _ _ c1 (hs₂ _ _ c2 (hs₁.extBut _ _ c1 x)))
/-- a new pair is taken apart -/
theorem next_tup_stop {it t : Addr} {i : Nat} {items : Array Value} {Q : Option Value → Shared → Prop} (hd : HdOk A s.heap) (hx1 : ∀ x1, A.handled = some (.ref x1) → x1 ≠ it)
    (hit : IsTupIter s.heap it t i) (ht : IsTup s.heap t items) (hx : items[i]? = none) (hQ : ∀ h', Heap.ExtBut it s.heap h' → Q none { s with heap := h' }) : wpAny (model prog w) A (pyNext (.ref it)) Q E s := by
  obtain ⟨o, ho, hc, hdd⟩ := id hit
  obtain ⟨ol, hol, _, nl, hdl⟩ := ht
  unfold pyNext
  refine wpAny_bind (wpAny_attempt (wpAny_callSpecial?_slot (name := Str.ofString "__next__") hit.typeIs F.slot_tuple_iterator_next
    (wpAny_call_entry F.slot_tuple_iterator_next hit.typeIs F.entry_tuple_iterator_next ?_ (F.args_tuple_iterator_next_1 _))))
  show wpAny _ _ (field (.ref it) 0 >>= _) _ _ s
  refine wpAny_bind (wpAny_field ho hdd (x := .ref t) rfl ?_)
  show wpAny _ _ (if (Value.ref t == Value.none) = true then _ else _) _ _ s
  rw [if_neg (show ¬ ((Value.ref t == Value.none) = true) from Bool.false_ne_true)]
  show wpAny _ _ (field (.ref it) 1 >>= _) _ _ s
  refine wpAny_bind (wpAny_field ho hdd (x := .int i 0) rfl ?_)
  show wpAny _ _ (seqItems? (.ref t) >>= _) _ _ s
  refine wpAny_bind (wpAny_seqItems hol hdl ?_)
  simp only [Int.toNat_natCast, hx]
  refine wpAny_bind (wpAny_rule (wpAny_bind (wpAny_setField ho hdd (by simp) ?_)))
  show wpAny _ A.in1 (do let e ← newExc (.type "StopIteration") []; raiseNew e) _ _ _
  refine stop_new (A := A.in1) ?_ fun h' e k _ ⟨oe, q1, q2⟩ => ?_
  · rcases hd with h | ⟨x1, h⟩
    · exact .inl h
    · exact .inr ⟨x1, HotAt.kept (A := A) h fun o q => (Heap.SameBut.update ..).extBut _ _ (hx1 x1 h.1) q⟩
  · refine wpAny_bind (wpAny_isInstance (T := "StopIteration") (b := true) ⟨_, q1, q2⟩ isSubtype_stop ?_)
    exact wpAny_pure (hQ _ fun b o ne q' => k b o ((Heap.SameBut.update ..).extBut b o ne q'))
theorem unpack_tup {t : Addr} {items : Array Value} {Q : List Value → Shared → Prop} (hd : HdOk A s.heap) (ht : IsTup s.heap t items)
    (hQ : ∀ h', Heap.ExtBut s.heap.objs.size s.heap h' → Q items.toList { s with heap := h' }) : wpAny (model prog w) A (unpackItems (.ref t) items.size none) Q E s := by
  have hlt : t ≠ s.heap.objs.size := by obtain ⟨o, ho, _⟩ := ht; exact Nat.ne_of_lt (Heap.lt_size ho)
  unfold unpackItems notIterableAtAll
  refine wpAny_bind (wpAny_bind (wpAny_specialOf ht.typeIs F.slot_tuple_iter.lookup ?_))
  refine wpAny_pure ?_
  simp only [Bool.false_eq_true, if_false]
  refine wpAny_bind (wpAny_holding (iter_tuple ht ?_))
  refine wpAny_bind (wpAny_holding (draw_tuple hlt items.size 0 _ _ ⟨_, Heap.get?_push_size _ rfl, rfl, rfl⟩ (ht.push _) (by omega) fun h₁ hit₁ hs₁ => ?_))
  rw [show List.take items.size (List.drop 0 items.toList) = items.toList from by rw [List.drop_zero]; exact List.take_of_length_le (by simp), if_neg (by simp)]
  have ht₁ : IsTup h₁ t items := (ht.push _).extBut hs₁.extBut hlt
  have hot : ∀ x1, HotAt A x1 s.heap → x1 ≠ s.heap.objs.size := fun x1 h => by
    obtain ⟨_, o1, _, e1, _⟩ := h
    exact Nat.ne_of_lt (Heap.lt_size e1)
  refine wpAny_bind (wpAny_holding (next_tup_stop (s := { s with heap := h₁ }) ?_ (fun x1 q => ?_) hit₁ ht₁ (by simp) fun h₂ he₂ => ?_))
  · rcases hd with h | ⟨x1, h⟩
    · exact .inl h
    · exact .inr ⟨x1, HotAt.kept h fun o q => hs₁.extBut _ _ (hot x1 h) (Heap.get?_push_of_some _ q)⟩
  · rcases hd with h | ⟨x2, h⟩
    · rw [h] at q; cases q
    · have e : some (Value.ref x2) = some (Value.ref x1) := h.1.symm.trans q
      cases e
      exact hot _ h
  · simp only [Option.isSome_none, Bool.false_eq_true, if_false]
    exact wpAny_pure (hQ h₂ fun b o hb e => he₂ b o hb (hs₁.extBut b o hb (Heap.get?_push_of_some _ e)))
end

/-! ### an except suite's rules -/
def HdX (X : Cx) : Prop := ∀ pins σ H s, Inv X pins σ H s → HdOk X.A s.heap
theorem hdX_hot {X : Cx} (c : L2H.HotC X) : HdX X := fun pins σ H s I => .inr (c.at I)
theorem hdX_calm {X : Cx} (c : X.calm = true) : HdX X := fun pins σ H s I => .inl (I.ok.hd c)
section
variable {X : Cx} {pos : Pos}
theorem pg_tupH {es : List Expr} {k : Nat} {t : TGs} {n : Nat} (hc : HdX X) (h : PGs X es t)
    (hn : (assignEach es X.env).length = n := by rfl) (hst : (assignEach es X.env).findIdx? (·.1) = none := by rfl) : PG X (.Tuple es k pos) (gTup X.K n t) := by
  refine ⟨fun pins s σ H v u Q I r hw => ?_⟩
  obtain ⟨a, xs, e1, hq, hl, hw⟩ := hw
  subst e1
  cases r
  obtain ⟨its, rv, ht, hz⟩ := I.tuple hq
  have hsz : (assignEach es X.env).length = its.toArray.size := by simp [hn, ← hl, rv.length]
  rw [PyProof.Rows.assign_Tuple]
  refine wpAny_bind (wpAny_standAt ?_)
  unfold unpack
  rw [hsz, hst]
  refine wpAny_bind (wpAny_holding (unpack_tup (hc _ _ _ _ I) ht fun h' hx => ?_))
  have I1 : Inv X pins σ H { s with heap := h' } := I.kept (t' := s.toks) fun b o e => hx b o (Nat.ne_of_lt (Heap.lt_size e)) e
  exact h.run pins _ σ H xs _ Q I1 (by simpa using rv) hw
theorem ps_parH {i j : Nat} {x y : Str} {a b : Expr} {ta : TA} {px py pt : Pos} {kt k2 pt2} (hc : HdX X) (hN : X.N.Nodup) (hi : X.N[i]? = some x) (hj : X.N[j]? = some y) (hij : i ≠ j)
    (hx : X.env.scope.names.lookup x = some .local) (hy : X.env.scope.names.lookup y = some .local) (ha : PA X [a, b] ta)
    (hw : swappedStores [.Tuple [.Name x px, .Name y py] kt pt] (.Tuple [a, b] k2 pt2) X.env = pure (some [x, y]))
    (hs : swapsWithSole [.Tuple [.Name x px, .Name y py] kt pt] (.Tuple [a, b] k2 pt2) pos.line X.env = pure false := by rfl) :
    PS X (.Assign [.Tuple [.Name x px, .Name y py] kt pt] (.Tuple [a, b] k2 pt2) pos) (tPar i j ta) := by
  refine ⟨fun pins s σ H D I h => ?_⟩
  rw [exec_Assign_arm]
  refine wpAny_bind (wpAny_standAt ?_)
  rw [hs]
  refine wpAny_bind (wpAny_pure ?_)
  rw [if_neg (by decide)]
  refine wpAny_bind (Tuple_ (thn (ha.run _ pins s σ H _ I h) fun us s1 ⟨vs, H1, I1, r1, v, w, e1, q1⟩ => ?_))
  subst e1
  obtain ⟨u1, u2, rfl, rv, rw'⟩ : ∃ u1 u2, us = [u1, u2] ∧ RelV v u1 ∧ RelV w u2 := by
    cases r1 with
    | cons p q =>
      cases q with
      | cons p' q' => cases q'; exact ⟨_, _, rfl, p, p'⟩
  refine wpAny_newObj_type ?_ (by show 2 ≤ sizeLine; decide)
  have I2 : Inv X pins σ H1 { s1 with heap := s1.heap.push { cls := .type "tuple", data := .seq [u1, u2].toArray } } := I1.kept (t' := s1.toks) fun b o e => Heap.get?_push_of_some _ e
  rw [hw]
  refine wpAny_bind (wpAny_pure ?_)
  show wpAny (model X.prog X.w) X.A (do rule "assign.swapped-stores"; let items ← unpackItems (.ref s1.heap.objs.size) 2 none; assignInOrder [fun v => bindName X.env y v, fun v => bindName X.env x v] items.reverse; pure Flow.next) _ _ _
  refine wpAny_bind (wpAny_rule (wpAny_bind (unpack_tup (items := #[u1, u2]) (hc _ _ _ _ I2) (IsTup.new s1.heap _) fun h' hx' => ?_)))
  have I3 := I2.kept (h' := h') (t' := s1.toks) fun b o e => hx' b o (Nat.ne_of_lt (Heap.lt_size e)) e
  show wpAny _ _ (assignInOrder [fun v => bindName X.env y v, fun v => bindName X.env x v] [u2, u1] >>= fun _ => pure Flow.next) _ _ _
  refine wpAny_bind (assignInOrder_cons (wpAny_bindName (store_ok I3 hN hj (.inl hy) rw' (fun s2 I4 => ?_) (.inr hy))))
  refine assignInOrder_cons (wpAny_bindName (store_ok I4 hN hi (.inl hx) rv (fun s3 I5 => assignInOrder_nil (wpAny_pure ?_)) (.inr hx)))
  rw [List.set_comm _ _ (Ne.symm hij)] at I5
  exact ⟨_, H1, I5, q1⟩
end
end L3

/-! [x for a, b in zip(c, d) if t] while an exception is handled -/
namespace L3
open PySem PySem.Spec PyProof.Rows L2 HotX
def ZSt (z TI TO i1 i2 a b : Addr) (i : Nat) (h : Heap) : Prop := IsZip h z TI TO .none ∧ IsPair h TI (.ref i1) (.ref i2) ∧ (∃ x y, IsPair h TO x y) ∧ h.IsListIter i1 a i ∧ h.IsListIter i2 b i
section
variable {X : Cx} {elts : List Expr} {kk : Nat} {tpos : Pos} {a b z TI TO i1 i2 : Addr} {i : Nat} {pins : List (Addr × Obj)} {s : Shared} {σ : L2.St} {H : Hp} {E : Value → Shared → Prop}
theorem zst_item (D : ZipApart z TI TO i1 i2 a b) (I : Inv X pins σ H s) (hf : ∀ c ∈ [z, TI, TO, i1, i2], FpOk X pins H c) (st : ZSt z TI TO i1 i2 a b i s.heap) (hg : (Itz X.K a b).go i H) :
    wpAny (model X.prog X.w) X.A (pyNext (.ref z)) (fun r s1 => ∃ u, r = some u ∧
      wpAny (model X.prog X.w) X.A (letOwnedTupleGo (.Tuple elts kk tpos) (.ref z) u) (fun _ s2 => ∃ x H', Inv X pins σ H' s2 ∧ RelV x u ∧ (Itz X.K a b).yld i H x H' ∧ ZSt z TI TO i1 i2 a b (i + 1) s2.heap ∧ ∀ c ∈ [z, TI, TO, i1, i2], H' c = none) E s1) E s := by
  obtain ⟨hz, hTI, ⟨x0, y0, hTO⟩, h1, h2⟩ := st
  obtain ⟨xs, ys, x, y, hqx, hqy, hx, hy⟩ := hg
  obtain ⟨its, rv, p, _⟩ := I.list hqx
  obtain ⟨its2, rv2, p2, _⟩ := I.list hqy
  obtain ⟨u, hu, ru⟩ := rv.get hx
  obtain ⟨u2, hu2, ru2⟩ := rv2.get hy
  have hzl : z < s.heap.objs.size := Heap.lt_size hz
  have old : ∀ c ∈ [z, TI, TO, i1, i2], c < s.heap.objs.size := fun c hc => by
    obtain ⟨o, q, _⟩ := (turn_zip (P := X.prog) (w := X.w) (K := X.K) (elts := elts) (kk := kk) (tpos := tpos) D).obj i s.heap ⟨hz, hTI, ⟨x0, y0, hTO⟩, h1, h2⟩ c hc
    exact Heap.lt_size q
  refine wpAny_pyNext_zip_item D hz hTI hTO h1 h2 p.isList p2.isList (x := u) (y := u2) (by simpa using hu) (by simpa using hu2) fun h' z' TO' h1' h2' hT hsz hk => ?_
  refine ⟨_, rfl, wpAny_letOwnedTupleGo_zip (s := { s with heap := h' }) z' fun h'' z'' sb => ?_⟩
  have hT2 : h''.get? s.heap.objs.size = some { cls := .type "tuple", data := .seq #[u, u2] } := (sb.2 _ (Nat.ne_of_gt hzl)).trans hT
  have I1 : Inv X pins σ (upd H s.heap.objs.size (.tup [x, y])) { s with heap := h'' } := by
    refine I.turnedNew (t' := s.toks) (ch := [z, TI, TO, i1, i2]) (fun c o hb q => ?_) hf (Nat.le_refl _) ⟨by show 2 ≤ sizeLine; decide, [u, u2], .cons ru (.cons ru2 .nil), ⟨_, hT2, rfl, _, rfl⟩⟩
    have n : c ≠ z ∧ c ≠ TI ∧ c ≠ TO ∧ c ≠ i1 ∧ c ≠ i2 := by simpa using hb
    exact (sb.2 c n.1).trans (hk c o n.1 n.2.2.1 n.2.2.2.1 n.2.2.2.2 q)
  refine ⟨.ref s.heap.objs.size, _, I1, rfl, ⟨_, x, y, rfl, I.hok.fresh (Nat.le_refl _), rfl, fun l hl => by rw [I.list_inj hl hqx]; exact hx, fun l hl => by rw [I.list_inj hl hqy]; exact hy⟩,
    ⟨z'', (sb.2 _ D.TIz).trans (hk _ _ D.TIz D.TITO D.TIi1 D.TIi2 hTI), ⟨u, u2, (sb.2 _ D.TOz).trans TO'⟩, h1'.at fun o q => (sb.2 _ D.i1z).trans q, h2'.at fun o q => (sb.2 _ D.i2z).trans q⟩, fun c hc => ?_⟩
  rw [upd_ne (Nat.ne_of_lt (old c hc))]
  exact (hf c hc).1
theorem zst_done (hd : ∃ x1, HotAt X.A x1 s.heap ∧ x1 ∉ [z, TI, TO, i1, i2]) (D : ZipApart z TI TO i1 i2 a b) (I : Inv X pins σ H s) (hf : ∀ c ∈ [z, TI, TO, i1, i2], FpOk X pins H c) (st : ZSt z TI TO i1 i2 a b i s.heap)
    (hg : ∃ xs ys : List V, SqL X.K H a xs ∧ SqL X.K H b ys ∧ xs.length ≤ i) : wpAny (model X.prog X.w) X.A (pyNext (.ref z)) (fun r s1 => r = none ∧ Inv X pins σ H s1) E s := by
  obtain ⟨hz, hTI, ⟨x0, y0, hTO⟩, h1, h2⟩ := st
  obtain ⟨xs, ys, hqx, _, hend⟩ := hg
  obtain ⟨its, rv, p, _⟩ := I.list hqx
  have l1 := rv.length
  obtain ⟨x1, hot, hx⟩ := hd
  have hx' : x1 ≠ z ∧ x1 ≠ TI ∧ x1 ≠ TO ∧ x1 ≠ i1 ∧ x1 ≠ i2 := by simpa using hx
  refine zip_stop (.inr ⟨x1, hot⟩) (fun x2 q => ?_) D hz hTI hTO h1 p.isList (by simp; omega) fun h' hk => ⟨rfl, I.turnedL (t' := s.toks) (ch := [z, TI, TO, i1, i2]) (fun c o hb q => ?_) hf⟩
  · have e : some (Value.ref x1) = some (Value.ref x2) := hot.1.symm.trans q
    cases e
    exact ⟨hx'.1, hx'.2.2.2.1⟩
  · have n : c ≠ z ∧ c ≠ TI ∧ c ≠ TO ∧ c ≠ i1 ∧ c ≠ i2 := by simpa using hb
    exact hk c o n.1 n.2.2.2.1 q
end

def ItzH (K : PySem.W.Frag) (a b : Addr) : It := ⟨(Itz K a b).go, (Itz K a b).yld, fun i H => ∃ xs ys : List V, SqL K H a xs ∧ SqL K H b ys ∧ xs.length ≤ i⟩
def iZipH (K : PySem.W.Frag) (ta : TA) : TI := fun σ H R => ta σ H fun vs H1 => ∃ a b xs ys, vs = [.ref a, .ref b] ∧ SqL K H1 a xs ∧ SqL K H1 b ys ∧ R (ItzH K a b) H1
section
variable {X : Cx} {pins : List (Addr × Obj)} {s : Shared} {σ : L2.St} {H : Hp} {Q : VK}
theorem lc_zipH {elts : List Expr} {kk : Nat} {e1 e2 elt : Expr} {ifs : List Expr} {scope : Scope} {own : List (Str × Nat)} {p tpos zpos pos : Pos} {ta : TA} {g : TG} {tt : TT} {te : TE}
    (hot : L2H.HotC X) (hN : X.N.Nodup) (hz : Gl X "zip") (hm : X.mg "zip" = none) (ha : PA X [e1, e2] ta) (ok : BlkOk X.N X.env.scope scope own)
    (hg : ∀ (s : Shared) (H : Hp) (C : Addr) (cl : List (Str × Addr)) (fp : List Addr), HdX (X.blk s H scope (compEnvC scope cl C X.env) fp) → PG (X.blk s H scope (compEnvC scope cl C X.env) fp) (.Tuple elts kk tpos) g)
    (ht : ∀ (s : Shared) (H : Hp) (C : Addr) (cl : List (Str × Addr)) (fp : List Addr), PTs (X.blk s H scope (compEnvC scope cl C X.env) fp) ifs tt)
    (he : ∀ (s : Shared) (H : Hp) (C : Addr) (cl : List (Str × Addr)) (fp : List Addr), PE (X.blk s H scope (compEnvC scope cl C X.env) fp) elt te)
    (hs : ∀ x, foldedSetIterable (.Call (.Name "zip" p) [e1, e2] [] zpos) X.env x = pure x := by intro _; rfl)
    (hst : starEach [e1, e2] X.env = (false, eval e1 X.env) :: starEach [e2] X.env := by rfl) (hpl : (backTo zpos (starEach [e2] X.env)).any (·.1) = false := by rfl) :
    PE X (.ListComp elt [⟨.Tuple elts kk tpos, .Call (.Name "zip" p) [e1, e2] [] zpos, ifs, 0⟩] scope pos) (tLc (iZipH X.K ta) g tt te (own.map (·.2))) := by
  refine ⟨fun pins s σ H Q I h => ?_⟩
  rw [eval_ListComp]
  have hfree : ∀ y ∈ scope.names, y.2 = .free → ∃ c, X.env.cells.lookup y.1 = some c := fun y hy e => I.ok.has _ (ok.free y hy e)
  refine wpAny_comprehension_free rfl hs (closure_ok hfree) ok.kind (fun y hy e => by rw [ok.uniq y hy, e]) ?_
  refine Call_ (ld_blt I hz hm PyProof.Rows.boot_zip (PyProof.Rows.callWith_type1 (thn (ha.run zpos pins s σ H _ I h) fun us s1 ⟨vs, H1, I1, r1, a, b, xs, ys, ev, hqx, hqy, q⟩ => ?_) hst hpl))
  subst ev
  cases r1 with
  | cons r rr =>
    cases rr with
    | cons r' rr =>
      cases rr
      cases r
      cases r'
      obtain ⟨its, rv, p1, _⟩ := I1.list hqx
      obtain ⟨its2, rv2, p2, _⟩ := I1.list hqy
      have la : a < s1.heap.objs.size := p1.lt
      have lb : b < s1.heap.objs.size := p2.lt
      refine call_zip_2 p1.isList p2.isList fun h' hz' hTI hTO hi1 hi2 hsz hk => wpAny_pyIter_zip hz' ?_
      have A1 := PySem.W.ktu_apart s1.heap.objs.size a b la lb
      have st0 : ZSt (s1.heap.objs.size + 4) (s1.heap.objs.size + 2) (s1.heap.objs.size + 3) s1.heap.objs.size (s1.heap.objs.size + 1) a b 0 h' := ⟨hz', hTI, ⟨_, _, hTO⟩, hi1, hi2⟩
      have I2 : Inv X pins σ H1 { s1 with heap := h' } := I1.kept (t' := s1.toks) hk
      have f2 : ∀ c ∈ [s1.heap.objs.size + 4, s1.heap.objs.size + 2, s1.heap.objs.size + 3, s1.heap.objs.size, s1.heap.objs.size + 1], FpOk X pins H1 c := fun c hc => by
        have hle : s1.heap.objs.size ≤ c := by
          simp only [List.mem_cons, List.not_mem_nil, or_false] at hc
          omega
        exact I1.fpOk hle (I1.hok.fresh hle)
      generalize s1.heap.objs.size + 4 = z at st0 A1 f2 ⊢
      generalize s1.heap.objs.size + 2 = TI at st0 A1 f2
      generalize s1.heap.objs.size + 3 = TO at st0 A1 f2
      generalize s1.heap.objs.size + 1 = i2 at st0 A1 f2
      generalize s1.heap.objs.size = i1 at st0 A1 f2
      have TZ := turn_zip (P := X.prog) (w := X.w) (K := X.K) (elts := elts) (kk := kk) (tpos := tpos) A1
      generalize hs2 : ({ s1 with heap := h' } : Shared) = s2 at I2 ⊢
      have st2 : ZSt z TI TO i1 i2 a b 0 s2.heap := by rw [← hs2]; exact st0
      -- the new list
      refine wpAny_newObj_type (newEnv_comp ?_) (by show 0 ≤ sizeLine; decide)
      obtain ⟨W, ⟨m0, w0⟩, turn⟩ := q s2.heap.objs.size (I2.hok.fresh (Nat.le_refl _))
      have dn : H1 s2.heap.objs.size = none := I2.hok.fresh (Nat.le_refl _)
      have I3 : Inv X pins σ (upd H1 s2.heap.objs.size (.lst [])) { s2 with heap := s2.heap.push { cls := .type "list", data := .seq ([] : List Value).toArray } } :=
        I2.laid (t' := s2.toks) (fun b o e => Heap.get?_push_of_some _ e) (Nat.le_refl _) ⟨Nat.zero_le _, [], 0, .nil, Heap.get?_push_size _ rfl⟩
      have old : ∀ c ∈ [z, TI, TO, i1, i2], c < s2.heap.objs.size := fun c hc => by
        obtain ⟨o, q, _⟩ := TZ.obj 0 s2.heap st2 c hc
        exact Heap.lt_size q
      have f3 : ∀ c ∈ [z, TI, TO, i1, i2], FpOk X pins (upd H1 s2.heap.objs.size (.lst [])) c := fun c hc =>
        ⟨by rw [upd_ne (Nat.ne_of_lt (old c hc))]; exact (f2 c hc).1, (f2 c hc).2⟩
      have st3 : ZSt z TI TO i1 i2 a b 0 (s2.heap.push { cls := .type "list", data := .seq ([] : List Value).toArray }) := TZ.keep 0 _ _ st2 fun _ _ o e => Heap.get?_push_of_some _ e
      have sz3 : ∀ c ∈ [z, TI, TO, i1, i2], c < (s2.heap.push { cls := .type "list", data := .seq ([] : List Value).toArray }).objs.size := fun c hc => by
        rw [Heap.size_push]; exact Nat.lt_succ_of_lt (old c hc)
      generalize upd H1 s2.heap.objs.size (.lst []) = H3 at I3 f3 w0
      generalize s2.heap.objs.size = D at turn ⊢
      generalize hs3 : ({ s2 with heap := s2.heap.push { cls := .type "list", data := .seq ([] : List Value).toArray } } : Shared) = s3 at I3 ⊢
      have e3 : s3.heap = s2.heap.push { cls := .type "list", data := .seq ([] : List Value).toArray } := by rw [← hs3]
      rw [← e3] at st3 sz3
      have I4 := block_start I3 ok hN fun c hc => ⟨f3 c hc, sz3 c hc⟩
      have pg := hg s3 H3 s3.heap.objs.size (cellsFrom (s3.heap.objs.size + 1) scope.names (cloFrom X.env.cells scope.names [])) [z, TI, TO, i1, i2]
      have pt := ht s3 H3 s3.heap.objs.size (cellsFrom (s3.heap.objs.size + 1) scope.names (cloFrom X.env.cells scope.names [])) [z, TI, TO, i1, i2]
      have pe := he s3 H3 s3.heap.objs.size (cellsFrom (s3.heap.objs.size + 1) scope.names (cloFrom X.env.cells scope.names [])) [z, TI, TO, i1, i2]
      show codeAny _ _ (.compStart _ 0 (.ref z) (.ref D) (compEnvC scope (cellsFrom (s3.heap.objs.size + 1) scope.names (cloFrom X.env.cells scope.names [])) s3.heap.objs.size X.env)) (compPost (model X.prog X.w) X.A X.xe none _ (.ref D) s3.heap.objs.size) { s3 with heap := pushCells (s3.heap.push { cls := .type "dict", data := .dict #[] }) scope.names }
      generalize hce : compEnvC scope (cellsFrom (s3.heap.objs.size + 1) scope.names (cloFrom X.env.cells scope.names [])) s3.heap.objs.size X.env = ce at I4 pg pt pe ⊢
      have cL : ce.locals = s3.heap.objs.size := by rw [← hce]; rfl
      have st4 : ZSt z TI TO i1 i2 a b 0 (pushCells (s3.heap.push { cls := .type "dict", data := .dict #[] }) scope.names) := TZ.keep 0 _ _ st3 fun _ _ o e => pushCells_keeps _ _ _ _ (Heap.get?_push_of_some _ e)
      generalize hs4 : ({ s3 with heap := pushCells (s3.heap.push { cls := .type "dict", data := .dict #[] }) scope.names } : Shared) = s4 at I4 ⊢
      have e4 : s4.heap = pushCells (s3.heap.push { cls := .type "dict", data := .dict #[] }) scope.names := by rw [← hs4]
      rw [← e4] at st4
      -- the handled exception, within the block
      obtain ⟨px, ⟨hh, vx, dx, cx⟩, hpx⟩ := hot
      obtain ⟨gx, nx, lx, fx, _⟩ := I3.pin px (List.mem_append_left _ hpx)
      have nfx : px.1 ∉ frs X.stack := fun zz => by
        rcases List.mem_cons.mp (I3.stkSub _ zz) with q' | q'
        · exact lx q'
        · exact fx q'
      have npx : px.1 ∉ [z, TI, TO, i1, i2] := fun zz => (f3 _ zz).2.2.2.2.2 px (List.mem_append_left _ hpx) rfl
      have hotB : ∀ {pins' : List (Addr × Obj)} {σ' : L2.St} {H' : Hp} {s' : Shared}, Inv (X.blk s3 H3 scope ce [z, TI, TO, i1, i2]) pins' σ' H' s' → HotAt X.A px.1 s'.heap := fun {pins' σ' H' s'} I' =>
        ⟨hh, px.2, vx, I'.base.keep px.1 px.2 gx nx nfx npx, dx, cx⟩
      have hB : HdX (X.blk s3 H3 scope ce [z, TI, TO, i1, i2]) := fun pins' σ' H' s' I' => .inr ⟨px.1, hotB I'⟩
      have pg := pg hB
      have stat : ∀ {σ' : L2.St} {H' : Hp} {s' : Shared}, Inv (X.blk s3 H3 scope ce [z, TI, TO, i1, i2]) [] σ' H' s' → (∀ c ∈ [z, TI, TO, i1, i2], H' c = none) → ∀ c ∈ [z, TI, TO, i1, i2], FpOk (X.blk s3 H3 scope ce [z, TI, TO, i1, i2]) [] H' c := fun {σ' H' s'} I' hn c hc =>
        ⟨hn c hc, (I'.ok.exf c hc).1, I'.ok.exfs c hc, .inl hc, fun x c' e => (I'.ok.exf c hc).2 x c' e, fun p hp => absurd (show p ∈ ([] : List (Addr × Obj)) ++ [] from hp) (by simp)⟩
      suffices loop : codeAny (model X.prog X.w) X.A (.compLoop (.ListComp elt [⟨.Tuple elts kk tpos, .Call (.Name "zip" p) [e1, e2] [] zpos, ifs, 0⟩] scope pos) 0 (.ref z) (.ref D) ce) (compPost (model X.prog X.w) X.A X.xe none (fun v s' => EP X pins σ Q v s') (.ref D) s3.heap.objs.size) s4 from
        codeAny_compStart_list loop (TZ.self X.A 0 _ _ _ st4 loop)
      refine compLoop_any (fun n s' => ∃ i H', Inv (X.blk s3 H3 scope ce [z, TI, TO, i1, i2]) [] (wipe σ (own.map (·.2))) H' s' ∧ ZSt z TI TO i1 i2 a b i s'.heap ∧ (∀ c ∈ [z, TI, TO, i1, i2], H' c = none) ∧ W i n H') ?_ m0 ⟨0, H3, I4, st4, fun c hc => (f3 c hc).1, w0⟩
      rintro n s5 ⟨i, H5, I5, st5, n5, w5⟩
      rcases turn i n H5 w5 with ⟨stop, qq⟩ | ⟨go, Nx, hNx, step⟩
      · refine thnF (zst_done (X := X.blk s3 H3 scope ce [z, TI, TO, i1, i2]) ⟨px.1, hotB I5, npx⟩ A1 I5 (stat I5 n5) st5 stop) fun r s6 ⟨hr, I6⟩ => ?_
        subst hr
        have I7 : Inv X pins σ H5 s6 := I3.call' (ch := [z, TI, TO, i1, i2]) I6.os I6.base I6.hok I6.bare fun c hc => ⟨(f3 c hc).2.2.2.1, (f3 c hc).2.1, (f3 c hc).2.2.2.2.1, (f3 c hc).2.2.2.2.2⟩
        have nC : H5 s3.heap.objs.size = none := by
          have zz : H5 ce.locals = none := I6.free
          rw [cL] at zz
          exact zz
        obtain ⟨m, hn, _⟩ := I6.loc
        have hn : s6.heap.Ns ce.locals m := hn
        rw [cL] at hn
        obtain ⟨g0, g1, g2, g3, g4, g5⟩ := I3.fpOk (Nat.le_refl _) nC
        refine ⟨m, hn, fun h'' sb => ⟨.ref D, H5, I7.turned (t' := s6.toks) (fun c o hb e => (sb.2 c hb).trans e) g0 g1 g3 g4 g5, rfl, qq⟩⟩
      · refine thnF (zst_item (X := X.blk s3 H3 scope ce [z, TI, TO, i1, i2]) (elts := elts) (kk := kk) (tpos := tpos) A1 I5 (stat I5 n5) st5 go) fun r s6 ⟨u, hr, h6⟩ => ?_
        subst hr
        refine thnF h6 fun _ s7 ⟨x, H7, I7, r7, y7, st7, n7⟩ => ?_
        have I7' := I7.pinned (stat I7 n7) (TZ.obj _ _ st7)
        refine thnF (pg.run _ s7 _ H7 x u _ I7' r7 (step x H7 y7)) fun _ s8 ⟨σ8, H8, I8, hw8, q8⟩ => ?_
        refine thnF (pt.run _ s8 σ8 H8 _ I8 q8) fun bb s9 ⟨H9, I9, q9⟩ => ?_
        have fin : ∀ {s' : Shared} {H' : Hp}, Inv (X.blk s3 H3 scope ce [z, TI, TO, i1, i2]) ([] ++ pinsAt [z, TI, TO, i1, i2] s7.heap) σ8 H' s' → Nx H' → ∃ m, m < n ∧ ∃ i H', Inv (X.blk s3 H3 scope ce [z, TI, TO, i1, i2]) [] (wipe σ (own.map (·.2))) H' s' ∧ ZSt z TI TO i1 i2 a b i s'.heap ∧ (∀ c ∈ [z, TI, TO, i1, i2], H' c = none) ∧ W i m H' := fun {s' H'} I' nx => by
          obtain ⟨m', hm', w'⟩ := hNx H' nx
          have pin' : ∀ c ∈ [z, TI, TO, i1, i2], ∀ o, s7.heap.get? c = some o → s'.heap.get? c = some o ∧ H' c = none := fun c hc o e =>
            let zz := I'.pin (c, o) (List.mem_append_right _ (List.mem_append_right _ (mem_pinsAt hc e)))
            ⟨zz.1, zz.2.1⟩
          refine ⟨m', hm', i + 1, H', (I'.unpinned (pins := [])).weak (by rw [← hw8, wipe_length]) (fun j v e => ?_), TZ.keep _ _ _ st7 fun c hc o e => (pin' c hc o e).1, fun c hc => ?_, w'⟩
          · rw [← hw8] at e
            exact (wipe_some e).1
          · obtain ⟨o, e, _⟩ := TZ.obj _ _ st7 c hc
            exact (pin' c hc o e).2
        cases bb with
        | false =>
          simp only [Bool.false_eq_true, if_false] at q9 ⊢
          exact fin I9 q9
        | true =>
          simp only [if_true] at q9 ⊢
          refine thnF (pe.run _ s9 σ8 H9 _ I9 q9) fun zz s10 ⟨yv, H10, I10, r10, acc, hD10, hz10, nx⟩ => ?_
          exact app_ok (X := X.blk s3 H3 scope ce [z, TI, TO, i1, i2]) I10 hD10 hz10 r10 fun s11 I11 => fin I11 nx
end
end L3

/-! exceptions of own classes over any built-in one, made with one argument or none, where __init__ stores a word (and the argument) -/
namespace L3
open PySem PySem.W PySem.Calls PyProof.Rows PySem.HandSPX Builtin Builtin.ObjectAttr
/-- own classes, then a tail -/
theorem refs_contains (rs : List Addr) (t : List Value) (Y : String) : (rs.map Value.ref ++ t).contains (.type Y) = t.contains (.type Y) := by
  induction rs with
  | nil => rfl
  | cons a r ih => rw [List.map_cons, List.cons_append, List.contains_cons, ih]; rfl
theorem refs_pass (self : Value) (rs : List Addr) {t : List Value} (h : refuseLoop self "__setattr__" t = pure ()) : refuseLoop self "__setattr__" (rs.map Value.ref ++ t) = pure () := by
  induction rs with
  | nil => exact h
  | cons a r ih => rw [List.map_cons, List.cons_append, refuseLoop_ref]; exact ih
section
variable {prog : Program} {w : World} {A : Around} {E : Value → Shared → Prop} {R : Result → Shared → Prop} {hp : Heap} {g : Array GenState} {d : Drawn} {t : Nat} {os : OsState}
variable {K : W.Frag} {name : Str} {tk : Tok} {v : Value} {x C : Addr} {fv : Array Value} {cd : ClassData}
theorem osaG_new (X : K.In hp) (hx : hp.get? x = some { cls := .ref C, data := .fields fv }) (hcd : W.clsIn K C = some cd) (hp1 : ∀ self, refuseLoop self "__setattr__" cd.mro = pure ()) (hob : cd.mro.contains (.type "object") = true) (hne : cd.mro.isEmpty = false) (hh : cd.hasDict = true)
    (ha : W.findIn K (.ref C) name = some none)
    (hq : ∀ h' tk' dx, (∀ b o, b ≠ x → hp.get? b = some o → h'.get? b = some o) → hp.objs.size ≤ dx → dx ≠ x → h'.get? x = some { cls := .ref C, dict := some dx, data := .fields fv } →
      h'.Ns1 dx (fun y => if y = name then some v else none) → R (.ok (.ret .none)) ⟨h', g, d, tk', os⟩) :
    codeAny (model prog w) A (.call (.builtin "object.__setattr__") ⟨[.ref x, .str name tk, v], []⟩) R ⟨hp, g, d, t, os⟩ := by
  have I : W.InstAt hp x { cls := .ref C, data := .fields fv } C none := ⟨hx, rfl, rfl, trivial⟩
  have SF := F.store_object
  have hxs : x ≠ hp.objs.size := Nat.ne_of_lt (Heap.lt_size hx)
  have sub : W.Looks (model prog w) hp (isInstance (.ref x) (.type "object")) true := I.type.andThen (W.looks_mroIn X (by unfold W.mroIn; rw [hcd, Option.bind_some, if_neg (by rw [hne]; decide), hob]))
  refine codeAny_call_builtin SF.slot.plain SF.entry (@W.check_slot (model prog w) _ _ ⟨hp, g, d, t, os⟩ "object.__setattr__" "object" "__setattr__" (.ref x) [.str name tk, v] [] _ SF.kind SF.split sub (SF.args (.ref x) (.str name tk) v) ?_)
  have hmr : W.Looks (model prog w) hp (mroOf (.ref C)) cd.mro := (W.looks_clsIn X hcd).andThen .now
  have L3 : W.Looks (model prog w) hp (storeTaker? none) none := .now
  have hcls : W.Looks (model prog w) hp (classData C) cd := W.looks_clsIn X hcd
  rw [W.osa_eq, refuse_eq]
  refine wpAny_bind (wpAny_bind (I.type.at (wpAny_bind (hmr.at ?_))))
  rw [hp1]
  refine wpAny_pure (wpAny_bind (I.type.at (wpAny_bind ((W.looks_findIn X ha).at (wpAny_bind (L3.at ?_))))))
  show wpAny _ _ (storeInOwnDict (.ref x) (.ref C) (.str name tk) name v false) _ _ _
  obtain ⟨nm, bs, mro, ns, qn, hd, sn, sb, ab, col, del⟩ := cd
  dsimp only at hh
  subst hh
  unfold storeInOwnDict ownDictForStores
  repeat (first | with_reducible refine store_in_new ?_ ?_ | with_reducible refine wpAny_loadPart_at hx ?_ | with_reducible refine hcls.at ?_ | wp_step)
  · exact ⟨_, #[], _, (Heap.get?_update_ne _ _ _ _ hxs.symm).trans (Heap.get?_push_at rfl rfl), rfl, fun e he => absurd he (by simp), fun _ => rfl⟩
  · intro h' tk' hn' hs
    have hx₁ : (hp.push { cls := .type "dict", data := .dict #[] }).get? x = some { cls := .ref C, data := .fields fv } := Heap.get?_push_of_some _ hx
    refine hq h' tk' hp.objs.size (fun b o hb ho => ?_) (Nat.le_refl _) hxs.symm ?_ hn'
    · exact (hs.2 b (Nat.ne_of_lt (Heap.lt_size ho))).trans ((Heap.get?_update_ne _ _ _ _ hb).trans (Heap.get?_push_of_some _ ho))
    · exact (hs.2 x hxs).trans (Heap.get?_update_self _ hx₁ rfl)
theorem osaG_old {dx : Addr} {m0 : Str → Option Value} {nl : List Str} (X : K.In hp) (hx : hp.get? x = some { cls := .ref C, dict := some dx, data := .fields fv }) (hns : hp.Ns1 dx m0) (hw : Within m0 nl) (hz : nl.length ≤ 1000) (hcd : W.clsIn K C = some cd)
    (hp1 : ∀ self, refuseLoop self "__setattr__" cd.mro = pure ()) (hob : cd.mro.contains (.type "object") = true) (hne : cd.mro.isEmpty = false) (hh : cd.hasDict = true) (ha : W.findIn K (.ref C) name = some none)
    (hq : ∀ h' tk', (∀ b o, b ≠ dx → hp.get? b = some o → h'.get? b = some o) → h'.Ns1 dx (fun y => if y = name then some v else m0 y) → R (.ok (.ret .none)) ⟨h', g, d, tk', os⟩) :
    codeAny (model prog w) A (.call (.builtin "object.__setattr__") ⟨[.ref x, .str name tk, v], []⟩) R ⟨hp, g, d, t, os⟩ := by
  obtain ⟨oD, esD, epD, hoD, hdD, _⟩ := hns.count hw
  have I : W.InstAt hp x { cls := .ref C, dict := some dx, data := .fields fv } C (some oD) := ⟨hx, rfl, rfl, hoD⟩
  have SF := F.store_object
  have sub : W.Looks (model prog w) hp (isInstance (.ref x) (.type "object")) true := I.type.andThen (W.looks_mroIn X (by unfold W.mroIn; rw [hcd, Option.bind_some, if_neg (by rw [hne]; decide), hob]))
  refine codeAny_call_builtin SF.slot.plain SF.entry (@W.check_slot (model prog w) _ _ ⟨hp, g, d, t, os⟩ "object.__setattr__" "object" "__setattr__" (.ref x) [.str name tk, v] [] _ SF.kind SF.split sub (SF.args (.ref x) (.str name tk) v) ?_)
  have hmr : W.Looks (model prog w) hp (mroOf (.ref C)) cd.mro := (W.looks_clsIn X hcd).andThen .now
  have L3 : W.Looks (model prog w) hp (storeTaker? none) none := .now
  have hcls : W.Looks (model prog w) hp (classData C) cd := W.looks_clsIn X hcd
  rw [W.osa_eq, refuse_eq]
  refine wpAny_bind (wpAny_bind (I.type.at (wpAny_bind (hmr.at ?_))))
  rw [hp1]
  refine wpAny_pure (wpAny_bind (I.type.at (wpAny_bind ((W.looks_findIn X ha).at (wpAny_bind (L3.at ?_))))))
  show wpAny _ _ (storeInOwnDict (.ref x) (.ref C) (.str name tk) name v false) _ _ _
  obtain ⟨nm, bs, mro, ns, qn, hd, sn, sb, ab, col, del⟩ := cd
  dsimp only at hh
  subst hh
  unfold storeInOwnDict ownDictForStores
  repeat (first | with_reducible refine OEX.store_in_old hns hw hz ?_ | with_reducible refine wpAny_loadPart_at hx ?_ | with_reducible refine hcls.at ?_ | wp_step)
  intro h' tk' hn' hs
  exact hq h' tk' (fun b o hb ho => (hs.2 b hb).trans ho) hn'
end
end L3
namespace L3
open PySem PySem.Spec PyProof.Rows L2
/-- what the written part says of such a class -/
structure OexG (K : PySem.W.Frag) (C : Addr) (newId : String) (bmB : List Value) : Prop where
  pass : ∀ self, refuseLoop self "__setattr__" bmB = pure ()
  obj : bmB.contains (.type "object") = true
  cls : ∃ nm q N bs, ∃ rs : List Addr, ∃ sn sub ab col dd k0 k1 k2 k3 k5, K.lookup C = some (excClassObj nm q C N bs (rs.map Value.ref ++ bmB) true sn sub ab col dd k0 k1 k2 k3 k5 newId)
  sa : PySem.W.findIn K (.ref C) "__setattr__" = some (some (.builtin "object.__setattr__"))
  exC : PySem.W.subIn K (.ref C) (.type "BaseException") = some true
  tyC : PySem.W.typeIn K (.ref C) = some (.type "type")
  kC : PySem.W.keepIn K (.ref C) = true
def OexP (K : PySem.W.Frag) (C : Addr) : Prop := ∃ newId bmB, OexG K C newId bmB
theorem OexG.cd {K : PySem.W.Frag} {C : Addr} {newId : String} {bmB : List Value} (T : OexG K C newId bmB) : ∃ cd, PySem.W.clsIn K C = some cd ∧ (∀ self, refuseLoop self "__setattr__" cd.mro = pure ()) ∧ cd.mro.contains (.type "object") = true ∧ cd.mro.isEmpty = false ∧ cd.hasDict = true := by
  obtain ⟨nm, q, N, bs, rs, sn, sub, ab, col, dd, k0, k1, k2, k3, k5, hC⟩ := T.cls
  refine ⟨{ name := nm, bases := bs, mro := .ref C :: (rs.map Value.ref ++ bmB), ns := N, qualname := q, hasDict := true, slotNames := sn, subclasses := sub, abstract := ab, collection := col, hasDel := false }, by unfold PySem.W.clsIn; rw [hC] <;> rfl, fun self => ?_, ?_, rfl, rfl⟩
  · show refuseLoop self "__setattr__" (Value.ref C :: (rs.map Value.ref ++ bmB)) = pure ()
    exact refs_pass self (C :: rs) (T.pass self)
  · show (Value.ref C :: (rs.map Value.ref ++ bmB)).contains (.type "object") = true
    exact (refs_contains (C :: rs) bmB "object").trans T.obj
section
variable {X : Cx} {pins : List (Addr × Obj)} {σ : L2.St} {H : Hp} {s : Shared} {a C dx : Addr} {f : Str} {y : V} {u : Value} {fs : List (Str × V)} {Q : Unit → Shared → Prop} {E : Value → Shared → Prop} {A : Around}
theorem stG_new (T : OexP X.K C) (I : Inv X pins σ H s) (e : H a = some (exo a C none)) (hno : PySem.W.findIn X.K (.ref C) f = some none) (ry : RelV y u)
    (h : ∀ dx s', H dx = none → dx ≠ a → Inv X pins σ (upd (upd H dx (exd dx [(f, y)])) a (exo a C (some dx))) s' → Q () s') : wpAny (model X.prog X.w) A (setAttr (.ref a) f u) Q E s := by
  obtain ⟨_, _, T⟩ := T
  obtain ⟨cd, hcl, m1, m2, m3, m4⟩ := T.cd
  obtain ⟨t1, ho⟩ := exo_at I.hok e
  obtain ⟨hp, g, d, t, os⟩ := s
  refine PySem.W.set_plain I.kIn (ox := { cls := .ref C, dict := none, data := .fields #[.ref t1, .none, .none, .none, .bool false, .none] }) (od := none) ⟨ho, rfl, rfl, trivial⟩ T.sa ?_
  refine osaG_new I.kIn ho hcl m1 m2 m3 m4 hno fun h' tk' dx k dn dne hx hn => ?_
  have hnd : H dx = none := I.hok.fresh dn
  have nd : ∀ {b : Addr} {o : Obj}, hp.get? b = some o → b ≠ dx := fun {b o} q => Nat.ne_of_lt (Nat.lt_of_lt_of_le (Heap.lt_size q) dn)
  have na : ∀ {b : Addr}, H b = none → b ≠ a := fun {b} n z => by rw [z, e] at n; cases n
  refine h dx _ hnd dne (I.un (t' := tk') ?_ fun b o q => ?_)
  · exact {
      keep := fun b o q n _ _ => k b o (na n) q
      slot := fun b o q n _ _ => ⟨o.slots, k b o (na n) q⟩
      free := fun b o q n _ => by rw [upd_ne (na n), upd_ne (nd q)]; exact n
      there := fun b o q _ => by
        by_cases hb : b = a
        · exact ⟨_, by rw [hb]; exact hx⟩
        · exact ⟨o, k b o hb q⟩
      tups := fun b xs q => by rw [upd_ne (at_ne e q exo_tup), upd_ne (ne_of_none q hnd)]; exact q
      frzs := fun b o v q => by rw [upd_ne (at_ne e q exo_frz), upd_ne (ne_of_none q hnd)]; exact q
      tbls := fun b ps q => ⟨#[], by rw [upd_ne (at_ne e q exo_tbl), upd_ne (ne_of_none q hnd), q]; simp⟩ }
  · by_cases hb : b = a
    · subst hb
      rw [upd_same] at q
      cases q
      exact exo_ok hx
    · rw [upd_ne hb] at q
      by_cases hd : b = dx
      · subst hd
        rw [upd_same] at q
        cases q
        exact exd_ok hn (relO_put (fs := []) ry fun g => True.intro)
      · rw [upd_ne hd] at q
        have nb : ∀ c, c = b ∨ H c = some (.own b) → c ≠ a := fun c hc => by
          rcases hc with hc | hc
          · rw [hc]; exact hb
          · exact at_ne e hc exo_own
        exact (I.hok b o q).stay (fun c v hc z => k c v (nb c hc) z)
          (fun c hc => by rw [upd_ne (at_ne e hc exo_own), upd_ne (ne_of_none hc hnd)]; exact hc) (fun c xs hc => by rw [upd_ne (at_ne e hc exo_tup), upd_ne (ne_of_none hc hnd)]; exact hc)
theorem stG_old (T : OexP X.K C) (I : Inv X pins σ H s) (e : H a = some (exo a C (some dx))) (ed : H dx = some (exd dx fs)) (hl : fs.length ≤ 900) (hno : PySem.W.findIn X.K (.ref C) f = some none) (ry : RelV y u)
    (h : ∀ s', Inv X pins σ (upd H dx (exd dx ((f, y) :: fs))) s' → Q () s') : wpAny (model X.prog X.w) A (setAttr (.ref a) f u) Q E s := by
  obtain ⟨_, _, T⟩ := T
  obtain ⟨cd, hcl, m1, m2, m3, m4⟩ := T.cd
  obtain ⟨t1, ho⟩ := exo_at I.hok e
  obtain ⟨mA, hns, rel⟩ := exd_at I.hok ed
  have hw := within_of rel
  obtain ⟨hp, g, d, t, os⟩ := s
  obtain ⟨oD, _, _, hoD, _, _⟩ := hns.count hw
  refine PySem.W.set_plain I.kIn (ox := { cls := .ref C, dict := some dx, data := .fields #[.ref t1, .none, .none, .none, .bool false, .none] }) (od := some oD) ⟨ho, rfl, rfl, hoD⟩ T.sa ?_
  refine osaG_old I.kIn ho hns hw (by rw [List.length_map]; omega) hcl m1 m2 m3 m4 hno fun h' tk' k hn => ?_
  have hd : ∃ o, h'.get? dx = some o := by
    obtain ⟨o, _, _, e', _⟩ := hn
    exact ⟨o, e'⟩
  exact h _ (I.write (t' := tk') (x := dx) (e := dx) (o := exd dx ((f, y) :: fs)) (by rw [ed]; exact True.intro) (.inl rfl) k hd (exd_ok hn (relO_put ry rel)))
/-- self.f = e -/
def tOstG (K : PySem.W.Frag) (f : Str) (to te : TE) : TS := fun D σ H => te σ H fun y H1 => to σ H1 fun x H2 => ∃ a C : Addr, x = .ref a ∧ OexP K C ∧ PySem.W.findIn K (.ref C) f = some none ∧
  ((H2 a = some (exo a C none) ∧ ∀ dx, H2 dx = none → dx ≠ a → D.nx σ (upd (upd H2 dx (exd dx [(f, y)])) a (exo a C (some dx)))) ∨
    ∃ (dx : Addr) (fs : List (Str × V)), H2 a = some (exo a C (some dx)) ∧ H2 dx = some (exd dx fs) ∧ fs.length ≤ 900 ∧ D.nx σ (upd H2 dx (exd dx ((f, y) :: fs))))
theorem ps_ostG {o e : Expr} {to te : TE} {p' pos : Pos} (ho : PE X o to) (he : PE X e te) (hs : swapsWith e (some (.Attribute o f p')) pos.line X.env = pure false := by rfl) : PS X (.Assign [.Attribute o f p'] e pos) (tOstG X.K f to te) := by
  refine ⟨fun pins s σ H D I h => ?_⟩
  refine plainObj_wpAny_Assign_Attribute (thn (he.run pins s σ H _ I h) fun v s1 ⟨y, H1, I1, r1, q1⟩ => thn (ho.run pins s1 σ H1 _ I1 q1) fun u s2 ⟨x, H2, I2, r2, a, C, ex, T, hno, q⟩ => ?_) hs
  subst ex
  obtain rfl : u = Value.ref a := r2
  rcases q with ⟨ea, q⟩ | ⟨dx, fs, ea, ed, hl, q⟩
  · exact stG_new T I2 ea hno r1 fun dx s' n ne J => ⟨σ, _, J, q dx n ne⟩
  · exact stG_old T I2 ea ed hl hno r1 fun s' J => ⟨σ, _, J, q⟩
end
end L3

/-! raise C(..) -/
namespace L3
open PySem PySem.Spec PyProof.Rows L2
/-- how C(..) ends: C's own __init__ keeping sp -/
def mkQ (C : Addr) (sp : Sp) (H1 : Hp) (vs : List V) (Q : XK) : Prop := ∀ a, H1 a = none → sp (.ref a :: vs) (upd H1 a (exo a C none))
  (fun v H2 => v = .non ∧ ∃ (d : Addr) (fs : List (Str × V)), H2 a = some (exo a C (some d)) ∧ H2 d = some (exd d fs) ∧ H1 d = none ∧ Q (.ref C) (some d) (upd (del H2 a) d (.xd fs))) E0
def tMkG (C : Addr) (sp : Sp) (ta : TA) : L2.St → Hp → XK → Prop := fun σ H Q => ta σ H fun vs H1 => vs.length ≤ 1000 ∧ mkQ C sp H1 vs Q
/-- what the program's top says of such a class -/
structure ExcK (K : PySem.W.Frag) (C fI : Addr) : Prop where
  T : ∃ B newId initId bmB, ExcBaseFacts B newId initId bmB ∧ OexG K C newId bmB
  iC : PySem.W.findIn K (.ref C) "__init__" = some (some (.ref fI))
  tI : PySem.W.typeIn K (.ref fI) = some (.type "function")
section
variable {X : Cx} {pins : List (Addr × Obj)} {σ : L2.St} {H1 : Hp} {s : Shared} {C fI : Addr} {k : Nat} {fd : FuncData} {ps : List Str} {sp : Sp} {Q : XK} {us : List Value} {vs : List V}
theorem run_exG (T : ExcK X.K C fI) (F1 : FnOk X.prog X.w X.K X.mg X.base CX0 k fI fd ps sp) (hr : Room (k + 1) X.A) (hb : Binds X.K fd ps []) (I1 : Inv X pins σ H1 s) (r1 : Vals vs us) (hz : vs.length ≤ 1000) (q1 : mkQ C sp H1 vs Q) :
    wpAny (model X.prog X.w) X.A (call (.ref C) us) (L2N.MkP X pins σ Q) X.xe s := by
  obtain ⟨B, newId, initId, bmB, FB, T'⟩ := T.T
  obtain ⟨nm, q, N, bs, rs, sn, sub, ab, col, dd, k0, k1, k2, k3, k5, hC⟩ := T'.cls
  obtain ⟨hp, g, dr, tk, os⟩ := s
  have hsz : hp.objs.size ≤ hp.objs.size + 1 := Nat.le_succ _
  have hn : H1 (hp.objs.size + 1) = none := I1.hok.fresh hsz
  have hq := q1 (hp.objs.size + 1) hn
  have kk : ∀ b o, hp.get? b = some o → ((hp.push (PySem.W.kdv_tup us)).push (PySem.HandSPX.excO C hp.objs.size)).get? b = some o := fun b o e => Heap.get?_push_of_some _ (Heap.get?_push_of_some _ e)
  have hget : ((hp.push (PySem.W.kdv_tup us)).push (PySem.HandSPX.excO C hp.objs.size)).get? (hp.objs.size + 1) = some (PySem.HandSPX.excO C hp.objs.size) := by heap_get
  have I2 : Inv X pins σ (upd H1 (hp.objs.size + 1) (exo (hp.objs.size + 1) C none)) ⟨(hp.push (PySem.W.kdv_tup us)).push (PySem.HandSPX.excO C hp.objs.size), g, dr, tk, os⟩ :=
    I1.laid (t' := tk) (a := hp.objs.size + 1) (o := exo (hp.objs.size + 1) C none) (h' := (hp.push (PySem.W.kdv_tup us)).push (PySem.HandSPX.excO C hp.objs.size)) kk hsz (exo_ok hget)
  have r2 : Vals (V.ref (hp.objs.size + 1) :: vs) (Value.ref (hp.objs.size + 1) :: us) := .cons rfl r1
  have hl : (Value.ref (hp.objs.size + 1) :: us).length = ps.length := by
    have e := r2.length
    rw [F1.len _ _ _ _ hq] at e
    exact e.symm
  have hus : us.length ≤ sizeLine := by
    rw [← Paired.length r1, sizeLine_eq]
    omega
  have b2 := hb _ (Value.ref (hp.objs.size + 1) :: us) I2.kIn (by rw [List.append_nil]; exact hl)
  rw [List.append_nil] at b2
  refine wpAny_call (PySem.HandSPX.call_own FB (fun Y => refs_contains rs bmB Y) (I1.kIn _ _ hC) (PySem.W.looks_findIn I1.kIn T.iC) (fun self => PySem.W.bind_fn I1.kIn self T.tI) hus
    (codeAny_mono (F1.run _ X.stack _ _ ⟨Value.ref (hp.objs.size + 1) :: us, []⟩ (Value.ref (hp.objs.size + 1) :: us) _ _ E0 (hr.make C us []) (I2.env0.make C us []) b2 r2 hq) fun r s' hq' => ?_))
  cases r with
  | error er => exact (show False from hq').elim
  | ok fl =>
    cases fl with
    | ret u =>
      obtain ⟨v, H2, os2, bare2, un2, hok2, rv, ev, d, fs, ea, ed, hd1, q2⟩ := hq'
      subst ev
      obtain ⟨h2, g2, d2, t2, os'⟩ := s'
      obtain ⟨t0, G, J, kG, ge, hoe, na⟩ := mk_end0 (d2 := d2) (t2 := t2) I1 hsz kk un2 hok2 os2 bare2 ea ed hd1
      exact ⟨rv, hp.objs.size + 1, _, _, ⟨G, g2, d2, t2, os'⟩, _, .ref C, some d, rfl, J, kG, ge, hoe, ⟨rfl, rfl, fun vs hv => by cases hv; rfl⟩, rfl, rfl, na, rfl, bare2, raises_own T'.exC T'.tyC, q2⟩
    | next => exact False.elim hq'
    | brk => exact False.elim hq'
    | cont => exact False.elim hq'
variable {x : Str} {e : Expr} {es : List Expr} {ta : TA} {p pos : Pos}
theorem pmkG (T : ExcK X.K C fI) (F1 : FnOk X.prog X.w X.K X.mg X.base CX0 k fI fd ps sp) (hr : Room (k + 1) X.A) (hb : Binds X.K fd ps []) (hg : Gl X x) (hm : X.mg x = some (.ref C)) (ha : PA X (e :: es) ta)
    (hdb : (x == ("__debug__" : Str)) = false := by decide) (he : starEach (e :: es) X.env = (false, eval e X.env) :: starEach es X.env := by rfl) (hpl : (backTo pos (starEach es X.env)).any (·.1) = false := by rfl) :
    L2N.PMk X (.Call (.Name x p) (e :: es) [] pos) (tMkG C sp ta) := by
  intro pins s σ H Q I h
  obtain ⟨B, newId, initId, bmB, FB, T'⟩ := T.T
  refine wpAny_Call_Name_kw (ld_glob I hg hm ?_ hdb)
  refine PySem.W.callWith_K (h₀ := X.base) I.ok.mod.kin T'.kC (thn (ha.run pos pins s σ H _ I h) fun us s1 ⟨vs, H1, I1, r1, hz, q1⟩ => ⟨I1.kIn, ?_⟩) he hpl
  exact run_exG T F1 hr hb I1 r1 hz q1
theorem pmkG0 (T : ExcK X.K C fI) (F1 : FnOk X.prog X.w X.K X.mg X.base CX0 k fI fd ps sp) (hr : Room (k + 1) X.A) (hb : Binds X.K fd ps []) (hg : Gl X x) (hm : X.mg x = some (.ref C))
    (hdb : (x == ("__debug__" : Str)) = false := by decide) : L2N.PMk X (.Call (.Name x p) [] [] pos) (tMkG C sp tNil) := by
  intro pins s σ H Q I h
  obtain ⟨B, newId, initId, bmB, FB, T'⟩ := T.T
  refine wpAny_Call_Name_kw (ld_glob I hg hm ?_ hdb)
  exact PySem.W.callWith_K0 I.kIn T'.kC (run_exG T F1 hr hb I .nil (Nat.zero_le _) (show mkQ C sp H [] Q from h.2))
end

/-! ### the two forms of __init__ -/
def sp1 (K : PySem.W.Frag) (C : Addr) (w fld : Str) : Sp := fun vs H Q _ => ∃ a y, vs = [.ref a, y] ∧ H a = some (exo a C none) ∧
  ∀ dx, H dx = none → dx ≠ a → Q .non (upd (upd (upd H dx (exd dx [("word", .str w)])) a (exo a C (some dx))) dx (exd dx [(fld, y), ("word", .str w)]))
def sp0 (K : PySem.W.Frag) (C : Addr) (w : Str) : Sp := fun vs H Q _ => ∃ a, vs = [.ref a] ∧ H a = some (exo a C none) ∧
  ∀ dx, H dx = none → dx ≠ a → Q .non (upd (upd H dx (exd dx [("word", .str w)])) a (exo a C (some dx)))
section
variable {P : Program} {w0 : World} {K : PySem.W.Frag} {mg : Str → Option Value} {base : Heap}
theorem init1_ok {C : Addr} {w fld : Str} {qual : Str} {st : Stmt} {f : Addr} {fd : FuncData} {j : Nat} {p1 p2 p3 p4 p5 p6 p7 p8 : Pos} (F : Fun K "__init__" qual st f fd) (T : OexP K C) (h1 : PySem.W.findIn K (.ref C) "word" = some none) (h2 : PySem.W.findIn K (.ref C) fld = some none)
    (hb : defBody st = [.Assign [.Attribute (.Name "self" p1) "word" p2] (.Constant (.str w) j p3) p4, .Assign [.Attribute (.Name "self" p5) fld p6] (.Name fld p7) p8]) (S : FnScope ["self", fld] ["self", fld] (defScope st))
    (v1 : Vis (defScope st) "self") (v2 : Vis (defScope st) fld) (d1 : (fld == ("__debug__" : Str)) = false) (d2 : (fld == ("__classdict__" : Str)) = false) : FnOk P w0 K mg base CX0 1 f fd ["self", fld] (sp1 K C w fld) := by
  refine F.ok S (fun vs H Q E h => by obtain ⟨a, y, rfl, _⟩ := h; rfl) fun cdv A outer s H vs Q E hr h => ?_
  rw [hb]
  refine ⟨_, pss_cons (ps_ostG (pe_var (i := 0) rfl v1 (by decide) (by decide)) pe_str) (pss_one (ps_ostG (pe_var (i := 0) rfl v1 (by decide) (by decide)) (pe_var (i := 1) rfl v2 d1 d2))), ?_⟩
  obtain ⟨a, y, rfl, ea, q⟩ := h
  refine ⟨.ref a, rfl, a, C, rfl, T, h1, .inl ⟨ea, fun dx n ne => ?_⟩⟩
  refine ⟨y, rfl, .ref a, rfl, a, C, rfl, T, h2, .inr ⟨dx, [("word", .str w)], upd_same, by rw [upd_ne ne]; exact upd_same, by show 1 ≤ 900; decide, q dx n ne⟩⟩
theorem init0_ok {C : Addr} {w : Str} {qual : Str} {st : Stmt} {f : Addr} {fd : FuncData} {j : Nat} {p1 p2 p3 p4 : Pos} (F : Fun K "__init__" qual st f fd) (T : OexP K C) (h1 : PySem.W.findIn K (.ref C) "word" = some none)
    (hb : defBody st = [.Assign [.Attribute (.Name "self" p1) "word" p2] (.Constant (.str w) j p3) p4]) (S : FnScope ["self"] ["self"] (defScope st))
    (v1 : Vis (defScope st) "self") : FnOk P w0 K mg base CX0 1 f fd ["self"] (sp0 K C w) := by
  refine F.ok S (fun vs H Q E h => by obtain ⟨a, rfl, _⟩ := h; rfl) fun cdv A outer s H vs Q E hr h => ?_
  rw [hb]
  refine ⟨_, pss_one (ps_ostG (pe_var (i := 0) rfl v1 (by decide) (by decide)) pe_str), ?_⟩
  obtain ⟨a, rfl, ea, q⟩ := h
  exact ⟨.ref a, rfl, a, C, rfl, T, h1, .inl ⟨ea, fun dx n ne => q dx n ne⟩⟩
end
theorem mkQ1 {K : PySem.W.Frag} {C : Addr} {w fld : Str} {H1 : Hp} {y : V} {Q : XK} (h : ∀ d, H1 d = none → Q (.ref C) (some d) (upd H1 d (.xd [(fld, y), ("word", .str w)]))) : mkQ C (sp1 K C w fld) H1 [y] Q := fun a na =>
  ⟨a, y, rfl, upd_same, fun dx n ne => by
    have nd : H1 dx = none := by rw [upd_ne ne] at n; exact n
    refine ⟨rfl, dx, _, by rw [upd_ne (Ne.symm ne)]; exact upd_same, upd_same, nd, ?_⟩
    have e : upd (del (upd (upd (upd (upd H1 a (exo a C none)) dx (exd dx [("word", .str w)])) a (exo a C (some dx))) dx (exd dx [(fld, y), ("word", .str w)])) a) dx (.xd [(fld, y), ("word", .str w)]) = upd H1 dx (.xd [(fld, y), ("word", .str w)]) := by
      funext b
      by_cases hd : b = dx
      · rw [hd, upd_same, upd_same]
      · rw [upd_ne hd, upd_ne hd]
        by_cases ha : b = a
        · rw [ha, del_same, na]
        · rw [del_ne ha, upd_ne hd, upd_ne ha, upd_ne hd, upd_ne ha]
    rw [e]
    exact h dx nd⟩
theorem mkQ0 {K : PySem.W.Frag} {C : Addr} {w : Str} {H1 : Hp} {Q : XK} (h : ∀ d, H1 d = none → Q (.ref C) (some d) (upd H1 d (.xd [("word", .str w)]))) : mkQ C (sp0 K C w) H1 [] Q := fun a na =>
  ⟨a, rfl, upd_same, fun dx n ne => by
    have nd : H1 dx = none := by rw [upd_ne ne] at n; exact n
    refine ⟨rfl, dx, _, upd_same, by rw [upd_ne ne]; exact upd_same, nd, ?_⟩
    have e : upd (del (upd (upd (upd H1 a (exo a C none)) dx (exd dx [("word", .str w)])) a (exo a C (some dx))) a) dx (.xd [("word", .str w)]) = upd H1 dx (.xd [("word", .str w)]) := by
      funext b
      by_cases hd : b = dx
      · rw [hd, upd_same, upd_same]
      · rw [upd_ne hd, upd_ne hd]
        by_cases ha : b = a
        · rw [ha, del_same, na]
        · rw [del_ne ha, upd_ne ha, upd_ne hd, upd_ne ha]
    rw [e]
    exact h dx nd⟩
/-! ### as they may be raised -/
structure ClX (P : Program) (w0 : World) (K : PySem.W.Frag) (mg : Str → Option Value) (base : Heap) (x : Str) (C : Addr) (fld : Option Str) : Prop where
  ex : ∃ (fI : Addr) (fd : FuncData) (ps : List Str), ExcK K C fI ∧ FnOk P w0 K mg base CX0 1 fI fd ps (match fld with | some f => sp1 K C x f | none => sp0 K C x) ∧ Binds K fd ps []
  mg : mg x = some (.ref C)
/-- raise x(e), the def's own way out being E -/
def tRz1 (E : XK) (K : PySem.W.Frag) (C : Addr) (w fld : Str) (te : TE) : TS := fun _ σ H => tMkG C (sp1 K C w fld) (tCons te tNil) σ H fun cls d H' => E cls d H'
def tRz0 (E : XK) (K : PySem.W.Frag) (C : Addr) (w : Str) : TS := fun _ σ H => tMkG C (sp0 K C w) tNil σ H fun cls d H' => E cls d H'
section
variable {X : Cx} {E : XK} {x fld : Str} {C : Addr} {e : Expr} {te : TE} {p pos rpos : Pos} {j : Nat}
theorem ps_rz1 (c : ClX X.prog X.w X.K X.mg X.base x C (some fld)) (hc : X.calm = true) (hr : Room j X.A) (hk : 2 ≤ j) (tk : L2N.Takes X (fun cls d _ H => E cls d H)) (hg : Gl X x) (he : PE X e te)
    (hdb : (x == ("__debug__" : Str)) = false := by decide) (hst : starEach [e] X.env = [(false, eval e X.env)] := by rfl) : PS X (.Raise (some (.Call (.Name x p) [e] [] pos)) none rpos) (tRz1 E X.K C x fld te) := by
  obtain ⟨fI, fd, ps, T, F, b⟩ := c.ex
  exact L2N.ps_raise (pos := rpos) hc tk (pmkG (p := p) (pos := pos) T F (hr.mono hk) b hg c.mg (pa_cons he pa_nil (by rw [hst]; rfl)) hdb (by rw [hst]; rfl) rfl)
theorem ps_rz0 (c : ClX X.prog X.w X.K X.mg X.base x C none) (hc : X.calm = true) (hr : Room j X.A) (hk : 2 ≤ j) (tk : L2N.Takes X (fun cls d _ H => E cls d H)) (hg : Gl X x)
    (hdb : (x == ("__debug__" : Str)) = false := by decide) : PS X (.Raise (some (.Call (.Name x p) [] [] pos)) none rpos) (tRz0 E X.K C x) := by
  obtain ⟨fI, fd, ps, T, F, b⟩ := c.ex
  exact L2N.ps_raise (pos := rpos) hc tk (pmkG0 (p := p) (pos := pos) T F (hr.mono hk) b hg c.mg hdb)
/-! ### typed -/
variable {Γ : Ct} {M : SH} {D : EndT} {K : PySem.W.Frag}
theorem xr_new {S H : Hp} {cls : Value} {d C : Addr} {fs : List (Str × Rep)} {vs : List (Str × V)} (e : Same S H) (m : MOk S H M) (hd : H d = none) (h1 : vs.map (·.1) = fs.map (·.1)) (h2 : All2 S (fs.map (·.2)) (vs.map (·.2))) :
    ∃ S2, Stp S H S2 (upd H d (.xd vs)) M M ∧ XR.p ⟨C, fs⟩ S2 (.ref C) (some d) :=
  ⟨_, Stp.newS e m hd, rfl, d, vs, rfl, upd_same, h1, h2.mono (Same.newS e hd)⟩
theorem st_rz1 (h : Ev E te Γ M (fun R M1 => D.ex ⟨C, [(fld, R), ("word", aStr x)]⟩ M1) D.ex) : St E (tRz1 E K C x fld te) Γ M D := fun σ S H D0 I o =>
  h σ S H _ I (fun v S2 H2 R M2 q st p => ⟨by show 1 ≤ 1000; decide, mkQ1 fun d nd => by
    obtain ⟨S3, st3, px⟩ := xr_new (C := C) (cls := .ref C) (fs := [(fld, R), ("word", aStr x)]) (vs := [(fld, v), ("word", .str x)]) st.e st.m nd rfl ⟨p, rfl, True.intro⟩
    exact o.ex _ _ _ _ _ _ q (st.trans st3) px⟩) o.ex
theorem st_rz0 (h : D.ex ⟨C, [("word", aStr x)]⟩ M) : St E (tRz0 E K C x) Γ M D := fun σ S H D0 I o =>
  ⟨Nat.zero_le _, mkQ0 fun d nd => by
    obtain ⟨S3, st3, px⟩ := xr_new (C := C) (cls := .ref C) (fs := [("word", aStr x)]) (vs := [("word", .str x)]) I.ex I.m nd rfl ⟨rfl, True.intro⟩
    exact o.ex _ _ _ _ _ _ h st3 px⟩
end
end L3

/-! try: .. except (A, B, C) as e: .. where what is raised is always met -/
namespace L3
open PySem PySem.Spec PyProof.Rows L2
theorem flyZ_keeps {B : Heap} {l : List Env} {a : Addr} {Z : Obj → Prop} {h h' : Heap} (f : HandSPX.FlyingZ B l a Z h) (k : ∀ b o, h.get? b = some o → h'.get? b = some o) : HandSPX.FlyingZ B l a Z h' := by
  obtain ⟨f1, f2, f3, oe, vs, T, oT, ts, he, hz, hd, h1, hn, hne, hT, hdT, h3⟩ := f
  exact ⟨fun b o q => k b o (f1 b o q), f2, f3.of_keeps fun b o q _ => ⟨o, k b o q, rfl⟩, oe, vs, T, oT, ts, k _ _ he, hz, hd, h1, hn, hne, k _ _ hT, hdT, h3⟩
/-- what the clause wishes -/
def wAs3 (K : PySem.W.Frag) (c1 c2 c3 : Value) (i : Nat) (ts : Addr → Value → Option Addr → TS) (D : Ends) : WX := fun cls d σ H =>
  PySem.W.exmAny K cls [c1, c2, c3] = some true ∧ ∀ a, H a = none → ts a cls d { nx := fun σ' H' => D.nx (σ'.set i none) H', rt := D.rt, bk := fun σ' H' => D.bk (σ'.set i none) H', ct := fun σ' H' => D.ct (σ'.set i none) H' } (σ.set i (some (.ref a))) H
section
variable {X : Cx} {x1 x2 x3 n : Str} {c1 c2 c3 : Value} {i k : Nat} {body suite : List Stmt} {b₀ : Stmt} {n1 n2 n3 tpos pos pos' : Pos} {tb : WX → TS} {ts : Addr → Value → Option Addr → TS}
theorem ps_try3 (hs : X.stack = X.env :: X.outer) (hf : X.env.frame = some X.env.locals) (hN : X.N.Nodup) (hi : X.N[i]? = some n) (hln : X.env.kindOf n = some .local) (m1 : Names X x1 c1) (m2 : Names X x2 c2) (m3 : Names X x3 c3)
    (hb : ∀ (W : WX) (pn : List (Addr × Obj)) (xe : Value → Shared → Prop), L2N.Takes (X.tr pn xe) W → PassesOwn (model X.prog X.w) X.A X.env xe → PSs (X.tr pn xe) body (tb W))
    (hsu : ∀ (a : Addr) (oe : Obj) (cls : Value) (d : Option Addr) (pn : List (Addr × Obj)), L2N.Zn cls d oe → (∃ vs, oe.data = .fields vs) → PSs (X.suite a ((a, oe) :: pn)) (b₀ :: suite) (ts a cls d)) :
    PS X (.Try body [.ExceptHandler (some (.Tuple [.Name x1 n1, .Name x2 n2, .Name x3 n3] k tpos)) (some n) (b₀ :: suite) pos'] [] [] pos) (fun D σ H => tb (wAs3 X.K c1 c2 c3 i ts D) D σ H) := by
  refine ⟨fun pins s σ H D I h => ?_⟩
  have ok := I.ok
  have hfr : X.A.frames = some (X.env :: X.outer) := by rw [ok.frames, hs]
  have hloc : Loc X.env.scope n := .inl hln
  refine wpAny_Try_except ?_
  refine wpAny_mono ((hb (wAs3 X.K c1 c2 c3 i ts D) (X.pn ++ pins) (fun e s₁ => wpAny (model X.prog X.w) X.A (noteFrame e X.env) (fun _ s₂ => wpAny (model X.prog X.w) X.A (setFlight e none) (fun _ s₃ =>
    wpAny (model X.prog X.w) X.A (handleBy e X.env [.ExceptHandler (some (.Tuple [.Name x1 n1, .Name x2 n2, .Name x3 n3] k tpos)) (some n) (b₀ :: suite) pos']) (SP X pins D) X.xe s₃) X.xe s₂) X.xe s₁) (fun u s' xx => ?_) PassesOwn.looking).run [] s σ H D (I.toTry _) h) (fun f s1 hsp => ?_) (fun e s1 he => he)
  · obtain ⟨a, B, sI, pins', σ', H', cls, d, rfl, J', nb, up, sky, na, os, ag, hb1, hyes⟩ := xx
    have J : Inv X pins σ' H' sI := J'.ofTry ok
    have sky' : Sky B (X.env :: X.outer) a (L2N.Zn cls d) X.env.locals s'.heap := by rw [← hs]; exact sky
    show wpAny (model X.prog X.w) X.A (noteFrame (.ref a) X.env) _ _ _
    refine L2N.Sky.land L2N.Zn.steady hfr hf sky' fun h3 fl3 up3 => ?_
    have J3 : Inv X pins σ' H' { s' with heap := h3 } := J.landed nb fl3.1 (up.trans up3) os ag
    obtain ⟨oe3, vs3, he3, hz3, hd3⟩ := fl3.there
    have nfr : a ∉ frs (X.env :: X.outer) := fun hm => by
      obtain ⟨_, o', e', hnf⟩ := fl3.2.2.1.mem hm
      rw [he3] at e'; cases e'
      exact hnf _ hd3
    have nL : a ≠ X.env.locals := fun z => nfr (List.mem_filterMap.mpr ⟨X.env, List.mem_cons_self, by rw [hf, z]⟩)
    have nF : a ∉ X.fs := fun hm => by
      obtain ⟨e, he, q⟩ := List.mem_filterMap.mp hm
      exact nfr (List.mem_filterMap.mpr ⟨e, List.mem_cons_of_mem _ he, q⟩)
    have S3 := J3.suite he3 hd3 na nL nF
    refine wpAny_handleBy_cons (codeAny_handlers_test ?_) (by intro q; cases q)
    have test : ∀ {x : Str} {c : Value} {np : Pos} {Q : Value → Shared → Prop} {E : Value → Shared → Prop}, Names X x c → Q c { s' with heap := h3 } → wpAny (model X.prog X.w) (X.A.mark (some (.ref a))) (eval (.Name x np) X.env) Q E { s' with heap := h3 } := fun {x c np Q E} hc q => by
      obtain ⟨hg, hdbg, hm | ⟨hm, hv, hnn⟩⟩ := hc
      · exact ld_glob (X := X.suite a ((a, oe3) :: (X.pn ++ pins))) S3 hg hm q hdbg
      · exact ld_blt (X := X.suite a ((a, oe3) :: (X.pn ++ pins))) S3 hg hm hv q hnn hdbg
    refine wpAny_Tuple (wpAny_items_cons (test m1 (wpAny_items_cons (test m2 (wpAny_items_cons (test m3 (wpAny_items_nil ⟨by size_fits, ?_⟩)))))))
    have kp : ∀ q o, h3.get? q = some o → (h3.push { cls := .type "tuple", data := .seq [c1, c2, c3].toArray }).get? q = some o := fun _ _ z => Heap.get?_push_of_some _ z
    have LT : PySem.W.Looks (model X.prog X.w) (h3.push { cls := .type "tuple", data := .seq [c1, c2, c3].toArray }) (typeOf (.ref a)) cls := fun A Q E s k q => wpAny_typeOf_ref (k _ _ (kp _ _ he3)) (by rw [hz3.1]; exact q)
    refine (PySem.W.exm_tup3 (M := model X.prog X.w) (J3.kIn.keeps kp) LT (Heap.get?_push_size h3 rfl) hb1).here ?_
    have fl5 := flyZ_keeps fl3 kp
    have up5 : s'.heap.UpToSlots (h3.push { cls := .type "tuple", data := .seq [c1, c2, c3].toArray }) := up3.trans (Heap.UpToSlots.of_keeps kp)
    generalize h3.push { cls := .type "tuple", data := .seq [c1, c2, c3].toArray } = h5 at fl5 up5
    refine codeAny_handlers_suite_as ?_
    refine HandSPX.lands_againZ fl5 fun h4 fl4 up4 => ?_
    have J4 : Inv X pins σ' H' { s' with heap := h4 } := J.landed nb fl4.1 ((up.trans up5).trans up4) os ag
    obtain ⟨oe4, vs4, he4, hz4, hd4⟩ := fl4.there
    have S4 := J4.suite he4 hd4 na nL nF
    refine store_ok (X := X.suite a ((a, oe4) :: (X.pn ++ pins))) (v := .ref a) S4 hN hi hloc rfl (fun s5 S5 => ?_) (.inr hln)
    refine wpAny_mono ((hsu a oe4 cls d (X.pn ++ pins) hz4 ⟨_, hd4⟩).run [] s5 _ H' _ S5 (hyes a na)) (fun f s6 hsp => ?_) (fun _ _ z => False.elim z)
    have end_ : ∀ {σ6 : L2.St} {H6 : Hp} {Q : Shared → Prop}, Inv (X.suite a ((a, oe4) :: (X.pn ++ pins))) [] σ6 H6 s6 → (∀ s7, Inv X pins (σ6.set i none) H6 s7 → Q s7) →
        wpAny (model X.prog X.w) X.A (do bindName X.env n .none; unbindBehindTheSuite X.env n pos') (fun _ s7 => Q s7) X.xe s6 := fun {σ6 H6 Q} S6 hq => gone_ok (S6.unsuite ok) hN hi hln hq
    cases f with
    | next =>
      obtain ⟨σ6, H6, S6, q6⟩ := hsp
      exact end_ S6 fun s7 J7 => ⟨_, _, J7, q6⟩
    | brk =>
      obtain ⟨σ6, H6, S6, q6⟩ := hsp
      exact end_ S6 fun s7 J7 => ⟨_, _, J7, q6⟩
    | cont =>
      obtain ⟨σ6, H6, S6, q6⟩ := hsp
      exact end_ S6 fun s7 J7 => ⟨_, _, J7, q6⟩
    | ret u =>
      obtain ⟨v6, σ6, H6, S6, r6, q6⟩ := hsp
      exact end_ S6 fun s7 J7 => ⟨_, _, _, J7, r6, q6⟩
  · cases f with
    | next =>
      obtain ⟨σ', H', J', q⟩ := hsp
      exact wpAny_execs_nil ⟨σ', H', J'.ofTry ok, q⟩
    | brk =>
      obtain ⟨σ', H', J', q⟩ := hsp
      exact ⟨σ', H', J'.ofTry ok, q⟩
    | cont =>
      obtain ⟨σ', H', J', q⟩ := hsp
      exact ⟨σ', H', J'.ofTry ok, q⟩
    | ret u =>
      obtain ⟨v, σ', H', J', r, q⟩ := hsp
      exact ⟨v, σ', H', J'.ofTry ok, r, q⟩
/-- the suite's context bears the handled exception -/
theorem hotC_suite {a : Addr} {oe : Obj} {cls : Value} {d : Option Addr} {pn : List (Addr × Obj)} (hz : L2N.Zn cls d oe) (hf : ∃ vs, oe.data = .fields vs) : L2H.HotC (X.suite a ((a, oe) :: pn)) := by
  obtain ⟨vs, hv⟩ := hf
  exact ⟨(a, oe), ⟨rfl, vs, hv, hz.2.2 vs hv⟩, List.mem_cons_self ..⟩
end
end L3

/-! defs asked of the exception that is handled -/
namespace L3
open PySem PySem.Spec PyProof.Rows L2
/-- as okTX, the context of what is raised being None -/
theorem okTXN {P : Program} {w : World} {K : PySem.W.Frag} {mg : Str → Option Value} {base : Heap} {x qual : Str} {st : Stmt} {f : Addr} {fd : FuncData} {N ps : List Str} {kk : Nat} {ts : TSp} (F : Fun K x qual st f fd) (S : FnScope N ps (defScope st)) (len : ∀ Rs M k X, ts Rs M k X → Rs.length = ps.length)
    (hbody : ∀ (cdv : Value) (A : Around) (outer : List PySem.Env) (s : Shared) (H : Hp) (E : XK), Room kk (A.deeper (envOfC qual (defScope st) s.heap.objs.size f cdv)) →
      ∃ t, PSs (cxOf (L2N.CX P w) P w K mg base N qual (defScope st) f cdv A outer s H E) (defBody st) t ∧ ∀ Rs M k X, ts Rs M k X → St E t (startC N Rs) M { nx := fun _ M' => k iNon M', rt := k, ex := X }) : FnOk P w K mg base (L2N.CX P w) (kk + 1) f fd ps (spT ts) := by
  obtain ⟨oc, od, kV, doc, pm, an, cdv, ct, osl, rfl, lk, hcd⟩ := F.ex
  refine fn_of lk hcd S (fun vs H Q E h => ?_) fun A outer s H vs Q E hr h => ?_
  · obtain ⟨_, Rs, M, k, X, h1, _, _, p, _⟩ := h
    exact p.len.trans (len Rs M k X h1)
  · obtain ⟨t, h1, h2⟩ := hbody cdv A outer s H E hr
    obtain ⟨S0, Rs, M, k, X, h3, e, m, p, o, ox⟩ := h
    exact ⟨t, h1, h2 Rs M k X h3 _ S0 H _ (nv_start e m p) ⟨fun σ2 S2 H2 Γ2 M2 q st I2 => o .non S2 H2 iNon M2 q st rfl, o, fun _ _ _ _ _ z => z.elim, fun _ _ _ _ _ z => z.elim, ox⟩⟩
/-- the exception at a, its dict at dd, fields by their representations -/
def XcP (a dd : Addr) (fs : List (Str × Rep)) (S : Hp) (v : V) : Prop := v = .ref a ∧ ∃ vs : List (Str × V), S dd = some (.xd vs) ∧ vs.map (·.1) = fs.map (·.1) ∧ All2 S (fs.map (·.2)) (vs.map (·.2))
def iXc (a dd : Addr) (fs : List (Str × Rep)) : Rep := ⟨XcP a dd fs, fun e ⟨h1, vs, h2, h3, h4⟩ => ⟨h1, vs, e _ _ h2, h3, All2.mono e h4⟩⟩
/-- what the class D must say, so that isinstance asks its instances rightly -/
structure XisC (K : PySem.W.Frag) (D : Addr) : Prop where
  hc : (PySem.W.clsIn K D).isSome = true
  hg : PySem.W.findIn K (.ref D) "__getattribute__" = some (some (.builtin "BaseException.__getattribute__"))
  hk : PySem.W.findIn K (.ref D) "__getattr__" = some none
  hs : PySem.W.subIn K (.ref D) (.type "BaseException") = some true
  hd : PySem.W.hasDictIn K D = true
  ha : PySem.W.findIn K (.ref D) "__class__" = some (some (.builtin "object.__class__"))
  hm : PySem.W.mroIn K D (.type "object") = some true
structure XisK (K : PySem.W.Frag) : Prop where
  hn : PySem.W.specialIn K (.builtin "object.__class__") "__get__" = some (some (.builtin "getset_descriptor.__get__"))
  ht : PySem.W.takesIn K (.builtin "object.__class__") = some true
def rIsH (K : PySem.W.Frag) (D a dd : Addr) : List V → Hp → VK → Prop := fun xs H Q => ∃ (c : V) (cv : Value) (b : Bool) (fs : List (Str × V)), xs = [.ref a, c] ∧ ClsV c cv ∧ PySem.W.kitOne K (.ref D) cv = some b ∧ H dd = some (.xd fs) ∧ Q (.bl b) H
def rIsHT (K : PySem.W.Frag) (D a dd : Addr) : List V → Hp → VK → Prop := fun xs H Q => ∃ (tp : Addr) (cs : List V) (us : List Value) (b : Bool) (fs : List (Str × V)), xs = [.ref a, .ref tp] ∧ H tp = some (.tup cs) ∧ Paired ClsV cs us ∧ PySem.W.kitAny K (.ref D) us = some b ∧ H dd = some (.xd fs) ∧ Q (.bl b) H
section
variable {X : Cx} {D a dd : Addr} {oe : Obj}
theorem inst_hot {pins : List (Addr × Obj)} {s : Shared} {σ : L2.St} {H : Hp} {fs : List (Str × V)} (hp : (a, oe) ∈ X.pn) (hz : L2N.Zn (.ref D) (some dd) oe) (hf : ∃ vs, oe.data = .fields vs) (I : Inv X pins σ H s) (e : H dd = some (.xd fs)) :
    ∃ od mA, PySem.W.InstAt s.heap a oe D (some od) ∧ s.heap.get? dd = some od ∧ s.heap.Ns1 dd mA ∧ ∀ f, RelO (fs.lookup f) (mA f) := by
  obtain ⟨hget, _⟩ := I.pin (a, oe) (List.mem_append.mpr (.inl hp))
  have hx : ObjOk X.prog X.w H s.heap dd (.xd fs) := I.hok dd _ e
  obtain ⟨mA, hns, hr⟩ := hx
  obtain ⟨od, ho, hl⟩ := lookIn_ns hns
  obtain ⟨vs, hv⟩ := hf
  exact ⟨od, mA, ⟨hget, hz.1, by unfold PySem.W.notCls; rw [hv] <;> rfl, by rw [hz.2.1]; exact ho⟩, ho, hns, hr⟩
theorem call_isH (hp : (a, oe) ∈ X.pn) (hz : L2N.Zn (.ref D) (some dd) oe) (hf : ∃ vs, oe.data = .fields vs) (C : XisC X.K D) (U : XisK X.K) : CallR X (.builtin "isinstance") (rIsH X.K D a dd) := by
  intro pins s σ H xs us Q I r h
  obtain ⟨c, cv, b, fs, rfl, hcv, e, ed, q⟩ := h
  cases r with
  | cons rx rr =>
    cases rr with
    | cons rt rr =>
      cases rr
      cases rx
      have ec := hcv.eq rt
      subst ec
      obtain ⟨od, mA, J, _⟩ := inst_hot hp hz hf I ed
      exact PySem.W.kia_one (PySem.W.kitx_exc C.hc C.hg C.hk C.hs C.ha U.hn U.ht C.hm) I.kIn J e (fun z => nomatch z) fun tk => ⟨.bl b, H, I.kept (t' := tk) fun _ _ z => z, rfl, q⟩
theorem call_isHT (hp : (a, oe) ∈ X.pn) (hz : L2N.Zn (.ref D) (some dd) oe) (hf : ∃ vs, oe.data = .fields vs) (C : XisC X.K D) (U : XisK X.K) : CallR X (.builtin "isinstance") (rIsHT X.K D a dd) := by
  intro pins s σ H xs us Q I r h
  obtain ⟨tp, cs, ws, b, fs, rfl, et, hcv, e, ed, q⟩ := h
  cases r with
  | cons rx rr =>
    cases rr with
    | cons rt rr =>
      cases rr
      cases rx
      cases rt
      obtain ⟨od, mA, J, _⟩ := inst_hot hp hz hf I ed
      obtain ⟨_, its, rv, o, h1, h2, n, h3⟩ := (show ObjOk X.prog X.w H s.heap tp (.tup cs) from I.hok tp _ et)
      have ew := ClsV.all hcv rv
      subst ew
      obtain ⟨oc, od', oda, osl⟩ := o
      dsimp only at h2 h3
      subst h2 h3
      exact PySem.W.kia_tup (PySem.W.kitx_exc C.hc C.hg C.hk C.hs C.ha U.hn U.ht C.hm) I.kIn J h1 e (fun z => nomatch z) fun tk => ⟨.bl b, H, I.kept (t' := tk) fun _ _ z => z, rfl, q⟩
/-- e.f -/
def tXfH (K : PySem.W.Frag) (D a dd : Addr) (f : Str) (te : TE) : TE := fun σ H Q => te σ H fun x H1 => x = .ref a ∧ PySem.W.findIn K (.ref D) f = some none ∧ ∃ (fs : List (Str × V)) (v : V), H1 dd = some (.xd fs) ∧ fs.lookup f = some v ∧ Q v H1
theorem pe_xfH {e : Expr} {te : TE} {pos : Pos} {n : Str} (hp : (a, oe) ∈ X.pn) (hz : L2N.Zn (.ref D) (some dd) oe) (hf : ∃ vs, oe.data = .fields vs) (C : XisC X.K D) (he : PE X e te)
    (hb : attributeBase e n X.env (eval e X.env) = eval e X.env := by rfl) : PE X (.Attribute e n pos) (tXfH X.K D a dd n te) := by
  refine ⟨fun pins s σ H Q I h => ?_⟩
  refine attr_of hb (thn (he.run pins s σ H _ I h) fun u s1 ⟨x, H1, I1, rx, ex, hno, fs, v, ed, l, q⟩ => ?_)
  subst ex
  obtain rfl : u = Value.ref a := rx
  obtain ⟨hget, _⟩ := I1.pin (a, oe) (List.mem_append.mpr (.inl hp))
  have hx : ObjOk X.prog X.w H1 s1.heap dd (.xd fs) := I1.hok dd _ ed
  obtain ⟨mA, hns, hr⟩ := hx
  obtain ⟨od, ho, hl⟩ := lookIn_ns hns
  obtain ⟨vs, hv⟩ := hf
  obtain ⟨u, hu, ru⟩ := RelO.some_of (v := v) (o := mA n) (by rw [← l]; exact hr n)
  have J : PySem.W.InstAt s1.heap a oe D (some od) := ⟨hget, hz.1, by unfold PySem.W.notCls; rw [hv] <;> rfl, by rw [hz.2.1]; exact ho⟩
  exact HandSPX.exc_get I1.kIn J C.hg C.hk C.hs (PySem.W.findObj_own C.hd hno rfl (by rw [hl, hu])) (handed_of ru) ⟨v, H1, I1.tok _, ru, q⟩
end
end L3

/-! a lambda without parameters, called by a def that it is handed to, or deeper -/
namespace L3
open PySem PySem.Spec PyProof.Rows L2 LamX
def lamCxN (X : Cx) (A : Around) (outer : List Env) (s : Shared) (H : Hp) (E : XK) (scope : Scope) (f c' : Addr) : Cx :=
  { lamCx X A outer s H E scope f c' with xe := fun e s' => wpAny (model X.prog X.w) (A.deeper (lamEnv X scope s.heap.objs.size f c')) (leaving (lamEnv X scope s.heap.objs.size f c') e) (fun _ s'' => L2N.CX X.prog X.w outer H s E e s'') (fun e' s'' => L2N.CX X.prog X.w outer H s E e' s'') s' }
/-- x(), x a name for the lambda at f, in any def's frame entered at (s', H') since (s, H) from the frames outer -/
def Act (P : Program) (w : World) (K : PySem.W.Frag) (mg : Str → Option Value) (base : Heap) (k : Nat) (outer : List Env) (s : Shared) (H : Hp) (f c' : Addr) (q : Str) (tl : XK → Hp → VK → Prop) : Prop :=
  ∀ (CXg : CXT) (Ng : List Str) (qg : Str) (sg : Scope) (g : Addr) (cdg : Value) (A' : Around) (outer' : List Env) (s' : Shared) (H' : Hp) (Eg : XK) (pn : List (Addr × Obj)) (xe : Value → Shared → Prop) (W : WX) (a : Str) (i : Nat) (p1 p2 : Pos),
    Un (frs outer) [] H H' s.heap s'.heap → (∀ b ∈ frs outer', b ∈ frs outer ∨ s.heap.objs.size ≤ b) → L2N.Takes ((cxOf CXg P w K mg base Ng qg sg g cdg A' outer' s' H' Eg).tr pn xe) W →
    Room (k + 1) (A'.deeper (envOfC qg sg s'.heap.objs.size g cdg)) → Ng[i]? = some a → Vis sg a → (a == ("__debug__" : Str)) = false → (a == ("__classdict__" : Str)) = false →
    PE ((cxOf CXg P w K mg base Ng qg sg g cdg A' outer' s' H' Eg).tr pn xe) (.Call (.Name a p1) [] [] p2) (fun σZ HZ Q => σZ[i]? = some (some (.ref f)) ∧ HZ c' = some (CodeO c' q) ∧ tl (fun cls d H' => W cls d σZ H') HZ Q)
theorem un_trans {fs fs' : List Addr} {H H1 H2 : Hp} {h h1 h2 : Heap} (u : Un fs [] H H1 h h1) (v : Un fs' [] H1 H2 h1 h2) (hfs : ∀ b ∈ fs', b ∈ fs ∨ h.objs.size ≤ b) : Un fs [] H H2 h h2 where
  keep b o e n hf hx := by
    refine v.keep b o (u.keep b o e n hf hx) (u.free b o e n hx) (fun z => ?_) hx
    rcases hfs b z with q | q
    · exact hf q
    · exact absurd (Heap.lt_size e) (Nat.not_lt.mpr q)
  slot b o e n hf hx := by
    obtain ⟨sl, e1⟩ := u.slot b o e n hf hx
    have n1 := u.free b o e n hx
    by_cases hb : b ∈ fs'
    · obtain ⟨sl2, e2⟩ := v.slot b _ e1 n1 hb hx
      exact ⟨sl2, e2⟩
    · exact ⟨sl, v.keep b _ e1 n1 hb hx⟩
  free b o e n hx := by
    obtain ⟨o1, e1⟩ := u.there b o e hx
    exact v.free b o1 e1 (u.free b o e n hx) hx
  there b o e hx := by
    obtain ⟨o1, e1⟩ := u.there b o e hx
    exact v.there b o1 e1 hx
  tups b xs e := v.tups b xs (u.tups b xs e)
  frzs b o x e := v.frzs b o x (u.frzs b o x e)
  tbls b ps e := by
    obtain ⟨m1, e1⟩ := u.tbls b ps e
    obtain ⟨m2, e2⟩ := v.tbls b _ e1
    exact ⟨m1 ++ m2, by rw [e2, Array.append_assoc]⟩
section
variable {X : Cx} {pins : List (Addr × Obj)} {σ : L2.St} {H : Hp} {s : Shared}
theorem act_of {f c' : Addr} {pm ctv : Value} {params : Arguments} {body : Expr} {scope : Scope} {k : Nat} {tb : XK → TE}
    (I : Inv X pins σ H s) (L : LamS X.env.scope scope) (hf : s.heap.get? f = some (PySem.W.kla_obj "<lambda>" (X.env.qual ++ "<lambda>") params body scope (cloFrom X.env.cells scope.names []) pm c' ctv)) (hfn : H f = none) (hfr : f ∉ frs X.stack)
    (hbind : bindArgs (PySem.W.kla_fn "<lambda>" (X.env.qual ++ "<lambda>") params body scope (cloFrom X.env.cells scope.names []) pm (.ref c') ctv) ⟨[], []⟩ = pure [])
    (hbody : ∀ (A : Around) (outer : List Env) (s : Shared) (H : Hp) (E : XK), Room k (A.deeper (lamEnv X scope s.heap.objs.size f c')) → PE (lamCxN X A outer s H E scope f c') body (tb E)) :
    Act X.prog X.w X.K X.mg X.base k X.stack s H f c' (X.env.qual ++ "<lambda>") (fun E H' Q' => tb E σ H' Q') := by
  intro CXg Ng qg sg g cdg A' outer' s' H' Eg pn xe W a i p1 p2 un0 hfs tk hr hN hv hd hcd
  refine ⟨fun pinsZ sZ σZ HZ Q IZ h => ?_⟩
  obtain ⟨hs, hc, ht⟩ := h
  refine wpAny_Call_Name_kw (thn ((pe_var (pos := p1) (i := i) hN hv hd hcd).run pinsZ sZ σZ HZ (fun v H1 => v = .ref f ∧ H1 = HZ) IZ ⟨.ref f, hs, rfl, rfl⟩) fun u s1 ⟨v, H1, I1, r1, q1⟩ => ?_)
  obtain ⟨ev, eH⟩ := q1
  subst ev
  rw [eH] at I1
  obtain rfl : u = Value.ref f := r1
  have unZ : Un (frs outer') [] H' HZ s'.heap s1.heap := I1.base
  have un : Un (frs X.stack) [] H HZ s.heap s1.heap := un_trans un0 unZ hfs
  have of1 : s1.heap.get? f = some (PySem.W.kla_obj "<lambda>" (X.env.qual ++ "<lambda>") params body scope (cloFrom X.env.cells scope.names []) pm c' ctv) := un.keep f _ hf hfn hfr (fun z => nomatch z)
  refine PySem.W.callWith_F0 ⟨_, _, _, _, of1⟩ ?_
  obtain ⟨⟨oc, vs, t, hoc, hdc, hvc⟩, _, _⟩ := I1.hok c' _ hc
  have rc : codeAny (model X.prog X.w) (A'.deeper (envOfC qg sg s'.heap.objs.size g cdg)) (.call (.ref f) ⟨[], []⟩) (CR (L2N.CX X.prog X.w) (envOfC qg sg s'.heap.objs.size g cdg :: outer') X.prog X.w HZ s1 Q (fun cls d H' => W cls d σZ H')) s1 := by
    refine PySem.W.kla_callFunE hr.depth of1 rfl L.co L.gen rfl ⟨c', oc, vs, t, rfl, hoc, hdc, hvc⟩ ?_
    rw [hbind]
    refine wpAny_pure (wpAny_newFunctionEnv (fun y hy => (L.own y hy).2) (fun y hy => absurd hy (by simp)) (fun h₁ hns hsb => ⟨I1.nolimit.fresh _ hsb, ?_⟩) L.kind)
    show codeAny _ _ (.expr body (lamEnv X scope s1.heap.objs.size f c')) _ _
    have kp : ∀ b o, s1.heap.get? b = some o → h₁.get? b = some o := fun b o e => hsb.extBut b o (Nat.ne_of_lt (Heap.lt_size e)) (Heap.get?_push_of_some _ e)
    have J0 : Inv (lamCx X (A'.deeper (envOfC qg sg s'.heap.objs.size g cdg)) (envOfC qg sg s'.heap.objs.size g cdg :: outer') s1 HZ (fun cls d H' => W cls d σZ H') scope f c') [] σ HZ { s1 with heap := h₁, toks := s1.toks + ([] : List (Str × Value)).length } :=
      lam_start2 I L I1.env0 hr.hd un hns kp
    have J : Inv (lamCxN X (A'.deeper (envOfC qg sg s'.heap.objs.size g cdg)) (envOfC qg sg s'.heap.objs.size g cdg :: outer') s1 HZ (fun cls d H' => W cls d σZ H') scope f c') [] σ HZ { s1 with heap := h₁, toks := s1.toks + ([] : List (Str × Value)).length } :=
      ⟨⟨J0.ok.mod, J0.ok.kind, J0.ok.glob, J0.ok.blt, J0.ok.above, J0.ok.inj, J0.ok.has, J0.ok.cab, J0.ok.hd, J0.ok.frames, J0.ok.stk, J0.ok.exf, J0.ok.bs, J0.ok.bsz, J0.ok.noex, J0.ok.exfs, J0.ok.funs, J0.ok.frf⟩, J0.os, J0.bare, J0.base, J0.loc, J0.cell, J0.free, J0.freeC, J0.pin, J0.hok, J0.len⟩
    refine PySem.W.kla_codeExpr (wpAny_mono ((hbody _ _ s1 HZ _ (hr.deeper _)).run [] _ _ HZ Q J ht) (fun v s' hq => ?_) fun e s' hq => hq)
    obtain ⟨w', H', J', rv, q⟩ := hq
    exact ⟨w', H', J'.os, J'.bare, J'.base, J'.hok, rv, q⟩
  refine wpAny_call (codeAny_mono rc fun r s' hq => ?_)
  cases r with
  | error e => exact L2N.passAt tk σZ pinsZ HZ s1 e s' I1 hq
  | ok fl =>
    cases fl with
    | ret u => exact I1.after hq
    | next => exact False.elim hq
    | brk => exact False.elim hq
    | cont => exact False.elim hq
end
end L3

/-! defs that are handed the handled exception; defs that are handed a lambda -/
namespace L3
open PySem PySem.Spec PyProof.Rows L2 LamX
/-- a def asked of the handled exception p, an instance of D with the dict dd: ts p's place, D, dd -/
structure FnE (P : Program) (w : World) (K : PySem.W.Frag) (mg : Str → Option Value) (base : Heap) (k : Nat) (f : Addr) (fd : FuncData) (ps : List Str) (ts : Addr → Addr → Addr → TSp) : Prop where
  len : ∀ a D dd Rs M k X, ts a D dd Rs M k X → Rs.length = ps.length
  run : ∀ (A : Around) (outer : List Env) (s : Shared) (H : Hp) (args : Args) (us : List Value) (vs : List V) (Q : VK) (p : Addr × Obj) (D dd : Addr), L2H.RoomH k A → L2H.Hot1 A p → L2H.PinOk outer H s p → L2N.Zn (.ref D) (some dd) p.2 → (∃ vs, p.2.data = .fields vs) →
    Env0 P w K mg base A outer s H → BindsTo s fd args (ps.zip us) → Vals vs us → spT (ts p.1 D dd) vs H Q E0 → codeAny (model P w) A (.call (.ref f) args) (CR CX0 outer P w H s Q E0) s
theorem okE {P : Program} {w : World} {K : PySem.W.Frag} {mg : Str → Option Value} {base : Heap} {x qual : Str} {st : Stmt} {f : Addr} {fd : FuncData} {N ps : List Str} {kk : Nat} {ts : Addr → Addr → Addr → TSp} (F : Fun K x qual st f fd) (S : FnScope N ps (defScope st)) (len : ∀ a D dd Rs M k X, ts a D dd Rs M k X → Rs.length = ps.length)
    (hbody : ∀ (cdv : Value) (A : Around) (outer : List PySem.Env) (s : Shared) (H : Hp) (p : Addr × Obj) (D dd : Addr), L2H.RoomH kk (A.deeper (envOfC qual (defScope st) s.heap.objs.size f cdv)) → L2H.Hot1 A p → L2N.Zn (.ref D) (some dd) p.2 → (∃ vs, p.2.data = .fields vs) → (∃ Rs M k X, ts p.1 D dd Rs M k X) →
      ∃ t, PSs (L2H.cxH CX0 P w K mg base N qual (defScope st) f cdv A outer s H E0 p) (defBody st) t ∧ ∀ Rs M k X, ts p.1 D dd Rs M k X → St E0 t (startC N Rs) M { nx := fun _ M' => k iNon M', rt := k, ex := X }) : FnE P w K mg base (kk + 1) f fd ps ts := by
  obtain ⟨oc, od, kV, doc, pm, an, cdv, ct, osl, rfl, lk, hcd⟩ := F.ex
  refine ⟨len, fun A outer s H args us vs Q p D dd hr hot hpin hz hf e0 hb r hsp => ?_⟩
  have KX : K.In s.heap := e0.mod.kin.keeps fun b o e => (e0.bs b o e).1
  have lim : s.heap.NoLimit := e0.mod.nolimit.keeps fun b o e => (e0.bs b o e).1
  have hl : vs.length = ps.length := by
    obtain ⟨_, Rs, M, k, X, h1, _, _, p', _⟩ := hsp
    exact p'.len.trans (len _ _ _ Rs M k X h1)
  have hkind : ∀ y ∈ ps.zip us, (defScope st).names.lookup y.1 = some .local ∨ ((defScope st).names.lookup y.1 = some .cell ∧ ((cellsFrom (s.heap.objs.size + 1) (defScope st).names []).lookup y.1).isSome = true) := fun ⟨n, v⟩ hy => by
    rcases S.par n (List.of_mem_zip hy).1 with q | q
    · exact .inl q
    · exact .inr ⟨q, PySem.W.cellsFrom_some _ _ _ (.inl q)⟩
  refine codeAny_call_function hr.depth (KX _ _ lk) rfl S.co S.gen rfl (PySem.W.codeRec_of KX hcd) (hb _ _ _ _ ?_)
  refine wpAny_newFunctionEnv_cells S.kind hkind fun env he s1 x => ?_
  subst he
  refine ⟨lim.keeps x.toInCall.keep, codeAny_func ?_⟩
  obtain ⟨S0, Rs, M, k, X, h3, e, m, p', o, ox⟩ := hsp
  obtain ⟨t, ht, hq⟩ := hbody cdv A outer s H p D dd (hr.deeper _) hot hz hf ⟨Rs, M, k, X, h3⟩
  have hq' := hq Rs M k X h3 _ S0 H { nx := fun _ H' => Q .non H', rt := Q } (nv_start e m p') ⟨fun σ2 S2 H2 Γ2 M2 q st I2 => o .non S2 H2 iNon M2 q st rfl, o, fun _ _ _ _ _ z => z.elim, fun _ _ _ _ _ z => z.elim, ox⟩
  have I : Inv (L2H.cxH CX0 P w K mg base N qual (defScope st) f cdv A outer s H E0 p) [] (L2.start N vs) H s1 := L2H.inv_startH S hpin e0 hl r x
  refine wpAny_mono (ht.run [] s1 (L2.start N vs) H _ I hq') (fun fl s' hs => ?_) fun e s' hs => hs
  have fin : ∀ {σ' : L2.St} {H' : Hp} {v : V} {u : Value}, Inv (L2H.cxH CX0 P w K mg base N qual (defScope st) f cdv A outer s H E0 p) [] σ' H' s' → RelV v u → Q v H' → CE outer P w H s Q u s' :=
    fun {σ' H' v u} J rv q => ⟨v, H', J.os, J.bare, J.base, J.hok, rv, q⟩
  cases fl with
  | ret u =>
    obtain ⟨v, σ', H', J, rv, q⟩ := hs
    exact fin J rv q
  | next =>
    obtain ⟨σ', H', J, q⟩ := hs
    exact fin (v := V.non) (u := Value.none) J rfl q
  | brk =>
    obtain ⟨_, _, _, q⟩ := hs
    exact False.elim q
  | cont =>
    obtain ⟨_, _, _, q⟩ := hs
    exact False.elim q
structure ClE (P : Program) (w : World) (K : PySem.W.Frag) (mg : Str → Option Value) (base : Heap) (k : Nat) (x : Str) (ts : Addr → Addr → Addr → TSp) : Prop where
  ex : ∃ (f : Addr) (fd : FuncData) (ps : List Str), FnE P w K mg base k f fd ps ts ∧ mg x = some (.ref f) ∧ PySem.W.keepIn K (.ref f) = true ∧ Binds K fd ps []
section
variable {X : Cx} {k j : Nat} {x : Str} {ts : Addr → Addr → Addr → TSp} {p pos : Pos} {e : Expr} {es : List Expr} {t : TA} {a D dd : Addr} {oe : Obj}
theorem pe_clE (c : ClE X.prog X.w X.K X.mg X.base k x ts) (hr : L2H.RoomH j X.A) (hk : k ≤ j) (hp : (a, oe) ∈ X.pn) (hot : L2H.Hot1 X.A (a, oe)) (hz : L2N.Zn (.ref D) (some dd) oe) (hf : ∃ vs, oe.data = .fields vs) (hg : Gl X x) (ha : PA X (e :: es) t)
    (hdb : (x == ("__debug__" : Str)) = false := by decide) (he : starEach (e :: es) X.env = (false, eval e X.env) :: starEach es X.env := by rfl) (hpl : (backTo pos (starEach es X.env)).any (·.1) = false := by rfl) :
    PE X (.Call (.Name x p) (e :: es) [] pos) (tCall (spT (ts a D dd)) [] E0 t) := by
  obtain ⟨f, fd, ps, F, hm, kp, hb⟩ := c.ex
  refine ⟨fun pins s σ H Q I h => ?_⟩
  refine wpAny_Call_Name_kw (ld_glob I hg hm ?_ hdb)
  refine PySem.W.callWith_K (h₀ := X.base) I.ok.mod.kin kp (thn (ha.run pos pins s σ H _ I h) fun us s1 ⟨vs, H1, I1, r, q⟩ => ⟨I1.kIn, ?_⟩) he hpl
  replace q : spT (ts a D dd) vs H1 Q E0 := by
    have q' : spT (ts a D dd) (vs ++ []) H1 Q E0 := q
    rw [List.append_nil] at q'
    exact q'
  have hl : us.length = ps.length := by
    rw [← r.length]
    obtain ⟨_, Rs, M, k, X, h1, _, _, p', _⟩ := id q
    exact p'.len.trans (F.len _ _ _ Rs M k X h1)
  have b := hb s1 us I1.kIn (by rw [List.append_nil]; exact hl)
  rw [List.append_nil] at b
  have P1 := I1.pin (a, oe) (List.mem_append_left _ hp)
  have hpin : L2H.PinOk X.stack H1 s1 (a, oe) := ⟨P1.1, P1.2.1, fun hm => (List.mem_cons.mp (I1.stkSub a hm)).elim P1.2.2.1 P1.2.2.2.1, P1.2.2.2.2⟩
  refine wpAny_call (codeAny_mono (F.run X.A X.stack s1 H1 ⟨us, []⟩ us vs Q (a, oe) D dd (hr.mono hk) hot hpin hz hf I1.env0 b r q) fun r s' hq => ?_)
  cases r with
  | error e => exact (show False from hq).elim
  | ok fl =>
    cases fl with
    | ret u => exact I1.after hq
    | next => exact False.elim hq
    | brk => exact False.elim hq
    | cont => exact False.elim hq
end
end L3

/-! defs that are handed a lambda -/
namespace L3
open PySem PySem.Spec PyProof.Rows L2 LamX
abbrev GTT := (XK → Hp → VK → Prop) → Hp → VK → Prop
structure FnL (P : Program) (w : World) (K : PySem.W.Frag) (mg : Str → Option Value) (base : Heap) (k : Nat) (g : Addr) (TT : GTT) : Prop where
  run : ∀ (A : Around) (outer : List Env) (s : Shared) (H : Hp) (f c' : Addr) (q : Str) (tl : XK → Hp → VK → Prop) (kl : Nat) (outer0 : List Env) (s0 : Shared) (H0 : Hp) (Q : VK), Act P w K mg base kl outer0 s0 H0 f c' q tl →
    Un (frs outer0) [] H0 H s0.heap s.heap → (∀ b ∈ frs outer, b ∈ frs outer0 ∨ s0.heap.objs.size ≤ b) → s0.heap.objs.size ≤ s.heap.objs.size → Room (kl + k) A → Env0 P w K mg base A outer s H → H c' = some (CodeO c' q) → TT tl H Q →
    codeAny (model P w) A (.call (.ref g) ⟨[.ref f], []⟩) (CR CX0 outer P w H s Q E0) s
section
variable {P : Program} {w : World} {K : PySem.W.Frag} {mg : Str → Option Value} {base : Heap}
theorem okL {x qual a : Str} {st : Stmt} {g : Addr} {fd : FuncData} {N : List Str} {k : Nat} {TT : GTT} (F : Fun K x qual st g fd) (S : FnScope N [a] (defScope st)) (hb : Binds K fd [a] [])
    (hbody : ∀ (cdv : Value) (A : Around) (outer : List Env) (s : Shared) (H : Hp) (f c' : Addr) (q : Str) (tl : XK → Hp → VK → Prop) (kl : Nat) (outer0 : List Env) (s0 : Shared) (H0 : Hp) (Q : VK), Act P w K mg base kl outer0 s0 H0 f c' q tl →
      Un (frs outer0) [] H0 H s0.heap s.heap → (∀ b ∈ frs outer, b ∈ frs outer0 ∨ s0.heap.objs.size ≤ b) → s0.heap.objs.size ≤ s.heap.objs.size → Room (kl + k) (A.deeper (envOfC qual (defScope st) s.heap.objs.size g cdv)) → H c' = some (CodeO c' q) → TT tl H Q →
      ∃ t, PSs (cxOf CX0 P w K mg base N qual (defScope st) g cdv A outer s H E0) (defBody st) t ∧ t { nx := fun _ H' => Q .non H', rt := Q } (L2.start N [.ref f]) H) : FnL P w K mg base (k + 1) g TT := by
  obtain ⟨oc, od, kV, doc, pm, an, cdv, ct, osl, rfl, lk, hcd⟩ := F.ex
  refine ⟨fun A outer s H f c' q tl kl outer0 s0 H0 Q act un hfs hsz hr e0 hc hT => ?_⟩
  have b := hb s [.ref f] (e0.mod.kin.keeps fun b o e => (e0.bs b o e).1) rfl
  exact run_ofS (us := [.ref f]) (vs := [.ref f]) (k := kl + k) lk hcd S hr e0 b (.cons rfl .nil) rfl fun hr' => hbody cdv A outer s H f c' q tl kl outer0 s0 H0 Q act un hfs hsz hr' hc hT
end
/-- handed on: g(a), a a name for the lambda, within such a def's body -/
theorem pe_callL {P : Program} {w : World} {K : PySem.W.Frag} {mg : Str → Option Value} {base : Heap} {CXg : CXT} {Ng : List Str} {qg : Str} {sg : Scope} {g0 : Addr} {cdg : Value} {A : Around} {outer : List Env} {s : Shared} {H : Hp} {Eg : XK} {k kl : Nat} {x : Str} {g : Addr} {TT : GTT}
    {f c' : Addr} {q : Str} {tl : XK → Hp → VK → Prop} {outer0 : List Env} {s0 : Shared} {H0 : Hp} {a : Str} {i : Nat} {p p1 pos : Pos} (F : FnL P w K mg base k g TT) (hm : mg x = some (.ref g)) (hk : PySem.W.keepIn K (.ref g) = true) (hg : Gl (cxOf CXg P w K mg base Ng qg sg g0 cdg A outer s H Eg) x)
    (act : Act P w K mg base kl outer0 s0 H0 f c' q tl) (un : Un (frs outer0) [] H0 H s0.heap s.heap) (hfs : ∀ b ∈ frs outer, b ∈ frs outer0 ∨ s0.heap.objs.size ≤ b) (hsz : s0.heap.objs.size ≤ s.heap.objs.size) (hr : Room (kl + k) (A.deeper (envOfC qg sg s.heap.objs.size g0 cdg)))
    (hN : Ng[i]? = some a) (hv : Vis sg a) (hd : (a == ("__debug__" : Str)) = false := by decide) (hcd : (a == ("__classdict__" : Str)) = false := by decide) (hdb : (x == ("__debug__" : Str)) = false := by decide) :
    PE (cxOf CXg P w K mg base Ng qg sg g0 cdg A outer s H Eg) (.Call (.Name x p) [.Name a p1] [] pos) (fun σ H1 Q => σ[i]? = some (some (.ref f)) ∧ H1 c' = some (CodeO c' q) ∧ TT tl H1 Q) := by
  refine ⟨fun pins s1 σ H1 Q I h => ?_⟩
  obtain ⟨hs, hc, hT⟩ := h
  refine wpAny_Call_Name_kw (ld_glob I hg hm ?_ hdb)
  refine PySem.W.callWith_K (h₀ := base) I.ok.mod.kin hk (thn ((pa_cons (pe_var (pos := p1) (i := i) hN hv hd hcd) pa_nil).run pos pins s1 σ H1 (fun vs H2 => vs = [.ref f] ∧ H2 = H1) I ⟨.ref f, hs, rfl, rfl⟩) fun us s2 ⟨vs, H2, I2, r, e1, e2⟩ => ⟨I2.kIn, ?_⟩) rfl rfl
  subst e1 e2
  cases r with
  | cons ru rn =>
    cases rn
    cases ru
    have unZ : Un (frs outer) [] H H2 s.heap s2.heap := I2.base
    have szL : s.heap.objs.size ≤ s2.heap.objs.size := I2.sz
    refine wpAny_call (codeAny_mono (F.run _ (envOfC qg sg s.heap.objs.size g0 cdg :: outer) s2 H2 f c' q tl kl outer0 s0 H0 Q act (un_trans un unZ hfs) (fun b hb => ?_) (Nat.le_trans hsz szL) hr I2.env0 hc hT) fun r s' hq => ?_)
    · have hb' : b ∈ frs (envOfC qg sg s.heap.objs.size g0 cdg :: outer) := hb
      unfold frs at hb'
      rw [List.filterMap_cons] at hb'
      rcases List.mem_cons.mp hb' with z | z
      · exact .inr (by rw [z]; exact hsz)
      · exact hfs b z
    · cases r with
      | error e => exact (show False from hq).elim
      | ok fl =>
        cases fl with
        | ret u => exact I2.after hq
        | next => exact False.elim hq
        | brk => exact False.elim hq
        | cont => exact False.elim hq
/-- x(lambda: body) -/
theorem pe_lamN {X : Cx} {T : List (Addr × Str)} {TT : GTT} {x : Str} {g c P : Addr} {k kl : Nat} {params : Arguments} {body : Expr} {scope : Scope} {t : XK → TE} {p lpos pos : Pos} (hg : Gl X x) (hm : X.mg x = some (.ref g)) (hk : PySem.W.keepIn X.K (.ref g) = true)
    (F : FnL X.prog X.w X.K X.mg X.base k g TT) (TB : TabB X.base X.mg c P) (hcode : X.env.code = .ref c) (hmT : (P, X.env.qual ++ "<lambda>") ∈ T) (hu : ∀ p ∈ T, p.1 = P → p.2 = X.env.qual ++ "<lambda>") (hr : Room (kl + k) X.A) (L : LamS X.env.scope scope) (hdef : defaultsOf params X.env = ([], []))
    (hbind : ∀ (q : Str) (cl : List (Str × Addr)) (pm cv ctv : Value), bindArgs (PySem.W.kla_fn "<lambda>" q params body scope cl pm cv ctv) ⟨[], []⟩ = pure [])
    (hbody : ∀ (A : Around) (outer : List Env) (s : Shared) (H : Hp) (E : XK) (f c' : Addr), Room kl (A.deeper (lamEnv X scope s.heap.objs.size f c')) → PE (lamCxN X A outer s H E scope f c') body (t E))
    (hdb : (x == ("__debug__" : Str)) = false := by decide) : PE X (.Call (.Name x p) [.Lambda params body scope lpos] [] pos) (tLam T TT t) := by
  refine ⟨fun pins s σ H Q I h => ?_⟩
  obtain ⟨hT, h⟩ := h
  refine wpAny_Call_Name_kw (ld_glob I hg hm ?_ hdb)
  refine PySem.W.callWith_K (h₀ := X.base) I.ok.mod.kin hk ?_ (by rfl) (by rfl)
  show wpAny _ _ (spliced ((false, eval (.Lambda params body scope lpos) X.env) :: backTo pos (starEach [] X.env))) _ _ s
  refine Calls.spliced_cons (lam_make2 I TB hcode hmT hu hT hdef (L.has I.ok) fun f c' pm' ctv H1 s' I1 eN T1 hf hfn hfr hco => ?_)
  refine Calls.spliced_nil ⟨I1.kIn, ?_⟩
  have act := act_of (k := kl) (tb := t) I1 L hf hfn hfr (hbind _ _ _ _ _) fun A outer s H E hr2 => hbody A outer s H E f c' hr2
  refine wpAny_call (codeAny_mono (F.run X.A X.stack s' H1 f c' _ _ kl X.stack s' H1 Q act (Un.kept fun _ _ e => e) (fun b hb => .inl hb) (Nat.le_refl _) hr I1.env0 hco (h H1 eN T1)) fun r s2 hq => ?_)
  cases r with
  | error e => exact (show False from hq).elim
  | ok fl =>
    cases fl with
    | ret u => exact I1.after hq
    | next => exact False.elim hq
    | brk => exact False.elim hq
    | cont => exact False.elim hq
end L3

/-! typed: what the law's own defs ask of the handled exception -/
namespace L3
open PySem PySem.Spec PyProof.Rows L2 LamX
theorem blk_tup2H {X : Cx} {i j : Nat} {x y : Str} {scope : Scope} {px py tpos : Pos} {kk : Nat} (hN : X.N.Nodup) (hi : X.N[i]? = some x := by rfl) (hj : X.N[j]? = some y := by rfl)
    (hx : ∀ C cl, (compEnvC scope cl C X.env).scope.names.lookup x = some .local := by intro _ _; rfl) (hy : ∀ C cl, (compEnvC scope cl C X.env).scope.names.lookup y = some .local := by intro _ _; rfl) (s : Shared) (H : Hp) (C : Addr) (cl : List (Str × Addr)) (fp : List Addr)
    (hd : HdX (X.blk s H scope (compEnvC scope cl C X.env) fp)) :
    PG (X.blk s H scope (compEnvC scope cl C X.env) fp) (.Tuple [.Name x px, .Name y py] kk tpos) (gTup X.K 2 (gCons (gName i) (gCons (gName j) gNil))) :=
  pg_tupH (X := X.blk s H scope (compEnvC scope cl C X.env) fp) hd (pgs_cons (pg_name hN hi (.inl (hx C cl)) (.inr (hx C cl))) (pgs_cons (pg_name hN hj (.inl (hy C cl)) (.inr (hy C cl))) pgs_nil))
theorem walk_zipH {K : PySem.W.Frag} {a b : Addr} {xs ys : List V} {n : Nat} (hn : n = xs.length) (hl : xs.length ≤ ys.length) : Walk (ItzH K a b) n (fun H => SqL K H a xs ∧ SqL K H b ys) (YPair (fun i => xs[i]?) (fun i => ys[i]?)) := by
  subst hn
  refine ⟨fun i _ hi q => ?_, fun _ q => ⟨xs, ys, q.1, q.2, Nat.le_refl _⟩, fun i H v H' _ q y => ?_⟩
  · have h2 : i < ys.length := by omega
    exact ⟨xs, ys, xs[i], ys[i], q.1, q.2, by simp [hi], by simp [h2]⟩
  · obtain ⟨T, x, z, h1, h2, h3, h4, h5⟩ := y
    exact ⟨T, x, z, h1, h2, h3, h4 xs q.1, h5 ys q.2⟩
section
variable {E : XK} {K : PySem.W.Frag} {Γ : Ct} {M : SH} {k : KR} {X : KX} {R R1 R2 : Rep} {te ta tb : TE} {tr : TA} {n : Nat} {D a dd C : Addr} {fs : List (Str × Rep)}
theorem tip_zipH {r1 r2 : List Rep} (h : Ep E ta Γ M (iLst r1)) (h' : Ep E tb Γ M (iLst r2)) (hn : n = r1.length) (hl : r1.length ≤ r2.length) : Tip E (iZipH K (tCons ta (tCons tb tNil))) Γ M n (fun i r => ∃ q1 q2, r1[i]? = some q1 ∧ r2[i]? = some q2 ∧ r = aTup K [q1, q2]) := fun ki X q σ S H R I o ox =>
  eap_cons h (eap_cons h' eap_nil) (fun Rs M' => Rs = [iLst r1, iLst r2] ∧ M' = M) X ⟨rfl, rfl⟩ σ S H _ I (fun xs S2 H2 Rs M2 ⟨e1, e2⟩ st p => by
    subst e1; subst e2
    obtain ⟨v, w, rfl, ⟨a, ys, rfl, p1, p2⟩, b, zs, rfl, p3, p4⟩ := all2_2 p
    refine ⟨a, b, ys, zs, rfl, SqL.of (st.e _ _ p1), SqL.of (st.e _ _ p3), o _ S2 H2 _ _ _ q st ?_⟩
    exact tw_pair (walk_zipH (by rw [p2.len]; exact hn) (by rw [p2.len, p4.len]; exact hl)) (fun Sx H e1 e2 => ⟨SqL.of ((e1.trans e2) _ _ p1), SqL.of ((e1.trans e2) _ _ p3)⟩) (fun i x hi hx => p2.getV hx) (fun i x hi hx => p4.getV hx)) ox
theorem c_isH {b : Bool} (h : PySem.W.kitOne K (.ref D) (.ref C) = some b) : Olp (rIsH K D a dd) [iXc a dd fs, iRef C] M (iBl b) := ol_val fun xs S H e _ p => by
  obtain ⟨v, w, rfl, ⟨rfl, vs, p1, _⟩, p2⟩ := all2_2 p
  cases p2
  exact ⟨_, rfl, fun Q q => ⟨.ref C, .ref C, b, vs, rfl, .own C, h, e _ _ p1, q⟩⟩
theorem c_isHT {b : Bool} {Cs : List Addr} (h : PySem.W.kitAny K (.ref D) (Cs.map Value.ref) = some b) : Olp (rIsHT K D a dd) [iXc a dd fs, iTupS (Cs.map iRef)] M (iBl b) := ol_val fun xs S H e _ p => by
  obtain ⟨v, w, rfl, ⟨rfl, vs, p1, _⟩, tp, ys, rfl, h1, p2⟩ := all2_2 p
  have ey : ys = Cs.map V.ref := All2.flat (r := iRef) (g := V.ref) (fun _ _ q => q) p2
  subst ey
  refine ⟨_, rfl, fun Q q => ⟨tp, Cs.map V.ref, Cs.map Value.ref, b, vs, rfl, e _ _ h1, ?_, h, e _ _ p1, q⟩⟩
  clear h h1 p2 p
  induction Cs with
  | nil => exact .nil
  | cons c r ih => exact .cons (.own c) ih
theorem ep_xfH {f : Str} (h : Ep E te Γ M (iXc a dd fs)) (hno : PySem.W.findIn K (.ref D) f = some none) (hl : fs.lookup f = some R) : Ep E (tXfH K D a dd f te) Γ M R := fun k X q σ S H Q I o ox =>
  h (fun R' M' => R' = iXc a dd fs ∧ M' = M) X ⟨rfl, rfl⟩ σ S H _ I (fun v S1 H1 R' M1 ⟨e1, e2⟩ st p => by
    subst e1; subst e2
    obtain ⟨rfl, vs, p1, p2, p3⟩ := p
    refine ⟨rfl, hno, vs, ?_⟩
    have key : ∀ {fs : List (Str × Rep)} {vs : List (Str × V)}, vs.map (·.1) = fs.map (·.1) → All2 S1 (fs.map (·.2)) (vs.map (·.2)) → fs.lookup f = some R → ∃ v, vs.lookup f = some v ∧ R.p S1 v := by
      intro fs
      induction fs with
      | nil => intro vs _ _ h; cases h
      | cons x fs ih =>
        intro vs e1 e2 h
        match vs, e1, e2 with
        | y :: vs, e1, e2 =>
          obtain ⟨n1, r1⟩ := x
          obtain ⟨n2, v2⟩ := y
          have en : n2 = n1 := (List.cons.inj e1).1
          subst en
          rw [List.lookup_cons] at h ⊢
          cases hq : f == n2 with
          | true => rw [hq] at h; cases h; exact ⟨v2, rfl, e2.1⟩
          | false => rw [hq] at h; exact ih (List.cons.inj e1).2 e2.2 h
        | [], e1, _ => cases e1
    obtain ⟨v, h1, h2⟩ := key p2 p3 hl
    exact ⟨v, st.e _ _ p1, h1, o v S1 H1 R _ q st h2⟩) ox
theorem om_split {a b : Str} (hb : (b.length == 0) = false) (ha : a.length ≤ 1000000) (h : k (iLst ((Txt.split a b).map aStr)) M) : Om (fun x xs H Q => ∃ a b, x = .str a ∧ xs = [.str b] ∧ (b.length == 0) = false ∧ a.length + 2 ≤ sizeLine ∧ rNewStrs (Txt.split a b) H Q) (aStr a) [aStr b] M k := fun x xs S H Q e m h1 h2 o => by
  have h1 : x = .str a := h1
  obtain ⟨v, e1, h2⟩ := all2_1 h2
  have h2 : v = .str b := h2
  subst h1 h2 e1
  refine ⟨a, b, rfl, rfl, hb, by rw [sizeLine_eq]; omega, fun p hp => ?_⟩
  exact o _ _ _ _ _ h (Stp.newS (o := .lst ((Txt.split a b).map V.str)) e m hp) ⟨p, _, rfl, upd_same, All2.unflat (fun _ => rfl) _⟩
theorem kitAny_of {K : PySem.W.Frag} {D : Addr} : ∀ {Cs : List Addr}, (∀ C ∈ Cs, PySem.W.kitOne K (.ref D) (.ref C) = some (D == C)) → PySem.W.kitAny K (.ref D) (Cs.map Value.ref) = some (Cs.any fun C => D == C)
  | [], _ => rfl
  | C :: r, h => by
    rw [List.map_cons]
    unfold PySem.W.kitAny
    rw [h C (List.mem_cons_self ..)]
    cases e : (D == C) with
    | true => simp [e]
    | false =>
      simp only [List.any_cons, e, Bool.false_or]
      exact kitAny_of fun C' hc => h C' (List.mem_cons_of_mem _ hc)
end
end L3

/-! the law's own try: what was told, or the word and the field of what was raised -/
namespace L3
open PySem PySem.Spec PyProof.Rows L2 LamX
theorem pss_exD {X : Cx} {ss : List Stmt} {cls : Value} {d : Option Addr} {t : Addr → Addr → TS} (h : ∀ D dd, cls = .ref D → d = some dd → PSs X ss (t D dd)) : PSs X ss (fun D0 σ H => ∃ D dd, cls = .ref D ∧ d = some dd ∧ t D dd D0 σ H) :=
  ⟨fun pins s σ H D0 I ⟨D, dd, e1, e2, q⟩ => (h D dd e1 e2).run pins s σ H D0 I q⟩
theorem roomHm {k : Nat} {A : Around} (r : Room k A) (h : Option Value) : L2H.RoomH k (A.mark h) := ⟨r.dp, r.un⟩
def trS : Scope := { kind := .function, names := [("_law_ask", .local), ("_law_told", .local), ("_law_word_here", .local), ("_law_field_here", .local), ("_law_e", .local), ("DarkError", .globalImplicit), ("Missing", .globalImplicit), ("Nothing", .globalImplicit), ("_law_word", .globalImplicit), ("_law_field", .globalImplicit)], isGenerator := false, isCoroutine := false }
abbrev trN : List Str := ["_law_ask", "_law_told", "_law_word_here", "_law_field_here", "_law_e"]
theorem trF : FnScope trN ["_law_ask"] trS := ⟨rfl, rfl, rfl, by decide +kernel, rfl, by decide +kernel, by decide +kernel⟩
theorem spT_mono {ts : TSp} {vs : List V} {H : Hp} {Q Q' : VK} {E : XK} (h : spT ts vs H Q E) (q : ∀ v H2, Q v H2 → Q' v H2) : spT ts vs H Q' E := by
  obtain ⟨S, Rs, M, k, X, h1, e, m, p, o, ox⟩ := h
  exact ⟨S, Rs, M, k, X, h1, e, m, p, fun v S2 H2 R M2 a st r => q _ _ (o v S2 H2 R M2 a st r), ox⟩
/-- what is raised, as it is told -/
def trE (K : PySem.W.Frag) (D1 D2 D3 : Addr) (tsW tsF : Addr → Addr → Addr → TSp) (Q : VK) : XK := fun cls d H1 => PySem.W.exmAny K cls [.ref D1, .ref D2, .ref D3] = some true ∧ ∀ a, H1 a = none → ∃ D dd, cls = .ref D ∧ d = some dd ∧
  spT (tsW a D dd) [.ref a] H1 (fun w H2 => spT (tsF a D dd) [.ref a] H2 (fun fv H3 => 3 ≤ sizeLine ∧ ∀ p, H3 p = none → Q (.ref p) (upd H3 p (.tup [.non, w, fv]))) E0) E0
def trQ (Q : VK) : VK := fun v H2 => 3 ≤ sizeLine ∧ ∀ p, H2 p = none → Q (.ref p) (upd H2 p (.tup [v, .str "", .non]))
def TTr (K : PySem.W.Frag) (D1 D2 D3 : Addr) (tsW tsF : Addr → Addr → Addr → TSp) : GTT := fun tl H Q => 3 ≤ sizeLine ∧ ∀ p0, H p0 = none → ∀ E' Q', (∀ cls d H1, trE K D1 D2 D3 tsW tsF Q cls d H1 → E' cls d H1) → (∀ v H2, trQ Q v H2 → Q' v H2) → tl E' (upd H p0 (.tup [.non, .str "", .non])) Q'
section
variable {P : Program} {w : World} {K : PySem.W.Frag} {mg : Str → Option Value} {base : Heap} {st : Stmt} {g D1 D2 D3 : Addr} {fd : FuncData} {k kw kf : Nat} {tsW tsF : Addr → Addr → Addr → TSp}
theorem tried_ok {a1 a2 a3 a4 a5 a6 a7 a8 a9 b1 b2 b3 b4 b5 b6 b7 b8 b9 d1 d2 d3 d4 d5 d6 d7 d8 d9 e1 e2 e3 e5 e6 f1 f2 f3 : Pos} (F : Fun K "_law_tried" "_law_tried" st g fd) (hb : Binds K fd ["_law_ask"] []) (hsc : defScope st = trS)
    (hbody : defBody st = [
      .Assign [.Tuple [.Name "_law_told" a1, .Name "_law_word_here" a2, .Name "_law_field_here" a3] 0 a4] (.Tuple [.Constant .none 0 a5, .Constant (.str "") 0 a6, .Constant .none 0 a7] 0 a8) a9,
      .Try [.Assign [.Name "_law_told" b1] (.Call (.Name "_law_ask" b2) [] [] b3) b4]
        [.ExceptHandler (some (.Tuple [.Name "DarkError" b5, .Name "Missing" b6, .Name "Nothing" b7] 0 b8)) (some "_law_e")
          [.Assign [.Tuple [.Name "_law_word_here" d1, .Name "_law_field_here" d2] 0 d3] (.Tuple [.Call (.Name "_law_word" d4) [.Name "_law_e" d5] [] d6, .Call (.Name "_law_field" d7) [.Name "_law_e" d8] [] d9] 0 e1) e2] b9] [] [] e3,
      .Return (some (.Tuple [.Name "_law_told" f1, .Name "_law_word_here" f2, .Name "_law_field_here" f3] 0 e5)) e6])
    (hw1 : ∀ (n : Nat) (g : Addr) (cd : Value), swappedStores [.Tuple [.Name "_law_told" a1, .Name "_law_word_here" a2, .Name "_law_field_here" a3] 0 a4] (.Tuple [.Constant .none 0 a5, .Constant (.str "") 0 a6, .Constant .none 0 a7] 0 a8) (envOfC "_law_tried" trS n g cd) = pure none)
    (hw2 : ∀ (n : Nat) (g : Addr) (cd : Value), swappedStores [.Tuple [.Name "_law_word_here" d1, .Name "_law_field_here" d2] 0 d3] (.Tuple [.Call (.Name "_law_word" d4) [.Name "_law_e" d5] [] d6, .Call (.Name "_law_field" d7) [.Name "_law_e" d8] [] d9] 0 e1) (envOfC "_law_tried" trS n g cd) = pure (some [("_law_word_here" : Str), ("_law_field_here" : Str)]))
    (m1 : mg "DarkError" = some (.ref D1)) (m2 : mg "Missing" = some (.ref D2)) (m3 : mg "Nothing" = some (.ref D3)) (cw : ClE P w K mg base kw "_law_word" tsW) (cf : ClE P w K mg base kf "_law_field" tsF) (hk : 1 ≤ k) (hkw : kw ≤ k) (hkf : kf ≤ k) :
    FnL P w K mg base (k + 1) g (TTr K D1 D2 D3 tsW tsF) := by
  refine okL (N := trN) F (by rw [hsc]; exact trF) hb fun cdv A outer s H f c' q tl kl outer0 s0 H0 Q act un hfs hsz hr hc hT => ?_
  rw [hsc] at hr ⊢
  rw [hbody]
  refine ⟨_, pss_cons (ps_asg (pe_tup (pa_cons pe_non (pa_cons pe_str (pa_cons pe_non pa_nil)))) (pg_tup rfl (pgs_cons (pg_name (i := 1) trF.nd rfl (Or.inl rfl)) (pgs_cons (pg_name (i := 2) trF.nd rfl (Or.inl rfl)) (pgs_cons (pg_name (i := 3) trF.nd rfl (Or.inl rfl)) pgs_nil)))) (hw := hw1 _ _ _))
    (pss_cons (ps_try3 (i := 4) (ts := fun a cls d D0 σ H => ∃ D dd, cls = .ref D ∧ d = some dd ∧ tPar 2 3 (tCons (tCall (spT (tsW a D dd)) [] E0 (tCons (tVar 4) tNil)) (tCons (tCall (spT (tsF a D dd)) [] E0 (tCons (tVar 4) tNil)) tNil)) D0 σ H) (c1 := .ref D1) (c2 := .ref D2) (c3 := .ref D3) rfl rfl trF.nd rfl rfl ⟨rfl, by decide, .inl m1⟩ ⟨rfl, by decide, .inl m2⟩ ⟨rfl, by decide, .inl m3⟩
        (fun W pn xe tk _ => pss_one (ps_set (i := 1) trF.nd rfl (Or.inl rfl) (act CX0 trN _ trS g cdv A outer s H E0 pn xe W "_law_ask" 0 _ _ un hfs tk (hr.mono (by omega)) rfl (.inl rfl) (by decide) (by decide))))
        (fun a oe cls d pn hz hf => pss_exD (cls := cls) (d := d) (t := fun D dd => tPar 2 3 (tCons (tCall (spT (tsW a D dd)) [] E0 (tCons (tVar 4) tNil)) (tCons (tCall (spT (tsF a D dd)) [] E0 (tCons (tVar 4) tNil)) tNil))) fun D dd ec ed => by
          subst ec; subst ed
          exact pss_one (ps_parH (X := (cxOf CX0 P w K mg base trN "_law_tried" trS g cdv A outer s H E0).suite a ((a, oe) :: pn)) (i := 2) (j := 3) (hdX_hot (hotC_suite hz hf)) trF.nd rfl rfl (by decide) rfl rfl
            (pa_cons (pe_clE (X := (cxOf CX0 P w K mg base trN "_law_tried" trS g cdv A outer s H E0).suite a ((a, oe) :: pn)) (j := k) cw (roomHm (hr.mono (by omega)) _) hkw (List.mem_cons_self ..) ⟨rfl, hf.elim fun vs hv => ⟨vs, hv, hz.2.2 vs hv⟩⟩ hz hf rfl (pa_cons (pe_var (i := 4) rfl (.inl rfl) (by decide) (by decide)) pa_nil))
              (pa_cons (pe_clE (X := (cxOf CX0 P w K mg base trN "_law_tried" trS g cdv A outer s H E0).suite a ((a, oe) :: pn)) (j := k) cf (roomHm (hr.mono (by omega)) _) hkf (List.mem_cons_self ..) ⟨rfl, hf.elim fun vs hv => ⟨vs, hv, hz.2.2 vs hv⟩⟩ hz hf rfl (pa_cons (pe_var (i := 4) rfl (.inl rfl) (by decide) (by decide)) pa_nil)) pa_nil)) (hw2 _ _ _))))
      (pss_one (ps_ret (pe_tup (pa_cons (pe_var (i := 1) rfl (.inl rfl) (by decide) (by decide)) (pa_cons (pe_var (i := 2) rfl (.inl rfl) (by decide) (by decide)) (pa_cons (pe_var (i := 3) rfl (.inl rfl) (by decide) (by decide)) pa_nil))))))), ?_⟩
  obtain ⟨hz3, hT⟩ := hT
  refine ⟨hz3, fun p0 hp0 => ⟨p0, [.non, .str "", .non], rfl, .inl (.inl upd_same), rfl, .non, _, rfl, .str "", _, rfl, .non, _, rfl, rfl, ?_⟩⟩
  have nc : c' ≠ p0 := fun z => by rw [← z, hc] at hp0; cases hp0
  refine ⟨rfl, by rw [upd_ne nc]; exact hc, ?_⟩
  refine hT p0 hp0 _ _ (fun cls d H1 h => ?_) (fun v H2 h => ?_)
  · obtain ⟨h1, h2⟩ := h
    refine ⟨h1, fun a na => ?_⟩
    obtain ⟨D, dd, e1, e2, h3⟩ := h2 a na
    refine ⟨D, dd, e1, e2, .ref a, rfl, ?_⟩
    refine spT_mono h3 fun w H2 h4 => ⟨.ref a, rfl, ?_⟩
    refine spT_mono h4 fun fv H3 h5 => ⟨w, fv, rfl, ?_⟩
    exact ⟨.non, rfl, w, rfl, fv, rfl, h5.1, h5.2⟩
  · exact ⟨v, rfl, .str "", rfl, .non, rfl, h.1, h.2⟩
end
end L3

namespace L3
open PySem PySem.Spec PyProof.Rows L2 LamX
/-! the word and the field alone -/
def rfS : Scope := { kind := .function, names := [("_law_ask", .local), ("_law_tried", .globalImplicit)], isGenerator := false, isCoroutine := false }
theorem rfF : FnScope ["_law_ask"] ["_law_ask"] rfS := ⟨rfl, rfl, rfl, by decide +kernel, rfl, by decide +kernel, by decide +kernel⟩
def TRf (K : PySem.W.Frag) (TT : GTT) : GTT := fun tl H Q => TT tl H fun v H' => ∃ i, V.int 1 = .int i ∧ rSlA K v (some i) none H' Q
section
variable {P : Program} {w : World} {K : PySem.W.Frag} {mg : Str → Option Value} {base : Heap} {st : Stmt} {g gt : Addr} {fd : FuncData} {k kt : Nat} {TT : GTT}
theorem FnL.mono {j : Nat} (F : FnL P w K mg base k g TT) (h : k ≤ j) : FnL P w K mg base j g TT :=
  ⟨fun A outer s H f c' q tl kl outer0 s0 H0 Q act un hfs hsz hr e0 hc hT => F.run A outer s H f c' q tl kl outer0 s0 H0 Q act un hfs hsz (hr.mono (by omega)) e0 hc hT⟩
theorem refused_ok {p1 p2 p3 p4 p5 p6 p7 : Pos} (F : Fun K "_law_refused" "_law_refused" st g fd) (hb : Binds K fd ["_law_ask"] []) (hsc : defScope st = rfS)
    (hbody : defBody st = [.Return (some (.Subscript (.Call (.Name "_law_tried" p1) [.Name "_law_ask" p2] [] p3) (.Slice (some (.Constant (.int 1) 0 p4)) none none p5) p6)) p7])
    (FT : FnL P w K mg base kt gt TT) (mt : mg "_law_tried" = some (.ref gt)) (hkp : PySem.W.keepIn K (.ref gt) = true) (hk : kt ≤ k) : FnL P w K mg base (k + 1) g (TRf K TT) := by
  refine okL (N := ["_law_ask"]) F (by rw [hsc]; exact rfF) hb fun cdv A outer s H f c' q tl kl outer0 s0 H0 Q act un hfs hsz hr hc hT => ?_
  rw [hsc] at hr ⊢
  rw [hbody]
  refine ⟨_, pss_one (ps_ret (pe_slice sl_tupA (pe_callL (i := 0) (FT.mono hk) mt hkp rfl act un hfs hsz hr rfl (.inl rfl)) (po_some pe_int) po_none)), ?_⟩
  exact ⟨rfl, hc, hT⟩
end
end L3

/-! a lambda's making, the heap behind it told in full -/
namespace L3
open PySem PySem.Spec PyProof.Rows L2 LamX
/-- the table at P as it stands, its code objects by the name q -/
def TabP (H : Hp) (P : Addr) (q : Str) (ps : Array Value) : Prop := H P = some (.tbl ps) ∧ TriplesOk ps.toList ∧ ∀ (pos : Pos) (cv : Value), codeAmong pos ps.toList = some cv → ∃ c, cv = .ref c ∧ H c = some (CodeO c q)
/-- behind it: all as it was, or one code object more, told by the table -/
def LamH (P : Addr) (q : Str) (ps : Array Value) (H H1 : Hp) (c' : Addr) : Prop :=
  (H1 = H ∧ H c' = some (CodeO c' q)) ∨ ∃ ps' : Array Value, H1 = upd (upd H P (.tbl ps')) c' (CodeO c' q) ∧ H c' = none ∧ TriplesOk ps'.toList ∧ ∀ (pos : Pos) (cv : Value), codeAmong pos ps'.toList = some cv → cv = .ref c' ∨ codeAmong pos ps.toList = some cv
section
variable {X : Cx} {pins : List (Addr × Obj)} {σ : L2.St} {H : Hp} {s : Shared}
theorem lam_make3 {c P : Addr} {ps : Array Value} {params : Arguments} {body : Expr} {scope : Scope} {pos : Pos} {E : Value → Shared → Prop} {Q : Value → Shared → Prop} (I : Inv X pins σ H s) (TB : TabB X.base X.mg c P) (hcode : X.env.code = .ref c)
    (T : TabP H P (X.env.qual ++ "<lambda>") ps) (hdef : defaultsOf params X.env = ([], [])) (hfree : ∀ y ∈ scope.names, y.2 = .free → ∃ c, X.env.cells.lookup y.1 = some c)
    (h : ∀ (f c' : Addr) (pm ctv : Value) (H1 : Hp) (s' : Shared), Inv X pins σ H1 s' → LamH P (X.env.qual ++ "<lambda>") ps H H1 c' →
      s'.heap.get? f = some (PySem.W.kla_obj "<lambda>" (X.env.qual ++ "<lambda>") params body scope (cloFrom X.env.cells scope.names []) pm c' ctv) → H1 f = none → f ∉ frs X.stack → Q (.ref f) s') :
    wpAny (model X.prog X.w) X.A (eval (.Lambda params body scope pos) X.env) Q E s := by
  obtain ⟨hP, ht, ha⟩ := T
  refine PySem.W.kla_eval hdef ?_
  have bP : s.heap.BuiltinsAt X.mg P := TB.bm.keeps I.bk
  have hP' : s.heap.get? P = some { cls := .none, data := .fields ps } := I.hok P _ hP
  have nofr : ∀ f, s.heap.objs.size ≤ f → f ∉ frs X.stack := fun f hf z => by
    rcases List.mem_cons.mp (I.stkSub _ z) with e | e
    · have h1 := I.lt
      rw [← e] at h1
      exact Nat.lt_irrefl _ (Nat.lt_of_lt_of_le h1 hf)
    · exact I.nofs hf e
  cases hc : codeAmong pos ps.toList with
  | none =>
    refine PySem.W.kla_makeFunction (mg := X.mg) (c := c) (P := P) (ps := ps) (closure_ok hfree) I.ok.glob (I.mod.glob.keeps I.bk) hcode (TB.code.keeps I.bk) hP' ht hc TB.gP bP fun c' ctv h' tk hx hge hlt hrec htb => ?_
    obtain ⟨c2, oc, vs, t, e2, hoc, hd, hv⟩ := hrec
    cases e2
    have hsz : s.heap.objs.size ≤ h'.objs.size := Nat.le_trans hge (Nat.le_of_lt hlt)
    have nC : H c' = none := I.hok.fresh hge
    have I1 := inv_table (t' := tk) (more := #[rawInt pos.line, rawInt pos.col, .ref c']) (h' := h'.push (PySem.W.kla_obj "<lambda>" (X.env.qual ++ "<lambda>") params body scope (cloFrom X.env.cells scope.names []) ((X.mg "__name__").getD .none) c' ctv)) I hP
      (fun b o hb e => Heap.get?_push_of_some _ (hx b o hb e)) (Heap.get?_push_of_some _ htb) hge ⟨oc, vs, t, Heap.get?_push_of_some _ hoc, hd, hv⟩
    have eL : (ps ++ #[rawInt pos.line, rawInt pos.col, .ref c']).toList = ps.toList ++ [rawInt pos.line, rawInt pos.col, .ref c'] := by simp
    refine h h'.objs.size c' ((X.mg "__name__").getD .none) ctv _ _ I1 (.inr ⟨_, rfl, nC, by rw [eL]; exact PySem.TriplesOk_snoc _ _ _ _ ht, fun p' cv hcv => ?_⟩) (Heap.get?_push_size _ rfl) ?_ (nofr _ hsz)
    · rw [eL] at hcv
      exact (among_app _ ht hcv).symm
    · have n1 : h'.objs.size ≠ c' := Nat.ne_of_gt hlt
      have n2 : h'.objs.size ≠ P := Nat.ne_of_gt (Nat.lt_of_lt_of_le (Heap.lt_size hP') hsz)
      rw [upd_ne n1, upd_ne n2]
      exact I.hok.fresh hsz
  | some cv =>
    obtain ⟨c', e, hco⟩ := ha pos cv hc
    subst e
    refine PySem.W.kla_makeFunctionHit (mg := X.mg) (c := c) (P := P) (ps := ps) (closure_ok hfree) I.ok.glob (I.mod.glob.keeps I.bk) hcode (TB.code.keeps I.bk) hP' ht hc bP fun ctv h' tk hx hsz => ?_
    have I1 : Inv X pins σ H { s with heap := h'.push (PySem.W.kla_obj "<lambda>" (X.env.qual ++ "<lambda>") params body scope (cloFrom X.env.cells scope.names []) ((X.mg "__name__").getD .none) c' ctv), toks := tk } := I.kept fun b o e => Heap.get?_push_of_some _ (hx b o e)
    exact h h'.objs.size c' ((X.mg "__name__").getD .none) ctv H _ I1 (.inl ⟨rfl, hco⟩) (Heap.get?_push_size _ rfl) (I.hok.fresh hsz) (nofr _ hsz)
end
/-- x(lambda: body): the table in the heap, told before and behind -/
def tLamP (P : Addr) (q : Str) (TT : GTT) (t : XK → TE) : TE := fun σ H Q => ∃ ps, TabP H P q ps ∧ ∀ H1 c', LamH P q ps H H1 c' → TT (fun E H' Q' => t E σ H' Q') H1 Q
theorem pe_lamP {X : Cx} {TT : GTT} {x : Str} {g c P : Addr} {k kl : Nat} {params : Arguments} {body : Expr} {scope : Scope} {t : XK → TE} {p lpos pos : Pos} (hg : Gl X x) (hm : X.mg x = some (.ref g)) (hk : PySem.W.keepIn X.K (.ref g) = true)
    (F : FnL X.prog X.w X.K X.mg X.base k g TT) (TB : TabB X.base X.mg c P) (hcode : X.env.code = .ref c) (hr : Room (kl + k) X.A) (L : LamS X.env.scope scope) (hdef : defaultsOf params X.env = ([], []))
    (hbind : ∀ (q : Str) (cl : List (Str × Addr)) (pm cv ctv : Value), bindArgs (PySem.W.kla_fn "<lambda>" q params body scope cl pm cv ctv) ⟨[], []⟩ = pure [])
    (hbody : ∀ (A : Around) (outer : List Env) (s : Shared) (H : Hp) (E : XK) (f c' : Addr), Room kl (A.deeper (lamEnv X scope s.heap.objs.size f c')) → PE (lamCxN X A outer s H E scope f c') body (t E))
    (hdb : (x == ("__debug__" : Str)) = false := by decide) : PE X (.Call (.Name x p) [.Lambda params body scope lpos] [] pos) (tLamP P (X.env.qual ++ "<lambda>") TT t) := by
  refine ⟨fun pins s σ H Q I h => ?_⟩
  obtain ⟨ps, hT, h⟩ := h
  refine wpAny_Call_Name_kw (ld_glob I hg hm ?_ hdb)
  refine PySem.W.callWith_K (h₀ := X.base) I.ok.mod.kin hk ?_ (by rfl) (by rfl)
  show wpAny _ _ (spliced ((false, eval (.Lambda params body scope lpos) X.env) :: backTo pos (starEach [] X.env))) _ _ s
  refine Calls.spliced_cons (lam_make3 I TB hcode hT hdef (L.has I.ok) fun f c' pm' ctv H1 s' I1 lh hf hfn hfr => ?_)
  refine Calls.spliced_nil ⟨I1.kIn, ?_⟩
  have hco : H1 c' = some (CodeO c' (X.env.qual ++ "<lambda>")) := by
    rcases lh with ⟨rfl, e⟩ | ⟨ps', rfl, _⟩
    · exact e
    · exact upd_same
  have act := act_of (k := kl) (tb := t) I1 L hf hfn hfr (hbind _ _ _ _ _) fun A outer s H E hr2 => hbody A outer s H E f c' hr2
  refine wpAny_call (codeAny_mono (F.run X.A X.stack s' H1 f c' _ _ kl X.stack s' H1 Q act (Un.kept fun _ _ e => e) (fun b hb => .inl hb) (Nat.le_refl _) hr I1.env0 hco (h H1 c' lh)) fun r s2 hq => ?_)
  cases r with
  | error e => exact (show False from hq).elim
  | ok fl =>
    cases fl with
    | ret u => exact I1.after hq
    | next => exact False.elim hq
    | brk => exact False.elim hq
    | cont => exact False.elim hq
end L3

/-! typed: _law_tried(lambda: ..) -/
namespace L3
open PySem PySem.Spec PyProof.Rows L2 LamX
def TblP (q : Str) (S : Hp) (o : HO) : Prop := ∃ ps : Array Value, o = .tbl ps ∧ TriplesOk ps.toList ∧ ∀ (pos : Pos) (cv : Value), codeAmong pos ps.toList = some cv → ∃ c, cv = .ref c ∧ S c = some (CodeO c q)
/-- a table of code objects, all of one name -/
def mTbl (q : Str) : MRep := ⟨TblP q, fun e ⟨ps, h1, h2, h3⟩ => ⟨ps, h1, h2, fun pos cv h => let ⟨c, e1, e2⟩ := h3 pos cv h; ⟨c, e1, e _ _ e2⟩⟩, fun ⟨ps, h1, _⟩ ys z => by rw [h1] at z; cases z⟩
theorem tbl_at {S H : Hp} {A B : SH} {P : Addr} {q : Str} (e : Same S H) (m : MOk S H (A ++ (P, mTbl q) :: B)) : ∃ ps, TabP H P q ps ∧ ∀ pos cv, codeAmong pos ps.toList = some cv → ∃ c, cv = .ref c ∧ S c = some (CodeO c q) := by
  obtain ⟨_, o, h1, ps, rfl, h2, h3⟩ := m.at_ P (mTbl q) (by simp)
  exact ⟨ps, ⟨h1, h2, fun pos cv h => let ⟨c, e1, e2⟩ := h3 pos cv h; ⟨c, e1, e _ _ e2⟩⟩, h3⟩
theorem tbl_step {S H H1 : Hp} {A B : SH} {P c' : Addr} {q : Str} {ps : Array Value} (e : Same S H) (m : MOk S H (A ++ (P, mTbl q) :: B)) (hP : H P = some (.tbl ps)) (hS : ∀ pos cv, codeAmong pos ps.toList = some cv → ∃ c, cv = .ref c ∧ S c = some (CodeO c q)) (l : LamH P q ps H H1 c') :
    ∃ S1, Stp S H S1 H1 (A ++ (P, mTbl q) :: B) (A ++ (P, mTbl q) :: B) := by
  rcases l with ⟨rfl, _⟩ | ⟨ps', rfl, hn, h1, h2⟩
  · exact ⟨S, Stp.refl e m⟩
  · have ne : P ≠ c' := fun z => by rw [← z, hP] at hn; cases hn
    have s1 := Stp.newS (o := CodeO c' q) e m hn
    have s2 := Stp.wrM (P' := mTbl q) (o := .tbl ps') s1.e s1.m ⟨ps', rfl, h1, fun pos cv hc => by
      rcases h2 pos cv hc with z | z
      · exact ⟨c', z, upd_same⟩
      · obtain ⟨c, e1, e2⟩ := hS pos cv z
        exact ⟨c, e1, s1.s _ _ e2⟩⟩
    have eq : upd (upd H c' (CodeO c' q)) P (.tbl ps') = upd (upd H P (.tbl ps')) c' (CodeO c' q) := by
      funext b
      by_cases hb : b = P
      · rw [hb, upd_same, upd_ne ne, upd_same]
      · rw [upd_ne hb]
        by_cases hc : b = c'
        · rw [hc, upd_same, upd_same]
        · rw [upd_ne hc, upd_ne hc, upd_ne hb]
    rw [eq] at s2
    exact ⟨_, s1.trans s2⟩
theorem Ev.mono2 {E : XK} {te : TE} {Γ : Ct} {M : SH} {k k' : KR} {X X' : KX} (h : Ev E te Γ M k X) (e : ∀ R M, k R M → k' R M) (e2 : ∀ x M, X x M → X' x M) : Ev E te Γ M k' X' := (h.mono e).wkX e2
section
variable {E : XK} {K : PySem.W.Frag} {Γ : Ct} {A B : SH} {k : KR} {X : KX} {P D1 D2 D3 : Addr} {q : Str} {t : XK → TE} {tsW tsF : Addr → Addr → Addr → TSp} {Kn : XR → Prop} {wd : XR → Str} {fl : XR → Rep}
theorem ev_tried (h : ∀ E', Ev E' (t E') Γ (A ++ (P, mTbl q) :: B) (fun R M2 => k (aTup K [R, aStr "", iNon]) M2) (fun x M2 => Kn x ∧ k (aTup K [iNon, aStr (wd x), fl x]) M2))
    (hE : ∀ x, Kn x → PySem.W.exmAny K (.ref x.cls) [.ref D1, .ref D2, .ref D3] = some true)
    (hW : ∀ x a dd k', Kn x → k' (aStr (wd x)) [] → tsW a x.cls dd [iXc a dd x.fs] [] k' X0) (hF : ∀ x a dd k', Kn x → k' (fl x) [] → tsF a x.cls dd [iXc a dd x.fs] [] k' X0) :
    Ev E (tLamP P q (TTr K D1 D2 D3 tsW tsF) t) Γ (A ++ (P, mTbl q) :: B) k X := fun σ S H Q I o ox => by
  have z3 : 3 ≤ sizeLine := by rw [sizeLine_eq]; omega
  obtain ⟨ps, T, hS⟩ := tbl_at I.ex I.m
  refine ⟨ps, T, fun H1 c' l => ⟨z3, fun p0 hp0 E' Q' hE' hQ' => ?_⟩⟩
  obtain ⟨S1, s1⟩ := tbl_step I.ex I.m T.1 hS l
  have s2 := s1.trans (Stp.newS (o := .tup [.non, .str "", .non]) s1.e s1.m hp0)
  have tup : ∀ {S3 H3 : Hp} {M3 : SH} {R1 R2 R3 : Rep} {v1 v2 v3 : V}, Stp S H S3 H3 (A ++ (P, mTbl q) :: B) M3 → k (aTup K [R1, R2, R3]) M3 → R1.p S3 v1 → R2.p S3 v2 → R3.p S3 v3 → 3 ≤ sizeLine ∧ ∀ p, H3 p = none → Q (.ref p) (upd H3 p (.tup [v1, v2, v3])) :=
    fun {S3 H3 M3 R1 R2 R3 v1 v2 v3} st kk q1 q2 q3 => ⟨z3, fun p hp => by
      have s4 := Stp.newS (o := .tup [v1, v2, v3]) st.e st.m hp
      exact o _ _ _ _ _ kk (st.trans s4) ⟨p, _, rfl, .inl (.inl upd_same), R1.m s4.s q1, R2.m s4.s q2, R3.m s4.s q3, True.intro⟩⟩
  refine h E' σ _ _ Q' (I.step s2) (fun v S2 H2 R M2 kk st p => hQ' v H2 (tup (s2.trans st) kk p rfl rfl)) (fun cls d S2 H2 x M2 kk st p => hE' cls d H2 ?_)
  obtain ⟨kn, kk⟩ := kk
  obtain ⟨rfl, dd, vs, rfl, hd, hn, ha⟩ := p
  refine ⟨hE x kn, fun a na => ⟨x.cls, dd, rfl, rfl, ?_⟩⟩
  refine spT_in (Mf := []) (Fr := M2) (Rs := [iXc a dd x.fs]) (k := fun R M3 => R = aStr (wd x) ∧ M3 = M2) (X := X0) (hW x a dd _ kn ⟨rfl, rfl⟩) st.e st.m ⟨⟨rfl, vs, hd, hn, ha⟩, True.intro⟩ (fun w S3 H3 R M3 ⟨e1, e2⟩ st3 pw => ?_) (fun _ _ _ _ _ _ z => z.elim)
  subst e1; subst e2
  refine spT_in (Mf := []) (Fr := M3) (Rs := [iXc a dd x.fs]) (k := fun R M4 => R = fl x ∧ M4 = M3) (X := X0) (hF x a dd _ kn ⟨rfl, rfl⟩) st3.e st3.m ⟨(iXc a dd x.fs).m st3.s ⟨rfl, vs, hd, hn, ha⟩, True.intro⟩ (fun fv S4 H4 R M4 ⟨e1, e2⟩ st4 pf => ?_) (fun _ _ _ _ _ _ z => z.elim)
  subst e1; subst e2
  exact tup ((s2.trans st).trans (st3.trans st4)) kk rfl ((aStr (wd x)).m st4.s pw) pf
theorem ev_refused (h : ∀ E', Ev E' (t E') Γ (A ++ (P, mTbl q) :: B) (fun R M2 => k (aTup K [aStr "", iNon]) M2) (fun x M2 => Kn x ∧ k (aTup K [aStr (wd x), fl x]) M2))
    (hE : ∀ x, Kn x → PySem.W.exmAny K (.ref x.cls) [.ref D1, .ref D2, .ref D3] = some true)
    (hW : ∀ x a dd k', Kn x → k' (aStr (wd x)) [] → tsW a x.cls dd [iXc a dd x.fs] [] k' X0) (hF : ∀ x a dd k', Kn x → k' (fl x) [] → tsF a x.cls dd [iXc a dd x.fs] [] k' X0) :
    Ev E (tLamP P q (TRf K (TTr K D1 D2 D3 tsW tsF)) t) Γ (A ++ (P, mTbl q) :: B) k X := fun σ S H Q I o ox =>
  ev_tried (k := fun R M2 => Os (rSlA K) R (some 1) none M2 k) (Kn := Kn) (wd := wd) (fl := fl) (tsW := tsW) (tsF := tsF) (D1 := D1) (D2 := D2) (D3 := D3)
    (fun E' => (h E').mono2 (fun R M2 q => os_tup q) (fun x M2 q => ⟨q.1, os_tup q.2⟩)) hE hW hF σ S H (fun v H' => ∃ i, V.int 1 = .int i ∧ rSlA K v (some i) none H' Q) I
    (fun v S2 H2 R M2 os st p => ⟨1, rfl, os v S2 H2 Q st.e st.m p (o.step st)⟩) ox
end
end L3

/-! the program's refusals as a table: class, word, field -/
namespace L3
open PySem PySem.Spec PyProof.Rows L2 LamX
structure XCl where
  C : Addr
  w : Str
  fld : Option Str
def atX (XT : List XCl) (D : Addr) : Option XCl := XT.find? fun c => c.C == D
def wdX (XT : List XCl) (x : XR) : Str := ((atX XT x.cls).map (·.w)).getD ⟨#[]⟩
def flX (XT : List XCl) (x : XR) : Rep := match (atX XT x.cls).bind (·.fld) with
  | some f => (x.fs.lookup f).getD iNon
  | none => iNon
structure XTab (K : PySem.W.Frag) (XT : List XCl) (D1 D2 D3 : Addr) : Prop where
  U : XisK K
  is : ∀ c ∈ XT, XisC K c.C
  no : ∀ c ∈ XT, ∀ f, c.fld = some f → PySem.W.findIn K (.ref c.C) f = some none
  kit : ∀ c ∈ XT, ∀ d ∈ XT, PySem.W.kitOne K (.ref c.C) (.ref d.C) = some (c.C == d.C)
  exm : ∀ c ∈ XT, PySem.W.exmAny K (.ref c.C) [.ref D1, .ref D2, .ref D3] = some true
  nd : (XT.map (·.C)).Nodup
/-- one of the table's, with its fields -/
def KnX (XT : List XCl) (x : XR) : Prop := ∃ c, atX XT x.cls = some c ∧ x.fs.map (·.1) = (match c.fld with | none => ["word"] | some f => [f, "word"])
theorem atX_mem {XT : List XCl} {D : Addr} {c : XCl} (h : atX XT D = some c) : c ∈ XT ∧ c.C = D := ⟨List.mem_of_find?_eq_some h, by have := List.find?_some h; simpa using this⟩
theorem KnX.fst {XT : List XCl} {x : XR} (h : KnX XT x) : ∃ c ∈ XT, c.C = x.cls := by
  obtain ⟨c, h1, _⟩ := h
  exact ⟨c, (atX_mem h1).1, (atX_mem h1).2⟩
def tsWordX (XT : List XCl) : Addr → Addr → Addr → TSp := fun a D dd Rs M k X => ∃ fs, Rs = [iXc a dd fs] ∧ M = [] ∧ KnX XT ⟨D, fs⟩ ∧ k (aStr (wdX XT ⟨D, fs⟩)) []
def tsFieldX (XT : List XCl) : Addr → Addr → Addr → TSp := fun a D dd Rs M k X => ∃ fs, Rs = [iXc a dd fs] ∧ M = [] ∧ KnX XT ⟨D, fs⟩ ∧ k (flX XT ⟨D, fs⟩) []
section
variable {E : XK} {K : PySem.W.Frag} {Γ : Ct} {A B : SH} {k : KR} {X : KX} {P D1 D2 D3 : Addr} {q : Str} {t : XK → TE} {XT : List XCl}
theorem ev_triedX (T : XTab K XT D1 D2 D3) (h : ∀ E', Ev E' (t E') Γ (A ++ (P, mTbl q) :: B) (fun R M2 => k (aTup K [R, aStr "", iNon]) M2) (fun x M2 => KnX XT x ∧ k (aTup K [iNon, aStr (wdX XT x), flX XT x]) M2)) :
    Ev E (tLamP P q (TTr K D1 D2 D3 (tsWordX XT) (tsFieldX XT)) t) Γ (A ++ (P, mTbl q) :: B) k X :=
  ev_tried (Kn := KnX XT) (wd := wdX XT) (fl := flX XT) h (fun x kn => by obtain ⟨c, h1, h2⟩ := kn.fst; rw [← h2]; exact T.exm c h1)
    (fun x a dd k' kn q => ⟨x.fs, rfl, rfl, kn, q⟩) (fun x a dd k' kn q => ⟨x.fs, rfl, rfl, kn, q⟩)
theorem ev_refusedX (T : XTab K XT D1 D2 D3) (h : ∀ E', Ev E' (t E') Γ (A ++ (P, mTbl q) :: B) (fun R M2 => k (aTup K [aStr "", iNon]) M2) (fun x M2 => KnX XT x ∧ k (aTup K [aStr (wdX XT x), flX XT x]) M2)) :
    Ev E (tLamP P q (TRf K (TTr K D1 D2 D3 (tsWordX XT) (tsFieldX XT))) t) Γ (A ++ (P, mTbl q) :: B) k X :=
  ev_refused (Kn := KnX XT) (wd := wdX XT) (fl := flX XT) h (fun x kn => by obtain ⟨c, h1, h2⟩ := kn.fst; rw [← h2]; exact T.exm c h1)
    (fun x a dd k' kn q => ⟨x.fs, rfl, rfl, kn, q⟩) (fun x a dd k' kn q => ⟨x.fs, rfl, rfl, kn, q⟩)
end
end L3

/-! promises with refusals; a law with lambdas: its start, its end -/
namespace L3
open PySem PySem.Spec PyProof.Rows L2 LamX
def pureX (sp : List Rep → (Rep → Prop) → (XR → Prop) → Prop) : TSp := fun Rs M k X => M = [] ∧ sp Rs (fun R => k R []) fun x => X x []
def methX (C : Addr) (sp : SH → FR → List Rep → (Rep → Prop) → (XR → Prop) → Prop) : TSp := fun Rs M k X => ∃ R Rs' fs, Rs = R :: Rs' ∧ HasO M R C fs ∧ sp M fs Rs' (fun R => k R M) fun x => X x M
section
variable {E : XK} {K : PySem.W.Frag} {Γ : Ct} {M : SH} {k : KR} {X : KX} {te ta : TE} {tr : TA} {C : Addr}
theorem ev_callX {sp : List Rep → (Rep → Prop) → (XR → Prop) → Prop} (h : Ea E tr Γ M (fun Rs M1 => ∃ Rs', LeS Rs Rs' ∧ sp Rs' (fun R => k R M1) fun x => X x M1) X) : Ev E (tCall (spT (pureX sp)) [] E tr) Γ M k X :=
  ev_call (Ds := []) (fun _ => True.intro) fun σ S H Q I o ox => h σ S H Q I (fun vs S2 H2 Rs M2 ⟨Rs', e, q⟩ st p => o vs S2 H2 Rs' M2 ⟨[], M2, rfl, rfl, by rw [List.append_nil]; exact q⟩ st (e S2 vs p)) ox
/-- .. called where it raises nothing -/
theorem ev_callX0 {sp : List Rep → (Rep → Prop) → (XR → Prop) → Prop} (h : Ea E tr Γ M (fun Rs M1 => ∃ Rs', LeS Rs Rs' ∧ sp Rs' (fun R => k R M1) fun _ => False) X) : Ev E (tCall (spT (pureX sp)) [] E0 tr) Γ M k X :=
  ev_call0 (Ds := []) (fun _ => True.intro) fun σ S H Q I o ox => h σ S H Q I (fun vs S2 H2 Rs M2 ⟨Rs', e, q⟩ st p => o vs S2 H2 Rs' M2 ⟨[], M2, rfl, rfl, by rw [List.append_nil]; exact q⟩ st (e S2 vs p)) ox
theorem ev_methX {m : Str} {sp : SH → FR → List Rep → (Rep → Prop) → (XR → Prop) → Prop} (h : Ev E ta Γ M (fun R M1 => ∃ fs, HasO M1 R C fs ∧ fs.lookup m = none ∧ Ea E tr Γ M1 (fun Rs M2 => HasO M2 R C fs ∧ ∃ Rs', LeS Rs Rs' ∧ sp M2 fs Rs' (fun R' => k R' M2) fun x => X x M2) X) X) : Ev E (tMeth C m (spT (methX C sp)) [] E ta tr) Γ M k X := fun σ S H Q I o ox =>
  h σ S H _ I (fun v S1 H1 R M1 ⟨fs, ho, hm, q⟩ st p => by
    obtain ⟨a, dx, vs, e, ha, hi⟩ := ho.get st.e st.m p
    refine ⟨a, dx, vs, e, ha, (hi.look m).1 hm, q σ S1 H1 _ (I.step st) (fun xs S2 H2 Rs M2 ⟨ho2, Rs', le, q2⟩ st2 p2 => ?_) (ox.step st)⟩
    rw [List.append_nil]
    exact ⟨S2, R :: Rs', M2, k, X, ⟨R, Rs', fs, rfl, ho2, q2⟩, st2.e, st2.m, ⟨R.m st2.s p, le S2 _ p2⟩, o.step (st.trans st2), ox.step (st.trans st2)⟩) ox
theorem ev_callX_at {sp : List Rep → (Rep → Prop) → (XR → Prop) → Prop} (h : Ev E (tCall (spT (pureX sp)) [] E tr) Γ M k X) : Ev E (tCall (spT (pureX sp)) [] E tr) Γ M k X := h
theorem ev_methX_at {m : Str} {sp : SH → FR → List Rep → (Rep → Prop) → (XR → Prop) → Prop} (h : Ev E (tMeth C m (spT (methX C sp)) [] E ta tr) Γ M k X) : Ev E (tMeth C m (spT (methX C sp)) [] E ta tr) Γ M k X := h
end
section
variable {P : Program} {w : World} {K : PySem.W.Frag} {mg : Str → Option Value} {base : Heap}
/-- what may raise, where it raises nothing -/
theorem fn_calmX {k : Nat} {f : Addr} {fd : FuncData} {ps : List Str} {ts ts' : TSp} (F : FnOk P w K mg base (L2N.CX P w) k f fd ps (spT ts)) (h : ∀ Rs M q X, ts' Rs M q X → ts Rs M q X0) : FnOk P w K mg base CX0 k f fd ps (spT ts') := by
  have im : ∀ {vs H Q E}, spT ts' vs H Q E → spT ts vs H Q E0 := fun {vs H Q E} ⟨S, Rs, M, k, X, q, e, m, p, o, _⟩ => ⟨S, Rs, M, k, X0, h _ _ _ _ q, e, m, p, o, fun _ _ _ _ _ _ z => z.elim⟩
  refine ⟨fun vs H Q E q => F.len vs H Q E0 (im q), fun A outer s H args us vs Q E hr he hb hv hs => codeAny_mono (F.run A outer s H args us vs Q E0 hr he hb hv (im hs)) fun r s' q => ?_⟩
  cases r with
  | ok fl =>
    cases fl with
    | ret u => exact q
    | next => exact q
    | brk => exact q
    | cont => exact q
  | error e =>
    obtain ⟨_, _, _, _, _, _, _, _, _, _, _, _, z⟩ := (show L2N.CX P w outer H s E0 e s' from q)
    exact z.elim
theorem Cl.calmX {k : Nat} {x : Str} {ts ts' : TSp} {dvs : List V} (c : Cl P w K mg base (L2N.CX P w) k x ts dvs) (h : ∀ Rs M q X, ts' Rs M q X → ts Rs M q X0) : Cl P w K mg base CX0 k x ts' dvs := by
  obtain ⟨f, fd, ps, ds, F, hm, kp, b, d⟩ := c.ex
  exact ⟨f, fd, ps, ds, fn_calmX F h, hm, kp, b, d⟩
theorem ClM.calmX {k : Nat} {C : Addr} {m : Str} {ts ts' : TSp} {dvs : List V} (c : ClM P w K mg base (L2N.CX P w) k C m ts dvs) (h : ∀ Rs M q X, ts' Rs M q X → ts Rs M q X0) : ClM P w K mg base CX0 k C m ts' dvs := by
  obtain ⟨f, fd, ps, ds, F, hm, b, d⟩ := c.ex
  exact ⟨c.cl, f, fd, ps, ds, fn_calmX F h, hm, b, d⟩
/-- a def handed a lambda, by its name -/
structure ClL (P : Program) (w : World) (K : PySem.W.Frag) (mg : Str → Option Value) (base : Heap) (k : Nat) (x : Str) (TT : GTT) : Prop where
  ex : ∃ g : Addr, FnL P w K mg base k g TT ∧ mg x = some (.ref g) ∧ PySem.W.keepIn K (.ref g) = true
theorem pe_lamL {X : Cx} {TT : GTT} {x : Str} {c Pt : Addr} {k kl : Nat} {params : Arguments} {body : Expr} {scope : Scope} {t : XK → TE} {p lpos pos : Pos} (F : ClL X.prog X.w X.K X.mg X.base k x TT) (hg : Gl X x)
    (TB : TabB X.base X.mg c Pt) (hcode : X.env.code = .ref c) (hr : Room (kl + k) X.A) (L : LamS X.env.scope scope) (hdef : defaultsOf params X.env = ([], []))
    (hbind : ∀ (q : Str) (cl : List (Str × Addr)) (pm cv ctv : Value), bindArgs (PySem.W.kla_fn "<lambda>" q params body scope cl pm cv ctv) ⟨[], []⟩ = pure [])
    (hbody : ∀ (A : Around) (outer : List Env) (s : Shared) (H : Hp) (E : XK) (f c' : Addr), Room kl (A.deeper (lamEnv X scope s.heap.objs.size f c')) → PE (lamCxN X A outer s H E scope f c') body (t E))
    (hdb : (x == ("__debug__" : Str)) = false := by decide) : PE X (.Call (.Name x p) [.Lambda params body scope lpos] [] pos) (tLamP Pt (X.env.qual ++ "<lambda>") TT t) := by
  obtain ⟨g, F1, hm, hk⟩ := F.ex
  exact pe_lamP hg hm hk F1 TB hcode hr L hdef hbind hbody hdb
/-- a def whose code object is c -/
structure FunC (K : PySem.W.Frag) (x qual : Str) (st : Stmt) (f : Addr) (fd : FuncData) (c : Addr) : Prop where
  ex : ∃ (oc : Value) (od : Option Addr) (kV doc pm : Value) (an : Option Addr) (ct : Value) (osl : Array (Option Value)),
    fd = PySem.W.fnOf x qual (defArgs st) (defBody st) (defScope st) .none kV doc pm an (.ref c) ct ∧ K.lookup f = some ⟨oc, od, .func fd, osl⟩ ∧ PySem.W.codeIn K (.ref c) qual = true
theorem okTC {x qual : Str} {st : Stmt} {f c : Addr} {fd : FuncData} {N ps : List Str} {kk : Nat} {ts : TSp} (F : FunC K x qual st f fd c) (S : FnScope N ps (defScope st)) (len : ∀ Rs M k X, ts Rs M k X → Rs.length = ps.length)
    (hbody : ∀ (A : Around) (outer : List PySem.Env) (s : Shared) (H : Hp) (E : XK), Room kk (A.deeper (envOfC qual (defScope st) s.heap.objs.size f (.ref c))) →
      ∃ t, PSs (cxOf CX0 P w K mg base N qual (defScope st) f (.ref c) A outer s H E).nox (defBody st) t ∧ ∀ Rs M k X, ts Rs M k X → St E t (startC N Rs) M { nx := fun _ M' => k iNon M', rt := k, ex := X }) : FnOk P w K mg base CX0 (kk + 1) f fd ps (spT ts) := by
  obtain ⟨oc, od, kV, doc, pm, an, ct, osl, rfl, lk, hcd⟩ := F.ex
  refine fn_of lk hcd S (fun vs H Q E h => ?_) fun A outer s H vs Q E hr h => ?_
  · obtain ⟨_, Rs, M, k, X, h1, _, _, p, _⟩ := h
    exact p.len.trans (len Rs M k X h1)
  · obtain ⟨t, h1, h2⟩ := hbody A outer s H E hr
    obtain ⟨S0, Rs, M, k, X, h3, e, m, p, o, ox⟩ := h
    exact ⟨t, h1.nox, h2 Rs M k X h3 _ S0 H _ (nv_start e m p) ⟨fun σ2 S2 H2 Γ2 M2 q st I2 => o .non S2 H2 iNon M2 q st rfl, o, fun _ _ _ _ _ z => z.elim, fun _ _ _ _ _ z => z.elim, ox⟩⟩
/-- the law's own call, its table of code objects first in the heap -/
theorem law_inT {ts : TSp} {H : Hp} {a Pt : Addr} {q : Str} {ns : List Int} (hP : H Pt = some (.tbl #[])) (hS : SqL K H a (ns.map V.int)) (h : ts [iScr K ns] [(Pt, mTbl q)] (fun R _ => R = iBl true) X0) : spT ts [.ref a] H (fun v _ => v = .bl true) (fun _ _ _ => False) := by
  have hne : a ≠ Pt ∨ ∃ (o : Obj) (its : Array Value) (n : Nat), K.lookup a = some o ∧ o.cls = .type "list" ∧ o.dict = none ∧ o.data = .seq its n ∧ its.size ≤ sizeLine ∧ Vals (ns.map V.int) its.toList := by
    rcases hS with (z | ⟨o, z⟩) | z
    · exact .inl fun e => by rw [e, hP] at z; cases z
    · exact .inl fun e => by rw [e, hP] at z; cases z
    · exact .inr z
  have sm : Same (fun b => if b = Pt then none else H b) H := fun b o q => by
    by_cases hb : b = Pt
    · have z := (if_pos hb).symm.trans q
      cases z
    · exact (if_neg hb).symm.trans q
  refine ⟨fun b => if b = Pt then none else H b, [iScr K ns], [(Pt, mTbl q)], _, _, h, sm, ⟨fun b Q hq => ?_, by simp⟩, ⟨⟨a, rfl, ?_⟩, True.intro⟩, fun v S2 H2 R M2 e st p => by subst e; exact p, fun _ _ _ _ _ _ z => z.elim⟩
  · cases List.mem_singleton.mp hq
    exact ⟨if_pos rfl, _, hP, #[], rfl, True.intro, fun pos cv z => by cases z⟩
  · rcases hne with ne | z
    · rcases hS with (z | ⟨o, z⟩) | z
      · exact .inl (.inl ((if_neg ne).trans z))
      · exact .inl (.inr ⟨o, (if_neg ne).trans z⟩)
      · exact .inr z
    · exact .inr z
end
/-! ### what the program's top says of the refusals' classes, by looks -/
def xisB (K : PySem.W.Frag) (D : Addr) : Bool :=
  (PySem.W.clsIn K D).isSome && decide (PySem.W.findIn K (.ref D) "__getattribute__" = some (some (.builtin "BaseException.__getattribute__"))) && decide (PySem.W.findIn K (.ref D) "__getattr__" = some none) &&
  decide (PySem.W.subIn K (.ref D) (.type "BaseException") = some true) && PySem.W.hasDictIn K D && decide (PySem.W.findIn K (.ref D) "__class__" = some (some (.builtin "object.__class__"))) && decide (PySem.W.mroIn K D (.type "object") = some true)
theorem xisB_of {K : PySem.W.Frag} {D : Addr} (h : xisB K D = true) : XisC K D := by
  unfold xisB at h
  simp only [Bool.and_eq_true, decide_eq_true_eq] at h
  obtain ⟨⟨⟨⟨⟨⟨h1, h2⟩, h3⟩, h4⟩, h5⟩, h6⟩, h7⟩ := h
  exact ⟨h1, h2, h3, h4, h5, h6, h7⟩
def xtabB (K : PySem.W.Frag) (XT : List XCl) (D1 D2 D3 : Addr) : Bool :=
  decide (PySem.W.specialIn K (.builtin "object.__class__") "__get__" = some (some (.builtin "getset_descriptor.__get__"))) && decide (PySem.W.takesIn K (.builtin "object.__class__") = some true) &&
  (XT.all fun c => xisB K c.C) && (XT.all fun c => match c.fld with | none => true | some f => decide (PySem.W.findIn K (.ref c.C) f = some none)) &&
  (XT.all fun c => XT.all fun d => decide (PySem.W.kitOne K (.ref c.C) (.ref d.C) = some (c.C == d.C))) && (XT.all fun c => decide (PySem.W.exmAny K (.ref c.C) [.ref D1, .ref D2, .ref D3] = some true)) && decide ((XT.map (·.C)).Nodup)
theorem xtab_of {K : PySem.W.Frag} {XT : List XCl} {D1 D2 D3 : Addr} (h : xtabB K XT D1 D2 D3 = true) : XTab K XT D1 D2 D3 := by
  unfold xtabB at h
  simp only [Bool.and_eq_true, decide_eq_true_eq] at h
  obtain ⟨⟨⟨⟨⟨⟨h1, h2⟩, h3⟩, h4⟩, h5⟩, h6⟩, h7⟩ := h
  refine ⟨⟨h1, h2⟩, fun c hc => xisB_of (List.all_eq_true.mp h3 c hc), fun c hc f e => ?_, fun c hc d hd => of_decide_eq_true (List.all_eq_true.mp (List.all_eq_true.mp h5 c hc) d hd), fun c hc => of_decide_eq_true (List.all_eq_true.mp h6 c hc), h7⟩
  have z := List.all_eq_true.mp h4 c hc
  rw [e] at z
  exact of_decide_eq_true z
def exkB (K : PySem.W.Frag) (C fI : Addr) (rs : List Addr) (bmB : List Value) (newId : String) (fld : Option Str) : Bool :=
  (match K.lookup C with
    | some ⟨.type "type", _, .cls cd, sl⟩ => (match sl.toList with
      | [_, _, _, _, some (.builtin n), _] => decide (n = newId)
      | _ => false) && decide (cd.mro = .ref C :: (rs.map Value.ref ++ bmB)) && !cd.hasDel && cd.hasDict
    | _ => false) &&
  decide (PySem.W.findIn K (.ref C) "__setattr__" = some (some (.builtin "object.__setattr__"))) && decide (PySem.W.subIn K (.ref C) (.type "BaseException") = some true) && decide (PySem.W.typeIn K (.ref C) = some (.type "type")) && PySem.W.keepIn K (.ref C) &&
  decide (PySem.W.findIn K (.ref C) "__init__" = some (some (.ref fI))) && decide (PySem.W.typeIn K (.ref fI) = some (.type "function")) && decide (PySem.W.findIn K (.ref C) "word" = some none) &&
  (match fld with | none => true | some f => decide (PySem.W.findIn K (.ref C) f = some none))
theorem exk_of {K : PySem.W.Frag} {C fI : Addr} {rs : List Addr} {bmB : List Value} {B newId initId : String} {fld : Option Str} (FB : ExcBaseFacts B newId initId bmB) (hp : ∀ self, refuseLoop self "__setattr__" bmB = pure ()) (ho : bmB.contains (.type "object") = true) (h : exkB K C fI rs bmB newId fld = true) :
    ExcK K C fI ∧ PySem.W.findIn K (.ref C) "word" = some none ∧ ∀ f, fld = some f → PySem.W.findIn K (.ref C) f = some none := by
  unfold exkB at h
  simp only [Bool.and_eq_true, decide_eq_true_eq] at h
  obtain ⟨⟨⟨⟨⟨⟨⟨⟨h1, h2⟩, h3⟩, h4⟩, h5⟩, h6⟩, h7⟩, h8⟩, h9⟩ := h
  refine ⟨⟨⟨B, newId, initId, bmB, FB, ⟨hp, ho, ?_, h2, h3, h4, h5⟩⟩, h6, h7⟩, h8, fun f e => by rw [e] at h9; exact of_decide_eq_true h9⟩
  split at h1
  · rename_i dd cd sl hk
    simp only [Bool.and_eq_true, decide_eq_true_eq, Bool.not_eq_true'] at h1
    obtain ⟨⟨⟨e1, e2⟩, e3⟩, e4⟩ := h1
    split at e1
    · rename_i k0 k1 k2 k3 n k5 hs
      have en : n = newId := of_decide_eq_true e1
      subst en
      obtain ⟨nm, bs, mro, ns, qn, hd, sn, sub, ab, col, del⟩ := cd
      dsimp only at e2 e3 e4
      subst e2 e3 e4
      have hsl : sl = #[k0, k1, k2, k3, some (.builtin n), k5] := by
        obtain ⟨l⟩ := sl
        simp only at hs
        rw [hs]
      subst hsl
      exact ⟨nm, qn, ns, bs, rs, sn, sub, ab, col, dd, k0, k1, k2, k3, k5, hk⟩
    · cases e1
  · cases h1
theorem pass_VE : ∀ self, refuseLoop self "__setattr__" [.type "ValueError", .type "Exception", .type "BaseException", .type "object"] = pure () := PySem.F.store_ValueError.passes
theorem pass_LE : ∀ self, refuseLoop self "__setattr__" [.type "LookupError", .type "Exception", .type "BaseException", .type "object"] = pure () := PySem.F.store_LookupError.passes
theorem pass_IE : ∀ self, refuseLoop self "__setattr__" [.type "IndexError", .type "LookupError", .type "Exception", .type "BaseException", .type "object"] = pure () := PySem.F.store_IndexError.passes
/-! ### one class of the table at hand -/
theorem atX_of {XT : List XCl} {K : PySem.W.Frag} {D1 D2 D3 : Addr} (T : XTab K XT D1 D2 D3) {c : XCl} (h : c ∈ XT) : atX XT c.C = some c := by
  have nd := T.nd
  clear T
  unfold atX
  induction XT with
  | nil => cases h
  | cons a r ih =>
    rw [List.find?_cons]
    rw [List.map_cons, List.nodup_cons] at nd
    rcases List.mem_cons.mp h with e | h
    · subst e; rw [beq_self_eq_true]
    · have ne : (a.C == c.C) = false := beq_eq_false_iff_ne.mpr fun z => nd.1 (by rw [z]; exact List.mem_map.mpr ⟨c, h, rfl⟩)
      rw [ne]
      exact ih h nd.2
section
variable {XT : List XCl} {K : PySem.W.Frag} {D1 D2 D3 C : Addr} {x f : Str} {R : Rep}
theorem kn1 (T : XTab K XT D1 D2 D3) (h : (⟨C, x, some f⟩ : XCl) ∈ XT) : KnX XT ⟨C, [(f, R), ("word", aStr x)]⟩ := ⟨_, atX_of T h, rfl⟩
theorem kn0 (T : XTab K XT D1 D2 D3) (h : (⟨C, x, none⟩ : XCl) ∈ XT) : KnX XT ⟨C, [("word", aStr x)]⟩ := ⟨_, atX_of T h, rfl⟩
theorem wd_of (T : XTab K XT D1 D2 D3) {o : Option Str} {fs : List (Str × Rep)} (h : (⟨C, x, o⟩ : XCl) ∈ XT) : wdX XT ⟨C, fs⟩ = x := by
  unfold wdX
  rw [show atX XT C = _ from atX_of T h]
  rfl
theorem fl1 (T : XTab K XT D1 D2 D3) {y : Str} (h : (⟨C, x, some f⟩ : XCl) ∈ XT) : flX XT ⟨C, [(f, R), ("word", aStr y)]⟩ = R := by
  unfold flX
  rw [show atX XT C = _ from atX_of T h]
  simp
theorem fl0 (T : XTab K XT D1 D2 D3) {fs : List (Str × Rep)} (h : (⟨C, x, none⟩ : XCl) ∈ XT) : flX XT ⟨C, fs⟩ = iNon := by
  unfold flX
  rw [show atX XT C = _ from atX_of T h]
  rfl
/-- what is met at _law_tried(lambda: ..) -/
theorem k_x1 {P : Rep → Prop} (T : XTab K XT D1 D2 D3) (h : (⟨C, x, some f⟩ : XCl) ∈ XT) (q : P (aTup K [iNon, aStr x, R])) : KnX XT ⟨C, [(f, R), ("word", aStr x)]⟩ ∧ P (aTup K [iNon, aStr (wdX XT ⟨C, [(f, R), ("word", aStr x)]⟩), flX XT ⟨C, [(f, R), ("word", aStr x)]⟩]) := by
  rw [wd_of T h, fl1 T h]
  exact ⟨kn1 T h, q⟩
theorem k_x0 {P : Rep → Prop} (T : XTab K XT D1 D2 D3) (h : (⟨C, x, none⟩ : XCl) ∈ XT) (q : P (aTup K [iNon, aStr x, iNon])) : KnX XT ⟨C, [("word", aStr x)]⟩ ∧ P (aTup K [iNon, aStr (wdX XT ⟨C, [("word", aStr x)]⟩), flX XT ⟨C, [("word", aStr x)]⟩]) := by
  rw [wd_of T h, fl0 T h]
  exact ⟨kn0 T h, q⟩
theorem k_y1 {P : Rep → Prop} (T : XTab K XT D1 D2 D3) (h : (⟨C, x, some f⟩ : XCl) ∈ XT) (q : P (aTup K [aStr x, R])) : KnX XT ⟨C, [(f, R), ("word", aStr x)]⟩ ∧ P (aTup K [aStr (wdX XT ⟨C, [(f, R), ("word", aStr x)]⟩), flX XT ⟨C, [(f, R), ("word", aStr x)]⟩]) := by
  rw [wd_of T h, fl1 T h]
  exact ⟨kn1 T h, q⟩
theorem k_y0 {P : Rep → Prop} (T : XTab K XT D1 D2 D3) (h : (⟨C, x, none⟩ : XCl) ∈ XT) (q : P (aTup K [aStr x, iNon])) : KnX XT ⟨C, [("word", aStr x)]⟩ ∧ P (aTup K [aStr (wdX XT ⟨C, [("word", aStr x)]⟩), flX XT ⟨C, [("word", aStr x)]⟩]) := by
  rw [wd_of T h, fl0 T h]
  exact ⟨kn0 T h, q⟩
end
section
variable {E : XK} {K : PySem.W.Frag} {Γ : Ct} {M : SH} {k : KR} {X : KX} {Pt D1 D2 D3 : Addr} {q : Str} {t : XK → TE} {XT : List XCl}
theorem ev_triedI (T : XTab K XT D1 D2 D3) (h : ∃ i : Nat, M[i]? = some (Pt, mTbl q) ∧ ∀ E', Ev E' (t E') Γ M (fun R M2 => k (aTup K [R, aStr "", iNon]) M2) (fun x M2 => KnX XT x ∧ k (aTup K [iNon, aStr (wdX XT x), flX XT x]) M2)) :
    Ev E (tLamP Pt q (TTr K D1 D2 D3 (tsWordX XT) (tsFieldX XT)) t) Γ M k X := by
  obtain ⟨i, hi, h⟩ := h
  obtain ⟨e, _⟩ := at_split (P' := mTbl q) hi
  rw [e] at h ⊢
  exact ev_triedX T h
theorem ev_refusedI (T : XTab K XT D1 D2 D3) (h : ∃ i : Nat, M[i]? = some (Pt, mTbl q) ∧ ∀ E', Ev E' (t E') Γ M (fun R M2 => k (aTup K [aStr "", iNon]) M2) (fun x M2 => KnX XT x ∧ k (aTup K [aStr (wdX XT x), flX XT x]) M2)) :
    Ev E (tLamP Pt q (TRf K (TTr K D1 D2 D3 (tsWordX XT) (tsFieldX XT))) t) Γ M k X := by
  obtain ⟨i, hi, h⟩ := h
  obtain ⟨e, _⟩ := at_split (P' := mTbl q) hi
  rw [e] at h ⊢
  exact ev_refusedX T h
end
/-- the looks at the law's code object -/
theorem codeTab_of {K : PySem.W.Frag} {h : Heap} {c Pt : Addr} (X : K.In h) (e : PySem.W.codeHdIn K c Pt = true) : PySem.W.CodeHd h c Pt ∧ ∃ (cl : Value) (dd : Option Addr) (vs : Array Value) (sl : Array (Option Value)), K.lookup c = some ⟨cl, dd, .fields vs, sl⟩ ∧ vs[11]? = some (.ref Pt) := by
  refine ⟨PySem.W.codeHd_of_K X e, ?_⟩
  unfold PySem.W.codeHdIn at e
  split at e
  · rename_i dd vs sl hk
    simp only [Bool.and_eq_true] at e
    obtain ⟨⟨⟨⟨⟨e1, _⟩, _⟩, _⟩, _⟩, _⟩ := e
    split at e1
    · rename_i P' h11
      have hP : P' = Pt := beq_iff_eq.mp e1
      subst hP
      exact ⟨_, dd, vs, sl, hk, h11⟩
    · cases e1
  · cases e
theorem tab_none {K : PySem.W.Frag} {h : Heap} {Pt : Addr} (X : K.In h) (kt : PySem.W.noTabs K = true) (hP : h.get? Pt = some { cls := .none, data := .fields #[] }) : K.lookup Pt = none := by
  cases e : K.lookup Pt with
  | none => rfl
  | some o =>
    have e1 := X _ _ e
    rw [hP] at e1
    cases e1
    have h2 := List.all_eq_true.mp kt _ (PySem.W.mem_of_lookupK e)
    exact absurd (show false = true from h2) Bool.false_ne_true
/-- the law, with its own table of code objects -/
theorem lawAt_of {l : PySem.W.OpenLaw} {w : World} {K : PySem.W.Frag} {mg : Str → Option Value} {fa : Addr} {h : Heap} {k : Nat} {ts : Addr → TSp} {q : Str} (X : K.In h) (own : OwnTab K fa h)
    (hE : ∃ (fd : FuncData) (c Pt : Addr), (∃ oc od sl, K.lookup fa = some ⟨oc, od, .func fd, sl⟩) ∧ fd.code = .ref c ∧ PySem.W.codeHdIn K c Pt = true ∧ PySem.W.noTabs K = true ∧ (∀ (s : Shared) (v : Value), BindsTo s fd ⟨[v], []⟩ [("_law_script", v)]) ∧
      ∀ base : Heap, K.In base → base.Ns mainGlobals mg → TabB base mg c Pt → FnOk l.prog w K mg base CX0 k fa fd ["_law_script"] (spT (ts Pt)))
    (hts : ∀ (Pt : Addr) (ns : List Int), ns.length ≤ 63 → ts Pt [iScr K ns] [(Pt, mTbl q)] (fun R _ => R = iBl true) X0) : LawAtS l w K CX0 k 63 "_law_script" mg fa h := by
  obtain ⟨fd, c, Pt, ⟨oc, od, sl, lk⟩, hc, kc, kt, hb, F⟩ := hE
  obtain ⟨C, cl, dd, vs, sl2, hk, h11⟩ := codeTab_of X kc
  have hP := own c Pt _ fd cl dd vs sl2 lk rfl hc hk h11
  refine ⟨fd, [(c, Pt)], spT (ts Pt), fun p hp => ?_, fun p hp => ?_, fun p hp => ?_, hb, fun H a ns hl _ hH hS => law_inT (hH _ (List.mem_singleton.mpr rfl)) hS (hts Pt ns hl), fun base hb hg ht => F base hb hg (ht _ (List.mem_singleton.mpr rfl))⟩
  · rw [List.mem_singleton.mp hp]; exact hP
  · rw [List.mem_singleton.mp hp]; exact tab_none X kt hP
  · rw [List.mem_singleton.mp hp]; exact C
abbrev lamQ : Str := ("law" : Str) ++ ".<locals>." ++ "<lambda>"
theorem funC_mk {K : PySem.W.Frag} {x qual : Str} {st : Stmt} {f c : Addr} {oc : Value} {od an : Option Addr} {osl : Array (Option Value)} {kV doc pm ct : Value} (l : K.lookup f = some ⟨oc, od, .func (PySem.W.fnOf x qual (defArgs st) (defBody st) (defScope st) .none kV doc pm an (.ref c) ct), osl⟩)
    (h : PySem.W.codeIn K (.ref c) qual = true) : FunC K x qual st f (PySem.W.fnOf x qual (defArgs st) (defBody st) (defScope st) .none kV doc pm an (.ref c) ct) c := ⟨⟨oc, od, kV, doc, pm, an, ct, osl, rfl, l, h⟩⟩
section
variable {P : Program} {w0 : World} {K : PySem.W.Frag} {mg : Str → Option Value} {base : Heap}
theorem clx1_of {C fI : Addr} {rs : List Addr} {bmB : List Value} {B newId initId : String} {w fld qual : Str} {st : Stmt} {fd : FuncData} {j : Nat} {p1 p2 p3 p4 p5 p6 p7 p8 : Pos} (FB : ExcBaseFacts B newId initId bmB) (hp : ∀ self, refuseLoop self "__setattr__" bmB = pure ()) (ho : bmB.contains (.type "object") = true)
    (h : exkB K C fI rs bmB newId (some fld) = true) (hm : mg w = some (.ref C)) (F : Fun K "__init__" qual st fI fd) (hb : defBody st = [.Assign [.Attribute (.Name "self" p1) "word" p2] (.Constant (.str w) j p3) p4, .Assign [.Attribute (.Name "self" p5) fld p6] (.Name fld p7) p8]) (S : FnScope ["self", fld] ["self", fld] (defScope st))
    (v1 : Vis (defScope st) "self") (v2 : Vis (defScope st) fld) (d1 : (fld == ("__debug__" : Str)) = false) (d2 : (fld == ("__classdict__" : Str)) = false) (bd : Binds K fd ["self", fld] []) : ClX P w0 K mg base w C (some fld) := by
  obtain ⟨T, h1, h2⟩ := exk_of FB hp ho h
  obtain ⟨_, n, _, b, _, G⟩ := T.T
  exact ⟨⟨fI, fd, _, T, init1_ok F ⟨n, b, G⟩ h1 (h2 _ rfl) hb S v1 v2 d1 d2, bd⟩, hm⟩
theorem clx0_of {C fI : Addr} {rs : List Addr} {bmB : List Value} {B newId initId : String} {w qual : Str} {st : Stmt} {fd : FuncData} {j : Nat} {p1 p2 p3 p4 : Pos} (FB : ExcBaseFacts B newId initId bmB) (hp : ∀ self, refuseLoop self "__setattr__" bmB = pure ()) (ho : bmB.contains (.type "object") = true)
    (h : exkB K C fI rs bmB newId none = true) (hm : mg w = some (.ref C)) (F : Fun K "__init__" qual st fI fd) (hb : defBody st = [.Assign [.Attribute (.Name "self" p1) "word" p2] (.Constant (.str w) j p3) p4]) (S : FnScope ["self"] ["self"] (defScope st))
    (v1 : Vis (defScope st) "self") (bd : Binds K fd ["self"] []) : ClX P w0 K mg base w C none := by
  obtain ⟨T, h1, h2⟩ := exk_of FB hp ho h
  obtain ⟨_, n, _, b, _, G⟩ := T.T
  exact ⟨⟨fI, fd, _, T, init0_ok F ⟨n, b, G⟩ h1 hb S v1, bd⟩, hm⟩
end
section
variable {XT : List XCl} {K : PySem.W.Frag} {D1 D2 D3 : Addr} {x : XR}
theorem xis_of (T : XTab K XT D1 D2 D3) (h : KnX XT x) : XisC K x.cls := by
  obtain ⟨c, h1, h2⟩ := h.fst
  rw [← h2]
  exact T.is c h1
theorem kit_of (T : XTab K XT D1 D2 D3) (h : KnX XT x) {d : XCl} (hd : d ∈ XT) : PySem.W.kitOne K (.ref x.cls) (.ref d.C) = some (x.cls == d.C) := by
  obtain ⟨c, h1, h2⟩ := h.fst
  rw [← h2]
  exact T.kit c h1 d hd
theorem xis_W {a D dd : Addr} (T : XTab K XT D1 D2 D3) (h : ∃ Rs M k X, tsWordX XT a D dd Rs M k X) : XisC K D := by
  obtain ⟨_, _, _, _, fs, _, _, h, _⟩ := h
  exact xis_of T h
theorem xis_F {a D dd : Addr} (T : XTab K XT D1 D2 D3) (h : ∃ Rs M k X, tsFieldX XT a D dd Rs M k X) : XisC K D := by
  obtain ⟨_, _, _, _, fs, _, _, h, _⟩ := h
  exact xis_of T h
/-- of the words those of the class at hand: one -/
theorem one_word (T : XTab K XT D1 D2 D3) (h : KnX XT x) (d0 : XCl) : given XT.length (fun i => x.cls == (XT.getD i d0).C) (fun i => aStr (XT.getD i d0).w) = [aStr (wdX XT x)] := by
  obtain ⟨c, h1, _⟩ := h
  have nd := T.nd
  clear T
  rw [given_list XT (fun c => x.cls == c.C) (fun c => aStr c.w) d0]
  unfold wdX
  rw [h1, show (fun c : XCl => aStr c.w) = aStr ∘ (·.w) from rfl, ← List.map_map]
  show _ = [aStr c.w]
  unfold atX at h1
  suffices h : XT.filter (fun d => x.cls == d.C) = [c] by rw [h]; rfl
  induction XT with
  | nil => cases h1
  | cons a r ih =>
    rw [List.map_cons, List.nodup_cons] at nd
    rw [List.find?_cons] at h1
    rw [List.filter_cons]
    by_cases e : a.C = x.cls
    · rw [beq_iff_eq.mpr e] at h1
      cases h1
      rw [beq_iff_eq.mpr e.symm, if_pos rfl]
      congr 1
      refine List.filter_eq_nil_iff.mpr fun d hd z => nd.1 ?_
      rw [e, beq_iff_eq.mp z]
      exact List.mem_map.mpr ⟨d, hd, rfl⟩
    · rw [beq_eq_false_iff_ne.mpr e] at h1
      rw [beq_eq_false_iff_ne.mpr (Ne.symm e), if_neg Bool.false_ne_true]
      exact ih h1 nd.2
/-- which one it is -/
theorem kn_ix (T : XTab K XT D1 D2 D3) (h : KnX XT x) (d0 : XCl) : ∃ j, j < XT.length ∧ (∀ i, i < XT.length → (x.cls == (XT.getD i d0).C) = decide (i = j)) ∧ flX XT x = (match (XT.getD j d0).fld with | some f => (x.fs.lookup f).getD iNon | none => iNon) ∧
    (∀ f, (XT.getD j d0).fld = some f → PySem.W.findIn K (.ref x.cls) f = some none ∧ ∃ R, x.fs.lookup f = some R ∧ flX XT x = R) := by
  obtain ⟨c, h1, h2⟩ := h
  obtain ⟨hc, ec⟩ := atX_mem h1
  obtain ⟨j, hj⟩ := List.getElem?_of_mem hc
  have hl := (List.getElem?_eq_some_iff.mp hj).1
  have ed : XT.getD j d0 = c := by rw [List.getD_eq_getElem?_getD, hj]; rfl
  refine ⟨j, hl, fun i hi => ?_, ?_, fun f hf => ?_⟩
  · have nd := T.nd
    have e1 : XT.getD i d0 = XT[i] := by rw [List.getD_eq_getElem?_getD, List.getElem?_eq_getElem hi]; rfl
    rw [e1, ← ec, Bool.eq_iff_iff, beq_iff_eq, decide_eq_true_eq]
    have key : (XT.map (·.C))[j]'(by simpa using hl) = (XT.map (·.C))[i]'(by simpa using hi) ↔ j = i := by
      constructor
      · intro z
        rcases Nat.lt_trichotomy j i with q | q | q
        · exact absurd z (List.pairwise_iff_getElem.mp nd j i _ _ q)
        · exact q
        · exact absurd z.symm (List.pairwise_iff_getElem.mp nd i j _ _ q)
      · intro z; subst z; rfl
    rw [List.getElem_map, List.getElem_map] at key
    have e2 : XT[j] = c := by rw [List.getElem?_eq_getElem hl] at hj; exact Option.some.inj hj
    rw [e2] at key
    rw [key]
    exact ⟨Eq.symm, Eq.symm⟩
  · rw [ed]
    unfold flX
    rw [h1]
    rfl
  · rw [ed] at hf
    refine ⟨by rw [← ec]; exact T.no c hc f hf, ?_⟩
    rw [hf] at h2
    dsimp only at h2
    obtain ⟨cl, fs⟩ := x
    match fs, h2 with
    | [(f1, R), (f2, R2)], h2 =>
      have e1 : f1 = f := by simpa using congrArg List.head? h2
      subst e1
      refine ⟨R, by simp, ?_⟩
      unfold flX
      rw [h1]
      show (match c.fld with | some g => _ | none => _) = R
      rw [hf]
      simp
    | [], h2 => simp at h2
    | [_], h2 => simp at h2
    | _ :: _ :: _ :: _, h2 => simp at h2
end
end L3

/-! more rules: enumerate over a list or a tuple -/
namespace L3
open PySem PySem.Spec L2 RZ PyProof.Rows
def iEnumS (K : PySem.W.Frag) (ta : TA) : TI := fun σ H R => ta σ H fun vs H1 => (∃ a xs, vs = [.ref a] ∧ SqL K H1 a xs ∧ R (Ite K a) H1) ∨ ∃ a xs, vs = [.ref a] ∧ SqT K H1 a xs ∧ R (IteT K a) H1
theorem pi_enumS {X : Cx} {e : Expr} {ta : TA} {p pos tpos : Pos} {elts : List Expr} {kk : Nat} (hg : Gl X "enumerate") (hm : X.mg "enumerate" = none) (ha : PA X [e] ta) (hs : starEach [e] X.env = [(false, eval e X.env)] := by rfl) :
    PI X (.Tuple elts kk tpos) (.Call (.Name "enumerate" p) [e] [] pos) (iEnumS X.K ta) := by
  refine ⟨fun pins s σ H R I h => Call_ (ld_blt I hg hm boot_enumerate (callWith_type1 (thn (ha.run pos pins s σ H _ I h) fun us s1 ⟨vs, H1, I1, r1, q1⟩ => ?_) hs rfl))⟩
  rcases q1 with ⟨a, xs, ex, hq, q⟩ | ⟨a, xs, ex, hq, q⟩
  · subst ex
    cases r1 with
    | cons r rr =>
      cases rr
      cases r
      obtain ⟨its, rv, p', hz⟩ := I1.list hq
      refine call_enumerate_list p'.isList fun h' he hit hsz hk => wpAny_pyIter_enum he ?_
      have I2 : Inv X pins σ H1 { s1 with heap := h' } := I1.kept (t' := s1.toks) hk
      refine ⟨s1.heap.objs.size + 1, [s1.heap.objs.size + 1, s1.heap.objs.size], _, _, H1, rfl, I2, turn_enum a (s1.heap.objs.size + 1) s1.heap.objs.size, ⟨⟨.none, he⟩, hit, Nat.succ_ne_self _⟩, fun b hb => ?_, q⟩
      have e' : b = s1.heap.objs.size + 1 ∨ b = s1.heap.objs.size := by simpa using hb
      have hle : s1.heap.objs.size ≤ b := by
        rcases e' with z | z
        · rw [z]; exact Nat.le_add_right _ _
        · rw [z]; exact Nat.le_refl _
      exact I1.fpOk hle (I1.hok.fresh hle)
  · subst ex
    obtain rfl := Vals.ref1 r1
    obtain ⟨its, rv, pt, hz⟩ := I1.tuple hq
    have hne : a ≠ s1.heap.objs.size := let ⟨_, ho, _⟩ := pt; Nat.ne_of_lt (Heap.lt_size ho)
    refine call_enumT (show s1.heap.IsTuple a its.toArray from pt) fun h' he hit hk => wpAny_pyIter_enum he ?_
    have I2 : Inv X pins σ H1 { s1 with heap := h' } := I1.kept (t' := s1.toks) hk
    refine ⟨_, [s1.heap.objs.size + 1, s1.heap.objs.size], _, _, H1, rfl, I2, turn_enumT a (s1.heap.objs.size + 1) s1.heap.objs.size hne, ⟨⟨.none, he⟩, hit, Nat.succ_ne_self _⟩, fun b hb => ?_, q⟩
    have hle : s1.heap.objs.size ≤ b := by
      have z : b = s1.heap.objs.size + 1 ∨ b = s1.heap.objs.size := by simpa using hb
      rcases z with z | z
      · rw [z]; exact Nat.le_succ _
      · rw [z]; exact Nat.le_refl _
    exact I1.fpOk hle (I1.hok.fresh hle)
section
variable {E : XK} {K : PySem.W.Frag} {Γ : Ct} {M : SH} {tl : TE}
theorem tip_enumS {rl : List Rep} (h : Ep E tl Γ M (aSeq K rl)) : Tip E (iEnumS K (tCons tl tNil)) Γ M rl.length (fun i r => ∃ r1 r2, r1 = iInt (i : Nat) ∧ rl[i]? = some r2 ∧ r = aTup K [r1, r2]) := fun ki X q σ S H R I o ox =>
  eap_cons h eap_nil (fun Rs M' => Rs = [aSeq K rl] ∧ M' = M) X ⟨rfl, rfl⟩ σ S H _ I (fun xs S2 H2 Rs M2 ⟨e1, e2⟩ st p => by
    subst e1; subst e2
    obtain ⟨v, rfl, p⟩ := all2_1 p
    rcases p with ⟨a, ys, rfl, p1, p2⟩ | ⟨a, ys, rfl, p1, p2⟩
    · refine .inl ⟨a, ys, rfl, SqL.of (st.e _ _ p1), o _ S2 H2 _ _ _ q st ?_⟩
      have w := walk_enum (K := K) (a := a) (xs := ys)
      rw [p2.len] at w
      exact tw_pair w (fun Sx H e1 e2 => SqL.of ((e1.trans e2) _ _ p1)) (fun i x hi hx => ⟨_, rfl, (Option.some.inj hx).symm⟩) (fun i x hi hx => p2.getV hx)
    · refine .inr ⟨a, ys, rfl, Same.sqt st.e p1, o _ S2 H2 _ _ _ q st ?_⟩
      have w := walk_enumT (K := K) (a := a) (xs := ys)
      rw [p2.len] at w
      exact tw_pair w (fun Sx H e1 e2 => Same.sqt (e1.trans e2) p1) (fun i x hi hx => ⟨_, rfl, (Option.some.inj hx).symm⟩) (fun i x hi hx => p2.getV hx)) ox
theorem o_ixNQ {α : Type} {l : List α} {g : α → Rep} {x : Int} (n : Nat) (e : x = n) (h : n < l.length) : O2p (rIx K) (aSeq K (l.map g)) (iInt x) M (g l[n]) := by
  subst e
  exact o_ixQ (atI_map (atI_nat (by simp [h])))
/-- one of two, as either -/
theorem o_ixPair {A B R : Rep} {i : Int} {k : KR} (h : i = 0 ∨ i = 1) (ha : ∀ S v, A.p S v → R.p S v) (hb : ∀ S v, B.p S v → R.p S v) (q : k R M) : O2 (rIxL K) (iLst [A, B]) (iInt i) M k := fun x y S H Q e m h1 h2 o => by
  rcases h with rfl | rfl
  · exact o_ixL (R := A) rfl (fun R' M' => R' = A ∧ M' = M) ⟨rfl, rfl⟩ x y S H Q e m h1 h2 fun v S2 H2 R' M2 ⟨e1, e2⟩ st p => by subst e1; subst e2; exact o v S2 H2 R _ q st (ha _ _ p)
  · exact o_ixL (R := B) rfl (fun R' M' => R' = B ∧ M' = M) ⟨rfl, rfl⟩ x y S H Q e m h1 h2 fun v S2 H2 R' M2 ⟨e1, e2⟩ st p => by subst e1; subst e2; exact o v S2 H2 R _ q st (hb _ _ p)
theorem c_intB {b : Bool} : Olp (fun xs H Q => (∃ i, xs = [.int i] ∧ Q (.int i) H) ∨ ∃ k, xs = [.bl k] ∧ Q (.int (if k then 1 else 0)) H) [iBl b] M (iInt (if b then 1 else 0)) := ol_val fun xs S H e _ h => by
  obtain ⟨v, rfl, h1⟩ := all2_1 h
  cases h1
  exact ⟨_, rfl, fun Q q => .inr ⟨b, rfl, q⟩⟩
theorem c_intI {i : Int} : Olp (fun xs H Q => (∃ i, xs = [.int i] ∧ Q (.int i) H) ∨ ∃ k, xs = [.bl k] ∧ Q (.int (if k then 1 else 0)) H) [iInt i] M (iInt i) := ol_val fun xs S H e _ h => by
  obtain ⟨v, rfl, h1⟩ := all2_1 h
  cases h1
  exact ⟨_, rfl, fun Q q => .inl ⟨i, rfl, q⟩⟩
end
section
variable {E : XK} {K : PySem.W.Frag} {Γ : Ct} {M : SH} {k : KR} {X : KX} {Pt D1 D2 D3 C : Addr} {q x f : Str} {t : XK → TE} {XT : List XCl} {R R0 : Rep}
/-- one end for all: what is told -/
theorem ev_triedR (T : XTab K XT D1 D2 D3) (i : Nat) (hi : M[i]? = some (Pt, mTbl q)) (h : ∀ E', Ev E' (t E') Γ M (fun R M2 => aTup K [R, aStr "", iNon] = R0 ∧ M2 = M) (fun x M2 => KnX XT x ∧ aTup K [iNon, aStr (wdX XT x), flX XT x] = R0 ∧ M2 = M)) (hk : k R0 M) :
    Ev E (tLamP Pt q (TTr K D1 D2 D3 (tsWordX XT) (tsFieldX XT)) t) Γ M k X :=
  ev_triedI T ⟨i, hi, fun E' => (h E').mono2 (fun R M2 ⟨e1, e2⟩ => by rw [e1, e2]; exact hk) (fun x M2 ⟨kn, e1, e2⟩ => ⟨kn, by rw [e1, e2]; exact hk⟩)⟩
theorem ev_refusedR (T : XTab K XT D1 D2 D3) (i : Nat) (hi : M[i]? = some (Pt, mTbl q)) (h : ∀ E', Ev E' (t E') Γ M (fun _ M2 => aTup K [aStr "", iNon] = R0 ∧ M2 = M) (fun x M2 => KnX XT x ∧ aTup K [aStr (wdX XT x), flX XT x] = R0 ∧ M2 = M)) (hk : k R0 M) :
    Ev E (tLamP Pt q (TRf K (TTr K D1 D2 D3 (tsWordX XT) (tsFieldX XT))) t) Γ M k X :=
  ev_refusedI T ⟨i, hi, fun E' => (h E').mono2 (fun R M2 ⟨e1, e2⟩ => by rw [e1, e2]; exact hk) (fun x M2 ⟨kn, e1, e2⟩ => ⟨kn, by rw [e1, e2]; exact hk⟩)⟩
theorem kt1 {P : Prop} (T : XTab K XT D1 D2 D3) (h : (⟨C, x, some f⟩ : XCl) ∈ XT) (e : aTup K [iNon, aStr x, R] = R0) (p : P) : KnX XT ⟨C, [(f, R), ("word", aStr x)]⟩ ∧ aTup K [iNon, aStr (wdX XT ⟨C, [(f, R), ("word", aStr x)]⟩), flX XT ⟨C, [(f, R), ("word", aStr x)]⟩] = R0 ∧ P := by
  rw [wd_of T h, fl1 T h]
  exact ⟨kn1 T h, e, p⟩
theorem kt0 {P : Prop} (T : XTab K XT D1 D2 D3) (h : (⟨C, x, none⟩ : XCl) ∈ XT) (e : aTup K [iNon, aStr x, iNon] = R0) (p : P) : KnX XT ⟨C, [("word", aStr x)]⟩ ∧ aTup K [iNon, aStr (wdX XT ⟨C, [("word", aStr x)]⟩), flX XT ⟨C, [("word", aStr x)]⟩] = R0 ∧ P := by
  rw [wd_of T h, fl0 T h]
  exact ⟨kn0 T h, e, p⟩
theorem kr1 {P : Prop} (T : XTab K XT D1 D2 D3) (h : (⟨C, x, some f⟩ : XCl) ∈ XT) (e : aTup K [aStr x, R] = R0) (p : P) : KnX XT ⟨C, [(f, R), ("word", aStr x)]⟩ ∧ aTup K [aStr (wdX XT ⟨C, [(f, R), ("word", aStr x)]⟩), flX XT ⟨C, [(f, R), ("word", aStr x)]⟩] = R0 ∧ P := by
  rw [wd_of T h, fl1 T h]
  exact ⟨kn1 T h, e, p⟩
theorem kr0 {P : Prop} (T : XTab K XT D1 D2 D3) (h : (⟨C, x, none⟩ : XCl) ∈ XT) (e : aTup K [aStr x, iNon] = R0) (p : P) : KnX XT ⟨C, [("word", aStr x)]⟩ ∧ aTup K [aStr (wdX XT ⟨C, [("word", aStr x)]⟩), flX XT ⟨C, [("word", aStr x)]⟩] = R0 ∧ P := by
  rw [wd_of T h, fl0 T h]
  exact ⟨kn0 T h, e, p⟩
end
end L3

/-! __init__ that may raise; l.insert -/
namespace L3
open PySem PySem.Spec PyProof.Rows L2
theorem MOk.dropL {S H : Hp} {A B : SH} (m : MOk S H (A ++ B)) : MOk S H B :=
  ⟨fun a P h => m.at_ a P (List.mem_append_right _ h), by
    have nd := m.nd
    rw [show dm (A ++ B) = dm A ++ dm B from List.map_append, List.nodup_append] at nd
    exact nd.2.1⟩
/-- what is no more spoken of -/
theorem Stp.dropL {S H : Hp} {A B : SH} (e : Same S H) (m : MOk S H (A ++ B)) : Stp S H S H (A ++ B) B where
  s := fun _ _ h => h
  e := e
  new := fun a h h2 => absurd h h2
  fr := fun a o _ h => h
  m := m.dropL
  dn := fun a h => .inl (by rw [show dm (A ++ B) = dm A ++ dm B from List.map_append]; exact List.mem_append_right _ h)
def initX (C : Addr) (sp : List Rep → (FR → Prop) → (XR → Prop) → Prop) : TSp := fun Rs M k X => ∃ a Rs', Rs = iRef a :: Rs' ∧ M = [(a, mObj C [])] ∧ ∃ (Z : FR → Prop) (ZX : XR → Prop), sp Rs' Z ZX ∧ (∀ fs, Z fs → k iNon [(a, mObj C fs)]) ∧ ∀ x, ZX x → ∀ M', X x M'
section
variable {E : XK} {K : PySem.W.Frag} {Γ : Ct} {M : SH} {k : KR} {X : KX} {R : Rep} {ta : TE} {tr tk : TA} {C : Addr}
theorem ev_makeX {sp : List Rep → (FR → Prop) → (XR → Prop) → Prop} {dvs : List V} {Ds : List Rep} (hd : ∀ S, All2 S Ds dvs) (h : Ea E tr Γ M (fun Rs M1 => ∃ Rs', LeS (Rs ++ Ds) Rs' ∧ sp Rs' (fun fs => k (iObj C fs) M1) fun x => X x M1) X) : Ev E (tMake C (spT (initX C sp)) dvs E tr) Γ M k X := fun σ S H Q I o ox =>
  h σ S H _ I (fun xs S1 H1 Rs M1 ⟨Rs', le, q⟩ st p x dx hx hdx hne => by
    have s1 := Stp.newS (o := .own x) st.e st.m hdx
    have hx1 : upd H1 dx (.own x) x = none := by rw [upd_ne (Ne.symm hne)]; exact hx
    have s2 := Stp.newM (P := mObj C []) (o := .ins C dx []) s1.e s1.m hx1 ⟨dx, [], rfl, rfl, True.intro⟩
    have st2 := (st.trans s1).trans s2
    have pm : (M1 ++ [(x, mObj C [])]).Perm ([(x, mObj C [])] ++ M1) := List.perm_append_comm
    refine spT_in (ts := initX C sp) (Mf := [(x, mObj C [])]) (Fr := M1) (Rs := iRef x :: Rs') (X := fun y M' => ∃ Mx, M' = Mx ++ M1 ∧ X y M1) (k := fun R' M' => R' = iNon ∧ ∃ fs, M' = [(x, mObj C fs)] ++ M1 ∧ k (iObj C fs) M1) ⟨x, Rs', rfl, rfl, _, _, q, fun fs z => ⟨rfl, fs, rfl, z⟩, fun y z M' => ⟨M', rfl, z⟩⟩ s2.e (st2.m.perm pm) ⟨rfl, le _ _ ((p.mono s1.s).app (hd _))⟩ (fun w S3 H3 R3 M3 ⟨e3, fs, e4, q3⟩ st3 p3 => ?_) (fun c d S3 H3 y M3 ⟨Mx, e4, q3⟩ st3 p3 => ?_)
    · subst e3
      subst e4
      cases p3
      obtain ⟨_, ob, ho, dx', vs, rfl, hi⟩ := st3.m.at_ x (mObj C fs) (by simp)
      have fz := Stp.fz (A := []) (B := M1) (P := mObj C fs) st3.e st3.m ho
      exact ⟨rfl, o (.ref x) _ H3 (iObj C fs) M1 q3 ((st2.trans (st3.permL pm)).trans fz) ⟨x, dx', vs, rfl, upd_same, hi.mono fz.s⟩⟩
    · subst e4
      exact ox c d S3 H3 y M1 q3 ((st2.trans (st3.permL pm)).trans (Stp.dropL st3.e st3.m)) p3) ox
theorem ev_makeNX {n m : Nat} {sp : List Rep → (FR → Prop) → (XR → Prop) → Prop} {gV : List V → List V → List V} {gR : List Rep → List Rep → List Rep} (hg : ∀ S (R : Rep) Rs Zs v vs zs, R.p S v → All2 S Rs vs → All2 S Zs zs → All2 S (R :: gR Rs Zs) (gV (v :: vs) zs))
    (h : Ea E tr Γ M (fun Rs M1 => Rs.length = n ∧ Ea E tk Γ M1 (fun Zs M2 => Zs.length = m ∧ ∃ Rs', LeS (gR Rs Zs) Rs' ∧ sp Rs' (fun fs => k (iObj C fs) M2) fun x => X x M2) X) X) : Ev E (tMakeN C n m (spT (initX C sp)) gV E tr tk) Γ M k X := fun σ S H Q I o ox =>
  h σ S H _ I (fun vs S0 H0 Rs M0 ⟨e1, q⟩ st0 p => q σ S0 H0 _ (I.step st0) (fun zs S1 H1 Zs M1 ⟨e2, Rs', le, q⟩ st1 p2 => ⟨p.len.trans e1, p2.len.trans e2, fun x dx hx hdx hne => by
    have st := st0.trans st1
    have s1 := Stp.newS (o := .own x) st.e st.m hdx
    have hx1 : upd H1 dx (.own x) x = none := by rw [upd_ne (Ne.symm hne)]; exact hx
    have s2 := Stp.newM (P := mObj C []) (o := .ins C dx []) s1.e s1.m hx1 ⟨dx, [], rfl, rfl, True.intro⟩
    have st2 := (st.trans s1).trans s2
    have pm : (M1 ++ [(x, mObj C [])]).Perm ([(x, mObj C [])] ++ M1) := List.perm_append_comm
    have al := hg _ (iRef x) Rs Zs (.ref x) vs zs rfl ((p.mono st1.s).mono s1.s) (p2.mono s1.s)
    have al2 : ∃ xs, gV (.ref x :: vs) zs = .ref x :: xs ∧ All2 (upd S1 dx (.own x)) (gR Rs Zs) xs := by
      generalize gV (.ref x :: vs) zs = ys at al
      match ys, al with
      | [], al => exact al.elim
      | y :: ys, al => exact ⟨ys, by rw [show y = .ref x from al.1], al.2⟩
    obtain ⟨xs, ex, al3⟩ := al2
    rw [ex]
    refine spT_in (ts := initX C sp) (Mf := [(x, mObj C [])]) (Fr := M1) (Rs := iRef x :: Rs') (X := fun y M' => ∃ Mx, M' = Mx ++ M1 ∧ X y M1) (k := fun R' M' => R' = iNon ∧ ∃ fs, M' = [(x, mObj C fs)] ++ M1 ∧ k (iObj C fs) M1) ⟨x, Rs', rfl, rfl, _, _, q, fun fs z => ⟨rfl, fs, rfl, z⟩, fun y z M' => ⟨M', rfl, z⟩⟩ s2.e (st2.m.perm pm) ⟨rfl, le _ _ al3⟩ (fun w S3 H3 R3 M3 ⟨e3, fs, e4, q3⟩ st3 p3 => ?_) (fun c d S3 H3 y M3 ⟨Mx, e4, q3⟩ st3 p3 => ?_)
    · subst e3
      subst e4
      cases p3
      obtain ⟨_, ob, ho, dx', vs', rfl, hi⟩ := st3.m.at_ x (mObj C fs) (by simp)
      have fz := Stp.fz (A := []) (B := M1) (P := mObj C fs) st3.e st3.m ho
      exact ⟨rfl, o (.ref x) _ H3 (iObj C fs) M1 q3 ((st2.trans (st3.permL pm)).trans fz) ⟨x, dx', vs', rfl, upd_same, hi.mono fz.s⟩⟩
    · subst e4
      exact ox c d S3 H3 y M1 q3 ((st2.trans (st3.permL pm)).trans (Stp.dropL st3.e st3.m)) p3⟩) (ox.step st0)) ox
/-! ### l.insert(i, y) -/
def rInsert : V → List V → Hp → VK → Prop := fun x vs H Q => ∃ (l : Addr) (xs : List V) (i : Int) (y : V), x = .ref l ∧ vs = [.int i, y] ∧ H l = some (.lst xs) ∧ xs.length < sizeLine ∧ 0 ≤ i ∧ i < 2 ^ 63 ∧ Q .non (upd H l (.lst (xs.take i.toNat ++ [y] ++ xs.drop i.toNat)))
theorem mt_insertM {Y : Cx} : MtM Y "list.insert" rInsert := mt_insert
theorem All2.takeN {S : Hp} : ∀ {rs : List Rep} {xs : List V} (n : Nat), All2 S rs xs → All2 S (rs.take n) (xs.take n)
  | [], [], n, _ => by simp only [List.take_nil]; exact True.intro
  | r :: rs, x :: xs, 0, _ => True.intro
  | r :: rs, x :: xs, n + 1, h => ⟨h.1, All2.takeN n h.2⟩
  | [], _ :: _, _, h => h.elim
  | _ :: _, [], _, h => h.elim
theorem All2.dropN {S : Hp} : ∀ {rs : List Rep} {xs : List V} (n : Nat), All2 S rs xs → All2 S (rs.drop n) (xs.drop n)
  | [], [], n, _ => by simp only [List.drop_nil]; exact True.intro
  | r :: rs, x :: xs, 0, h => h
  | r :: rs, x :: xs, n + 1, h => All2.dropN n h.2
  | [], _ :: _, _, h => h.elim
  | _ :: _, [], _, h => h.elim
theorem om_insert {A B : SH} {a : Addr} {rs : List Rep} {n : Nat} (hn : n ≤ 1000000) (hl : rs.length < 1000000) (q : k iNon (A ++ (a, mLst (rs.take n ++ [R] ++ rs.drop n)) :: B)) : Om rInsert (iRef a) [iInt (n : Nat), R] (A ++ (a, mLst rs) :: B) k := fun x xs S H Q e m h1 h2 o => by
  cases h1
  obtain ⟨v1, v2, rfl, p1, p2⟩ := all2_2 h2
  cases p1
  obtain ⟨_, ob, ho, ys, rfl, py⟩ := m.at_ a (mLst rs) (by simp)
  refine ⟨a, ys, n, v2, rfl, rfl, ho, by rw [py.len]; exact sz_lt (by omega), by omega, by omega, o .non S _ iNon _ q (Stp.wrM e m ⟨_, rfl, ?_⟩) rfl⟩
  rw [Int.toNat_natCast]
  exact ((All2.takeN n py).app (All2.one p2)).app (All2.dropN n py)
theorem ev_insert (h : Ev E ta Γ M (fun R1 M1 => ∃ (a : Addr) (i : Nat) (rs : List Rep), R1 = iRef a ∧ M1[i]? = some (a, mLst rs) ∧ Ea E tr Γ M1 (fun Rs M2 => ∃ (n : Nat) (R : Rep) (j : Nat) (rs : List Rep), Rs = [iInt (n : Nat), R] ∧ M2[j]? = some (a, mLst rs) ∧ n ≤ 1000000 ∧ rs.length < 1000000 ∧ k iNon (M2.set j (a, mLst (rs.take n ++ [R] ++ rs.drop n)))) X) X) : Ev E (tBM K "list" rInsert ta tr) Γ M k X :=
  ev_bm fun σ S H Q I o ox => h σ S H Q I (fun v S2 H2 R M2 ⟨a, i, rs, e, hm, q⟩ st p => by
    subst e
    refine o v S2 H2 (iRef a) M2 ⟨ty_mLst (at_mem hm), fun σ S H Q I o ox => q σ S H Q I (fun vs S2 H2 Rs M2 ⟨n, R, j, rs, e, hj, hn, hl, q⟩ st p => ?_) ox⟩ st p
    subst e
    refine o vs S2 H2 [iInt (n : Nat), R] M2 ?_ st p
    obtain ⟨e1, e2⟩ := at_split (P' := mLst (rs.take n ++ [R] ++ rs.drop n)) hj
    rw [e2] at q
    rw [e1]
    exact om_insert hn hl q) ox
end
section
variable {P : Program} {w : World} {K : PySem.W.Frag} {mg : Str → Option Value} {base : Heap}
theorem okTDX {x qual : Str} {params : Arguments} {body : List Stmt} {scope : Scope} {dvs : List V} {kws : List (Str × V)} {f : Addr} {fd : FuncData} {N ps : List Str} {kk : Nat} {ts : TSp} (F : FunD K x qual params body scope dvs kws f fd) (S : FnScope N ps scope) (len : ∀ Rs M k X, ts Rs M k X → Rs.length = ps.length)
    (hbody : ∀ (cdv : Value) (A : Around) (outer : List PySem.Env) (s : Shared) (H : Hp) (E : XK), Room kk (A.deeper (envOfC qual scope s.heap.objs.size f cdv)) →
      ∃ t, PSs (cxOf (L2N.CX P w) P w K mg base N qual scope f cdv A outer s H E) body t ∧ ∀ Rs M k X, ts Rs M k X → St E t (startC N Rs) M { nx := fun _ M' => k iNon M', rt := k, ex := X }) : FnOk P w K mg base (L2N.CX P w) (kk + 1) f fd ps (spT ts) := by
  obtain ⟨oc, od, dV, kV, doc, pm, an, cdv, ct, osl, rfl, lk, hcd, _, _⟩ := F.ex
  refine fn_of lk hcd S (fun vs H Q E h => ?_) fun A outer s H vs Q E hr h => ?_
  · obtain ⟨_, Rs, M, k, X, h1, _, _, p, _⟩ := h
    exact p.len.trans (len Rs M k X h1)
  · obtain ⟨t, h1, h2⟩ := hbody cdv A outer s H E hr
    obtain ⟨S0, Rs, M, k, X, h3, e, m, p, o, ox⟩ := h
    exact ⟨t, h1, h2 Rs M k X h3 _ S0 H _ (nv_start e m p) ⟨fun σ2 S2 H2 Γ2 M2 q st I2 => o .non S2 H2 iNon M2 q st rfl, o, fun _ _ _ _ _ z => z.elim, fun _ _ _ _ _ z => z.elim, ox⟩⟩
theorem ClI.calmX {k : Nat} {C : Addr} {x : Str} {ts ts' : TSp} {dvs : List V} (c : ClI P w K mg base (L2N.CX P w) k C x ts dvs) (h : ∀ Rs M q X, ts' Rs M q X → ts Rs M q X0) : ClI P w K mg base CX0 k C x ts' dvs := by
  obtain ⟨f, fd, ps, ds, F, m, hm, b, d⟩ := c.ex
  exact ⟨f, fd, ps, ds, fn_calmX F h, m, hm, b, d⟩
theorem ClIN.calmX {k n : Nat} {C : Addr} {x : Str} {ts ts' : TSp} {ks : List Str} {gV : List V → List V → List V} (c : ClIN P w K mg base (L2N.CX P w) k C x ts n ks gV) (h : ∀ Rs M q X, ts' Rs M q X → ts Rs M q X0) : ClIN P w K mg base CX0 k C x ts' n ks gV := by
  obtain ⟨f, fd, ps, g, F, m, hm, b⟩ := c.ex
  exact ⟨f, fd, ps, g, fn_calmX F h, m, hm, b⟩
end
end L3
namespace L3
open PySem PySem.Spec PyProof.Rows L2
/-- a def that changes nothing that is there, and may raise -/
def roX (sp : SH → List Rep → (Rep → Prop) → (XR → Prop) → Prop) : TSp := fun Rs M k X => sp M Rs (fun R => k R M) fun x => X x M
theorem ev_callRX {E : XK} {Γ : Ct} {M : SH} {k : KR} {X : KX} {tr : TA} {sp : SH → List Rep → (Rep → Prop) → (XR → Prop) → Prop} (h : Ea E tr Γ M (fun Rs M1 => ∃ Rs', LeS Rs Rs' ∧ sp M1 Rs' (fun R => k R M1) fun x => X x M1) X) : Ev E (tCall (spT (roX sp)) [] E tr) Γ M k X :=
  ev_call (Ds := []) (fun _ => True.intro) fun σ S H Q I o ox => h σ S H Q I (fun vs S2 H2 Rs M2 ⟨Rs', e, q⟩ st p => o vs S2 H2 Rs' M2 ⟨M2, [], by rw [List.append_nil], by simp only [List.append_nil]; exact q⟩ st (e S2 vs p)) ox
end L3
namespace L3
open PySem PySem.Spec PyProof.Rows L2
/-- a list that is to be changed, and one more -/
theorem o_catM {M : SH} {a : Addr} {i : Nat} {r1 r2 : List Rep} (hm : M[i]? = some (a, mLst r1)) (h : r1.length + r2.length ≤ 1000000) : O2p rCat (iRef a) (iLst r2) M (iLst (r1 ++ r2)) := o2_newL fun x y S H e m h1 h2 => by
  cases h1
  obtain ⟨_, ob, ho, xs, rfl, q2⟩ := m.at_ a (mLst r1) (List.mem_of_getElem? hm)
  obtain ⟨b, ys, rfl, q3, q4⟩ := h2
  exact ⟨xs ++ ys, q2.app q4, fun Q q => ⟨a, b, xs, ys, rfl, rfl, ho, e _ _ q3, by rw [q2.len, q4.len]; exact sz_le h, q⟩⟩
end L3

/-! a told list in a told tuple, asked and changed afterwards -/
namespace L3
open PySem PySem.Spec PyProof.Rows L2
theorem MOk.dropAt {S H : Hp} {M : SH} (i : Nat) (m : MOk S H M) : MOk S H (M.eraseIdx i) :=
  ⟨fun a P h => m.at_ a P (List.mem_of_mem_eraseIdx h), by
    exact m.nd.sublist ((List.eraseIdx_sublist ..).map _)⟩
theorem Stp.dropAt {S H : Hp} {M : SH} (i : Nat) (e : Same S H) (m : MOk S H M) : Stp S H S H M (M.eraseIdx i) where
  s := fun _ _ h => h
  e := e
  new := fun a h h2 => absurd h h2
  fr := fun a o _ h => h
  m := m.dropAt i
  dn := fun a h => .inl (((List.eraseIdx_sublist ..).map _).subset h)
theorem turn_drop {Γ : Ct} {M : SH} (i : Nat) : TurnC Γ M Γ (M.eraseIdx i) := fun S H σ I => ⟨S, Stp.dropAt i I.ex I.m, I.step (Stp.dropAt i I.ex I.m)⟩
/-- as it looks where the list at a stands for good -/
def Vw (a : Addr) (rs : List Rep) (R R' : Rep) : Prop := ∀ (S S' : Hp) (ys : List V) (v : V), Same S S' → S' a = some (.lst ys) → All2 S' rs ys → R.p S v → R'.p S' v
def VwS (a : Addr) (rs : List Rep) (Rs Rs' : List Rep) : Prop := ∀ (S S' : Hp) (ys : List V) (vs : List V), Same S S' → S' a = some (.lst ys) → All2 S' rs ys → All2 S Rs vs → All2 S' Rs' vs
theorem vw_ref {a : Addr} {rs : List Rep} : Vw a rs (iRef a) (iLst rs) := fun S S' ys v _ h1 h2 p => by
  cases p
  exact ⟨a, ys, rfl, h1, h2⟩
theorem vw_rfl {a : Addr} {rs : List Rep} {R : Rep} : Vw a rs R R := fun S S' ys v e _ _ p => R.m e p
theorem vw_nil {a : Addr} {rs : List Rep} : VwS a rs [] [] := fun S S' ys vs _ _ _ p => by
  cases vs with
  | nil => exact True.intro
  | cons _ _ => exact p.elim
theorem vw_cons {a : Addr} {rs Rs Rs' : List Rep} {R R' : Rep} (h : Vw a rs R R') (h2 : VwS a rs Rs Rs') : VwS a rs (R :: Rs) (R' :: Rs') := fun S S' ys vs e h3 h4 p => by
  cases vs with
  | nil => exact p.elim
  | cons v vs => exact ⟨h S S' ys v e h3 h4 p.1, h2 S S' ys vs e h3 h4 p.2⟩
theorem vw_tup {K : PySem.W.Frag} {a : Addr} {rs Rs Rs' : List Rep} (h : VwS a rs Rs Rs') : Vw a rs (aTup K Rs) (aTup K Rs') := fun S S' ys v e h3 h4 p => by
  obtain ⟨b, xs, rfl, q1, q2⟩ := p
  exact ⟨b, xs, rfl, Same.sqt e q1, h S S' ys xs e h3 h4 q2⟩
section
variable {E : XK} {K : PySem.W.Frag} {Γ : Ct} {M : SH} {k : KR} {X : KX} {tr : TA}
/-- a def that only reckons a truth, asked of what holds a list that is changed later -/
theorem ev_callVk {α : Type} {args : α → List Rep} {pre : α → Prop} {c : α → Bool} (h : Ea E tr Γ M (fun Rs M1 => ∃ (i : Nat) (a : Addr) (rs : List Rep) (Rs' : List Rep) (x : α), M1[i]? = some (a, mLst rs) ∧ VwS a rs Rs Rs' ∧ LeS Rs' (args x) ∧ pre x ∧ k (iBl (c x)) M1) X) :
    Ev E (tCall (spT (pureTs args pre fun x => iBl (c x))) [] E0 tr) Γ M k X := fun σ S H Q I o ox =>
  h σ S H _ I (fun xs S1 H1 Rs M1 ⟨i, a, rs, Rs', x, hm, vw, le, hp, q⟩ st p => by
    rw [List.append_nil]
    obtain ⟨hS, ob, ho, ys, rfl, al⟩ := st.m.at_ a (mLst rs) (at_mem hm)
    have nin : ∀ b o, S1 b = some o → b ≠ a := fun b o q z => by rw [z, hS] at q; cases q
    have sm : Same S1 (upd S1 a (.lst ys)) := fun b o q => by rw [upd_ne (nin b o q)]; exact q
    have e1 : Same (upd S1 a (.lst ys)) H1 := fun b o q => by
      by_cases hb : b = a
      · subst hb; rw [upd_same] at q; cases q; exact ho
      · rw [upd_ne hb] at q; exact st.e _ _ q
    refine ⟨upd S1 a (.lst ys), args x, [], fun R M2 => R = iBl (c x) ∧ M2 = [], X0, ⟨x, rfl, hp, rfl, rfl, rfl⟩, e1, ⟨fun _ _ z => (by cases z), List.nodup_nil⟩, ?_, ?_, fun _ _ _ _ _ _ z => z.elim⟩
    · exact le _ _ (vw _ _ ys _ sm upd_same (al.mono sm) p)
    · rintro v S2 H2 R M2 ⟨rfl, rfl⟩ st2 pv
      cases pv
      have f2 : ∀ b o, H1 b = some o → H2 b = some o := fun b o q => st2.fr b o (by simp [dm]) q
      have s2 : Same S1 (dropH S2 a) := fun b o q => by
        rw [drop_ne (nin b o q)]
        exact st2.s _ _ (sm _ _ q)
      refine (o.step st) _ (dropH S2 a) H2 (iBl (c x)) M1 q ⟨s2, fun b o q => ?_, fun b h1 h2 => ?_, fun b o _ q => f2 b o q, ⟨fun b P hb => ?_, st.m.nd⟩, fun b hb => .inl hb⟩ rfl
      · by_cases hb : b = a
        · subst hb; rw [drop_same] at q; cases q
        · rw [drop_ne hb] at q; exact st2.e _ _ q
      · by_cases hb : b = a
        · subst hb; rw [drop_same] at h2; exact absurd rfl h2
        · rw [drop_ne hb] at h2
          rcases st2.new b (by rw [upd_ne hb]; exact h1) h2 with z | z
          · exact .inl z
          · simp [dm] at z
      · obtain ⟨z, o2, q1, q2⟩ := st.m.at_ b P hb
        refine ⟨?_, o2, f2 _ _ q1, P.m s2 q2⟩
        by_cases hb2 : b = a
        · subst hb2; exact drop_same S2 b
        · rw [drop_ne hb2]
          cases hs : S2 b with
          | none => rfl
          | some u =>
            rcases st2.new b (by rw [upd_ne hb2]; exact z) (by rw [hs]; exact fun c => by cases c) with w | w
            · obtain ⟨xs, e⟩ := w o2 q1
              exact absurd e (P.nt q2 xs)
            · simp [dm] at w) ox
end
end L3
namespace L3
open PySem PySem.Spec PyProof.Rows L2
/-- over a range, with a test -/
theorem ep_lcRg {E : XK} {Γ : Ct} {M : SH} {ta te : TE} {tt : TT} {vs : List Nat} {m j : Nat} {p : Nat → Bool} {e' : Nat → Rep} (hi : Ep E ta Γ M (iInt (m : Nat))) (hn : m ≤ 1000000) (hj : j ∈ vs)
    (ht : ∀ i, i < m → Etp E tt ((wipeC Γ vs).set j (some (iInt (i : Nat)))) M (p i)) (he : ∀ i, i < m → p i = true → Ep E te ((wipeC Γ vs).set j (some (iInt (i : Nat)))) M (e' i)) :
    Ep E (tLc (iRng1 (tCons ta tNil)) (gName j) tt te vs) Γ M (iLst (((List.range m).filter p).map e')) :=
  ep_lc (fun z => by rw [z] at hj; cases hj) (tip_rng1 hi hn) hn p e' fun i r hi hr => by
    subst hr
    exact tg_name ⟨rfl, ht i hi, fun z => he i hi z⟩ (.inr hj)
end L3

/-! sums of a list; a tuple as often; a dict made by a comprehension over a list of texts -/
namespace L3
open PySem PySem.Spec PyProof.Rows L2
section
variable {K : PySem.W.Frag} {M : SH}
theorem c_sumL {ns : List Int} : Olp (rSum K) [iLst (ns.map iInt)] M (iInt ns.sum) := ol_val fun xs S H e _ h => by
  obtain ⟨v, rfl, a, vs, rfl, q1, q2⟩ := all2_1 h
  rw [All2.flat (r := iInt) (g := V.int) (fun _ _ h => h) q2] at q1
  exact ⟨_, rfl, fun Q q => ⟨a, ns, rfl, SqL.of (e _ _ q1), q⟩⟩
theorem all2_flatten {S : Hp} {rs : List Rep} {vs : List V} (h : All2 S rs vs) : ∀ n : Nat, All2 S (List.replicate n rs).flatten (List.replicate n vs).flatten
  | 0 => by
    rw [List.replicate_zero, List.replicate_zero]
    exact True.intro
  | n + 1 => by
    rw [List.replicate_succ, List.replicate_succ, List.flatten_cons, List.flatten_cons]
    exact h.app (all2_flatten h n)
theorem o_repT {rs : List Rep} {i : Int} (n : Nat) (e : i = n) (h0 : rs ≠ []) (h1 : rs.length ≤ 1000) (h2 : 2 ≤ n) (h3 : n ≤ 1000) : O2p (rRepT K) (aTup K rs) (iInt i) M (aTup K (List.replicate n rs).flatten) := fun k q x y S H Q e1 m p1 p2 o => by
  subst e
  obtain ⟨a, xs, rfl, q1, q2⟩ := p1
  cases p2
  have hx : xs ≠ [] := fun z => by
    rw [z] at q2
    cases rs with
    | nil => exact h0 rfl
    | cons _ _ => exact q2.elim
  refine ⟨a, n, xs, rfl, rfl, Same.sqt e1 q1, hx, by omega, by omega, by rw [q2.len]; exact h1, fun p hp => ?_⟩
  have st := Stp.newS (o := .tup (List.replicate ((n : Int)).toNat xs).flatten) e1 m hp
  refine o _ _ _ _ _ q st ⟨p, _, rfl, .inl (.inl upd_same), ?_⟩
  rw [Int.toNat_natCast]
  exact (all2_flatten q2 n).mono st.s
end
section
variable {E : XK} {K : PySem.W.Frag} {Γ : Ct} {M : SH} {k : KR} {X : KX} {tl tk tv : TE} {vs : List Nat}
theorem look_none {α : Type} {f : α → Str} {g : α → Rep} {z : Str} : ∀ {l : List α}, z ∉ l.map f → (l.map fun x => (f x, g x)).lookup z = none
  | [], _ => rfl
  | a :: l, h => by
    rw [List.map_cons, List.lookup_cons, show (z == f a) = false from beq_eq_false_iff_ne.mpr fun e => h (by rw [e]; exact List.mem_cons_self ..)]
    exact look_none fun w => h (List.mem_cons_of_mem _ w)
/-- {key: value for x in xs}, the keys unlike -/
theorem ev_dcK {α : Type} {l : List α} {e : α → Rep} {f : α → Str} {g : α → Rep} {j : Nat} (hi : Ep E tl Γ M (iLst (l.map e))) (hn : l.length < 1000000) (hj : j ∈ vs) (hd : (l.map f).Nodup)
    (hk : ∀ x ∈ l, Ep E tk ((wipeC Γ vs).set j (some (e x))) M (aStr (f x))) (hv : ∀ x ∈ l, Ep E tv ((wipeC Γ vs).set j (some (e x))) M (g x))
    (q : ∀ a, k (iRef a) (M ++ [(a, mDK (l.map fun x => (f x, g x)))])) : Ev E (tDcA (.dK []) (iList K tl) (gName j) tYes tk tv vs) Γ M k X :=
  ev_dcG (fun L : FR => mDK L) [] (fun S => ⟨[], rfl, ⟨rfl, True.intro⟩⟩) (fun z => by rw [z] at hj; cases hj) (tip_list hi _ _ ⟨fun i L M2 => L = ((l.take i).map fun x => (f x, g x)) ∧ M2 = M, ⟨rfl, rfl⟩, fun i r L M2 hlt hr he => by
    obtain ⟨rfl, rfl⟩ := he
    have hlt' : i < l.length := by simpa using hlt
    replace hr : (l.map e)[i]? = some r := hr
    rw [List.getElem?_map, List.getElem?_eq_getElem hlt'] at hr
    cases hr
    have hm := List.getElem_mem hlt'
    refine tg_name (et_yes ?_) (.inr hj)
    refine (if_pos rfl).mpr (hk _ hm _ _ (hv _ hm _ _ ⟨_, putOk_D (by simp; omega), ?_, rfl⟩))
    have hnn : f l[i] ∉ (l.take i).map f := fun z => by
      have nd := hd
      rw [← List.take_append_drop i l, List.map_append, List.nodup_append] at nd
      refine nd.2.2 _ z _ ?_ rfl
      rw [List.drop_eq_getElem_cons hlt']
      exact List.mem_cons_self ..
    rw [putD_new (look_none hnn), List.take_succ, List.getElem?_eq_getElem hlt', List.map_append]
    rfl, fun L M2 he a => by
    obtain ⟨rfl, rfl⟩ := he
    rw [List.length_map, List.take_length]
    exact q a⟩)
/-- over a dict's keys, with a test -/
theorem ep_lcKeysF {α : Type} {l : List α} {f : α → Str} {g e' : α → Rep} {td te : TE} {tt : TT} {j : Nat} {p : α → Bool} (hi : Ep E td Γ M (iDF (l.map fun x => (f x, g x)))) (hn : l.length ≤ 1000000) (hj : j ∈ vs)
    (ht : ∀ x ∈ l, Etp E tt ((wipeC Γ vs).set j (some (aStr (f x)))) M (p x)) (he : ∀ x ∈ l, p x = true → Ep E te ((wipeC Γ vs).set j (some (aStr (f x)))) M (e' x)) : Ep E (tLc (iKeys td) (gName j) tt te vs) Γ M (iLst ((l.filter p).map e')) := fun k X q =>
  ev_lc (fun z => by rw [z] at hj; cases hj) (tip_keysF hi _ _ ⟨by simpa using hn, fun i acc M2 => acc = ((l.take i).filter p).map e' ∧ M2 = M, ⟨rfl, rfl⟩, fun i r acc M2 hlt hr _ ⟨e1, e2⟩ => by
    subst e1; subst e2
    obtain ⟨q, hq, rfl⟩ := hr
    have hlt' : i < l.length := by simpa using hlt
    rw [List.getElem?_map, List.getElem?_eq_getElem hlt'] at hq
    cases hq
    have hm := List.getElem_mem hlt'
    have et : l.take (i + 1) = l.take i ++ [l[i]] := by rw [List.take_succ, List.getElem?_eq_getElem hlt']; rfl
    refine tg_name (ht _ hm _ _ ?_) (.inr hj)
    cases hp : p l[i] with
    | true =>
      refine (if_pos rfl).mpr (he _ hm hp _ _ ⟨?_, rfl⟩)
      rw [et, List.filter_append, List.map_append, List.filter_cons, if_pos hp]
      rfl
    | false =>
      refine (if_neg Bool.false_ne_true).mpr ⟨?_, rfl⟩
      rw [et, List.filter_append, List.filter_cons, if_neg (by rw [hp]; exact Bool.false_ne_true)]
      simp, fun acc M2 _ ⟨e1, e2⟩ => by
    subst e1; subst e2
    rw [List.length_map, List.take_length]
    exact q⟩)
theorem look_nd {α : Type} {f : α → Str} {g : α → Rep} : ∀ {l : List α} {x : α}, (l.map f).Nodup → x ∈ l → (l.map fun x => (f x, g x)).lookup (f x) = some (g x)
  | a :: l, x, nd, hx => by
    rw [List.map_cons, List.nodup_cons] at nd
    rw [List.map_cons, List.lookup_cons]
    rcases List.mem_cons.mp hx with e | h
    · subst e
      rw [beq_self_eq_true]
    · rw [show (f x == f a) = false from beq_eq_false_iff_ne.mpr fun e => nd.1 (by rw [← e]; exact List.mem_map.mpr ⟨x, h, rfl⟩)]
      exact look_nd nd.2 h
/-- over a list, any target, with a test -/
theorem ep_lcGF {α : Type} {l : List α} {e e' : α → Rep} {g : TG} {te : TE} {tt : TT} {p : α → Bool} (hi : Ep E tl Γ M (iLst (l.map e))) (hn : l.length ≤ 1000000) (hv : vs ≠ [])
    (h : ∀ x ∈ l, Tg g (e x) (wipeC Γ vs) M vs fun Γ3 M3 => M3 = M ∧ Etp E tt Γ3 M (p x) ∧ (p x = true → Ep E te Γ3 M (e' x))) : Ep E (tLc (iList K tl) g tt te vs) Γ M (iLst ((l.filter p).map e')) := by
  cases l with
  | nil =>
    refine Ep.to (R := iLst (given (([] : List α).map e).length (fun _ => true) (fun _ => iNon))) (ep_lc hv (tip_list hi) (by simp) (fun _ => true) (fun _ => iNon) (fun i r hi _ => by simp at hi)) ?_
    rfl
  | cons d l' =>
    refine Ep.to (R := iLst (given ((d :: l').map e).length (fun i => p ((d :: l').getD i d)) (fun i => e' ((d :: l').getD i d)))) (ep_lc hv (tip_list hi) (by simpa using hn) (fun i => p ((d :: l').getD i d)) (fun i => e' ((d :: l').getD i d)) (fun i r hi hr => ?_)) ?_
    · rw [List.getElem?_map] at hr
      have hi' : i < (d :: l').length := by simpa using hi
      rw [List.getElem?_eq_getElem hi'] at hr
      have hx : (d :: l').getD i d = (d :: l')[i] := by rw [List.getD_eq_getElem?_getD, List.getElem?_eq_getElem hi']; rfl
      cases hr
      rw [hx]
      exact h _ (List.getElem_mem hi')
    · congr 1
      rw [List.length_map]
      exact given_list (d :: l') p e' d
end
/-- a default that is an empty tuple -/
theorem emp_tup {K : PySem.W.Frag} {S : Hp} {e : Addr} {od : Option Addr} {n : Nat} {sl : Array (Option Value)} (h : K.lookup e = some ⟨.type "tuple", od, .seq #[] n, sl⟩) : (aTup K []).p S (.ref e) :=
  ⟨e, [], rfl, .inr ⟨_, #[], n, h, rfl, rfl, Nat.zero_le _, .nil⟩, True.intro⟩
/-- a def that is not come to -/
def tsNo : TSp := fun _ _ _ _ => False
theorem fn_no {P : Program} {w : World} {K : PySem.W.Frag} {mg : Str → Option Value} {base : Heap} {CX : CXT} {k : Nat} {f : Addr} {fd : FuncData} {ps : List Str} : FnOk P w K mg base CX k f fd ps (spT tsNo) :=
  ⟨fun vs H Q E h => by obtain ⟨_, _, _, _, _, h, _⟩ := h; exact h.elim, fun A outer s H args us vs Q E hr he hb hv h => by obtain ⟨_, _, _, _, _, h, _⟩ := h; exact h.elim⟩
end L3

/-! a list unpacked -/
namespace L3
open PySem PySem.Spec PyProof.Rows L2
section
variable {K : PySem.W.Frag} {Γ : Ct} {M : SH} {vs : List Nat} {kc : KC}
theorem tg_unl {gs : TGs} {Rs : List Rep} {n : Nat} (hn : Rs.length = n) (h : Tgs gs Rs Γ M vs kc) : Tg (gUnl K n gs) (iLst Rs) Γ M vs kc := fun v σ S H Q I p o => by
  obtain ⟨a, xs, rfl, q1, q2⟩ := p
  exact ⟨a, xs, rfl, SqL.of (I.ex _ _ q1), by rw [q2.len]; exact hn, h xs σ S H Q I q2 o⟩
end
end L3

/-! a def called with a list that is changed later; what comes out does not lean on it -/
namespace L3
open PySem PySem.Spec PyProof.Rows L2
def OffR (R : Rep) : Prop := ∀ (S : Hp) (a : Addr) (xs : List V) (v : V), S a = some (.lst xs) → R.p S v → R.p (dropH S a) v
def OffM (M : SH) : Prop := ∀ q ∈ M, ∀ (S : Hp) (a : Addr) (xs : List V) (o : HO), S a = some (.lst xs) → q.2.p S o → q.2.p (dropH S a) o
theorem off_int {n : Int} : OffR (iInt n) := fun _ _ _ _ _ h => h
theorem off_str {z : Str} : OffR (aStr z) := fun _ _ _ _ _ h => h
theorem off_bl {b : Bool} : OffR (iBl b) := fun _ _ _ _ _ h => h
theorem off_ref {b : Addr} : OffR (iRef b) := fun _ _ _ _ _ h => h
theorem off_all {S : Hp} {a : Addr} {xs : List V} (hS : S a = some (.lst xs)) : ∀ {rs : List Rep} {vs : List V}, (∀ r ∈ rs, OffR r) → All2 S rs vs → All2 (dropH S a) rs vs
  | [], [], _, _ => True.intro
  | [], _ :: _, _, h => h.elim
  | _ :: _, [], _, h => h.elim
  | r :: rs, v :: vs, o, h => ⟨o r (List.mem_cons_self ..) S a xs v hS h.1, off_all hS (fun q hq => o q (List.mem_cons_of_mem _ hq)) h.2⟩
theorem off_tup {K : PySem.W.Frag} {rs : List Rep} (o : ∀ r ∈ rs, OffR r) : OffR (aTup K rs) := fun S a xs v hS ⟨b, ys, e, h, p⟩ => by
  refine ⟨b, ys, e, ?_, off_all hS o p⟩
  rcases h with (h | ⟨ob, h⟩) | h
  · exact .inl (.inl (by rw [dropH, if_neg (fun z => by rw [z, hS] at h; cases h)]; exact h))
  · exact .inl (.inr ⟨ob, by rw [dropH, if_neg (fun z => by rw [z, hS] at h; cases h)]; exact h⟩)
  · exact .inr h
theorem off_strs {K : PySem.W.Frag} {l : List Str} : OffR (aTup K (l.map aStr)) := off_tup fun r hr => by
  obtain ⟨z, _, rfl⟩ := List.mem_map.mp hr
  exact off_str
theorem offm_nil : OffM [] := fun _ h => nomatch h
theorem offm_lst {b : Addr} {rs : List Rep} (o : ∀ r ∈ rs, OffR r) : OffM [(b, mLst rs)] := fun q hq S a xs ob hS hp => by
  have e := List.mem_singleton.mp hq
  subst e
  obtain ⟨ys, e, p⟩ := hp
  exact ⟨ys, e, off_all hS o p⟩
theorem all_put {S : Hp} {a : Addr} {rs : List Rep} {ys : List V} (hS : S a = some (.lst ys)) (al : All2 S rs ys) {B : List Rep} : ∀ {A : List Rep} {vs : List V}, All2 S (A ++ iRef a :: B) vs → All2 S (A ++ iLst rs :: B) vs
  | [], [], h => h.elim
  | [], v :: vs, h => ⟨⟨a, ys, h.1, hS, al⟩, h.2⟩
  | _ :: _, [], h => h.elim
  | _ :: A, _ :: _, h => ⟨h.1, all_put hS al (A := A) h.2⟩
section
variable {E : XK} {K : PySem.W.Frag} {Γ : Ct} {M : SH} {k : KR} {X : KX} {tr : TA} {t : TSp}
theorem ev_callC (h : Ea E tr Γ M (fun Rs M1 => ∃ (i : Nat) (a : Addr) (rs : List Rep) (A B Rs' : List Rep), Rs = A ++ iRef a :: B ∧ M1[i]? = some (a, mLst rs) ∧ LeS (A ++ iLst rs :: B) Rs' ∧ t Rs' [] (fun R M2 => OffR R ∧ OffM M2 ∧ k R (M2 ++ M1)) X0) X) :
    Ev E (tCall (spT t) [] E0 tr) Γ M k X := fun σ S H Q I o ox =>
  h σ S H _ I (fun xs S1 H1 Rs M1 ⟨i, a, rs, A, B, Rs', e, hm, le, q⟩ st p => by
    subst e
    obtain ⟨hS, ob, ho, ys, rfl, al⟩ := st.m.at_ a (mLst rs) (at_mem hm)
    have nin : ∀ b o, S1 b = some o → b ≠ a := fun b o q z => by rw [z, hS] at q; cases q
    have sm : Same S1 (upd S1 a (.lst ys)) := fun b o q => by rw [upd_ne (nin b o q)]; exact q
    have e1 : Same (upd S1 a (.lst ys)) H1 := fun b o q => by
      by_cases hb : b = a
      · subst hb; rw [upd_same] at q; cases q; exact ho
      · rw [upd_ne hb] at q; exact st.e _ _ q
    refine ⟨upd S1 a (.lst ys), Rs', [], _, X0, q, e1, ⟨fun _ _ z => (by cases z), List.nodup_nil⟩, ?_, ?_, fun _ _ _ _ _ _ z => z.elim⟩
    · rw [List.append_nil]
      exact le _ _ (all_put upd_same (al.mono sm) (p.mono sm))
    · rintro v S2 H2 R M2 ⟨oR, oM, qk⟩ st2 pv
      have f2 : ∀ b o, H1 b = some o → H2 b = some o := fun b o q => st2.fr b o (by simp [dm]) q
      have ha : S2 a = some (.lst ys) := st2.s _ _ upd_same
      have s2 : Same S1 (dropH S2 a) := fun b o q => by
        rw [dropH, if_neg (nin b o q)]
        exact st2.s _ _ (sm _ _ q)
      have hM2 : ∀ b ∈ dm M2, H1 b = none := fun b hb => by
        rcases st2.dn b hb with z | z
        · simp [dm] at z
        · exact z
      refine (o.step st) _ (dropH S2 a) H2 R (M2 ++ M1) qk ⟨s2, fun b o q => ?_, fun b h1 h2 => ?_, fun b o _ q => f2 b o q, ⟨fun b P hb => ?_, ?_⟩, fun b hb => ?_⟩ (oR S2 a ys v ha pv)
      · by_cases hb : b = a
        · subst hb; rw [dropH, if_pos rfl] at q; cases q
        · rw [dropH, if_neg hb] at q; exact st2.e _ _ q
      · by_cases hb : b = a
        · subst hb; rw [dropH, if_pos rfl] at h2; exact absurd rfl h2
        · rw [dropH, if_neg hb] at h2
          rcases st2.new b (by rw [upd_ne hb]; exact h1) h2 with z | z
          · exact .inl z
          · simp [dm] at z
      · rcases List.mem_append.mp hb with hb | hb
        · obtain ⟨z, o2, q1, q2⟩ := st2.m.at_ b P hb
          refine ⟨?_, o2, q1, oM _ hb S2 a ys o2 ha q2⟩
          show (if b = a then none else S2 b) = none
          split
          · rfl
          · exact z
        · obtain ⟨z, o2, q1, q2⟩ := st.m.at_ b P hb
          refine ⟨?_, o2, f2 _ _ q1, P.m s2 q2⟩
          by_cases hb2 : b = a
          · subst hb2; rw [dropH, if_pos rfl]
          · rw [dropH, if_neg hb2]
            cases hs : S2 b with
            | none => rfl
            | some u =>
              rcases st2.new b (by rw [upd_ne hb2]; exact z) (by rw [hs]; exact fun c => by cases c) with w | w
              · obtain ⟨xs, e⟩ := w o2 q1
                exact absurd e (P.nt q2 xs)
              · simp [dm] at w
      · rw [dm, List.map_append]
        refine List.nodup_append.mpr ⟨st2.m.nd, st.m.nd, fun x hx y hy exy => ?_⟩
        subst exy
        obtain ⟨⟨b, P⟩, hb, rfl⟩ := List.mem_map.mp hy
        obtain ⟨_, o2, q1, _⟩ := st.m.at_ b P hb
        have := hM2 b hx
        rw [q1] at this
        cases this
      · rw [dm, List.map_append] at hb
        rcases List.mem_append.mp hb with hb | hb
        · exact .inr (hM2 b hb)
        · exact .inl hb) ox
/-- .. by pureK -/
theorem ev_callKC {sp : List Rep → (Rep → Prop) → Prop} (h : Ea E tr Γ M (fun Rs M1 => ∃ (i : Nat) (a : Addr) (rs : List Rep) (A B Rs' : List Rep), Rs = A ++ iRef a :: B ∧ M1[i]? = some (a, mLst rs) ∧ LeS (A ++ iLst rs :: B) Rs' ∧ sp Rs' fun R => OffR R ∧ k R M1) X) :
    Ev E (tCall (spT (pureK sp)) [] E0 tr) Γ M k X :=
  ev_callC fun σ S H Q I o ox => h σ S H Q I (fun vs S2 H2 Rs M1 ⟨i, a, rs, A, B, Rs', e, hm, le, q⟩ st p => o vs S2 H2 Rs M1 ⟨i, a, rs, A, B, Rs', e, hm, le, rfl, by
    have : (fun R => OffR R ∧ k R M1) = fun R => OffR R ∧ OffM [] ∧ k R ([] ++ M1) := funext fun R => by
      simp only [List.nil_append, eq_iff_iff]
      exact ⟨fun h => ⟨h.1, offm_nil, h.2⟩, fun h => ⟨h.1, h.2.2⟩⟩
    rw [← this]
    exact q⟩ st p) ox
end
end L3

/-! a lambda as a value: made, kept in a list, called later; with a default or without -/
namespace L3
open PySem PySem.Spec PyProof.Rows L2 LamX
/-- what a lambda's scope may have: free names, and own ones that the maker does not know -/
structure LamD (N : List Str) (sc lsc : Scope) : Prop where
  kind : lsc.kind = .function
  co : lsc.isCoroutine = false
  gen : lsc.isGenerator = false
  cel : ∀ y ∈ lsc.names, y.2 ≠ .cell
  loc : ∀ y ∈ lsc.names, y.2 = .local → y.1 ∉ N
  free : ∀ y ∈ lsc.names, y.2 = .free → sc.names.lookup y.1 = some .cell ∨ sc.names.lookup y.1 = some .free
def lamDB (N : List Str) (sc lsc : Scope) : Bool :=
  decide (lsc.kind = .function) && (!lsc.isCoroutine && (!lsc.isGenerator && lsc.names.all fun y => !decide (y.2 = .cell) && ((!decide (y.2 = .local) || !decide (y.1 ∈ N)) && (!decide (y.2 = .free) || (decide (sc.names.lookup y.1 = some .cell) || decide (sc.names.lookup y.1 = some .free))))))
theorem lamD_by {N : List Str} {sc lsc : Scope} (h : lamDB N sc lsc = true) : LamD N sc lsc := by
  unfold lamDB at h
  rw [Bool.and_eq_true, Bool.and_eq_true, Bool.and_eq_true, decide_eq_true_eq, List.all_eq_true] at h
  obtain ⟨a1, a2, a3, a4⟩ := h
  have at_ : ∀ y ∈ lsc.names, y.2 ≠ .cell ∧ (y.2 = .local → y.1 ∉ N) ∧ (y.2 = .free → sc.names.lookup y.1 = some .cell ∨ sc.names.lookup y.1 = some .free) := fun y hy => by
    have := a4 y hy
    simp only [Bool.and_eq_true, Bool.or_eq_true, Bool.not_eq_true', decide_eq_true_eq, decide_eq_false_iff_not] at this
    obtain ⟨b1, b2, b3⟩ := this
    exact ⟨b1, fun e => b2.elim (fun z => absurd e z) id, fun e => b3.elim (fun z => absurd e z) id⟩
  exact ⟨a1, by simpa using a2, by simpa using a3, fun y hy => (at_ y hy).1, fun y hy => (at_ y hy).2.1, fun y hy => (at_ y hy).2.2⟩
section
variable {X : Cx} {pins : List (Addr × Obj)} {σ : L2.St} {H HZ : Hp} {s s1 : Shared}
theorem LamD.has {lsc : Scope} (L : LamD X.N X.env.scope lsc) (ok : X.Ok) : ∀ y ∈ lsc.names, y.2 = .free → ∃ c, X.env.cells.lookup y.1 = some c := fun y hy e =>
  ok.has _ ((L.free y hy e).elim Or.inl Or.inr)
theorem lam_start3 {A : Around} {outer : List Env} {E : XK} {lsc : Scope} {f c' : Addr} {hp : Heap} {tk : Nat} {mb : Str → Option Value} (J : Inv X pins σ H s) (L : LamD X.N X.env.scope lsc) (e0 : Env0 X.prog X.w X.K X.mg X.base A outer s1 HZ)
    (nh : A.handled = none) (un : Un (frs X.stack) [] H HZ s.heap s1.heap) (hm : hp.Ns s1.heap.objs.size mb) (kp : ∀ b o, s1.heap.get? b = some o → hp.get? b = some o) :
    Inv (lamCx X A outer s1 HZ E lsc f c') [] σ HZ { s1 with heap := hp, toks := tk } := by
  have fr := L.has J.ok
  have back : ∀ {y c}, (cloFrom X.env.cells lsc.names []).lookup y = some c → X.env.cells.lookup y = some c := fun {y c} e => by
    rcases cloFrom_mem (PySem.mem_of_lookup e) with z | ⟨z1, z2⟩
    · exact nomatch z
    · obtain ⟨d, hd⟩ := fr _ z1 rfl
      rw [show X.env.cells.lookup y = some d from hd] at z2
      rw [z2]
      exact hd
  have there : ∀ {y}, lsc.names.lookup y = some .free → ∃ c, (cloFrom X.env.cells lsc.names []).lookup y = some c := fun {y} e =>
    mem_lookup (cloFrom_has (cells := X.env.cells) (acc := []) (show (y, NameKind.free) ∈ lsc.names from PySem.mem_of_lookup e))
  have keepC : ∀ {c : Addr} {v : Option Value}, H c = none → s.heap.IsCell c v → hp.IsCell c v := fun {c v} n z => by
    obtain ⟨o, g, d⟩ := z
    obtain ⟨sl, q⟩ := un.any g n (fun w => nomatch w)
    exact ⟨_, kp _ _ q, d⟩
  have no : ∀ b : Addr, b ∉ (lamCx X A outer s1 HZ E lsc f c').ex := fun b z => nomatch (show b ∈ ([] : List Addr) from z)
  have okk : (lamCx X A outer s1 HZ E lsc f c').Ok := by
    refine ⟨e0.mod, L.kind, rfl, rfl, Nat.le_refl _, fun y z c p q => J.ok.inj y z c (back p) (back q), fun y hy => ?_, fun y c z _ => (nomatch (show false = true from z)), fun _ => nh, Around.frames_deeper e0.frames, .inr ⟨rfl, rfl⟩,
      fun b z => absurd z (no b), e0.bs, e0.bsz, fun b _ _ => no b, fun b z => absurd z (no b), e0.funs, e0.frf⟩
    rcases (show lsc.names.lookup y = some .cell ∨ lsc.names.lookup y = some .free from hy) with z | z
    · exact absurd rfl (L.cel _ (PySem.mem_of_lookup z))
    · exact there z
  refine { ok := okk, os := rfl, bare := e0.bare, base := Un.kept kp, loc := ⟨mb, hm, fun i y v p q r => ?_⟩, cell := fun y c e => ?_, free := e0.hok.fresh (Nat.le_refl _), freeC := fun y c e => ?_, pin := fun q hq => (nomatch (show q ∈ ([] : List (Addr × Obj)) from hq)), hok := e0.hok.kept kp, len := J.len }
  · rcases (show Vis lsc y from r) with z | z | z
    · exact absurd (List.mem_of_getElem? p) (L.loc _ (PySem.mem_of_lookup z) rfl)
    · exact absurd rfl (L.cel _ (PySem.mem_of_lookup z))
    · obtain ⟨m, _, hl⟩ := J.loc
      have up := L.free _ (PySem.mem_of_lookup z) rfl
      obtain ⟨u, hu, lk⟩ := hl i y v p q (up.elim (fun w => .inr (.inl w)) (fun w => .inr (.inr w)))
      obtain ⟨c, hc⟩ := there z
      refine ⟨u, hu, .inr ⟨.inr z, c, hc, ?_⟩⟩
      rcases lk with ⟨w, _⟩ | ⟨_, d, w1, w2⟩
      · have w : X.env.scope.names.lookup y = some .local := w
        have up : X.env.scope.names.lookup y = some .cell ∨ X.env.scope.names.lookup y = some .free := up
        rw [w] at up
        rcases up with q | q <;> cases q
      · rw [back hc] at w1
        cases w1
        exact keepC (J.freeC y _ (back hc)) w2
  · obtain ⟨v, q⟩ := J.cell y c (back e)
    exact ⟨v, keepC (J.freeC y c (back e)) q⟩
  · obtain ⟨v, o, q, _⟩ := J.cell y c (back e)
    exact un.free c o q (J.freeC y c (back e)) (fun w => nomatch w)
/-- a lambda's object -/
abbrev lamOb (qual : Str) (params : Arguments) (body : Expr) (lsc : Scope) (cl : List (Str × Addr)) (dV doc pm : Value) (c' : Addr) (ctv : Value) : Obj := PySem.W.kdv_obj "<lambda>" (qual ++ "<lambda>") params (.expr body) lsc cl dV doc pm c' ctv
/-- its default, if it has one: a whole number -/
def DefIn (h : Heap) (dV : Value) : Option Int → Prop
  | none => dV = .none
  | some n => ∃ (T : Addr) (t : Tok), dV = .ref T ∧ h.get? T = some (PySem.W.kdv_tup [.int n t])
def DefAt (H : Hp) (dV : Value) : Option Int → Prop
  | none => dV = .none
  | some n => ∃ (T : Addr) (t : Tok), dV = .ref T ∧ H T = some (.frz (PySem.W.kdv_tup [.int n t]) (.ext fun _ => True))
theorem DefAt.in_ {dV : Value} {P : Program} {w : World} {h : Heap} (ok : HOk P w H h) : ∀ {d : Option Int}, DefAt H dV d → DefIn h dV d
  | none, e => e
  | some _, ⟨T, t, e, q⟩ => ⟨T, t, e, (ok T _ q).1⟩
theorem DefAt.to {dV : Value} {H' : Hp} (f : ∀ b o x, H b = some (.frz o x) → H' b = some (.frz o x)) : ∀ {d : Option Int}, DefAt H dV d → DefAt H' dV d
  | none, e => e
  | some _, ⟨T, t, e, q⟩ => ⟨T, t, e, f _ _ _ q⟩
/-- called without arguments it binds its default, if it has one -/
def BindL (params : Arguments) (body : Expr) (lsc : Scope) (d : Option Int) : Prop := ∀ (s : Shared) (q : Str) (cl : List (Str × Addr)) (dV doc pm cdv ctv : Value), DefIn s.heap dV d →
  ∃ bs : List (Str × Value), BindsTo s (PySem.W.kdv_fn "<lambda>" q params (.expr body) lsc cl dV doc pm cdv ctv) ⟨[], []⟩ bs ∧ ∀ y ∈ bs, lsc.names.lookup y.1 = some .local
theorem bindL0 {params : Arguments} {body : Expr} {lsc : Scope} (h : ∀ (q : Str) (cl : List (Str × Addr)) (doc pm cdv ctv : Value), bindArgs (PySem.W.kdv_fn "<lambda>" q params (.expr body) lsc cl .none doc pm cdv ctv) ⟨[], []⟩ = pure []) : BindL params body lsc none :=
  fun s q cl dV doc pm cdv ctv e => by
    cases (show dV = .none from e)
    exact ⟨[], BindsTo.of_eq (h q cl doc pm cdv ctv), fun y hy => nomatch hy⟩
theorem bindL1 {params : Arguments} {body : Expr} {lsc : Scope} {a : Str} {n : Int} (ha : lsc.names.lookup a = some .local)
    (h : ∀ (q : Str) (cl : List (Str × Addr)) (T : Addr) (doc pm cdv ctv : Value), ∃ k : Option (Array Value) → Sem (List (Str × Value)), bindArgs (PySem.W.kdv_fn "<lambda>" q params (.expr body) lsc cl (.ref T) doc pm cdv ctv) ⟨[], []⟩ = seqItems? (.ref T) >>= k ∧ ∀ v : Value, k (some #[v]) = pure [(a, v)]) : BindL params body lsc (some n) :=
  fun s q cl dV doc pm cdv ctv e => by
    obtain ⟨T, t, e, g⟩ := e
    subst e
    obtain ⟨k, h1, h2⟩ := h q cl T doc pm cdv ctv
    exact ⟨[(a, .int n t)], BindsTo.of_defaults (items := #[.int n t]) rfl g rfl h1 (h2 _), fun y hy => by rw [List.mem_singleton.mp hy]; exact ha⟩
/-- a lambda told in the heap acts, from any frame behind -/
theorem act_ofD {f c' : Addr} {dV doc pm ctv : Value} {params : Arguments} {body : Expr} {lsc : Scope} {u : HO} {d : Option Int} {k : Nat} {tb : XK → TE}
    (I : Inv X pins σ H s) (L : LamD X.N X.env.scope lsc) (hf : H f = some (.frz (lamOb X.env.qual params body lsc (cloFrom X.env.cells lsc.names []) dV doc pm c' ctv) u)) (hd : DefAt H dV d) (hb : BindL params body lsc d)
    (hbody : ∀ (A : Around) (outer : List Env) (s : Shared) (H : Hp) (E : XK), Room k (A.deeper (lamEnv X lsc s.heap.objs.size f c')) → PE (lamCxN X A outer s H E lsc f c') body (tb E)) :
    Act X.prog X.w X.K X.mg X.base k X.stack s H f c' (X.env.qual ++ "<lambda>") (fun E H' Q' => tb E σ H' Q') := by
  intro CXg Ng qg sg g cdg A' outer' s' H' Eg pn xe W a i p1 p2 un0 hfs tk hr hN hv hdb hcd
  refine ⟨fun pinsZ sZ σZ HZ Q IZ h => ?_⟩
  obtain ⟨hs, hc, ht⟩ := h
  refine wpAny_Call_Name_kw (thn ((pe_var (pos := p1) (i := i) hN hv hdb hcd).run pinsZ sZ σZ HZ (fun v H1 => v = .ref f ∧ H1 = HZ) IZ ⟨.ref f, hs, rfl, rfl⟩) fun u1 s1 ⟨v, H1, I1, r1, q1⟩ => ?_)
  obtain ⟨ev, eH⟩ := q1
  subst ev
  rw [eH] at I1
  obtain rfl : u1 = Value.ref f := r1
  have unZ : Un (frs outer') [] H' HZ s'.heap s1.heap := I1.base
  have un : Un (frs X.stack) [] H HZ s.heap s1.heap := un_trans un0 unZ hfs
  have of1 := (I1.hok f _ (un.frzs _ _ _ hf)).1
  refine PySem.W.callWith_F0 ⟨_, _, _, _, of1⟩ ?_
  obtain ⟨⟨oc, vs, t, hoc, hdc, hvc⟩, _, _⟩ := I1.hok c' _ hc
  have rc : codeAny (model X.prog X.w) (A'.deeper (envOfC qg sg s'.heap.objs.size g cdg)) (.call (.ref f) ⟨[], []⟩) (CR (L2N.CX X.prog X.w) (envOfC qg sg s'.heap.objs.size g cdg :: outer') X.prog X.w HZ s1 Q (fun cls d H' => W cls d σZ H')) s1 := by
    refine PySem.W.kla_callFunE hr.depth of1 rfl L.co L.gen rfl ⟨c', oc, vs, t, rfl, hoc, hdc, hvc⟩ ?_
    obtain ⟨bs, hbs, hloc⟩ := hb s1 (X.env.qual ++ "<lambda>") (cloFrom X.env.cells lsc.names []) dV doc pm (.ref c') ctv ((hd.to un.frzs).in_ I1.hok)
    refine hbs _ _ _ _ (wpAny_newFunctionEnv L.cel hloc (fun hp hns hsb => ⟨I1.nolimit.fresh _ hsb, ?_⟩) L.kind)
    show codeAny _ _ (.expr body (lamEnv X lsc s1.heap.objs.size f c')) _ _
    have kp : ∀ b o, s1.heap.get? b = some o → hp.get? b = some o := fun b o e => hsb.extBut b o (Nat.ne_of_lt (Heap.lt_size e)) (Heap.get?_push_of_some _ e)
    have J0 : Inv (lamCx X (A'.deeper (envOfC qg sg s'.heap.objs.size g cdg)) (envOfC qg sg s'.heap.objs.size g cdg :: outer') s1 HZ (fun cls d H' => W cls d σZ H') lsc f c') [] σ HZ { s1 with heap := hp, toks := s1.toks + bs.length } :=
      lam_start3 I L I1.env0 hr.hd un hns kp
    have J : Inv (lamCxN X (A'.deeper (envOfC qg sg s'.heap.objs.size g cdg)) (envOfC qg sg s'.heap.objs.size g cdg :: outer') s1 HZ (fun cls d H' => W cls d σZ H') lsc f c') [] σ HZ { s1 with heap := hp, toks := s1.toks + bs.length } :=
      ⟨⟨J0.ok.mod, J0.ok.kind, J0.ok.glob, J0.ok.blt, J0.ok.above, J0.ok.inj, J0.ok.has, J0.ok.cab, J0.ok.hd, J0.ok.frames, J0.ok.stk, J0.ok.exf, J0.ok.bs, J0.ok.bsz, J0.ok.noex, J0.ok.exfs, J0.ok.funs, J0.ok.frf⟩, J0.os, J0.bare, J0.base, J0.loc, J0.cell, J0.free, J0.freeC, J0.pin, J0.hok, J0.len⟩
    refine PySem.W.kla_codeExpr (wpAny_mono ((hbody _ _ s1 HZ _ (hr.deeper _)).run [] _ _ HZ Q J ht) (fun v s' hq => ?_) fun e s' hq => hq)
    obtain ⟨w', H', J', rv, q⟩ := hq
    exact ⟨w', H', J'.os, J'.bare, J'.base, J'.hok, rv, q⟩
  refine wpAny_call (codeAny_mono rc fun r s' hq => ?_)
  cases r with
  | error e => exact L2N.passAt tk σZ pinsZ HZ s1 e s' I1 hq
  | ok fl =>
    cases fl with
    | ret u => exact I1.after hq
    | next => exact False.elim hq
    | brk => exact False.elim hq
    | cont => exact False.elim hq
/-- behind the making: all as it was, the code object told by the table, or one more -/
def LamG (P : Addr) (q : Str) (ps : Array Value) (H H1 : Hp) (c' : Addr) : Prop :=
  (H1 = H ∧ ∃ pos : Pos, codeAmong pos ps.toList = some (.ref c')) ∨ ∃ ps' : Array Value, H1 = upd (upd H P (.tbl ps')) c' (CodeO c' q) ∧ H c' = none ∧ TriplesOk ps'.toList ∧ ∀ (pos : Pos) (cv : Value), codeAmong pos ps'.toList = some cv → cv = .ref c' ∨ codeAmong pos ps.toList = some cv
theorem lam_tailD {c P : Addr} {ps : Array Value} {params : Arguments} {body : Expr} {lsc : Scope} {pos : Pos} {dV : Value} {E Q : Value → Shared → Prop} (I : Inv X pins σ H s) (TB : TabB X.base X.mg c P) (hcode : X.env.code = .ref c)
    (T : TabP H P (X.env.qual ++ "<lambda>") ps) (hfree : ∀ y ∈ lsc.names, y.2 = .free → ∃ c, X.env.cells.lookup y.1 = some c)
    (h : ∀ (f c' : Addr) (doc pm ctv : Value) (H2 : Hp) (s' : Shared), LamG P (X.env.qual ++ "<lambda>") ps H H2 c' → H2 f = none →
      Inv X pins σ (upd H2 f (.frz (lamOb X.env.qual params body lsc (cloFrom X.env.cells lsc.names []) dV doc pm c' ctv) (.ext fun _ => True))) s' → Q (.ref f) s') :
    wpAny (model X.prog X.w) X.A (makeTail "<lambda>" (X.env.qual ++ "<lambda>") params (.expr body) lsc X.env dV .none none pos pos.line) Q E s := by
  obtain ⟨hP, tri, am⟩ := T
  have bP : s.heap.BuiltinsAt X.mg P := TB.bm.keeps I.bk
  have gP : s.heap.get? P = some { cls := .none, data := .fields ps } := I.hok P _ hP
  have lay : ∀ {H2 : Hp} {h' : Heap} {tk : Tok} {ob : Obj}, ob.isFreed = false → Inv X pins σ H2 { s with heap := h', toks := tk } → H2 h'.objs.size = none ∧ Inv X pins σ (upd H2 h'.objs.size (.frz ob (.ext fun _ => True))) { s with heap := h'.push ob, toks := tk } := fun {H2 h' tk ob} nf I1 =>
    ⟨I1.hok.fresh (Nat.le_refl _), I1.laid (t' := tk) (fun b o e => Heap.get?_push_of_some _ e) (Nat.le_refl _) ⟨Heap.get?_push_size _ nf, True.intro, ⟨_, Heap.get?_push_size _ nf⟩, fun _ _ _ _ => True.intro⟩⟩
  cases hc : codeAmong pos ps.toList with
  | some cv =>
    obtain ⟨c', e, hco⟩ := am pos cv hc
    subst e
    refine PySem.W.kdv_makeTailHit (mg := X.mg) (c := c) (P := P) (ps := ps) (closure_ok hfree) I.ok.glob (I.mod.glob.keeps I.bk) hcode (TB.code.keeps I.bk) gP tri hc bP fun ctv doc h' tk kp _ => ?_
    obtain ⟨n1, I1⟩ := lay (ob := lamOb X.env.qual params body lsc (cloFrom X.env.cells lsc.names []) dV doc ((X.mg "__name__").getD .none) c' ctv) rfl (I.kept (t' := tk) kp)
    exact h _ c' doc _ ctv H _ (.inl ⟨rfl, pos, hc⟩) n1 I1
  | none =>
    refine PySem.W.kdv_makeTail (mg := X.mg) (c := c) (P := P) (ps := ps) (closure_ok hfree) I.ok.glob (I.mod.glob.keeps I.bk) hcode (TB.code.keeps I.bk) gP tri hc TB.gP bP fun c' ctv doc h' tk ex le _ rec tab => ?_
    obtain ⟨c2, oc, vs, t, e2, g1, g2, g3⟩ := rec
    cases e2
    have I0 := inv_table (t' := tk) (more := #[rawInt pos.line, rawInt pos.col, .ref c']) (h' := h') I hP (fun b o hb e => ex b o hb e) tab le ⟨oc, vs, t, g1, g2, g3⟩
    obtain ⟨n1, I1⟩ := lay (ob := lamOb X.env.qual params body lsc (cloFrom X.env.cells lsc.names []) dV doc ((X.mg "__name__").getD .none) c' ctv) rfl I0
    have eL : (ps ++ #[rawInt pos.line, rawInt pos.col, .ref c']).toList = ps.toList ++ [rawInt pos.line, rawInt pos.col, .ref c'] := by simp
    refine h _ c' doc _ ctv _ _ (.inr ⟨_, rfl, I.hok.fresh le, ?_, fun p' cv q => ?_⟩) n1 I1
    · rw [eL]
      exact PySem.TriplesOk_snoc _ _ _ _ tri
    · rw [eL] at q
      exact (among_app _ tri q).symm
end
/-- the default's tuple is laid, if there is a default -/
def DefH (H HT : Hp) (dV : Value) : Option Int → Prop
  | none => HT = H ∧ dV = .none
  | some n => ∃ (T : Addr) (t : Tok), H T = none ∧ dV = .ref T ∧ HT = upd H T (.frz (PySem.W.kdv_tup [.int n t]) (.ext fun _ => True))
/-- lambda: the value, the heap behind -/
def tMkL (P : Addr) (q : Str) (ob : Value → Value → Value → Addr → Value → Obj) (d : Option Int) : TE := fun _ H Q => ∃ ps, TabP H P q ps ∧ ∀ HT dV, DefH H HT dV d → ∀ (H2 : Hp) (c' f : Addr) (doc pm ctv : Value), LamG P q ps HT H2 c' → H2 f = none →
  Q (.ref f) (upd H2 f (.frz (ob dV doc pm c' ctv) (.ext fun _ => True)))
abbrev obL (X : Cx) (params : Arguments) (body : Expr) (lsc : Scope) : Value → Value → Value → Addr → Value → Obj := lamOb X.env.qual params body lsc (cloFrom X.env.cells lsc.names [])
section
variable {X : Cx} {c P : Addr} {params : Arguments} {body : Expr} {lsc : Scope} {lpos : Pos}
theorem pe_mkL0 (TB : TabB X.base X.mg c P) (hcode : X.env.code = .ref c) (L : LamD X.N X.env.scope lsc) (hdef : defaultsOf params X.env = ([], [])) : PE X (.Lambda params body lsc lpos) (tMkL P (X.env.qual ++ "<lambda>") (obL X params body lsc) none) :=
  ⟨fun pins s σ H Q I ⟨ps, T, h⟩ => by
    refine PySem.W.kla_eval hdef ?_
    rw [makeFunction_eq]
    simp only [List.filterMap_nil, List.zip_nil_right, pure_bind, if_true, List.isEmpty_nil]
    exact lam_tailD I TB hcode T (L.has I.ok) fun f c' doc pm ctv H2 s' l n I' => ⟨.ref f, _, I', rfl, h H .none ⟨rfl, rfl⟩ H2 c' f doc pm ctv l n⟩⟩
theorem pe_mkL1 {e : Expr} {n : Int} (TB : TabB X.base X.mg c P) (hcode : X.env.code = .ref c) (L : LamD X.N X.env.scope lsc) (hd : params.defaults = [e]) (hk : params.kw_defaults = []) (he : PE X e (tC (.int n))) : PE X (.Lambda params body lsc lpos) (tMkL P (X.env.qual ++ "<lambda>") (obL X params body lsc) (some n)) :=
  ⟨fun pins s σ H Q I ⟨ps, T, h⟩ => by
    refine PySem.W.kdv_lam (by rw [hd]; rfl) hk ?_
    rw [hd]
    refine PySem.W.kdv_all1 (thn (he.run pins s σ H (fun v H1 => v = .int n ∧ H1 = H) I ⟨rfl, rfl⟩) fun u s1 ⟨v, H1, I1, r1, q1⟩ => PySem.W.kdv_all0 ?_)
    obtain ⟨ev, eH⟩ := q1
    subst ev; subst eH
    obtain ⟨t, rfl⟩ := r1
    rw [makeFunction_eq]
    simp only [List.filterMap_nil, List.zip_nil_right, pure_bind, if_true, List.isEmpty_nil, List.isEmpty_cons, Bool.false_eq_true, if_false]
    refine wpAny_bind (wpAny_newTextTuple ?_)
    have nT : H1 s1.heap.objs.size = none := I1.hok.fresh (Nat.le_refl _)
    have I2 : Inv X pins σ (upd H1 s1.heap.objs.size (.frz (PySem.W.kdv_tup [.int n t]) (.ext fun _ => True))) { s1 with heap := s1.heap.push (PySem.W.kdv_tup [.int n t]) } :=
      I1.laid (t' := s1.toks) (fun b o g => Heap.get?_push_of_some _ g) (Nat.le_refl _) ⟨Heap.get?_push_size _ rfl, True.intro, ⟨_, Heap.get?_push_size _ rfl⟩, fun _ _ _ _ => True.intro⟩
    have kp : ∀ b o, H1 b = some o → upd H1 s1.heap.objs.size (.frz (PySem.W.kdv_tup [.int n t]) (.ext fun _ => True)) b = some o := fun b o g => by
      rw [upd_ne (fun z => by rw [z, nT] at g; cases g)]
      exact g
    have T2 : TabP (upd H1 s1.heap.objs.size (.frz (PySem.W.kdv_tup [.int n t]) (.ext fun _ => True))) P (X.env.qual ++ "<lambda>") ps := ⟨kp _ _ T.1, T.2.1, fun pos cv g => let ⟨c, e1, e2⟩ := T.2.2 pos cv g; ⟨c, e1, kp _ _ e2⟩⟩
    exact lam_tailD I2 TB hcode T2 (L.has I2.ok) fun f c' doc pm ctv H2 s' l nf I' => ⟨.ref f, _, I', rfl, h _ _ ⟨_, t, nT, rfl, rfl⟩ H2 c' f doc pm ctv l nf⟩⟩
end
end L3

/-! a comprehension whose element calls lambdas of the def around it -/
namespace L3
open PySem PySem.Spec PyProof.Rows L2 LamX
/-- an element's reading, where the def's own context is known, too -/
structure EltA (X Y : Cx) (vs : List Nat) (elt : Expr) (te : TE) : Prop where
  run : ∀ (pX pY : List (Addr × Obj)) (s : Shared) (σ : L2.St) (H : Hp) (Q : VK), Inv Y pY σ H s → (∀ (p' : List (Addr × Obj)) (H' : Hp) (s' : Shared), Inv Y p' σ H' s' → Inv X pX (wipe σ vs) H' s') → te σ H Q → wpAny (model Y.prog Y.w) Y.A (eval elt Y.env) (EP Y pY σ Q) Y.xe s
section
variable {X : Cx}
theorem pe_lcA {elt tg iter : Expr} {scope : Scope} {own : List (Str × Nat)} {pos : Pos} {wi : TI} {g : TG} {te : TE} (hc : X.calm = true) (hN : X.N.Nodup) (hi : PI X tg iter wi) (ok : BlkOk X.N X.env.scope scope own)
    (hg : ∀ (s : Shared) (H : Hp) (C : Addr) (cl : List (Str × Addr)) (fp : List Addr), PG (X.blk s H scope (compEnvC scope cl C X.env) fp) tg g)
    (he : ∀ (s : Shared) (H : Hp) (C : Addr) (cl : List (Str × Addr)) (fp : List Addr), EltA X (X.blk s H scope (compEnvC scope cl C X.env) fp) (own.map (·.2)) elt te) (hs : ∀ x, foldedSetIterable iter X.env x = pure x := by intro _; rfl) :
    PE X (.ListComp elt [⟨tg, iter, [], 0⟩] scope pos) (tLc wi g tYes te (own.map (·.2))) := by
  refine ⟨fun pins s σ H Q I h => ?_⟩
  rw [eval_ListComp]
  have hfree : ∀ y ∈ scope.names, y.2 = .free → ∃ c, X.env.cells.lookup y.1 = some c := fun y hy e => I.ok.has _ (ok.free y hy e)
  refine wpAny_comprehension_free rfl hs (closure_ok hfree) ok.kind (fun y hy e => by rw [ok.uniq y hy, e]) (thn (hi.run pins s σ H _ I h) fun xv s1 hx => thn hx fun itv s2 ⟨it, fp, tn, J, H1, ev, I2, TZ, st2, f2, q⟩ => ?_)
  subst ev
  refine wpAny_newObj_type (newEnv_comp ?_) (by show 0 ≤ sizeLine; decide)
  obtain ⟨W, ⟨m0, w0⟩, turn⟩ := q s2.heap.objs.size (I2.hok.fresh (Nat.le_refl _))
  have dn : H1 s2.heap.objs.size = none := I2.hok.fresh (Nat.le_refl _)
  have I3 : Inv X pins σ (upd H1 s2.heap.objs.size (.lst [])) { s2 with heap := s2.heap.push { cls := .type "list", data := .seq ([] : List Value).toArray } } :=
    I2.laid (t' := s2.toks) (fun b o e => Heap.get?_push_of_some _ e) (Nat.le_refl _) ⟨Nat.zero_le _, [], 0, .nil, Heap.get?_push_size _ rfl⟩
  have old : ∀ c ∈ fp, c < s2.heap.objs.size := fun c hc => by
    obtain ⟨o, q, _⟩ := TZ.obj 0 s2.heap st2 c hc
    exact Heap.lt_size q
  have f3 : ∀ c ∈ fp, FpOk X pins (upd H1 s2.heap.objs.size (.lst [])) c := fun c hc =>
    ⟨by rw [upd_ne (Nat.ne_of_lt (old c hc))]; exact (f2 c hc).1, (f2 c hc).2⟩
  have st3 : tn 0 (s2.heap.push { cls := .type "list", data := .seq ([] : List Value).toArray }) := TZ.keep 0 _ _ st2 fun _ _ o e => Heap.get?_push_of_some _ e
  have sz3 : ∀ c ∈ fp, c < (s2.heap.push { cls := .type "list", data := .seq ([] : List Value).toArray }).objs.size := fun c hc => by
    rw [Heap.size_push]; exact Nat.lt_succ_of_lt (old c hc)
  generalize upd H1 s2.heap.objs.size (.lst []) = H3 at I3 f3 w0
  generalize s2.heap.objs.size = D at turn ⊢
  generalize hs3 : ({ s2 with heap := s2.heap.push { cls := .type "list", data := .seq ([] : List Value).toArray } } : Shared) = s3 at I3 ⊢
  have e3 : s3.heap = s2.heap.push { cls := .type "list", data := .seq ([] : List Value).toArray } := by rw [← hs3]
  rw [← e3] at st3 sz3
  have I4 := block_start I3 ok hN fun c hc => ⟨f3 c hc, sz3 c hc⟩
  have pg := hg s3 H3 s3.heap.objs.size (cellsFrom (s3.heap.objs.size + 1) scope.names (cloFrom X.env.cells scope.names [])) fp
  have pe := he s3 H3 s3.heap.objs.size (cellsFrom (s3.heap.objs.size + 1) scope.names (cloFrom X.env.cells scope.names [])) fp
  show codeAny _ _ (.compStart _ 0 (.ref it) (.ref D) (compEnvC scope (cellsFrom (s3.heap.objs.size + 1) scope.names (cloFrom X.env.cells scope.names [])) s3.heap.objs.size X.env)) (compPost (model X.prog X.w) X.A X.xe none _ (.ref D) s3.heap.objs.size) { s3 with heap := pushCells (s3.heap.push { cls := .type "dict", data := .dict #[] }) scope.names }
  generalize hce : compEnvC scope (cellsFrom (s3.heap.objs.size + 1) scope.names (cloFrom X.env.cells scope.names [])) s3.heap.objs.size X.env = ce at I4 pg pe ⊢
  have cL : ce.locals = s3.heap.objs.size := by rw [← hce]; rfl
  have st4 : tn 0 (pushCells (s3.heap.push { cls := .type "dict", data := .dict #[] }) scope.names) := TZ.keep 0 _ _ st3 fun _ _ o e => pushCells_keeps _ _ _ _ (Heap.get?_push_of_some _ e)
  generalize hs4 : ({ s3 with heap := pushCells (s3.heap.push { cls := .type "dict", data := .dict #[] }) scope.names } : Shared) = s4 at I4 ⊢
  have e4 : s4.heap = pushCells (s3.heap.push { cls := .type "dict", data := .dict #[] }) scope.names := by rw [← hs4]
  rw [← e4] at st4
  -- back in the def's own context, at any time of the block
  have home : ∀ {pins' : List (Addr × Obj)} {σ' : L2.St} {H' : Hp} {s' : Shared}, Inv (X.blk s3 H3 scope ce fp) pins' σ' H' s' → Inv X pins σ H' s' := fun {pins' σ' H' s'} I' =>
    I3.call' (ch := fp) I'.os I'.base I'.hok I'.bare fun c hc => ⟨(f3 c hc).2.2.2.1, (f3 c hc).2.1, (f3 c hc).2.2.2.2.1, (f3 c hc).2.2.2.2.2⟩
  have stat : ∀ {σ' : L2.St} {H' : Hp} {s' : Shared}, Inv (X.blk s3 H3 scope ce fp) [] σ' H' s' → (∀ c ∈ fp, H' c = none) → ∀ c ∈ fp, FpOk (X.blk s3 H3 scope ce fp) [] H' c := fun {σ' H' s'} I' hn c hc =>
    ⟨hn c hc, (I'.ok.exf c hc).1, I'.ok.exfs c hc, .inl hc, fun x c' e => (I'.ok.exf c hc).2 x c' e, fun p hp => absurd (show p ∈ ([] : List (Addr × Obj)) ++ [] from hp) (by simp)⟩
  suffices loop : codeAny (model X.prog X.w) X.A (.compLoop (.ListComp elt [⟨tg, iter, [], 0⟩] scope pos) 0 (.ref it) (.ref D) ce) (compPost (model X.prog X.w) X.A X.xe none (fun v s' => EP X pins σ Q v s') (.ref D) s3.heap.objs.size) s4 from
    codeAny_compStart_list loop (TZ.self X.A 0 _ _ _ st4 loop)
  refine compLoop_any (fun n s' => ∃ i H', Inv (X.blk s3 H3 scope ce fp) [] (wipe σ (own.map (·.2))) H' s' ∧ tn i s'.heap ∧ (∀ c ∈ fp, H' c = none) ∧ W i n H') ?_ m0 ⟨0, H3, I4, st4, fun c hc => (f3 c hc).1, w0⟩
  rintro n s5 ⟨i, H5, I5, st5, n5, w5⟩
  rcases turn i n H5 w5 with ⟨stop, qq⟩ | ⟨go, Nx, hNx, step⟩
  · refine thnF (TZ.done (X.blk s3 H3 scope ce fp) rfl rfl rfl hc i [] s5 _ H5 (fun _ _ => False) I5 (stat I5 n5) st5 stop) fun r s6 ⟨hr, I6⟩ => ?_
    subst hr
    have I7 : Inv X pins σ H5 s6 := home I6
    have nC : H5 s3.heap.objs.size = none := by
      have zz : H5 ce.locals = none := I6.free
      rw [cL] at zz
      exact zz
    obtain ⟨m, hn, _⟩ := I6.loc
    have hn : s6.heap.Ns ce.locals m := hn
    rw [cL] at hn
    obtain ⟨g0, g1, g2, g3, g4, g5⟩ := I3.fpOk (Nat.le_refl _) nC
    refine ⟨m, hn, fun h'' sb => ⟨.ref D, H5, I7.turned (t' := s6.toks) (fun c o hb e => (sb.2 c hb).trans e) g0 g1 g3 g4 g5, rfl, qq⟩⟩
  · refine thnF (TZ.item (X.blk s3 H3 scope ce fp) rfl rfl rfl hc i [] s5 _ H5 (fun _ _ => False) I5 (stat I5 n5) st5 go) fun r s6 ⟨u, hr, h6⟩ => ?_
    subst hr
    refine thnF h6 fun _ s7 ⟨x, H7, I7, r7, y7, st7, n7⟩ => ?_
    have I7' := I7.pinned (stat I7 n7) (TZ.obj _ _ st7)
    refine thnF (pg.run _ s7 _ H7 x u _ I7' r7 (step x H7 y7)) fun _ s8 ⟨σ8, H8, I8, hw8, q8⟩ => ?_
    have fin : ∀ {s' : Shared} {H' : Hp}, Inv (X.blk s3 H3 scope ce fp) ([] ++ pinsAt fp s7.heap) σ8 H' s' → Nx H' → ∃ m, m < n ∧ ∃ i H', Inv (X.blk s3 H3 scope ce fp) [] (wipe σ (own.map (·.2))) H' s' ∧ tn i s'.heap ∧ (∀ c ∈ fp, H' c = none) ∧ W i m H' := fun {s' H'} I' nx => by
      obtain ⟨m', hm', w'⟩ := hNx H' nx
      have pin' : ∀ c ∈ fp, ∀ o, s7.heap.get? c = some o → s'.heap.get? c = some o ∧ H' c = none := fun c hc o e =>
        let zz := I'.pin (c, o) (List.mem_append_right _ (List.mem_append_right _ (mem_pinsAt hc e)))
        ⟨zz.1, zz.2.1⟩
      refine ⟨m', hm', i + 1, H', (I'.unpinned (pins := [])).weak (by rw [← hw8, wipe_length]) (fun j v e => ?_), TZ.keep _ _ _ st7 fun c hc o e => (pin' c hc o e).1, fun c hc => ?_, w'⟩
      · rw [← hw8] at e
        exact (wipe_some e).1
      · obtain ⟨o, e, _⟩ := TZ.obj _ _ st7 c hc
        exact (pin' c hc o e).2
    have near : ∀ (p' : List (Addr × Obj)) (H' : Hp) (s' : Shared), Inv (X.blk s3 H3 scope ce fp) p' σ8 H' s' → Inv X pins (wipe σ8 (own.map (·.2))) H' s' := fun p' H' s' I' => (home I').weak (by rw [hw8, wipe_length]) fun j v e => by
      rw [hw8] at e
      exact (wipe_some e).1
    refine wpAny_tests_nil ?_
    refine thnF (pe.run pins _ s8 σ8 H8 _ I8 near q8) fun zz s10 ⟨yv, H10, I10, r10, acc, hD10, hz10, nx⟩ => ?_
    exact app_ok (X := X.blk s3 H3 scope ce fp) I10 hD10 hz10 r10 fun s11 I11 => fin I11 nx
end
end L3

/-! lambdas in lists, typed -/
namespace L3
open PySem PySem.Spec PyProof.Rows L2 LamX
/-- a lambda of the def: how it is written, its default, what its body reads -/
structure LamK where
  params : Arguments
  body : Expr
  lsc : Scope
  d : Option Int
  t : XK → TE
structure LamKOk (X : Cx) (kl : Nat) (l : LamK) : Prop where
  sc : LamD X.N X.env.scope l.lsc
  bd : BindL l.params l.body l.lsc l.d
  rd : ∀ (A : Around) (outer : List Env) (s : Shared) (H : Hp) (E : XK) (f c' : Addr), Room kl (A.deeper (lamEnv X l.lsc s.heap.objs.size f c')) → PE (lamCxN X A outer s H E l.lsc f c') l.body (l.t E)
abbrev obK (X : Cx) (l : LamK) : Value → Value → Value → Addr → Value → Obj := obL X l.params l.body l.lsc
/-- a told lambda -/
def iLam (q : Str) (ob : Value → Value → Value → Addr → Value → Obj) (d : Option Int) : Rep :=
  ⟨fun S v => ∃ (f c' : Addr) (dV doc pm ctv : Value), v = .ref f ∧ S f = some (.frz (ob dV doc pm c' ctv) (.ext fun _ => True)) ∧ DefAt S dV d ∧ S c' = some (CodeO c' q),
   fun e ⟨f, c', dV, doc, pm, ctv, h1, h2, h3, h4⟩ => ⟨f, c', dV, doc, pm, ctv, h1, e _ _ h2, h3.to (fun b o x z => e _ _ z), e _ _ h4⟩⟩
/-- x(a), a a name for one of the def's lambdas; their bodies read the def's names but those of vs -/
def tCallLs (q : Str) (lams : List (LamK × (Value → Value → Value → Addr → Value → Obj))) (i : Nat) (vs : List Nat) (TT : GTT) : TE := fun σ H Q => ∃ l ∈ lams, ∃ (f c' : Addr) (dV doc pm ctv : Value), σ[i]? = some (some (.ref f)) ∧
  H f = some (.frz (l.2 dV doc pm c' ctv) (.ext fun _ => True)) ∧ DefAt H dV l.1.d ∧ H c' = some (CodeO c' q) ∧ TT (fun E H' Q' => l.1.t E (wipe σ vs) H' Q') H Q
section
variable {X : Cx}
theorem elt_lams {s3 : Shared} {H3 : Hp} {scope : Scope} {ce : Env} {fp : List Addr} {vs : List Nat} {x a : Str} {g : Addr} {k kl i : Nat} {TT : GTT} {lams : List LamK} {p p1 pos : Pos} (hg : Gl (X.blk s3 H3 scope ce fp) x) (hm : X.mg x = some (.ref g)) (hk : PySem.W.keepIn X.K (.ref g) = true)
    (F : FnL X.prog X.w X.K X.mg X.base k g TT) (hl : ∀ l ∈ lams, LamKOk X kl l) (hr : Room (kl + k) X.A) (hN : X.N[i]? = some a) (hv : Vis ce.scope a)
    (hd : (a == ("__debug__" : Str)) = false := by decide) (hcd : (a == ("__classdict__" : Str)) = false := by decide) (hdb : (x == ("__debug__" : Str)) = false := by decide) :
    EltA X (X.blk s3 H3 scope ce fp) vs (.Call (.Name x p) [.Name a p1] [] pos) (tCallLs (X.env.qual ++ "<lambda>") (lams.map fun l => (l, obK X l)) i vs TT) := by
  refine ⟨fun pX pY s σ H Q IY IX h => ?_⟩
  obtain ⟨l2, hl2, f, c', dV, doc, pm, ctv, hs, hf, hda, hc, hT⟩ := h
  obtain ⟨l, hmem, rfl⟩ := List.mem_map.mp hl2
  have ok := hl l hmem
  refine wpAny_Call_Name_kw (ld_glob IY hg hm ?_ hdb)
  refine PySem.W.callWith_K (h₀ := X.base) IY.ok.mod.kin hk (thn ((pa_cons (pe_var (X := X.blk s3 H3 scope ce fp) (pos := p1) (i := i) hN hv hd hcd) pa_nil).run pos pY s σ H (fun vs H2 => vs = [.ref f] ∧ H2 = H) IY ⟨.ref f, hs, rfl, rfl⟩) fun us s2 ⟨vs2, H2, I2, r, e1, e2⟩ => ⟨I2.kIn, ?_⟩) rfl rfl
  subst e1 e2
  have act := act_ofD (k := kl) (tb := l.t) (IX pY H2 s2 I2) ok.sc hf hda ok.bd fun A outer s H E hr2 => ok.rd A outer s H E f c' hr2
  cases r with
  | cons ru rn =>
    cases rn
    cases ru
    refine wpAny_call (codeAny_mono (F.run X.A X.stack s2 H2 f c' _ _ kl X.stack s2 H2 Q act (Un.kept fun _ _ e => e) (fun b hb => .inl hb) (Nat.le_refl _) hr I2.env0 hc hT) fun z s' hq => ?_)
    cases z with
    | error e => exact (show False from hq).elim
    | ok fl =>
      cases fl with
      | ret u => exact I2.after hq
      | next => exact False.elim hq
      | brk => exact False.elim hq
      | cont => exact False.elim hq
end
/-! typed -/
theorem defH_step {S H HT : Hp} {M : SH} {dV : Value} (e : Same S H) (m : MOk S H M) : ∀ {d : Option Int}, DefH H HT dV d → ∃ S1, Stp S H S1 HT M M ∧ DefAt S1 dV d
  | none, ⟨e1, e2⟩ => by
    subst e1
    exact ⟨S, Stp.refl e m, e2⟩
  | some n, ⟨T, t, hn, e1, e2⟩ => by
    subst e2
    exact ⟨_, Stp.newS e m hn, T, t, e1, upd_same⟩
section
variable {E : XK} {K : PySem.W.Frag} {Γ : Ct} {M A B : SH} {k : KR} {X : KX} {P D1 D2 D3 : Addr} {q : Str} {ob : Value → Value → Value → Addr → Value → Obj} {d : Option Int} {tsW tsF : Addr → Addr → Addr → TSp} {Kn : XR → Prop} {wd : XR → Str} {fl : XR → Rep}
theorem tbl_stepG {S H H1 : Hp} {c' : Addr} {ps : Array Value} (e : Same S H) (m : MOk S H (A ++ (P, mTbl q) :: B)) (hP : H P = some (.tbl ps)) (hS : ∀ pos cv, codeAmong pos ps.toList = some cv → ∃ c, cv = .ref c ∧ S c = some (CodeO c q)) (l : LamG P q ps H H1 c') :
    ∃ S1, Stp S H S1 H1 (A ++ (P, mTbl q) :: B) (A ++ (P, mTbl q) :: B) ∧ S1 c' = some (CodeO c' q) := by
  rcases l with ⟨rfl, pos, hp⟩ | ⟨ps', rfl, hn, h1, h2⟩
  · obtain ⟨c, e1, e2⟩ := hS pos _ hp
    cases e1
    exact ⟨S, Stp.refl e m, e2⟩
  · have ne : P ≠ c' := fun z => by rw [← z, hP] at hn; cases hn
    have s1 := Stp.newS (o := CodeO c' q) e m hn
    have s2 := Stp.wrM (P' := mTbl q) (o := .tbl ps') s1.e s1.m ⟨ps', rfl, h1, fun pos cv hc => by
      rcases h2 pos cv hc with z | z
      · exact ⟨c', z, upd_same⟩
      · obtain ⟨c, e1, e2⟩ := hS pos cv z
        exact ⟨c, e1, s1.s _ _ e2⟩⟩
    have eq : upd (upd H c' (CodeO c' q)) P (.tbl ps') = upd (upd H P (.tbl ps')) c' (CodeO c' q) := by
      funext b
      by_cases hb : b = P
      · rw [hb, upd_same, upd_ne ne, upd_same]
      · rw [upd_ne hb]
        by_cases hc : b = c'
        · rw [hc, upd_same, upd_same]
        · rw [upd_ne hc, upd_ne hc, upd_ne hb]
    rw [eq] at s2
    exact ⟨_, s1.trans s2, s2.s _ _ upd_same⟩
/-- lambda: a value; the table of code objects may grow -/
theorem ev_mkL (h : k (iLam q ob d) (A ++ (P, mTbl q) :: B)) : Ev E (tMkL P q ob d) Γ (A ++ (P, mTbl q) :: B) k X := fun σ S H Q I o ox => by
  obtain ⟨ps, T, hS⟩ := tbl_at I.ex I.m
  refine ⟨ps, T, fun HT dV hd H2 c' f doc pm ctv lh hf => ?_⟩
  obtain ⟨S0, s0, da⟩ := defH_step I.ex I.m hd
  have TP : HT P = some (.tbl ps) := by
    cases d with
    | none => rw [hd.1]; exact T.1
    | some n =>
      obtain ⟨T0, t, hn, _, e⟩ := hd
      rw [e, upd_ne (fun z => by rw [← z, T.1] at hn; cases hn)]
      exact T.1
  obtain ⟨S1, s1, hc⟩ := tbl_stepG s0.e s0.m TP (fun pos cv z => let ⟨c, e1, e2⟩ := hS pos cv z; ⟨c, e1, s0.s _ _ e2⟩) lh
  have s2 := Stp.newS (o := .frz (ob dV doc pm c' ctv) (.ext fun _ => True)) s1.e s1.m hf
  exact o _ _ _ _ _ h ((s0.trans s1).trans s2) ⟨f, c', dV, doc, pm, ctv, rfl, upd_same, (da.to fun b o x z => s1.s _ _ z).to fun b o x z => s2.s _ _ z, s2.s _ _ hc⟩
/-- what _law_tried asks, told by readings -/
theorem ttr_in {te : XK → TE} {σ : L2.St} {S H : Hp} {Q : VK} (I : Nv S H σ Γ M) (h : ∀ E', Ev E' (te E') Γ M (fun R M2 => k (aTup K [R, aStr "", iNon]) M2) (fun x M2 => Kn x ∧ k (aTup K [iNon, aStr (wd x), fl x]) M2))
    (hE : ∀ x, Kn x → PySem.W.exmAny K (.ref x.cls) [.ref D1, .ref D2, .ref D3] = some true)
    (hW : ∀ x a dd k', Kn x → k' (aStr (wd x)) [] → tsW a x.cls dd [iXc a dd x.fs] [] k' X0) (hF : ∀ x a dd k', Kn x → k' (fl x) [] → tsF a x.cls dd [iXc a dd x.fs] [] k' X0) (o : Out S H M k Q) :
    TTr K D1 D2 D3 tsW tsF (fun E' H' Q' => te E' σ H' Q') H Q := by
  have z3 : 3 ≤ sizeLine := by rw [sizeLine_eq]; omega
  refine ⟨z3, fun p0 hp0 E' Q' hE' hQ' => ?_⟩
  have s2 := Stp.newS (o := .tup [.non, .str "", .non]) I.ex I.m hp0
  have tup : ∀ {S3 H3 : Hp} {M3 : SH} {R1 R2 R3 : Rep} {v1 v2 v3 : V}, Stp S H S3 H3 M M3 → k (aTup K [R1, R2, R3]) M3 → R1.p S3 v1 → R2.p S3 v2 → R3.p S3 v3 → 3 ≤ sizeLine ∧ ∀ p, H3 p = none → Q (.ref p) (upd H3 p (.tup [v1, v2, v3])) :=
    fun {S3 H3 M3 R1 R2 R3 v1 v2 v3} st kk q1 q2 q3 => ⟨z3, fun p hp => by
      have s4 := Stp.newS (o := .tup [v1, v2, v3]) st.e st.m hp
      exact o _ _ _ _ _ kk (st.trans s4) ⟨p, _, rfl, .inl (.inl upd_same), R1.m s4.s q1, R2.m s4.s q2, R3.m s4.s q3, True.intro⟩⟩
  refine h E' σ _ _ Q' (I.step s2) (fun v S2 H2 R M2 kk st p => hQ' v H2 (tup (s2.trans st) kk p rfl rfl)) (fun cls d S2 H2 x M2 kk st p => hE' cls d H2 ?_)
  obtain ⟨kn, kk⟩ := kk
  obtain ⟨rfl, dd, vs, rfl, hd, hn, ha⟩ := p
  refine ⟨hE x kn, fun a na => ⟨x.cls, dd, rfl, rfl, ?_⟩⟩
  refine spT_in (Mf := []) (Fr := M2) (Rs := [iXc a dd x.fs]) (k := fun R M3 => R = aStr (wd x) ∧ M3 = M2) (X := X0) (hW x a dd _ kn ⟨rfl, rfl⟩) st.e st.m ⟨⟨rfl, vs, hd, hn, ha⟩, True.intro⟩ (fun w S3 H3 R M3 ⟨e1, e2⟩ st3 pw => ?_) (fun _ _ _ _ _ _ z => z.elim)
  subst e1; subst e2
  refine spT_in (Mf := []) (Fr := M3) (Rs := [iXc a dd x.fs]) (k := fun R M4 => R = fl x ∧ M4 = M3) (X := X0) (hF x a dd _ kn ⟨rfl, rfl⟩) st3.e st3.m ⟨(iXc a dd x.fs).m st3.s ⟨rfl, vs, hd, hn, ha⟩, True.intro⟩ (fun fv S4 H4 R M4 ⟨e1, e2⟩ st4 pf => ?_) (fun _ _ _ _ _ _ z => z.elim)
  subst e1; subst e2
  exact tup ((s2.trans st).trans (st3.trans st4)) kk rfl ((aStr (wd x)).m st4.s pw) pf
theorem ev_callLs {TT : GTT} {lams : List (LamK × (Value → Value → Value → Addr → Value → Obj))} {j : Nat} {vs : List Nat} {l : LamK × (Value → Value → Value → Addr → Value → Obj)} (hl : l ∈ lams) (hj : Γ[j]? = some (some (iLam q l.2 l.1.d)))
    (h : ∀ σ S H Q, Nv S H σ (wipeC Γ vs) M → Out S H M k Q → TT (fun E' H' Q' => l.1.t E' σ H' Q') H Q) : Ev E (tCallLs q lams j vs TT) Γ M k X := fun σ S H Q I o ox => by
  obtain ⟨v, hv, f, c', dV, doc, pm, ctv, e, h1, h2, h3⟩ := I.sl j _ hj
  subst e
  exact ⟨l, hl, f, c', dV, doc, pm, ctv, hv, I.ex _ _ h1, h2.to (fun b o x z => I.ex _ _ z), I.ex _ _ h3, h _ S H Q (I.wipe vs) o⟩
variable {XT : List XCl} {R0 : Rep}
theorem ep_triedLs (T : XTab K XT D1 D2 D3) {lams : List (LamK × (Value → Value → Value → Addr → Value → Obj))} {j : Nat} {vs : List Nat} {l : LamK × (Value → Value → Value → Addr → Value → Obj)} (hl : l ∈ lams) (hj : Γ[j]? = some (some (iLam q l.2 l.1.d)))
    (h : ∀ E', Ev E' (l.1.t E') (wipeC Γ vs) M (fun R M2 => aTup K [R, aStr "", iNon] = R0 ∧ M2 = M) (fun x M2 => KnX XT x ∧ aTup K [iNon, aStr (wdX XT x), flX XT x] = R0 ∧ M2 = M)) : Ep E (tCallLs q lams j vs (TTr K D1 D2 D3 (tsWordX XT) (tsFieldX XT))) Γ M R0 := fun k X hk =>
  ev_callLs hl hj fun σ S H Q I o => ttr_in (Kn := KnX XT) (wd := wdX XT) (fl := flX XT) I (fun E' => (h E').mono2 (fun R M2 ⟨e1, e2⟩ => by rw [e1, e2]; exact hk) (fun x M2 ⟨kn, e1, e2⟩ => ⟨kn, by rw [e1, e2]; exact hk⟩))
    (fun x kn => by obtain ⟨c, h1, h2⟩ := kn.fst; rw [← h2]; exact T.exm c h1) (fun x a dd k' kn q => ⟨x.fs, rfl, rfl, kn, q⟩) (fun x a dd k' kn q => ⟨x.fs, rfl, rfl, kn, q⟩) o
theorem ep_refusedLs (T : XTab K XT D1 D2 D3) {lams : List (LamK × (Value → Value → Value → Addr → Value → Obj))} {j : Nat} {vs : List Nat} {l : LamK × (Value → Value → Value → Addr → Value → Obj)} (hl : l ∈ lams) (hj : Γ[j]? = some (some (iLam q l.2 l.1.d)))
    (h : ∀ E', Ev E' (l.1.t E') (wipeC Γ vs) M (fun _ M2 => aTup K [aStr "", iNon] = R0 ∧ M2 = M) (fun x M2 => KnX XT x ∧ aTup K [aStr (wdX XT x), flX XT x] = R0 ∧ M2 = M)) : Ep E (tCallLs q lams j vs (TRf K (TTr K D1 D2 D3 (tsWordX XT) (tsFieldX XT)))) Γ M R0 := fun k X hk =>
  ev_callLs hl hj fun σ S H Q I o => ttr_in (k := fun R M2 => Os (rSlA K) R (some 1) none M2 k) (Kn := KnX XT) (wd := wdX XT) (fl := flX XT) I
    (fun E' => (h E').mono2 (fun R M2 ⟨e1, e2⟩ => os_tup (show k (aTup K [aStr "", iNon]) M2 by rw [e2, show aTup K [aStr "", iNon] = R0 from e1]; exact hk)) (fun x M2 ⟨kn, e1, e2⟩ => ⟨kn, os_tup (show k (aTup K [aStr (wdX XT x), flX XT x]) M2 by rw [e2, show aTup K [aStr (wdX XT x), flX XT x] = R0 from e1]; exact hk)⟩))
    (fun x kn => by obtain ⟨c, h1, h2⟩ := kn.fst; rw [← h2]; exact T.exm c h1) (fun x a dd k' kn q => ⟨x.fs, rfl, rfl, kn, q⟩) (fun x a dd k' kn q => ⟨x.fs, rfl, rfl, kn, q⟩)
    (fun v S2 H2 R M2 os st p => ⟨1, rfl, os v S2 H2 Q st.e st.m p (o.step st)⟩)
end
structure LamsOk (Y : Cx) (kl : Nat) (ls : List LamK) : Prop where
  all : ∀ l ∈ ls, LamKOk Y kl l
theorem lk_nil {Y : Cx} {kl : Nat} : LamsOk Y kl [] := ⟨fun _ h => nomatch h⟩
theorem lk_cons {Y : Cx} {kl : Nat} {params : Arguments} {body : Expr} {lsc : Scope} {d : Option Int} {t : XK → TE} {ls : List LamK} (h1 : LamD Y.N Y.env.scope lsc) (hb : BindL params body lsc d)
    (h3 : ∀ (A : Around) (outer : List Env) (s : Shared) (H : Hp) (E : XK) (f c' : Addr), Room kl (A.deeper (lamEnv Y lsc s.heap.objs.size f c')) → PE (lamCxN Y A outer s H E lsc f c') body (t E)) (h2 : LamsOk Y kl ls) : LamsOk Y kl (⟨params, body, lsc, d, t⟩ :: ls) := ⟨fun l' hl => by
  rcases List.mem_cons.mp hl with e | e
  · rw [e]; exact ⟨h1, hb, h3⟩
  · exact h2.all l' e⟩
theorem elt_lamsL {Y : Cx} {s3 : Shared} {H3 : Hp} {scope : Scope} {ce : Env} {fp : List Addr} {vs : List Nat} {x a : Str} {k kl i : Nat} {TT : GTT} {lams : List LamK} {p p1 pos : Pos} (F : ClL Y.prog Y.w Y.K Y.mg Y.base k x TT) (hg : Gl (Y.blk s3 H3 scope ce fp) x)
    (hl : LamsOk Y kl lams) (hr : Room (kl + k) Y.A) (hN : Y.N[i]? = some a) (hv : Vis ce.scope a)
    (hd : (a == ("__debug__" : Str)) = false := by decide) (hcd : (a == ("__classdict__" : Str)) = false := by decide) (hdb : (x == ("__debug__" : Str)) = false := by decide) :
    EltA Y (Y.blk s3 H3 scope ce fp) vs (.Call (.Name x p) [.Name a p1] [] pos) (tCallLs (Y.env.qual ++ "<lambda>") (lams.map fun l => (l, obK Y l)) i vs TT) := by
  obtain ⟨g, F1, hm, hk⟩ := F.ex
  exact elt_lams hg hm hk F1 hl.all hr hN hv hd hcd hdb
/-! where a lambda stands in a def -/
def stAt (l : List Stmt) (n : Nat) : Stmt := l.getD n default
def forB : Stmt → List Stmt
  | .For _ _ b _ _ => b
  | _ => []
def ifB : Stmt → List Stmt
  | .If _ b _ _ => b
  | _ => []
def ifE : Stmt → List Stmt
  | .If _ _ b _ => b
  | _ => []
def asgE : Stmt → PySem.Expr
  | .Assign _ e _ => e
  | _ => default
def exprE : Stmt → PySem.Expr
  | .Expr e _ => e
  | _ => default
def lstAt (e : PySem.Expr) (n : Nat) : PySem.Expr := match e with
  | .List es _ => es.getD n default
  | _ => default
def argAt (e : PySem.Expr) (n : Nat) : PySem.Expr := match e with
  | .Call _ as _ _ => as.getD n default
  | _ => default
def lamP : PySem.Expr → Arguments
  | .Lambda p _ _ _ => p
  | _ => default
def lamB : PySem.Expr → PySem.Expr
  | .Lambda _ b _ _ => b
  | _ => default
def lamS : PySem.Expr → Scope
  | .Lambda _ _ s _ => s
  | _ => default
/-- sorted(l), a list that is to be changed -/
theorem ev_sortIM {E : XK} {K : PySem.W.Frag} {Γ : Ct} {M : SH} {k : KR} {X : KX} {ta : TE} (h : Ev E ta Γ M (fun R M1 => ∃ (a : Addr) (i : Nat) (ns : List Int), R = iRef a ∧ M1[i]? = some (a, mLst (ns.map iInt)) ∧ ∀ ns' : List Int, ns'.Perm ns → ns'.Pairwise (· ≤ ·) → ∀ c, k (iRef c) (M1 ++ [(c, mLst (ns'.map iInt))])) X) : Ev E (tCB (rSortedI K) (tCons ta tNil)) Γ M k X := fun σ S H Q I o ox =>
  h σ S H _ I (fun v S1 H1 R M1 ⟨a, i, ns, e, hm, q⟩ st p => by
    subst e
    cases p
    obtain ⟨_, ob, ho, ys, rfl, al⟩ := st.m.at_ a _ (at_mem hm)
    have ey : ys = ns.map V.int := All2.flat (r := iInt) (g := V.int) (fun _ _ h => h) al
    subst ey
    refine ⟨a, ns, rfl, SqL.of ho, fun ns' c hp hs hc => ?_⟩
    have gen : ∀ (S : Hp) (l : List Int), All2 S (l.map iInt) (l.map V.int) := fun S l => by
      induction l with
      | nil => exact True.intro
      | cons x l ih => exact ⟨rfl, ih⟩
    exact o (.ref c) _ _ (iRef c) _ (q ns' hp hs c) (st.trans (Stp.newM (P := mLst (ns'.map iInt)) (o := .lst (ns'.map V.int)) st.e st.m hc ⟨_, rfl, gen _ ns'⟩)) rfl) ox
end L3

/-! a raising method that makes something; several told lists in what is told, asked and changed afterwards -/
namespace L3
open PySem PySem.Spec PyProof.Rows L2
section
variable {E : XK} {K : PySem.W.Frag} {Γ : Ct} {M : SH} {k : KR} {X : KX} {te ta : TE} {tr : TA} {C : Addr}
theorem ev_methXM {m : Str} {ts : TSp} (h : Ev E ta Γ M (fun R M1 => ∃ fs, HasO M1 R C fs ∧ fs.lookup m = none ∧ Ea E tr Γ M1 (fun Rs M2 => ∃ Rs', LeS (R :: Rs) Rs' ∧ ts Rs' M2 k X) X) X) : Ev E (tMeth C m (spT ts) [] E ta tr) Γ M k X := fun σ S H Q I o ox =>
  h σ S H _ I (fun v S1 H1 R M1 ⟨fs, ho, hm, q⟩ st p => by
    obtain ⟨a, dx, vs, e, ha, hi⟩ := ho.get st.e st.m p
    refine ⟨a, dx, vs, e, ha, (hi.look m).1 hm, q σ S1 H1 _ (I.step st) (fun xs S2 H2 Rs M2 ⟨Rs', le, q2⟩ st2 p2 => ?_) (ox.step st)⟩
    rw [List.append_nil]
    exact ⟨S2, Rs', M2, k, X, q2, st2.e, st2.m, le S2 (v :: xs) ⟨R.m st2.s p, p2⟩, o.step (st.trans st2), ox.step (st.trans st2)⟩) ox
end
abbrev DL := List (Addr × List Rep)
/-- the lists of D stand in S -/
def InD (D : DL) (S : Hp) : Prop := ∀ p ∈ D, ∃ ys, S p.1 = some (.lst ys) ∧ All2 S p.2 ys
/-- as it looks where the lists of D stand for good -/
def Vd (D : DL) (R R' : Rep) : Prop := ∀ (S S' : Hp) (v : V), Same S S' → InD D S' → R.p S v → R'.p S' v
def VdS (D : DL) (Rs Rs' : List Rep) : Prop := ∀ (S S' : Hp) (vs : List V), Same S S' → InD D S' → All2 S Rs vs → All2 S' Rs' vs
theorem vd_ref {D : DL} {a : Addr} {rs : List Rep} (h : (a, rs) ∈ D) : Vd D (iRef a) (iLst rs) := fun S S' v _ h1 p => by
  cases p
  obtain ⟨ys, h2, h3⟩ := h1 _ h
  exact ⟨a, ys, rfl, h2, h3⟩
theorem vd_rfl {D : DL} {R : Rep} : Vd D R R := fun S S' v e _ p => R.m e p
theorem vd_nil {D : DL} : VdS D [] [] := fun S S' vs _ _ p => by
  cases vs with
  | nil => exact True.intro
  | cons _ _ => exact p.elim
theorem vd_cons {D : DL} {Rs Rs' : List Rep} {R R' : Rep} (h : Vd D R R') (h2 : VdS D Rs Rs') : VdS D (R :: Rs) (R' :: Rs') := fun S S' vs e h3 p => by
  cases vs with
  | nil => exact p.elim
  | cons v vs => exact ⟨h S S' v e h3 p.1, h2 S S' vs e h3 p.2⟩
theorem vd_tup {K : PySem.W.Frag} {D : DL} {Rs Rs' : List Rep} (h : VdS D Rs Rs') : Vd D (aTup K Rs) (aTup K Rs') := fun S S' v e h3 p => by
  obtain ⟨b, xs, rfl, q1, q2⟩ := p
  exact ⟨b, xs, rfl, Same.sqt e q1, h S S' xs e h3 q2⟩
theorem vd_lst {D : DL} {Rs Rs' : List Rep} (h : VdS D Rs Rs') : Vd D (iLst Rs) (iLst Rs') := fun S S' v e h3 p => by
  obtain ⟨b, xs, rfl, q1, q2⟩ := p
  exact ⟨b, xs, rfl, e _ _ q1, h S S' xs e h3 q2⟩
def frD (S H : Hp) (D : DL) : Hp := fun b => if b ∈ D.map (·.1) then H b else S b
def drD (S : Hp) (D : DL) : Hp := fun b => if b ∈ D.map (·.1) then none else S b
section
variable {E : XK} {K : PySem.W.Frag} {Γ : Ct} {M : SH} {k : KR} {X : KX} {tr : TA}
/-- a def that only reckons a truth, asked of what holds lists that are changed later -/
theorem ev_callVd {α : Type} {args : α → List Rep} {pre : α → Prop} {c : α → Bool} (h : Ea E tr Γ M (fun Rs M1 => ∃ (D : DL) (Rs' : List Rep) (x : α), (∀ p ∈ D, (p.1, mLst p.2) ∈ M1) ∧ VdS D Rs Rs' ∧ LeS Rs' (args x) ∧ pre x ∧ k (iBl (c x)) M1) X) :
    Ev E (tCall (spT (pureTs args pre fun x => iBl (c x))) [] E0 tr) Γ M k X := fun σ S H Q I o ox =>
  h σ S H _ I (fun xs S1 H1 Rs M1 ⟨D, Rs', x, hm, vw, le, hp, q⟩ st p => by
    rw [List.append_nil]
    have at0 : ∀ b, b ∈ D.map (·.1) → S1 b = none ∧ ∃ rs ys, (b, rs) ∈ D ∧ H1 b = some (.lst ys) ∧ All2 S1 rs ys := fun b hb => by
      obtain ⟨⟨b', rs⟩, hD, rfl⟩ := List.mem_map.mp hb
      obtain ⟨hS, ob, ho, ys, rfl, al⟩ := st.m.at_ b' (mLst rs) (hm (b', rs) hD)
      exact ⟨hS, rs, ys, hD, ho, al⟩
    have nin : ∀ b o, S1 b = some o → b ∉ D.map (·.1) := fun b o q z => by rw [(at0 b z).1] at q; cases q
    have sm : Same S1 (frD S1 H1 D) := fun b o q => by
      show (if b ∈ D.map (·.1) then H1 b else S1 b) = _
      rw [if_neg (nin b o q)]; exact q
    have e1 : Same (frD S1 H1 D) H1 := fun b o q => by
      by_cases hb : b ∈ D.map (·.1)
      · rw [show frD S1 H1 D b = H1 b from if_pos hb] at q; exact q
      · rw [show frD S1 H1 D b = S1 b from if_neg hb] at q; exact st.e _ _ q
    have ind : InD D (frD S1 H1 D) := fun p hp => by
      obtain ⟨hS, ob, ho, ys, rfl, al⟩ := st.m.at_ p.1 (mLst p.2) (hm p hp)
      exact ⟨ys, (show frD S1 H1 D p.1 = H1 p.1 from if_pos (List.mem_map.mpr ⟨p, hp, rfl⟩)).trans ho, al.mono sm⟩
    refine ⟨frD S1 H1 D, args x, [], fun R M2 => R = iBl (c x) ∧ M2 = [], X0, ⟨x, rfl, hp, rfl, rfl, rfl⟩, e1, ⟨fun _ _ z => (by cases z), List.nodup_nil⟩, ?_, ?_, fun _ _ _ _ _ _ z => z.elim⟩
    · exact le _ _ (vw _ _ _ sm ind p)
    · rintro v S2 H2 R M2 ⟨rfl, rfl⟩ st2 pv
      cases pv
      have f2 : ∀ b o, H1 b = some o → H2 b = some o := fun b o q => st2.fr b o (by simp [dm]) q
      have dn : ∀ {b}, b ∉ D.map (·.1) → drD S2 D b = S2 b := fun hb => if_neg hb
      have dy : ∀ {b}, b ∈ D.map (·.1) → drD S2 D b = none := fun hb => if_pos hb
      have fn_ : ∀ {b}, b ∉ D.map (·.1) → frD S1 H1 D b = S1 b := fun hb => if_neg hb
      have s2 : Same S1 (drD S2 D) := fun b o q => by
        rw [dn (nin b o q)]
        exact st2.s _ _ (sm _ _ q)
      refine (o.step st) _ (drD S2 D) H2 (iBl (c x)) M1 q ⟨s2, fun b o q => ?_, fun b h1 h2 => ?_, fun b o _ q => f2 b o q, ⟨fun b P hb => ?_, st.m.nd⟩, fun b hb => .inl hb⟩ rfl
      · by_cases hb : b ∈ D.map (·.1)
        · rw [dy hb] at q; cases q
        · rw [dn hb] at q; exact st2.e _ _ q
      · by_cases hb : b ∈ D.map (·.1)
        · rw [dy hb] at h2; exact absurd rfl h2
        · rw [dn hb] at h2
          rcases st2.new b (by rw [fn_ hb]; exact h1) h2 with z | z
          · exact .inl z
          · simp [dm] at z
      · obtain ⟨z, o2, q1, q2⟩ := st.m.at_ b P hb
        refine ⟨?_, o2, f2 _ _ q1, P.m s2 q2⟩
        by_cases hb2 : b ∈ D.map (·.1)
        · exact dy hb2
        · rw [dn hb2]
          cases hs : S2 b with
          | none => rfl
          | some u =>
            rcases st2.new b (by rw [fn_ hb2]; exact z) (by rw [hs]; exact fun c => by cases c) with w | w
            · obtain ⟨xs, e⟩ := w o2 q1
              exact absurd e (P.nt q2 xs)
            · simp [dm] at w) ox
end
/-! a list becomes stable amid an expression -/
section
variable {E : XK} {Γ Γ' : Ct} {M M' : SH} {k : KR} {X : KX} {te : TE}
theorem ev_turn (t : TurnC Γ M Γ' M') (h : Ev E te Γ' M' k X) : Ev E te Γ M k X := fun σ S H Q I o ox => by
  obtain ⟨S', st, I'⟩ := t S H σ I
  exact h σ S' H Q I' (o.step st) (ox.step st)
theorem turn_told {i j : Nat} {a : Addr} {rs : List Rep} (hj : Γ[j]? = some (some (iRef a))) (hm : M[i]? = some (a, mLst rs)) : TurnC Γ M (Γ.set j (some (iLst rs))) (M.eraseIdx i) := fun S H σ I => by
  obtain ⟨_, ob, ho, xs, rfl, px⟩ := I.m.at_ a (mLst rs) (at_mem hm)
  have f := Stp.fzAt hm I.ex I.m ho
  have I2 := I.step f
  obtain ⟨v, h1, h2⟩ := I.sl j _ hj
  cases h2
  refine ⟨_, f, I2.ex, by rw [List.length_set]; exact I2.len, fun n R e => ?_, I2.m⟩
  by_cases hn : j = n
  · subst hn
    have hl : j < Γ.length := (List.getElem?_eq_some_iff.mp hj).1
    rw [List.getElem?_set_self hl] at e
    cases e
    exact ⟨.ref a, h1, a, xs, rfl, upd_same, px.mono f.s⟩
  · rw [List.getElem?_set_ne hn] at e
    exact I2.sl n R e
end
end L3

/-! len of an object whose class has its own __len__ -/
namespace L3
open PySem PySem.Spec PyProof.Rows L2
def rLenO (C : Addr) (sp : Sp) (E : XK) : List V → Hp → VK → Prop := fun xs H Q => ∃ a dx fs, xs = [V.ref a] ∧ H a = some (.ins C dx fs) ∧ sp [V.ref a] H (fun v H' => ∃ n : Nat, v = .int n ∧ n ≤ 1000000 ∧ Q (.int n) H') E
section
variable {X : Cx} {CX : CXT} {C : Addr} {k j : Nat} {ts : TSp} {E : XK}
theorem call_lenO (c : ClM X.prog X.w X.K X.mg X.base CX k C "__len__" ts []) (hr : Room j X.A) (hk : k + 1 ≤ j) (hx : Passes CX X E) : CallR X (.builtin "len") (rLenO C (spT ts) E) := by
  intro pins s σ H xs us Q I r h
  obtain ⟨a, dx, fs, rfl, ha, hsp⟩ := h
  obtain ⟨f, fd, ps, ds, F, hm, b, d⟩ := c.ex
  obtain rfl := Vals.ref1 r
  obtain ⟨mA, J, _⟩ := ins_get I.hok ha
  obtain ⟨od, J, _⟩ := J.look
  obtain ⟨m, hF⟩ := I.fr
  have r2 : Vals [V.ref a] ([Value.ref a] ++ ds) := Vals.append (Paired.cons rfl .nil : Vals [V.ref a] [Value.ref a]) d
  have hl : ([Value.ref a] ++ ds).length = ps.length := by rw [← r2.length]; exact F.len _ _ _ _ hsp
  have hr1 : Room k X.A.in1 := Room.in1 (hr.mono hk)
  have e1 := I.env0.in1
  have hb := b s [Value.ref a] I.kIn hl
  have hrun := F.run X.A.in1 X.stack s H ⟨[Value.ref a], []⟩ ([Value.ref a] ++ ds) [V.ref a] (fun v H' => ∃ n : Nat, v = .int n ∧ n ≤ 1000000 ∧ Q (.int n) H') E hr1 e1 hb r2 hsp
  have main : wpAny (model X.prog X.w) X.A.in1 (call (.ref f) [.ref a]) (EP X pins σ (fun v H' => ∃ n : Nat, v = .int n ∧ n ≤ 1000000 ∧ Q (.int n) H')) X.xe s := by
    refine wpAny_call ?_
    refine codeAny_mono hrun fun r s' hq => ?_
    cases r with
    | error e => exact hx pins σ H s e s' I hq
    | ok fl =>
      cases fl with
      | ret w => exact I.after hq
      | next => exact False.elim hq
      | brk => exact False.elim hq
      | cont => exact False.elim hq
  refine PySem.W.len_K hF I.ok.mod.kin J hm.at_ hm.fn (wpAny_mono main (fun v s' z => ?_) fun _ _ y => y)
  obtain ⟨z, H', I', rz, n, ez, hn, q⟩ := z
  subst ez
  obtain ⟨t, rfl⟩ := (show ∃ t, v = Value.int n t from rz)
  refine ⟨⟨Int.natCast_nonneg n, ?_⟩, .int n, H', I'.tok _, ⟨_, rfl⟩, q⟩
  exact Int.lt_of_le_of_lt (Int.ofNat_le.mpr hn) (by decide +kernel)
end
theorem ol_lenO {C : Addr} {ts : TSp} {M : SH} {R : Rep} {k : KR} {fs : FR} (ho : HasO M R C fs) (q : ts [R] M (fun R' M' => ∃ n : Nat, R' = iInt n ∧ n ≤ 1000000 ∧ k (iInt n) M') X0) : Ol (rLenO C (spT ts) E0) [R] M k := fun xs S H Q e m p o => by
  obtain ⟨v, rfl, hv⟩ := all2_1 p
  obtain ⟨a, dx, vs, rfl, ha, hi⟩ := ho.get e m hv
  refine ⟨a, dx, vs, rfl, ha, S, [R], M, _, X0, q, e, m, ⟨hv, True.intro⟩, fun v S2 H2 R M2 ⟨n, eR, hn, q2⟩ st p => ?_, fun _ _ _ _ _ _ z => z.elim⟩
  subst eR; cases p
  exact ⟨n, rfl, hn, o _ S2 H2 (iInt n) M2 q2 st rfl⟩
end L3

/-! dicts whose keys are tuples: walked, made of a list of pairs -/
namespace L3
open PySem PySem.Spec PyProof.Rows L2
section
variable {E : XK} {Γ : Ct} {M : SH} {td : TE}
theorem DtOk.atT {S : Hp} {kvs : KRs} {ws : List (List Key × V)} (h : DtOk S kvs ws) {i : Nat} {ks : List Key} {v : V} (e : ws[i]? = some (ks, v)) : ∃ p, kvs[i]? = some p ∧ ks = p.1 := by
  have h1 : (ws.map (·.1))[i]? = some ks := by rw [List.getElem?_map, e]; rfl
  rw [h.nm, List.getElem?_map] at h1
  cases hp : kvs[i]? with
  | none => rw [hp] at h1; cases h1
  | some p => rw [hp] at h1; exact ⟨p, rfl, (Option.some.inj h1).symm⟩
theorem tip_keysT {kvs : KRs} (h : Ep E td Γ M (iDT kvs)) : Tip E (iKeys td) Γ M kvs.length (fun i r => ∃ p, kvs[i]? = some p ∧ r = aKey p.1) := fun ki X q σ S H R I o ox =>
  h (fun R' M' => R' = iDT kvs ∧ M' = M) X ⟨rfl, rfl⟩ σ S H _ I (fun v S2 H2 R' M2 ⟨e1, e2⟩ st p => by
    subst e1; subst e2
    obtain ⟨d, od, ws, rfl, hd, ok⟩ := p
    refine ⟨d, od, rfl, .inr ⟨ws, st.e _ _ hd, o _ S2 H2 _ _ _ q st ⟨fun H => H d = some (.frz od (.dT ws)), fun i H x H' => H' = H ∧ ∃ (k : List Key) (v : V) (q : Addr), ws[i]? = some (k, v) ∧ x = .ref q ∧ H q = some (.tup (k.map kV)), ?_, fun Sx H e1 e2 => (e1.trans e2) _ _ hd, ?_⟩⟩⟩
    · have w := walk_keysT (d := d) (o := od) (kvs := ws)
      rw [ok.len] at w
      exact w
    · rintro i H x H' hi ⟨rfl, k, v, q, hw, rfl, hq⟩ Sx Mx e1 e2 m
      obtain ⟨p, hp, rfl⟩ := ok.atT hw
      exact ⟨_, _, Stp.growT e2 m [q] (fun b hb => by rw [List.mem_singleton.mp hb]; exact ⟨_, hq⟩), ⟨p, hp, rfl⟩, ⟨q, rfl, (if_pos (List.mem_singleton.mpr rfl)).trans hq⟩⟩) ox
end
def mergeT (acc : List (List Key × V)) (ps : List (List Key × V)) : List (List Key × V) := ps.foldl (fun a p => putK a p.1 p.2) acc
theorem mergeT_len (ps : List (List Key × V)) : ∀ acc, (mergeT acc ps).length ≤ acc.length + ps.length := by
  induction ps with
  | nil => intro acc; exact Nat.le_refl _
  | cons p ps ih =>
    intro acc
    have h1 := ih (putK acc p.1 p.2)
    have h2 := length_putK acc p.1 p.2
    show (mergeT (putK acc p.1 p.2) ps).length ≤ _
    rw [List.length_cons]
    omega
theorem kt_merge {H : Hp} : ∀ {ps : List (List Key × Addr × Value)} {kvs : List (List Key × V)} {acc : List (List Key × V)} {xs : List (List Key × Addr × Value)}, KT H kvs ps → KT H acc xs → KT H (mergeT acc kvs) (storedAllH xs ps)
  | _, _, _, _, .nil, r => r
  | _, _, _, _, .cons (a := p) (b := q) h t, r => by
    show KT _ (mergeT (putK _ p.1 p.2) _) (storedAllH (storedH _ q.1 q.2.1 q.2.2) _)
    refine kt_merge t ?_
    rw [← h.1]
    exact r.put p.1 h.2.1 h.2.2
theorem hu2_of {A : Around} {k : Nat} (hr : Room k A) : A.units + 2 < cLine := by have := hr.un; omega
abbrev PrT := Addr × Addr × List Key × V
def rDictPT (K : PySem.W.Frag) : List V → Hp → VK → Prop := fun xs H Q => ∃ (a : Addr) (L : List PrT), xs = [V.ref a] ∧ SqL K H a (L.map fun q => V.ref q.1) ∧
  (∀ q ∈ L, SqT K H q.1 [V.ref q.2.1, q.2.2.2] ∧ H q.2.1 = some (.tup (q.2.2.1.map kV))) ∧ ∀ p, H p = none → Q (.ref p) (upd H p (.dT (mergeT [] (L.map fun q => q.2.2))))
section
variable {X : Cx}
theorem prs_of {pins : List (Addr × Obj)} {σ : L2.St} {H : Hp} {s : Shared} (I : Inv X pins σ H s) : ∀ {L : List PrT}, (∀ q ∈ L, SqT X.K H q.1 [V.ref q.2.1, q.2.2.2] ∧ H q.2.1 = some (.tup (q.2.2.1.map kV))) →
    ∃ ps : List (List Key × Addr × Value), KT H (L.map fun q => q.2.2) ps ∧ ps.length = L.length ∧ ∀ (j : Nat) (x : List Key × Addr × Value), ps[j]? = some x → ∃ q, L[j]? = some q ∧ s.heap.IsTuple q.1 #[.ref x.2.1, x.2.2]
  | [], _ => ⟨[], .nil, rfl, fun j x e => by simp at e⟩
  | q :: L, h => by
    obtain ⟨ps, r, hl, hp⟩ := prs_of I fun q hq => h q (List.mem_cons_of_mem _ hq)
    obtain ⟨h1, h2⟩ := h q (List.mem_cons_self ..)
    obtain ⟨its, rv, ⟨o, t1, t2, n, t3⟩, _⟩ := I.tuple h1
    obtain ⟨u, y, ei, ru, ry⟩ := vals2 rv
    subst ei
    cases (show u = Value.ref q.2.1 from ru)
    refine ⟨(q.2.2.1, q.2.1, y) :: ps, .cons ⟨rfl, h2, ry⟩ r, by rw [List.length_cons, List.length_cons, hl], fun j x e => ?_⟩
    cases j with
    | zero =>
      cases (Option.some.inj e)
      exact ⟨q, rfl, o, t1, t2, n, t3⟩
    | succ j =>
      obtain ⟨q', e1, e2⟩ := hp j x (by simpa using e)
      exact ⟨q', by simpa using e1, e2⟩
theorem call_dictPT (hcalm : X.calm = true) (hu : X.A.units + 2 < cLine) : CallR X (.type "dict") (rDictPT X.K) := by
  intro pins s σ H xs us Q I r ⟨a, L, ex, hq, hp, q⟩
  subst ex
  obtain rfl := Vals.ref1 r
  obtain ⟨its, rv, pl, hz⟩ := I.list hq
  rw [show (L.map fun q => V.ref q.1) = (L.map (·.1)).map V.ref from by rw [List.map_map]; rfl] at rv
  have ei := refs_at rv
  subst ei
  rw [List.length_map] at hz
  obtain ⟨ps, kt, hl, hpr⟩ := prs_of I hp
  obtain ⟨o, n, ho, hc, hd, hdat⟩ := pl
  have hst : ∀ h' : Heap, (∀ b o, s.heap.get? b = some o → h'.get? b = some o) → ∀ x ∈ ps, (tupleKind (mixKind X.prog X.w)).is h' x.1 x.2.1 := fun h' hk x hx => by
    have gen : ∀ {l : List (List Key × V)} {m : List (List Key × Addr × Value)}, KT H l m → ∀ x ∈ m, H x.2.1 = some (.tup (x.1.map kV)) := by
      intro l m q
      induction q with
      | nil => intro x hx; exact nomatch hx
      | cons hq t ih =>
        intro x hx
        rcases List.mem_cons.mp hx with e | hx
        · subst e; rw [← hq.1]; exact hq.2.1
        · exact ih x hx
    obtain ⟨o, arr, n, h1, h2, h3, h4⟩ := key_of (P := X.prog) (w := X.w) I.hok (gen kt x hx)
    exact ⟨o, arr, n, hk _ _ h1, h2, h3, h4⟩
  refine call_dict_pairsH (knd := tupleKind (mixKind X.prog X.w)) (ps := ps) (PairArg.list a ((L.map (·.1)).map Value.ref).toArray (fun j => (L.map (·.1)).getD j 0) (ps.map fun x => (Value.ref x.2.1, x.2.2))) (I.ok.hd hcalm) hu ⟨⟨o, n, ho, hc, hd, hdat⟩, by simp [hl], fun j k v e => ?_⟩ ⟨by simp, fun i key v e => ?_⟩ (fun h' hk x hx => hst h' (fun b o e => hk b o (Nat.ne_of_lt (Heap.lt_size e)) (by simp) e) x hx) (by rw [List.length_map, hl]; exact hz) fun h' tk hd' k => ?_
  · rw [List.getElem?_map] at e
    cases hx : ps[j]? with
    | none => rw [hx] at e; cases e
    | some x =>
      rw [hx] at e
      obtain ⟨q', e1, e2⟩ := hpr j x hx
      have e3 : (Value.ref x.2.1, x.2.2) = (k, v) := Option.some.inj e
      cases e3
      have e4 : (L.map (·.1))[j]? = some q'.1 := by rw [List.getElem?_map, e1]; rfl
      refine ⟨?_, ?_⟩
      · rw [List.getElem?_toArray, List.getElem?_map, e4]
        show some (Value.ref q'.1) = some (Value.ref ((L.map (·.1)).getD j 0))
        rw [List.getD_eq_getElem?_getD, e4]
        rfl
      · show PairAt _ ((L.map (·.1)).getD j 0) _ _
        rw [List.getD_eq_getElem?_getD, e4]
        exact .inl e2
  · rw [show PairRel (ps.map fun x => (Value.ref x.2.1, x.2.2)) i key v = ((ps.map fun x => (Value.ref x.2.1, x.2.2))[i]? = some (key, v)) from rfl, List.getElem?_map] at e
    cases hx : ps[i]? with
    | none => rw [hx] at e; cases e
    | some x =>
      rw [hx] at e
      have e3 : (Value.ref x.2.1, x.2.2) = (key, v) := Option.some.inj e
      cases e3
      exact ⟨x.1, x.2.1, rfl, rfl⟩
  · have hm : (s.heap.objs.size == sysModules) = false := beq_eq_false_iff_ne.mpr (Nat.ne_of_gt I.big)
    have hlen : (mergeT [] (L.map fun q => q.2.2)).length ≤ sizeLine := by
      refine Nat.le_trans (mergeT_len _ []) ?_
      rw [List.length_nil, Nat.zero_add, List.length_map]
      exact hz
    have fr : H s.heap.objs.size = none := I.hok.fresh (Nat.le_refl _)
    obtain ⟨o2, es, ep, d1, d2, d3, d4, d5, d6⟩ := hd'
    have kk : ∀ b o, s.heap.get? b = some o → h'.get? b = some o := fun b o e => k b o (by simp) e
    have km : KT (upd H s.heap.objs.size (.dT (mergeT [] (L.map fun q => q.2.2)))) (mergeT [] (L.map fun q => q.2.2)) (storedAllH [] ps) :=
      KT.keeps (kt_merge kt .nil) fun b ys e => by rw [upd_ne (fun z => by rw [z, fr] at e; cases e)]; exact e
    exact ⟨.ref s.heap.objs.size, upd H s.heap.objs.size (.dT (mergeT [] (L.map fun q => q.2.2))), I.laid (t' := tk) kk (Nat.le_refl _) (show ObjOk X.prog X.w _ _ _ (.dT _) from ⟨hlen, hm, storedAllH [] ps, km, o2, es, ep, d1, d2, d3, d4, d6⟩), rfl, q _ fr⟩
end
/-! .. typed -/
def mergeR (acc : KRs) (cs : KRs) : KRs := cs.foldl (fun a c => putT a c.1 c.2) acc
theorem mergeR_len (cs : KRs) : ∀ acc, (mergeR acc cs).length ≤ acc.length + cs.length := by
  induction cs with
  | nil => intro acc; exact Nat.le_refl _
  | cons c cs ih =>
    intro acc
    have h1 := ih (putT acc c.1 c.2)
    have h2 := putT_len acc c.1 c.2
    show (mergeR (putT acc c.1 c.2) cs).length ≤ _
    rw [List.length_cons]
    omega
theorem dtOk_merge {S : Hp} : ∀ {cs : KRs} {ws : List (List Key × V)} {acc : KRs} {as : List (List Key × V)}, ws.map (·.1) = cs.map (·.1) → All2 S (cs.map (·.2)) (ws.map (·.2)) → DtOk S acc as → DtOk S (mergeR acc cs) (mergeT as ws)
  | [], [], _, _, _, _, h => h
  | [], w :: ws, _, _, e, _, _ => by cases e
  | c :: cs, [], _, _, e, _, _ => by cases e
  | c :: cs, w :: ws, acc, as, e, al, h => by
    have e1 : w.1 = c.1 := (List.cons.inj e).1
    show DtOk S (mergeR (putT acc c.1 c.2) cs) (mergeT (putK as w.1 w.2) ws)
    refine dtOk_merge (List.cons.inj e).2 al.2 ?_
    rw [e1]
    exact h.put al.1
theorem prs_all {K : PySem.W.Frag} {S : Hp} : ∀ {cs : KRs} {ys : List V}, All2 S (cs.map fun c => aTup K [aKey c.1, c.2]) ys → ∃ L : List PrT, ys = L.map (fun q => V.ref q.1) ∧
    (∀ q ∈ L, SqT K S q.1 [V.ref q.2.1, q.2.2.2] ∧ S q.2.1 = some (.tup (q.2.2.1.map kV))) ∧ (L.map fun q => q.2.2).map (·.1) = cs.map (·.1) ∧ All2 S (cs.map (·.2)) ((L.map fun q => q.2.2).map (·.2))
  | [], [], _ => ⟨[], rfl, fun q h => (nomatch h), rfl, True.intro⟩
  | [], _ :: _, h => h.elim
  | _ :: _, [], h => h.elim
  | c :: cs, y :: ys, h => by
    obtain ⟨L, e1, e2, e3, e4⟩ := prs_all h.2
    obtain ⟨p, xs, rfl, hs, al⟩ := h.1
    match xs, al with
    | [x1, x2], al =>
      obtain ⟨b, rfl, hb⟩ := al.1
      refine ⟨(p, b, c.1, x2) :: L, by rw [e1]; rfl, fun q hq => ?_, by simp only [List.map_cons]; rw [← e3], ⟨al.2.1, e4⟩⟩
      rcases List.mem_cons.mp hq with rfl | hq
      · exact ⟨hs, hb⟩
      · exact e2 q hq
    | [], al => exact al.elim
    | [_], al => exact al.2.elim
    | _ :: _ :: _ :: _, al => exact al.2.2.elim
theorem ol_dictPT {K : PySem.W.Frag} {M : SH} {k : KR} {cs : KRs} (q : ∀ a, k (iRef a) (M ++ [(a, mDT (mergeR [] cs))])) : Ol (rDictPT K) [iLst (cs.map fun c => aTup K [aKey c.1, c.2])] M k := fun xs S1 H1 Q se sm p o => by
  obtain ⟨v, rfl, a, ys, rfl, h1, h2⟩ := all2_1 p
  obtain ⟨L, e1, e2, e3, e4⟩ := prs_all h2
  refine ⟨a, L, rfl, ?_, fun x hx => ⟨Same.sqt se (e2 x hx).1, se _ _ (e2 x hx).2⟩, fun l hl => ?_⟩
  · rw [← e1]
    exact SqL.of (se _ _ h1)
  have st := Stp.refl se sm
  exact o (.ref l) _ _ (iRef l) _ (q l) (st.trans (Stp.newM (P := mDT (mergeR [] cs)) (o := .dT (mergeT [] (L.map fun q => q.2.2))) se sm hl ⟨_, rfl, dtOk_merge e3 e4 ⟨rfl, True.intro⟩⟩)) rfl
/-! a raising def called by a keyword -/
section
variable {E : XK} {K : PySem.W.Frag} {Γ : Ct} {M : SH} {k : KR} {X : KX} {tr tk : TA}
theorem ev_callNX {sp : List Rep → (Rep → Prop) → (XR → Prop) → Prop} {n m : Nat} (h : Ea E tr Γ M (fun Rs M1 => Rs.length = n ∧ Ea E tk Γ M1 (fun Zs M2 => Zs.length = m ∧ ∃ Rs', LeS (Rs ++ Zs) Rs' ∧ sp Rs' (fun R => k R M2) fun x => X x M2) X) X) : Ev E (tCallN n m (spT (pureX sp)) (fun vs zs => vs ++ zs) E tr tk) Γ M k X := fun σ S H Q I o ox =>
  h σ S H _ I (fun vs S1 H1 Rs M1 ⟨e1, q⟩ st p => q σ S1 H1 _ (I.step st) (fun zs S2 H2 Zs M2 ⟨e2, Rs', le, q2⟩ st2 p2 => by
    refine ⟨p.len.trans e1, p2.len.trans e2, ?_⟩
    exact spT_in (Mf := []) (Fr := M2) (Rs := Rs') (X := X) (k := k) ⟨rfl, q2⟩ st2.e st2.m (le S2 _ ((p.mono st2.s).app p2)) (o.step (st.trans st2)) (ox.step (st.trans st2))) (ox.step st)) ox
end
end L3

/-! a dict of the module, text keys, tuples of texts behind them -/
namespace L3
open PySem PySem.Spec PyProof.Rows L2
structure KdT (K : PySem.W.Frag) (w : World) (d : Addr) (l : List (Str × List Str)) : Prop where
  kd : ∃ es n, KDict K w d es n
  no : ∀ z, z ∉ l.map (·.1) → PySem.W.nsIn K d z = some none
  yes : ∀ p ∈ l, ∃ t, PySem.W.nsIn K d p.1 = some (some (.ref t)) ∧ ∀ S, (aTup K (p.2.map aStr)).p S (.ref t)
theorem kd_no {K : PySem.W.Frag} {w : World} {d : Addr} {ks : List Str} (h : He.dicW K d = some (He.keysIn w.params ks)) {z : Str} (hz : z ∉ ks) : PySem.W.nsIn K d z = some none := by
  obtain ⟨es, n, D⟩ := He.dicW_ok h
  have hk : es.toList.map He.keyOf = He.keysIn w.params ks := by
    unfold He.dicW at h
    rw [D.at_] at h
    simp only at h
    split at h
    · exact Option.some.inj h
    · cases h
  unfold PySem.W.nsIn
  rw [D.at_]
  simp only
  have gen : ∀ (l : List DictEntry) (ks : List Str), l.map He.keyOf = He.keysIn w.params ks → z ∉ ks → l.find? (·.key.isStr z) = none ∧ l.any (·.refKey) = false := by
    intro l
    induction l with
    | nil => intro ks _ _; exact ⟨rfl, rfl⟩
    | cons e l ih =>
      intro ks hl hn
      cases ks with
      | nil => cases hl
      | cons k ks =>
        have h1 : He.keyOf e :: l.map He.keyOf = some (k, PyData.keyHash w.params k) :: He.keysIn w.params ks := hl
        injection h1 with h2 h3
        obtain ⟨i1, i2⟩ := ih ks h3 fun m => hn (List.mem_cons_of_mem _ m)
        have hne : z ≠ k := fun m => hn (m ▸ List.mem_cons_self ..)
        obtain ⟨x, t, hx, hxk⟩ : ∃ x t, e.key = .str x t ∧ x = k := by
          unfold He.keyOf at h2
          split at h2
          · rename_i x t q
            exact ⟨x, t, q, (Prod.mk.inj (Option.some.inj h2)).1⟩
          · cases h2
        subst hxk
        have a1 : e.key.isStr z = false := by
          rw [hx]
          show (x == z) = false
          exact beq_eq_false_iff_ne.mpr fun m => hne m.symm
        have a2 : e.refKey = false := by
          unfold DictEntry.refKey
          rw [hx]
        rw [List.find?_cons, a1, List.any_cons, a2]
        exact ⟨i1, i2⟩
  obtain ⟨g1, g2⟩ := gen es.toList ks hk hz
  rw [g1, g2]
  rfl
def rNinKd (K : PySem.W.Frag) (d : Addr) : L2.R2 := fun x y H Q => ∃ (z : Str) (r : Option Value), x = .str z ∧ y = .ref d ∧ PySem.W.nsIn K d z = some r ∧ Q (.bl (!r.isSome)) H
theorem op_ninKd {X : Cx} {d : Addr} {l : List (Str × List Str)} (h : KdT X.K X.w d l) : OpR X (compareOp .NotIn) (rNinKd X.K d) := by
  obtain ⟨es, n, D⟩ := h.kd
  exact op_notIn_kd D
section
variable {K : PySem.W.Frag} {w : World} {M : SH} {d : Addr} {l : List (Str × List Str)}
theorem o_ninKd {z : Str} (h : KdT K w d l) : O2p (rNinKd K d) (aStr z) (iRef d) M (iBl (!decide (z ∈ l.map (·.1)))) := o2_val fun x y S H e _ h1 h2 => by
  cases h1; cases h2
  by_cases hz : z ∈ l.map (·.1)
  · obtain ⟨p, hp, rfl⟩ := List.mem_map.mp hz
    obtain ⟨t, ht, _⟩ := h.yes p hp
    exact ⟨_, rfl, fun Q q => ⟨p.1, _, rfl, rfl, ht, by rw [decide_eq_true hz] at q; exact q⟩⟩
  · exact ⟨_, rfl, fun Q q => ⟨z, _, rfl, rfl, h.no z hz, by rw [decide_eq_false hz] at q; exact q⟩⟩
theorem o_ixKd {p : Str × List Str} (h : KdT K w d l) (hp : p ∈ l) : O2p (rIxD K w) (iRef d) (aStr p.1) M (aTup K (p.2.map aStr)) := o2_val fun x y S H e _ h1 h2 => by
  cases h1; cases h2
  obtain ⟨t, ht, hs⟩ := h.yes p hp
  obtain ⟨es, n, D⟩ := h.kd
  exact ⟨.ref t, hs _, fun Q q => ⟨d, p.1, .ref t, rfl, rfl, ⟨es, n, _, D.at_, D.lit, ht, rfl⟩, q⟩⟩
theorem ev_refC {E : XK} {Γ : Ct} {k : KR} {X : KX} (h : k (iRef d) M) : Ev E (tC (V.ref d)) Γ M k X := fun σ S H Q I o ox => o (.ref d) S H (iRef d) M h (Stp.refl I.ex I.m) rfl
end
/-- a tuple of the module that holds texts -/
theorem kd_tup1 {K : PySem.W.Frag} {t : Addr} {a : Str} {tk : Tok} {od : Option Addr} {n : Nat} {sl : Array (Option Value)} (h : K.lookup t = some ⟨.type "tuple", od, .seq #[.str a tk] n, sl⟩) (S : Hp) : (aTup K ([a].map aStr)).p S (.ref t) :=
  ⟨t, [.str a], rfl, .inr ⟨_, _, n, h, rfl, rfl, by show 1 ≤ sizeLine; decide, .cons ⟨tk, rfl⟩ .nil⟩, rfl, True.intro⟩
theorem kd_tup2 {K : PySem.W.Frag} {t : Addr} {a b : Str} {tk tk2 : Tok} {od : Option Addr} {n : Nat} {sl : Array (Option Value)} (h : K.lookup t = some ⟨.type "tuple", od, .seq #[.str a tk, .str b tk2] n, sl⟩) (S : Hp) : (aTup K ([a, b].map aStr)).p S (.ref t) :=
  ⟨t, [.str a, .str b], rfl, .inr ⟨_, _, n, h, rfl, rfl, by show 2 ≤ sizeLine; decide, .cons ⟨tk, rfl⟩ (.cons ⟨tk2, rfl⟩ .nil)⟩, rfl, rfl, True.intro⟩
/-- [] or y -/
theorem ev_orNil {E : XK} {K : PySem.W.Frag} {Γ : Ct} {M : SH} {k : KR} {X : KX} {ta tb : TE} (h : Ev E ta Γ M (fun R M1 => R = iLst [] ∧ Ev E tb Γ M1 k X) X) : Ev E (tOrT K ta tb) Γ M k X := fun σ S H Q I o ox =>
  h σ S H _ I (fun v S1 H1 R M1 ⟨e, q⟩ st p => by
    subst e
    obtain ⟨a, xs, rfl, h1, h2⟩ := p
    cases xs with
    | cons x xs => exact h2.elim
    | nil => exact ⟨false, .inl ⟨[], SqL.of (st.e _ _ h1), rfl⟩, by rw [if_neg (by decide)]; exact q σ S1 H1 Q (I.step st) (o.step st) (ox.step st)⟩) ox
end L3

/-! wheels and rests -/
namespace Dk
theorem gcd_pos_of {a b : Nat} (h : 0 < a) : 0 < Nat.gcd a b := Nat.gcd_pos_of_pos_left b h
/-- the common number of two rests -/
theorem crt_ok {size step : Nat} (hs : 0 < size) (ht : 0 < step) {rest more inv : Int} (hd : (more - rest) % (Nat.gcd size step : Int) = 0)
    (hi : (((size / Nat.gcd size step : Nat) : Int) * inv) % ((step / Nat.gcd size step : Nat) : Int) = 1 % ((step / Nat.gcd size step : Nat) : Int)) :
    (rest + size * ((more - rest) / (Nat.gcd size step : Int) * inv % ((step / Nat.gcd size step : Nat) : Int))) % size = rest % size ∧
    (rest + size * ((more - rest) / (Nat.gcd size step : Int) * inv % ((step / Nat.gcd size step : Nat) : Int))) % step = more % step := by
  refine bx_of ?_
  simp (disch := with_unfolding_all (
    generalize hg : Nat.gcd size step = g at *
    have gp : 0 < g := hg ▸ gcd_pos_of hs
    obtain ⟨s', hs'⟩ : g ∣ size := hg ▸ Nat.gcd_dvd_left size step
    obtain ⟨l, hl⟩ : g ∣ step := hg ▸ Nat.gcd_dvd_right size step
    have e1 : size / g = s' := by rw [hs']; exact Nat.mul_div_cancel_left s' gp
    have e2 : step / g = l := by rw [hl]; exact Nat.mul_div_cancel_left l gp
    rw [e1, e2] at hi
    rw [e2]
    obtain ⟨d, hd'⟩ : (g : Int) ∣ more - rest := Int.dvd_of_emod_eq_zero hd
    have e3 : (more - rest) / (g : Int) = d := by rw [hd']; exact Int.mul_ediv_cancel_left d (by omega)
    rw [e3]
    refine ⟨by rw [Int.add_mul_emod_self_left], ?_⟩
    apply Int.emod_eq_emod_iff_emod_sub_eq_zero.mpr
    apply Int.emod_eq_zero_of_dvd
    obtain ⟨c, hc⟩ : (l : Int) ∣ (s' : Int) * inv - 1 := Int.dvd_of_emod_eq_zero (Int.emod_eq_emod_iff_emod_sub_eq_zero.mp hi)
    have hq := Int.emod_add_mul_ediv (d * inv) l
    generalize d * inv / (l : Int) = q at hq
    generalize hr : d * inv % (l : Int) = r at hq ⊢
    refine ⟨d * c - s' * q, ?_⟩
    rw [hs', hl]
    push_cast
    have h1 : more = rest + g * d := by omega
    have h2 : r = d * inv - l * q := by omega
    rw [h1, h2]
    have h3 : (s' : Int) * inv = 1 + l * c := by omega
    have h4 : (g : Int) * s' * (d * inv - l * q) = g * (d * (s' * inv)) - g * (s' * (l * q)) := by
      rw [Int.mul_sub, Int.mul_assoc, Int.mul_assoc]
      congr 2
      · rw [Int.mul_left_comm]
    have h5 : (g : Int) * l * (d * c - s' * q) = g * (d * (l * c)) - g * (s' * (l * q)) := by
      rw [Int.mul_sub, Int.mul_assoc, Int.mul_assoc]
      congr 2
      · rw [Int.mul_left_comm]
      · rw [Int.mul_left_comm]
    rw [h4, h5, h3, Int.mul_add, Int.mul_add, Int.mul_one]
    omega
    )) only [↓bx_true]

theorem crt_none {size step : Nat} {rest more : Int} (hd : ¬ (more - rest) % (Nat.gcd size step : Int) = 0) (x : Int) : ¬ (x % size = rest ∧ x % step = more) := by
  rintro ⟨h1, h2⟩
  apply hd
  apply Int.emod_eq_zero_of_dvd
  have a1 : (Nat.gcd size step : Int) ∣ x - rest := by
    have : (size : Int) ∣ x - rest := by rw [← h1]; exact Int.dvd_self_sub_emod
    exact Int.dvd_trans (Int.natCast_dvd_natCast.mpr (Nat.gcd_dvd_left size step)) this
  have a2 : (Nat.gcd size step : Int) ∣ x - more := by
    have : (step : Int) ∣ x - more := by rw [← h2]; exact Int.dvd_self_sub_emod
    exact Int.dvd_trans (Int.natCast_dvd_natCast.mpr (Nat.gcd_dvd_right size step)) this
  have := Int.dvd_sub a1 a2
  rwa [show x - rest - (x - more) = more - rest by omega] at this
theorem crt_one {size step : Nat} {x y : Int} (hx : 0 ≤ x) (hx2 : x < Nat.lcm size step) (hy : 0 ≤ y) (hy2 : y < Nat.lcm size step) (h1 : x % size = y % size) (h2 : x % step = y % step) : x = y := by
  have a1 : (size : Int) ∣ x - y := Int.dvd_of_emod_eq_zero (Int.emod_eq_emod_iff_emod_sub_eq_zero.mp h1)
  have a2 : (step : Int) ∣ x - y := Int.dvd_of_emod_eq_zero (Int.emod_eq_emod_iff_emod_sub_eq_zero.mp h2)
  have a3 : Nat.lcm size step ∣ (x - y).natAbs := Nat.lcm_dvd (Int.ofNat_dvd_left.mp a1) (Int.ofNat_dvd_left.mp a2)
  have a4 : (x - y).natAbs = 0 := Nat.eq_zero_of_dvd_of_lt a3 (by omega)
  omega
/-- least common multiples of a row -/
def lcmL (l : List Nat) : Nat := l.foldl Nat.lcm 1
theorem foldl_lcm (l : List Nat) : ∀ a, l.foldl Nat.lcm a = Nat.lcm a (lcmL l) := by
  induction l with
  | nil => intro a; simp [lcmL]
  | cons b l ih =>
    intro a
    have h : lcmL (b :: l) = Nat.lcm (Nat.lcm 1 b) (lcmL l) := ih (Nat.lcm 1 b)
    rw [List.foldl_cons, ih, h, Nat.lcm_one_left, Nat.lcm_assoc]
theorem lcmL_cons (b : Nat) (l : List Nat) : lcmL (b :: l) = Nat.lcm b (lcmL l) := by
  rw [lcmL, List.foldl_cons, foldl_lcm, Nat.lcm_one_left]
theorem lcmL_app (l m : List Nat) : lcmL (l ++ m) = Nat.lcm (lcmL l) (lcmL m) := by
  rw [lcmL, List.foldl_append, foldl_lcm]
  rfl
theorem lcmL_rev (l : List Nat) : lcmL l.reverse = lcmL l := by
  induction l with
  | nil => rfl
  | cons b l ih => rw [List.reverse_cons, lcmL_app, ih, lcmL_cons, lcmL_cons, Nat.lcm_comm b]; simp [lcmL, Nat.lcm_comm]
theorem lcmL_pos {l : List Nat} (h : ∀ b ∈ l, 0 < b) : 0 < lcmL l := by
  induction l with
  | nil => simp [lcmL]
  | cons b l ih =>
    rw [lcmL_cons]
    exact Nat.lcm_pos (h b (List.mem_cons_self ..)) (ih fun c hc => h c (List.mem_cons_of_mem _ hc))
/-- the first multiple of a that b divides -/
theorem first_mul {a b i : Nat} (ha : 0 < a) (hb : 0 < b) (h1 : (a + i * a) % b = 0) (h2 : ∀ j, j < i → (a + j * a) % b ≠ 0) : a + i * a = Nat.lcm a b := by
  refine bx_of ?_
  simp (disch := with_unfolding_all (
    have e : ∀ j, a + j * a = (j + 1) * a := fun j => by rw [Nat.add_mul, Nat.one_mul, Nat.add_comm]
    have d1 : Nat.lcm a b ∣ a + i * a := Nat.lcm_dvd (by rw [e]; exact Nat.dvd_mul_left a (i + 1)) (Nat.dvd_of_mod_eq_zero h1)
    obtain ⟨m, hm⟩ := Nat.dvd_lcm_left a b
    have lp := Nat.lcm_pos ha hb
    have mp : 0 < m := by
      cases m with
      | zero => rw [hm] at lp; simp at lp
      | succ m => exact Nat.succ_pos m
    have le : Nat.lcm a b ≤ a + i * a := Nat.le_of_dvd (by omega) d1
    have ge : ¬ (m - 1 < i) := fun hlt => by
      refine h2 (m - 1) hlt ?_
      rw [e, show m - 1 + 1 = m by omega, Nat.mul_comm, ← hm]
      exact Nat.mod_eq_zero_of_dvd (Nat.dvd_lcm_right a b)
    have : Nat.lcm a b = m * a := by rw [hm, Nat.mul_comm]
    have h3 : (i + 1) * a ≤ m * a := Nat.mul_le_mul_right a (by omega)
    rw [e] at le ⊢
    omega
    )) only [↓bx_true]

/-- the loop of Euclid, one turn: the product of the two comes to a half or less -/
theorem euclid_half {a b : Nat} (hb : 0 < b) (h : b ≤ a) : 2 * (b * (a % b)) ≤ a * b := by
  have h1 := Nat.mod_lt a hb
  have h2 : a % b + b ≤ a := by
    have := Nat.div_add_mod a b
    have q : 1 ≤ a / b := (Nat.one_le_div_iff hb).mpr h
    have : b * 1 ≤ b * (a / b) := Nat.mul_le_mul_left b q
    omega
  have h3 : 2 * (a % b) ≤ a := by omega
  calc 2 * (b * (a % b)) = b * (2 * (a % b)) := by rw [Nat.mul_left_comm]
    _ ≤ b * a := Nat.mul_le_mul_left b h3
    _ = a * b := Nat.mul_comm b a
end Dk

/-! askings -/
namespace Dk
open PySem L2 RZ L3
abbrev Atom := Str ⊕ Int
def atomR : Atom → Rep
  | .inl z => aStr z
  | .inr i => iInt i
abbrev shapesL : List (Str × List Str) := [("where", ["nb"]), ("who", ["nb"]), ("lit", ["b"]), ("wheel", [""]), ("meets", ["nn"]), ("way", ["nn", "nnb"]), ("linger", ["nb"])]
abbrev sizesL : List (Str × List Nat) := [("where", [2]), ("who", [2]), ("lit", [1]), ("wheel", [0]), ("meets", [2]), ("way", [2, 3]), ("linger", [2])]
def askGood : List Atom → Bool
  | .inl z :: rest => (sizesL.any fun p => decide (p.1 = z) && decide (rest.length ∈ p.2))
  | _ => false
def HeadS (l : List Atom) : Prop := l = [] ∨ ∃ z rest, l = .inl z :: rest
theorem head_last {l : List Atom} (h : HeadS l) : HeadS l.dropLast := by
  rcases h with rfl | ⟨z, rest, rfl⟩
  · exact .inl rfl
  · cases rest with
    | nil => exact .inl rfl
    | cons a r => exact .inr ⟨z, _, rfl⟩
theorem ask_no {z : Str} {rest : List Atom} (h : z ∉ shapesL.map (·.1)) : askGood (.inl z :: rest) = false := by
  unfold askGood
  rw [List.any_eq_false]
  intro p hp
  have : p.1 ∈ shapesL.map (·.1) := by
    simp only [List.mem_cons, List.not_mem_nil, or_false] at hp
    rcases hp with rfl | rfl | rfl | rfl | rfl | rfl | rfl <;> simp
  have ne : p.1 ≠ z := fun e => h (e ▸ this)
  simp [ne]
theorem key_one {α : Type} {l : List (Str × α)} (nd : (l.map (·.1)).Nodup) {p q : Str × α} (hp : p ∈ l) (hq : q ∈ l) (e : p.1 = q.1) : p = q := by
  induction l with
  | nil => cases hp
  | cons x l ih =>
    rw [List.map_cons, List.nodup_cons] at nd
    rcases List.mem_cons.mp hp with h1 | h1 <;> rcases List.mem_cons.mp hq with h2 | h2
    · rw [h1, h2]
    · exact absurd (List.mem_map.mpr ⟨q, h2, by rw [← e, h1]⟩) nd.1
    · exact absurd (List.mem_map.mpr ⟨p, h1, by rw [e, h2]⟩) nd.1
    · exact ih nd.2 h1 h2
theorem any_key {l : List (Str × List Nat)} (nd : (l.map (·.1)).Nodup) {q : Str × List Nat} (hq : q ∈ l) (n : Nat) : (l.any fun p => decide (p.1 = q.1) && decide (n ∈ p.2)) = decide (n ∈ q.2) := by
  rw [Bool.eq_iff_iff, List.any_eq_true, decide_eq_true_eq]
  constructor
  · rintro ⟨p, hp, h⟩
    rw [Bool.and_eq_true, decide_eq_true_eq, decide_eq_true_eq] at h
    rw [← key_one nd hp hq h.1]
    exact h.2
  · intro h
    exact ⟨q, hq, by rw [Bool.and_eq_true, decide_eq_true_eq, decide_eq_true_eq]; exact ⟨rfl, h⟩⟩
theorem sizes_nd : (sizesL.map (·.1)).Nodup := by decide +kernel
theorem shape_size : ∀ p ∈ shapesL, (p.1, p.2.map Str.length) ∈ sizesL := by decide +kernel
theorem shape_len : ∀ p ∈ shapesL, p.2.length ≤ 10 ∧ ∀ z ∈ p.2, z.length ≤ 10 := by decide +kernel
theorem ask_in {p : Str × List Str} (hp : p ∈ shapesL) (rest : List Atom) : askGood (.inl p.1 :: rest) = decide ((rest.length : Int) ∈ p.2.map fun z : Str => ((z.length : Nat) : Int)) := by
  show (sizesL.any fun q => decide (q.1 = p.1) && decide (rest.length ∈ q.2)) = _
  rw [any_key sizes_nd (shape_size p hp) rest.length]
  rw [Bool.eq_iff_iff, decide_eq_true_eq, decide_eq_true_eq, List.mem_map, List.mem_map]
  constructor
  · rintro ⟨z, hz, e⟩
    exact ⟨z, hz, by omega⟩
  · rintro ⟨z, hz, e⟩
    exact ⟨z, hz, by omega⟩
def sizesF : FR := sizesL.map fun p => (p.1, iLst ((p.2.map fun n : Nat => (n : Int)).map iInt))
theorem lk_in {α : Type} {f : α → Str} {g : α → Rep} : ∀ {l : List α} {x : α}, (l.map f).Nodup → x ∈ l → (l.map fun x => (f x, g x)).lookup (f x) = some (g x)
  | y :: l, x, nd, hx => by
    rw [List.map_cons, List.nodup_cons] at nd
    rw [List.map_cons, List.lookup_cons]
    rcases List.mem_cons.mp hx with rfl | h
    · rw [beq_self_eq_true]
    · rw [show (f x == f y) = false from beq_eq_false_iff_ne.mpr fun e => nd.1 (List.mem_map.mpr ⟨x, h, e⟩)]
      exact lk_in nd.2 h
theorem lk_no {α : Type} {f : α → Str} {g : α → Rep} {z : Str} : ∀ {l : List α}, z ∉ l.map f → (l.map fun x => (f x, g x)).lookup z = none
  | [], _ => rfl
  | y :: l, h => by
    rw [List.map_cons, List.mem_cons, not_or] at h
    rw [List.map_cons, List.lookup_cons, show (z == f y) = false from beq_eq_false_iff_ne.mpr h.1]
    exact lk_no h.2
theorem size_look {p : Str × List Nat} (hp : p ∈ sizesL) : sizesF.lookup p.1 = some (iLst ((p.2.map fun n : Nat => (n : Int)).map iInt)) := lk_in (f := fun p : Str × List Nat => p.1) (g := fun p : Str × List Nat => iLst ((p.2.map fun n : Nat => (n : Int)).map iInt)) sizes_nd hp
theorem size_no {z : Str} (h : z ∉ sizesL.map (·.1)) : sizesF.lookup z = none := lk_no (f := fun p : Str × List Nat => p.1) (g := fun p : Str × List Nat => iLst ((p.2.map fun n : Nat => (n : Int)).map iInt)) h
theorem ask_noS {z : Str} {rest : List Atom} (h : z ∉ sizesL.map (·.1)) : askGood (.inl z :: rest) = false := ask_no h
theorem ask_inS {p : Str × List Nat} (hp : p ∈ sizesL) (rest : List Atom) : askGood (.inl p.1 :: rest) = decide ((rest.length : Int) ∈ p.2.map fun n : Nat => (n : Int)) := by
  show (sizesL.any fun q => decide (q.1 = p.1) && decide (rest.length ∈ q.2)) = _
  rw [any_key sizes_nd hp rest.length, Bool.eq_iff_iff, decide_eq_true_eq, decide_eq_true_eq, List.mem_map]
  exact ⟨fun h => ⟨_, h, rfl⟩, fun ⟨n, hn, e⟩ => Int.ofNat.inj e ▸ hn⟩
end Dk
local macro_rules | `(tactic| decreasing_trivial_pre_omega) => do
  let K := Lean.mkIdent `K
  `(tactic| first
  | ((with_reducible refine L3.gEv ?_); first | with_reducible refine L3.ev_varM ?_ | with_reducible refine L3.ev_int ?_ | with_reducible refine L3.ev_str ?_ | with_reducible refine L3.ev_op ?_ | ((with_reducible refine L3.ev_call_at ?_); first | refine L3.ev_draw0 ?_ | refine L3.ev_callP0 ?_ | refine L3.ev_callK ?_ | refine L3.ev_callB2 ?_ | refine L3.ev_callPDi ?_ | refine L3.ev_callRO ?_ | refine L3.ev_callKDn ?_ | refine L3.ev_callT ?_ | refine L3.ev_callX ?_ | refine L3.ev_callX0 ?_ | refine L3.ev_callRX ?_ | refine L3.ev_insert ?_) | ((with_reducible refine L3.ev_meth_at ?_); first | refine L3.ev_methK ?_ | refine L3.ev_methM ?_ | refine L3.ev_methX ?_ | refine L3.ev_methXM ?_) | with_reducible refine L3.ev_dictP ?_ | with_reducible refine L3.ev_dictD ?_ | with_reducible refine L3.ev_sortI ?_ | with_reducible refine L3.ev_cb ?_ | with_reducible refine L3.ev_dgetD ?_ | with_reducible refine L3.ev_lst ?_ | with_reducible refine L3.ev_bl ?_ | with_reducible refine L3.ev_tup (K := $K) ?_  | with_reducible refine L3.ev_append ?_ | with_reducible refine L3.ev_non ?_ | with_reducible refine L3.ev_slC ?_ | with_reducible refine L3.ev_dgetI ?_ | with_reducible refine L3.ev_ty ?_ | with_reducible refine L3.ev_un ?_ | with_reducible refine L3.ev_chain ?_ | with_reducible refine L3.ev_andV ?_ | with_reducible refine L3.ev_orV ?_ | with_reducible refine L3.ev_notV ?_ | with_reducible refine L3.ev_if ?_ | with_reducible refine L3.ev_tM1 ?_ | ((with_reducible refine L3.ev_callN_at ?_); first | refine L3.ev_callKP (gR := fun a b => a ++ b) L3.all2_gapp ?_ | refine L3.ev_callKN ?_) | ((with_reducible refine L3.ev_make_at ?_); refine L3.ev_make3 ?_) | with_reducible refine L3.ev_dinP ?_ | with_reducible refine L3.ev_dinD ?_ | with_reducible refine L3.ev_dninD ?_ | with_reducible refine L3.ev_disp1 fun _ => ?_ | with_reducible refine L3.ev_stepL ?_ | with_reducible refine L3.ev_lRg1 ?_ | with_reducible refine L3.ev_lRg2 ?_ | with_reducible refine L3.ev_idxL ?_ | with_reducible refine L3.ev_idxT ?_ | with_reducible refine L3.ev_dnewT ?_ | with_reducible refine L3.ev_dnewK ?_ | with_reducible refine L3.ev_dE ?_ | with_reducible refine L3.ev_rev ?_ | with_reducible refine L3.ev_ref ?_ | with_reducible refine L3.ev_itemsR (K := $K) ?_ | with_reducible refine L3.ev_tupK1 ?_ | with_reducible refine L3.ev_dnewTT ?_ | with_reducible refine L3.ev_inT ?_ | with_reducible refine L3.ev_ninT ?_ | with_reducible refine L3.ev_getT ?_)
  | ((with_reducible refine L3.gEx ?_); first | ((with_reducible refine L3.k_at_at ?_); first | refine L3.k_at rfl ?_) | ((with_reducible refine L3.k_fld_at ?_); first | refine L3.k_fldS rfl ?_ | refine L3.k_fldM (i := 0) rfl rfl ?_ | refine L3.k_fldM (i := 1) rfl rfl ?_ | refine L3.k_fldM (i := 2) rfl rfl ?_ | refine L3.k_fldM (i := 3) rfl rfl ?_ | refine L3.k_fldG (by assumption) rfl ?_ | refine L3.k_fldG (L3.HasO.app (by assumption) _) rfl ?_ | refine L3.k_fldG (by assumption) (by assumption) ?_) | ((with_reducible refine L3.k_meth_at ?_); first | refine L3.k_methS rfl ?_ | refine L3.k_methM (i := 0) rfl rfl ?_ | refine L3.k_methM (i := 1) rfl rfl ?_ | refine L3.k_methM (i := 2) rfl rfl ?_ | refine L3.k_methG (by assumption) rfl ?_ | refine L3.k_methG (L3.HasO.app (by assumption) _) rfl ?_ | refine L3.k_methG (by assumption) (by assumption) ?_) | ((with_reducible refine L3.k_hg_at ?_); first | refine L3.k_hg L3.hd_f rfl ?_ | refine L3.k_hg (L3.hd_m (i := 0) rfl) rfl ?_ | refine L3.k_hg (L3.hd_m (i := 1) rfl) rfl ?_ | refine L3.k_hg (L3.hd_m (i := 2) rfl) rfl ?_) | ((with_reducible refine L3.k_hd_at ?_); first | refine L3.k_hd L3.hd_f ?_ | refine L3.k_hd (L3.hd_m (i := 0) rfl) ?_ | refine L3.k_hd (L3.hd_m (i := 1) rfl) ?_ | refine L3.k_hd (L3.hd_m (i := 2) rfl) ?_ | refine L3.k_hd (L3.hd_m (i := 3) rfl) ?_ | refine L3.k_hd (L3.hd_m L3.at_last) ?_ | refine L3.k_hd (by assumption) ?_) | ((with_reducible refine L3.k_atI_at ?_); first | refine L3.k_atI rfl ?_) | ((with_reducible refine L3.k_putT_at ?_); first | refine L3.k_putT (i := 0) rfl ?_ ?_ | refine L3.k_putT (i := 1) rfl ?_ ?_ | refine L3.k_putT (i := 2) rfl ?_ ?_) | ((with_reducible refine L3.k_ht_at ?_); first | refine L3.k_ht L3.ht_f ?_ | refine L3.k_ht (L3.ht_m (i := 0) rfl) ?_ | refine L3.k_ht (L3.ht_m (i := 1) rfl) ?_ | refine L3.k_ht (L3.ht_m (i := 2) rfl) ?_ | refine L3.k_ht (L3.ht_m (i := 3) rfl) ?_ | refine L3.k_ht (L3.ht_m L3.at_last) ?_ | refine L3.k_ht (by assumption) ?_) | ((with_reducible refine L3.k_putD_at ?_); first | refine L3.k_putD (i := 0) rfl ?_ ?_ | refine L3.k_putD (i := 1) rfl ?_ ?_ | refine L3.k_putD (i := 2) rfl ?_ ?_) | ((with_reducible refine L3.k_setL_at ?_); first | refine L3.k_setL (i := 0) rfl rfl ?_ ?_ | refine L3.k_setL (i := 1) rfl rfl ?_ ?_ | refine L3.k_setL (i := 2) rfl rfl ?_ ?_) | ((with_reducible refine L3.k_put_at ?_); first | refine L3.k_put (i := 0) rfl ?_ ?_ | refine L3.k_put (i := 1) rfl ?_ ?_ | refine L3.k_put (i := 2) rfl ?_ ?_) | ((with_reducible refine L3.k_set_at ?_); first | refine L3.k_set (j := 0) rfl ?_ ?_ | refine L3.k_set (j := 1) rfl ?_ ?_ | refine L3.k_set (j := 2) rfl ?_ ?_) | ((with_reducible refine L3.k_pd_at ?_); first | refine L3.k_pd (.inl rfl) ?_ | refine L3.k_pd (.inr ⟨_, 0, rfl, rfl⟩) ?_ | refine L3.k_pd (.inr ⟨_, 1, rfl, rfl⟩) ?_ | refine L3.k_pd (.inr ⟨_, 2, rfl, rfl⟩) ?_ | refine L3.k_pd (by assumption) ?_) | ((with_reducible refine L3.k_app_at ?_); first | refine L3.k_app (i := 0) rfl ?_ | refine L3.k_app (i := 1) rfl ?_ | refine L3.k_app (i := 2) rfl ?_ | refine L3.k_app (i := 3) rfl ?_ | refine L3.k_app L3.at_last ?_) | ((with_reducible refine L3.k_app2_at ?_); first | refine L3.k_app2 (j := 0) rfl ?_ ?_ | refine L3.k_app2 (j := 1) rfl ?_ ?_ | refine L3.k_app2 (j := 2) rfl ?_ ?_ | refine L3.k_app2 (j := 3) rfl ?_ ?_) | with_reducible refine L3.k_rd ?_ | with_reducible refine L3.k_b ?_ | with_reducible refine L3.k_int ?_ | with_reducible refine L3.k_keySI ?_ | with_reducible refine L3.k_key ?_ | with_reducible refine L3.k_ref ?_ | with_reducible refine L3.k_str ?_ | with_reducible refine L3.k_tup ?_ | with_reducible refine L3.k_lst ?_ | with_reducible refine L3.k_ss ?_ | with_reducible refine L3.k_par ?_ | with_reducible refine L3.k_par3 ?_ | with_reducible refine L3.k_strs (f := L3.iLst) ?_ | with_reducible refine L3.k_strs (f := L3.aTupD) ?_ | with_reducible refine L3.k_lstR ?_ | with_reducible refine L3.k_zin (by assumption) ?_ | with_reducible refine L3.k_box ?_ | with_reducible refine L3.k_ofL ?_ ?_ ?_ | with_reducible refine L3.k_ofT ?_ ?_ ?_ | with_reducible refine L3.k_ofS ?_ ?_ ?_ | ((with_reducible refine L3.k_draw ?_ ?_); focus (exact ⟨by first | decide | omega, by first | decide | omega⟩)) | ((refine L3.k_draw ?_ ?_); focus (exact ⟨by first | decide | omega, by first | decide | omega⟩)) | refine L3.k_box ?_)
  | ((with_reducible refine L3.gSt ?_); first | ((with_reducible refine L3.st_seqL ?_); intro _)  | with_reducible refine L3.st_augI ?_ | with_reducible refine L3.st_asgM ?_ | with_reducible refine L3.st_asgLM ?_ | with_reducible refine L3.st_asg ?_ | with_reducible refine L3.st_asgT (vs := []) ?_ | with_reducible refine L3.st_if ?_ | with_reducible refine L3.st_ret ?_ | with_reducible refine L3.st_drop ?_ | with_reducible refine L3.st_next ?_ | with_reducible refine L3.st_retN ?_ | with_reducible refine L3.st_par ?_ | with_reducible refine L3.st_par3 ?_ | with_reducible refine L3.st_asg2 ?_ | with_reducible refine L3.st_brk ?_ | with_reducible refine L3.st_cont ?_ | with_reducible refine L3.st_delL ?_ | refine L3.st_rz0 ?_ | refine L3.st_rz1 ?_)
  | ((with_reducible refine L3.gEa ?_); first | with_reducible refine L3.ea_cons ?_ | with_reducible refine L3.ea_nil ?_)
  | ((with_reducible refine L3.ol_at ?_); first | refine L3.c_lenL _ ?_ | refine L3.c_lenDT (i := 0) rfl _ ?_ | refine L3.c_lenDT (i := 1) rfl _ ?_ | refine L3.c_lenD L3.hd_f _ ?_ | refine L3.c_lenD (L3.hd_m (i := 0) rfl) _ ?_ | refine L3.c_lenD (L3.hd_m (i := 1) rfl) _ ?_ | refine L3.c_lenD (L3.hd_m (i := 2) rfl) _ ?_ | refine L3.c_lenD (L3.hd_m (i := 3) rfl) _ ?_ | refine L3.c_listK L3.hd_f _ ?_ | refine L3.c_lenG (L3.hl_m (i := 0) rfl) _ ?_ | refine L3.c_lenG (L3.hl_m (i := 1) rfl) _ ?_ | refine L3.c_lenG (L3.hl_m (i := 2) rfl) _ ?_ | refine L3.c_lenG (L3.hl_m L3.at_last) _ ?_ | refine L3.c_lenT _ ?_ | refine L3.c_tupL _ ?_ | refine L3.c_tupD _ ?_ | refine L3.c_listL _ ?_ | refine L3.c_listT _ ?_ | refine L3.c_tupT _ ?_ | refine L3.c_all _ ?_ | refine L3.c_any _ ?_ | refine L3.c_lenQ _ ?_ | refine L3.c_listQ _ ?_ | refine L3.c_tupQ _ ?_ | refine L3.c_max2 _ ?_ | refine L3.c_min2 _ ?_ | refine L3.c_lenS ?_ _ ?_ | refine L3.c_minL ?_ ?_ | refine L3.c_maxL ?_ ?_ | refine L3.c_intB _ ?_ | refine L3.c_intI _ ?_)
  | ((with_reducible refine L3.o2_at ?_); first | refine L3.o_neE L3.hd_f _ ?_ | refine L3.o_add _ ?_ | refine L3.o_sub _ ?_ | refine L3.o_lt _ ?_ | refine L3.o_le _ ?_ | refine L3.o_gt _ ?_ | refine L3.o_ge _ ?_ | refine L3.o_eqI _ ?_ | refine L3.o_neI _ ?_ | refine L3.o_eqS _ ?_ | refine L3.o_neS _ ?_ | refine L3.o_eqB _ ?_ | refine L3.o_neB _ ?_ | refine L3.o_mul ?_ _ ?_ | refine L3.o_mod ?_ _ ?_ | refine L3.o_fdivW ?_ _ ?_ | refine L3.o_pow (by exact ⟨by decide, by decide, by decide⟩) _ ?_ | refine L3.o_ixL rfl _ ?_ | refine L3.o_ixT rfl _ ?_ | refine L3.o_ixSI0 _ ?_ | refine L3.o_ixSI1 _ ?_ | refine L3.o_ixL L3.atI_0 _ ?_ | refine L3.o_ixT L3.atI_0 _ ?_ | refine L3.o_cat ?_ _ ?_ | refine L3.o_rep2 ?_ _ ?_ | refine L3.o_catT ?_ _ ?_ | refine L3.o_addS ?_ _ ?_ | refine L3.o_ixQ rfl _ ?_ | refine L3.o_inG (.inl rfl) _ ?_ | refine L3.o_inG (.inr (.inr (.inr ⟨_, 0, rfl, rfl⟩))) _ ?_ | refine L3.o_inG (.inr (.inr (.inr ⟨_, 1, rfl, rfl⟩))) _ ?_ | refine L3.o_inG (by assumption) _ ?_ | refine L3.o_ninG (.inl rfl) _ ?_ | refine L3.o_ninG (.inr (.inr (.inr ⟨_, 0, rfl, rfl⟩))) _ ?_ | refine L3.o_ninG (.inr (.inr (.inr ⟨_, 1, rfl, rfl⟩))) _ ?_ | refine L3.o_ninG (by assumption) _ ?_)
  | ((with_reducible refine L3.gAnd ?_); first | refine L3.k_ho2S ?_ | refine L3.k_ho2M (i := 0) rfl ?_ | refine L3.k_ho2M (i := 1) rfl ?_ | refine L3.k_ho2M (i := 2) rfl ?_ | refine L3.k_ho3 (by assumption) ?_ | refine L3.k_ho3 (L3.HasO.app (by assumption) _) ?_ | ((with_reducible refine L3.k_len ?_ ?_); focus (first | exact Nat.le_of_ble_eq_true rfl | (simp; done))) | ((with_reducible refine L3.k_leneq ?_ ?_); focus rfl))
  | ((with_reducible refine L3.gIte ?_); first | with_reducible refine L3.k_t ?_ | with_reducible refine L3.k_f ?_ | with_reducible refine L3.k_nt ?_ | with_reducible refine L3.k_nf ?_)
  | ((with_reducible refine L3.gEt ?_); first | with_reducible refine L3.et_test ?_ | with_reducible refine L3.et_tB ?_ | with_reducible refine L3.et_and ?_ | with_reducible refine L3.et_or ?_ | with_reducible refine L3.et_not ?_ | with_reducible refine L3.et_yes ?_)
  | with_reducible refine L3.tg_name ?_
  | ((with_reducible refine L3.tg_tup ?_ ?_); focus rfl)
  | ((with_reducible refine L3.tg_tupSI ?_ ?_); focus rfl)
  | with_reducible refine L3.tg_setL ?_
  | with_reducible refine L3.tg_putP ?_
  | with_reducible refine L3.tg_putD ?_
  | with_reducible refine L3.tg_putI ?_
  | with_reducible refine L3.tg_putT1 ?_
  | ((with_reducible refine L3.tg_star_at ?_); first | refine L3.tg_star ?_ ?_ _ (.inl rfl) | refine L3.tg_star ?_ ?_ _ (.inr (.inl rfl)) | refine L3.tg_star ?_ ?_ _ (.inr (.inr rfl)))
  | with_reducible refine L3.tgs_cons ?_
  | with_reducible refine L3.tgs_nil ?_
  | ((with_reducible refine L3.gWk ?_); first | refine L3.Wk.so ?_ | refine L3.Wk.no ?_ | exact L3.Wk.nil)
  | with_reducible refine L3.etp_and ?_ (fun _ => ?_)
  | with_reducible refine L3.etp_or ?_ (fun _ => ?_)
  | with_reducible refine L3.etp_not ?_
  | ((with_reducible refine L3.ep_at ?_); intro _ _ _)
  | ((with_reducible refine L3.etp_at ?_); intro _ _ _)
  | ((with_reducible refine L3.eap_at ?_); intro _ _ _)
  | ((with_reducible refine L3.o1_at ?_); first | refine L3.o_neg _ ?_)
  | with_reducible refine L3.ti_rng1 ?_
  | with_reducible refine L3.ti_rng2 ?_
  | with_reducible refine L3.ti_rng3 ?_
  | with_reducible refine L3.ti_list ?_
  | with_reducible refine L3.ti_tup ?_
  | with_reducible refine L3.eoc_none ?_
  | with_reducible refine L3.eoc_some ?_
  | with_reducible refine L3.os_list ?_
  | refine L3.os_tup ?_
  | with_reducible refine L3.k_nat ?_
  | ((with_reducible refine L3.cmul_at ?_); first | exact .inl ⟨by omega, by omega⟩ | exact .inr ⟨by omega, by omega⟩)
  | ((with_reducible refine L3.nle_at ?_); first | exact Nat.le_of_ble_eq_true rfl | omega | (simp; done) | (simp; omega))
  | ((with_reducible refine L3.nlt_at ?_); first | exact Nat.le_of_ble_eq_true rfl | omega | (simp; done) | (simp; omega))
  | ((with_reducible refine L3.ile_at ?_); first | omega | (simp; done) | (simp; omega))
  | ((with_reducible refine L3.ilt_at ?_); first | omega | (simp; done) | (simp; omega))
  | ((with_reducible refine L3.gEq ?_); first | with_reducible exact L3.dat_int _ _ | with_reducible exact L3.dat_str _ _ | with_reducible exact L3.dat_bl _ _ | with_reducible exact L3.dat_non _ | with_reducible apply L3.dat_lst | with_reducible apply L3.dat_tup | with_reducible exact L3.dats_nil | with_reducible apply L3.dats_cons)
  | with_reducible apply L3.Fit.int
  | with_reducible apply L3.Fit.str
  | with_reducible apply L3.Fit.bl
  | with_reducible apply L3.Fit.non
  | with_reducible apply L3.fit_l
  | with_reducible apply L3.fit_t
  | with_reducible apply L3.fitA_nil
  | with_reducible apply L3.fitA_cons
  | assumption)
namespace Dk
open PySem L2 RZ L3 LamX
abbrev XTl (C_BadName C_Taken C_Leans C_BadNumber C_NotAWalk C_Broken C_TooGreat C_BadText C_Full C_Loop C_NoDoor C_NoSight C_BadRound C_Bare C_BadDeed C_BadAsking C_NoRoom C_NoPost C_NoWatcher C_NoWatch C_Nothing : Addr) : List XCl := [⟨C_BadName, "BadName", (some "name")⟩, ⟨C_Taken, "Taken", (some "name")⟩, ⟨C_Leans, "Leans", (some "name")⟩, ⟨C_BadNumber, "BadNumber", (some "asked")⟩, ⟨C_NotAWalk, "NotAWalk", (some "at")⟩, ⟨C_Broken, "Broken", (some "at")⟩, ⟨C_TooGreat, "TooGreat", (some "many")⟩, ⟨C_BadText, "BadText", (some "row")⟩, ⟨C_Full, "Full", none⟩, ⟨C_Loop, "Loop", none⟩, ⟨C_NoDoor, "NoDoor", none⟩, ⟨C_NoSight, "NoSight", none⟩, ⟨C_BadRound, "BadRound", none⟩, ⟨C_Bare, "Bare", none⟩, ⟨C_BadDeed, "BadDeed", none⟩, ⟨C_BadAsking, "BadAsking", none⟩, ⟨C_NoRoom, "NoRoom", (some "name")⟩, ⟨C_NoPost, "NoPost", (some "name")⟩, ⟨C_NoWatcher, "NoWatcher", (some "name")⟩, ⟨C_NoWatch, "NoWatch", (some "name")⟩, ⟨C_Nothing, "Nothing", none⟩]
def top (i : Nat) : Stmt := PySem.Challenge.pw_darkthread_k54_askings_of_a_form.main.body.getD i (.Pass ⟨0, 0, 0, 0⟩)
section
variable {P : Program} {w : World} {K : PySem.W.Frag} {mg : Str → Option Value} {base : Heap}

abbrev s__law_box : Stmt := top 28
theorem sc__law_box : FnScope ["_law_script"] ["_law_script"] (defScope s__law_box) := ⟨rfl, rfl, rfl, by decide +kernel, rfl, by decide +kernel, by decide +kernel⟩
abbrev ts__law_box (K : PySem.W.Frag) : TSp := tsBox K
theorem ok__law_box (B : Bt mg) {f : Addr} {fd : FuncData} (d : Df K mg "_law_box" s__law_box ["_law_script"] f fd) : Cl P w K mg base CX0 1 "_law_box" (ts__law_box K) [] := by
  refine bx_of ?_
  simp (disch := with_unfolding_all (
    refine cl_of d (okT (kk := 0) d.fn sc__law_box (fun Rs M k X h => by obtain ⟨ns, rfl, _⟩ := h; rfl) fun cdv A outer s H E hr => ⟨_,
      (pss_one (ps_ret (pe_lst (pa_cons (pe_callTy call_list_of (by rfl) B.list (by decide +kernel) (pa_cons (pe_slice sl_list (pv 0) po_none (po_some pe_int)) pa_nil)) (pa_cons pe_int (pa_cons pe_int (pa_cons pe_int (pa_cons pe_int pa_nil)))))))), ?_⟩)
    try dsimp only [L3.cxK, L3.cxKX]
    rintro Rs M k X ⟨ns, rfl, hl, rfl, q⟩
    refine st_dn ?_
    refine st_ret (ev_lstM (ea_cons (ep_cb (eap_cons (ep_sl (R := iLst ((cutL ns none (some 63)).map iInt)) (ep_var rfl) eo_none (eo_someX ep_int) s_scr) eap_nil) c_listL _ _ (eap_cons ep_int (eap_cons ep_int (eap_cons ep_int (eap_cons ep_int eap_nil))) _ _ ⟨by simp, fun a => ?_⟩))))
    refine kdn (P' := mBox) (A := []) (B := []) (fun S o h => ⟨⟨cutL ns none (some 63), 0, 0, 29, 0, by decide, by decide, by decide, by decide, ?_⟩, h⟩) (q a)
    unfold cutL
    simp
    omega
    )) only [↓bx_true]

abbrev s__law_empty : Stmt := top 29
theorem sc__law_empty : FnScope [] [] (defScope s__law_empty) := ⟨rfl, rfl, rfl, by decide +kernel, rfl, by decide +kernel, by decide +kernel⟩
abbrev emptyF (K : PySem.W.Frag) : FR := [("house", aTup K [iLst [], iLst [], iLst []]), ("posts", iLst []), ("lamps", iLst []), ("meet", iBl false), ("relief", iInt 0), ("watches", iLst []), ("deeds", iLst [])]
abbrev ts__law_empty (K : PySem.W.Frag) : TSp := fun Rs M k _ => M = [] ∧ Rs = [] ∧ ∀ d, k (iRef d) [(d, mDK (emptyF K))]
theorem ok__law_empty (B : Bt mg) {f : Addr} {fd : FuncData} (d : Df K mg "_law_empty" s__law_empty [] f fd) : Cl P w K mg base CX0 1 "_law_empty" (ts__law_empty K) [] := by
  refine bx_of ?_
  simp (disch := with_unfolding_all (
    refine cl_of d (okT (kk := 0) d.fn sc__law_empty (fun Rs M k X h => by obtain ⟨_, rfl, _⟩ := h; rfl) fun cdv A outer s H E hr => ⟨_,
      (pss_one (ps_ret (pe_disp (pps_cons pe_str (pe_tup (pa_cons (pe_lst pa_nil) (pa_cons (pe_lst pa_nil) (pa_cons (pe_lst pa_nil) pa_nil)))) (pps_cons pe_str (pe_lst pa_nil) (pps_cons pe_str (pe_lst pa_nil) (pps_cons pe_str pe_bl (pps_cons pe_str pe_int (pps_cons pe_str (pe_lst pa_nil) (pps_cons pe_str (pe_lst pa_nil) pps_nil))))))) rfl rfl (by simp) (by decide)))), ?_⟩)
    try dsimp only [L3.cxK, L3.cxKX]
    rintro Rs M k X ⟨rfl, rfl, q⟩
    (repeat' decreasing_trivial_pre_omega)
    refine ev_disp fun d => ?_
    (repeat' decreasing_trivial_pre_omega)
    refine ed_cons (ev_str ⟨_, rfl, ?_⟩)
    (repeat' decreasing_trivial_pre_omega)
    refine ed_cons (ev_str ⟨_, rfl, ?_⟩)
    (repeat' decreasing_trivial_pre_omega)
    refine ed_cons (ev_str ⟨_, rfl, ?_⟩)
    (repeat' decreasing_trivial_pre_omega)
    refine ed_cons (ev_str ⟨_, rfl, ?_⟩)
    (repeat' decreasing_trivial_pre_omega)
    refine ed_cons (ev_str ⟨_, rfl, ?_⟩)
    (repeat' decreasing_trivial_pre_omega)
    refine ed_cons (ev_str ⟨_, rfl, ?_⟩)
    (repeat' decreasing_trivial_pre_omega)
    refine ed_cons (ev_str ⟨_, rfl, ?_⟩)
    (repeat' decreasing_trivial_pre_omega)
    exact ed_nil ⟨0, rfl, by simp, (show (["house", "posts", "lamps", "meet", "relief", "watches", "deeds"] : List Str).Nodup by decide +kernel), q d⟩
    )) only [↓bx_true]

abbrev s__law_draw : Stmt := top 30
theorem sc__law_draw : FnScope ["_law_box_here", "_law_many", "_law_cell", "_law_got"] ["_law_box_here", "_law_many"] (defScope s__law_draw) := ⟨rfl, rfl, rfl, by decide +kernel, rfl, by decide +kernel, by decide +kernel⟩
abbrev ts__law_draw (K : PySem.W.Frag) : TSp := tsDraw
theorem ok__law_draw (B : Bt mg) {f : Addr} {fd : FuncData} (d : Df K mg "_law_draw" s__law_draw ["_law_box_here", "_law_many"] f fd) : Cl P w K mg base CX0 1 "_law_draw" (ts__law_draw K) [] := by
  refine bx_of ?_
  simp (disch := with_unfolding_all (
    refine cl_of d (okT (kk := 0) d.fn sc__law_draw (fun Rs M k X h => by obtain ⟨b, n, rfl, _⟩ := h; rfl) fun cdv A outer s H E hr => ⟨_,
      (pss_cons (ps_if (PW.pt (pw_and (pt_cmpR op_lt (pe_ix ix_list (pv 0) pe_int (fun _ _ => rfl)) pe_int (nomark _)) (pw_and1 (pt_cmpR op_lt (pe_ix ix_list (pv 0) pe_int (fun _ _ => rfl)) (pe_callB call_len (by rfl) B.len (by decide +kernel) (pa_cons (pe_ix ix_list (pv 0) pe_int (fun _ _ => rfl)) pa_nil)) (nomark _))))) (pss_cons (ps_set (i := 2) sc__law_draw.nd rfl (Or.inl rfl) (pe_ix ix_seq (pe_ix ix_list (pv 0) pe_int (fun _ _ => rfl)) (pe_ix ix_list (pv 0) pe_int (fun _ _ => rfl)) (fun _ _ => rfl)))
        (pss_cons (ps_asg (pe_op op_add (pe_ix ix_list (pv 0) pe_int (fun _ _ => rfl)) pe_int) (pg_sub (pv 0) pe_int set_list))
        (pss_cons (ps_asg (pe_callB (call_max2 rfl) (by rfl) B.max (by decide +kernel) (pa_cons pe_int (pa_cons (pe_op op_sub (pv 2) (pe_op op_pow pe_int pe_int)) pa_nil))) (pg_sub (pv 0) pe_int set_list))
        (pss_one (ps_asg (pe_op op_mod (pe_op op_add (pe_op op_add (pe_op op_mul (pe_ix ix_list (pv 0) pe_int (fun _ _ => rfl)) pe_int) (pe_op op_mul (pe_op op_mod (pv 2) pe_int) pe_int)) pe_int) pe_int) (pg_sub (pv 0) pe_int set_list)))))) pss_nil)
        (pss_cons (ps_if (pt_cmpR op_gt (pe_ix ix_list (pv 0) pe_int (fun _ _ => rfl)) pe_int (nomark _)) (pss_cons (ps_set (i := 3) sc__law_draw.nd rfl (Or.inl rfl) (pe_op op_mod (pe_ix ix_list (pv 0) pe_int (fun _ _ => rfl)) (pv 1)))
        (pss_cons (ps_asg (pe_op op_fdivW (pe_ix ix_list (pv 0) pe_int (fun _ _ => rfl)) (pv 1)) (pg_sub (pv 0) pe_int set_list))
        (pss_one (ps_ret (pv 3))))) pss_nil)
        (pss_cons (ps_asg (pe_op op_add (pe_ix ix_list (pv 0) pe_int (fun _ _ => rfl)) pe_int) (pg_sub (pv 0) pe_int set_list))
        (pss_cons (ps_asg (pe_op op_mod (pe_op op_add (pe_op op_add (pe_op op_pow (pe_ix ix_list (pv 0) pe_int (fun _ _ => rfl)) pe_int) (pe_op op_mul pe_int (pe_ix ix_list (pv 0) pe_int (fun _ _ => rfl)))) pe_int) pe_int) (pg_sub (pv 0) pe_int set_list))
        (pss_one (ps_ret (pe_op op_mod (pe_op op_fdivW (pe_ix ix_list (pv 0) pe_int (fun _ _ => rfl)) pe_int) (pv 1)))))))), ?_⟩)
    try dsimp only [L3.cxK, L3.cxKX]
    rintro Rs M k X ⟨b, n, rfl, hn, hn2, rfl, q⟩
    have hn3 : n.natAbs < 2 ^ 100 := by omega
    refine st_dn ?_
    refine st_open (A := []) (B := []) (fun x : BoxV => mLst x.l) (fun S o h => h) fun x => ?_
    show St E _ [some (iRef b), some (iInt n), none, none] [(b, mLst x.l)] _
    refine st_cut (fun Γ1 M1 => ∃ (y : BoxV) (c2 : Option Rep), Γ1 = [some (iRef b), some (iInt n), c2, none] ∧ M1 = [(b, mLst y.l)]) ?_ ?_
    · refine st_ifp (etp_and (etp_test (ep_op (ep_op (ep_var rfl) ep_int (o_ixH rfl)) ep_int o_lt)) (fun _ => etp_test (ep_op (ep_op (ep_var rfl) ep_int (o_ixH rfl)) (ep_cb (eap_cons (ep_op (ep_var rfl) ep_int (o_ixH rfl)) eap_nil) c_lenL) o_lt))) (fun hc => ?_) (fun _ => ?_)
      · have hp : x.pos < x.ns.length := by simpa using (Bool.and_eq_true_iff.mp hc).2
        have h1 := x.h1
        obtain ⟨cell, hcell⟩ : ∃ cell, atI x.ns x.pos = some cell := by
          refine ⟨x.ns[x.pos.toNat]'(by omega), ?_⟩
          have := atI_nat (xs := x.ns) (j := x.pos.toNat) (v := x.ns[x.pos.toNat]'(by omega)) (by simp)
          rwa [show ((x.pos.toNat : Nat) : Int) = x.pos by omega] at this
        refine st_seq (st_asg (ep_op (ep_op (ep_var rfl) ep_int (o_ixH rfl)) (ep_op (ep_var rfl) ep_int (o_ixH rfl)) (o_or1 (o_ixL (atI_map hcell))) _ _ ?_))
        refine st_seq (st_asgT (vs := []) (ep_op (ep_op (ep_var rfl) ep_int (o_ixH rfl)) ep_int o_add _ _ ?_))
        refine tg_subM (A := []) (B := []) (ep_var rfl) ep_int rfl ?_
        refine st_seq (st_asgT (vs := []) (ep_cb (eap_cons ep_int (eap_cons (ep_op (ep_var rfl) (ep_op ep_int ep_int (o_pow ⟨by decide, by decide, by decide⟩)) o_sub) eap_nil)) c_max2 _ _ ?_))
        refine tg_subM (A := []) (B := []) (ep_var rfl) ep_int rfl ?_
        have h3 := x.h3
        have h4 := x.h4
        have hm := Int.emod_nonneg cell (show (2147483629 : Int) ≠ 0 by decide)
        have hm2 := Int.emod_lt_of_pos cell (show (0 : Int) < 2147483629 by decide)
        refine st_asgT (vs := []) (ep_op (ep_op (ep_op (ep_op (ep_op (ep_var rfl) ep_int (o_ixH rfl)) ep_int (o_mul (.inl ⟨by omega, by omega⟩))) (ep_op (ep_op (ep_var rfl) ep_int (o_mod (by decide))) ep_int (o_mul (.inl ⟨by omega, by omega⟩))) o_add) ep_int o_add) ep_int (o_mod (by decide)) _ _ ?_)
        refine tg_subM (A := []) (B := []) (ep_var rfl) ep_int rfl ?_
        exact ⟨⟨x.ns, x.pos + 1, max 0 (cell - 10 ^ (18 : Int).toNat), _, x.cnt, by omega, by omega, Int.emod_nonneg _ (by decide), Int.emod_lt_of_pos _ (by decide), x.h5⟩, _, rfl, rfl⟩
      · exact st_next ⟨x, none, rfl, rfl⟩
    · rintro Γ1 M1 ⟨y, c2, rfl, rfl⟩
      have y2 := y.h2
      have y3 := y.h3
      have y4 := y.h4
      refine st_seq (st_ifp (etp_test (ep_op (ep_op (ep_var rfl) ep_int (o_ixH rfl)) ep_int o_gt)) (fun hc => ?_) (fun _ => ?_))
      · refine st_seq (st_asg (ep_op (ep_op (ep_var rfl) ep_int (o_ixH rfl)) (ep_var rfl) (o_mod hn) _ _ ?_))
        refine st_seq (st_asgT (vs := []) (ep_op (ep_op (ep_var rfl) ep_int (o_ixH rfl)) (ep_var rfl) (o_fdivW (wide_div hn hn3 (by decide) (by decide))) _ _ ?_))
        refine tg_subM (A := []) (B := []) (ep_var rfl) ep_int rfl ?_
        refine st_ret (ep_var rfl _ _ ?_)
        refine kdn (P' := mBox) (A := []) (B := []) (fun S o h => ⟨⟨y.ns, y.pos, y.big / n, y.seed, y.cnt, y.h1, Int.ediv_nonneg y2 (by omega), y3, y4, y.h5⟩, h⟩) (q _ (Int.emod_nonneg _ (by omega)) (Int.emod_lt_of_pos _ hn))
      · refine st_next ?_
        refine st_seq (st_asgT (vs := []) (ep_op (ep_op (ep_var rfl) ep_int (o_ixH rfl)) ep_int o_add _ _ ?_))
        refine tg_subM (A := []) (B := []) (ep_var rfl) ep_int rfl ?_
        refine st_seq (st_asgT (vs := []) (ep_op (ep_op (ep_op (ep_op (ep_op (ep_var rfl) ep_int (o_ixH rfl)) ep_int (o_pow ⟨by decide, by decide, by omega⟩)) (ep_op ep_int (ep_op (ep_var rfl) ep_int (o_ixH rfl)) (o_mul (.inl ⟨by decide, by decide⟩))) o_add) ep_int o_add) ep_int (o_mod (by decide)) _ _ ?_))
        refine tg_subM (A := []) (B := []) (ep_var rfl) ep_int rfl ?_
        refine st_ret (ep_op (ep_op (ep_op (ep_var rfl) ep_int (o_ixH rfl)) ep_int (o_fdivW (wide_div (b := 7) (by decide) (by decide) (by decide) (by decide)))) (ep_var rfl) (o_mod hn) _ _ ?_)
        refine kdn (P' := mBox) (A := []) (B := []) (fun S o h => ⟨⟨y.ns, y.pos, y.big, _, y.cnt + 1, y.h1, y.h2, Int.emod_nonneg _ (by decide), Int.emod_lt_of_pos _ (by decide), y.h5⟩, h⟩) (q _ (Int.emod_nonneg _ (by omega)) (Int.emod_lt_of_pos _ hn))
    )) only [↓bx_true]

abbrev s__law_of : Stmt := top 31
theorem sc__law_of : FnScope ["_law_box_here", "_law_some"] ["_law_box_here", "_law_some"] (defScope s__law_of) := ⟨rfl, rfl, rfl, by decide +kernel, rfl, by decide +kernel, by decide +kernel⟩
abbrev ts__law_of (K : PySem.W.Frag) : TSp := tsOf2 K
theorem ok__law_of (B : Bt mg) (c__law_draw : Cl P w K mg base CX0 1 "_law_draw" (ts__law_draw K) []) {f : Addr} {fd : FuncData} (d : Df K mg "_law_of" s__law_of ["_law_box_here", "_law_some"] f fd) : Cl P w K mg base CX0 2 "_law_of" (ts__law_of K) [] := by
  refine bx_of ?_
  simp (disch := with_unfolding_all (
    refine cl_of d (okT (kk := 1) d.fn sc__law_of (fun Rs M k X h => by obtain ⟨b, _, rfl, _, ⟨rs, rfl, _⟩ | ⟨rs, rfl, _⟩ | ⟨z, rfl, _⟩⟩ := h <;> rfl) fun cdv A outer s H E hr => ⟨_,
      (pss_one (ps_ret (pe_ix ix_seq (pv 1) (pe_cl c__law_draw hr (by decide) pass0 rfl (pa_cons (pv 0) (pa_cons (pe_callB call_len (by rfl) B.len (by decide +kernel) (pa_cons (pv 1) pa_nil)) pa_nil))) (fun _ _ => rfl)))), ?_⟩)
    try dsimp only [L3.cxK, L3.cxKX]
    rintro Rs M k X ⟨b, _, rfl, rfl, ⟨rs, rfl, h1, h2, q⟩ | ⟨rs, rfl, h1, h2, q⟩ | ⟨z, rfl, h1, h2, q⟩⟩
    · refine st_ret (ev_op (ep_var rfl _ _ (ev_draw (F := []) rfl (ep_var rfl) (ep_cb (eap_cons (ep_var rfl) eap_nil) c_lenL) (by omega) (by omega) fun r r0 r1 => ?_)))
      obtain ⟨R, hR, hm⟩ := at_some rs r0 r1
      exact o_or1 (o_ixL hR) _ (q R hm)
    · refine st_ret (ev_op (ep_var rfl _ _ (ev_draw (F := []) rfl (ep_var rfl) (ep_cb (eap_cons (ep_var rfl) eap_nil) c_lenT) (by omega) (by omega) fun r r0 r1 => ?_)))
      obtain ⟨R, hR, hm⟩ := at_some rs r0 r1
      exact o_or2 (o_or1 (o_ixT hR)) _ (q R hm)
    · refine st_ret (ev_op (ep_var rfl _ _ (ev_draw (F := []) rfl (ep_var rfl) (ep_cb (eap_cons (ep_var rfl) eap_nil) (c_lenS (by omega))) (by omega) (by omega) fun r r0 r1 => ?_)))
      obtain ⟨c, hR, hm⟩ := at_some z.cps.toList r0 (by simpa [Str.length] using r1)
      exact o_or2 (o_or2 (o_ixS (by omega) hR)) _ (q c hm)
    )) only [↓bx_true]

abbrev s__law_name_of : Stmt := top 32
theorem sc__law_name_of : FnScope ["_law_box_here", "_law_known", "_law_pool", "_law_some"] ["_law_box_here", "_law_known"] (defScope s__law_name_of) := ⟨rfl, rfl, rfl, by decide +kernel, rfl, by decide +kernel, by decide +kernel⟩
abbrev ts__law_name_of (K : PySem.W.Frag) : TSp := boxK fun Rs q => Rs = [iLst []] ∧ ∀ z : Str, q (aStr z)
theorem ok__law_name_of (B : Bt mg) (c__law_of : Cl P w K mg base CX0 2 "_law_of" (ts__law_of K) []) {f : Addr} {fd : FuncData} (d : Df K mg "_law_name_of" s__law_name_of ["_law_box_here", "_law_known"] f fd) : Cl P w K mg base CX0 3 "_law_name_of" (ts__law_name_of K) [] := by
  refine bx_of ?_
  simp (disch := with_unfolding_all (
    refine cl_of d (okT (kk := 2) d.fn sc__law_name_of (fun Rs M k X h => by obtain ⟨b, _, rfl, _, rfl, _⟩ := h; rfl) fun cdv A outer s H E hr => ⟨_,
      (pss_cons (ps_set (i := 2) sc__law_name_of.nd rfl (Or.inl rfl) (pe_lst (pa_cons pe_str (pa_cons pe_str (pa_cons pe_str (pa_cons pe_str (pa_cons pe_str (pa_cons pe_str (pa_cons pe_str (pa_cons pe_str (pa_cons pe_str (pa_cons pe_str (pa_cons pe_str (pa_cons pe_str pa_nil))))))))))))))
        (pss_cons (ps_set (i := 3) sc__law_name_of.nd rfl (Or.inl rfl) (pe_orT (pv 1) (pe_one (pv 2))))
        (pss_one (ps_ret (pe_cl c__law_of hr (by decide) pass0 rfl (pa_cons (pv 0) (pa_cons (pe_lst (pa_cons (pe_cl c__law_of hr (by decide) pass0 rfl (pa_cons (pv 0) (pa_cons (pv 3) pa_nil))) (pa_cons (pe_cl c__law_of hr (by decide) pass0 rfl (pa_cons (pv 0) (pa_cons (pv 3) pa_nil))) (pa_cons (pe_cl c__law_of hr (by decide) pass0 rfl (pa_cons (pv 0) (pa_cons (pv 3) pa_nil))) (pa_cons (pe_cl c__law_of hr (by decide) pass0 rfl (pa_cons (pv 0) (pa_cons (pv 2) pa_nil))) pa_nil))))) pa_nil))))))), ?_⟩)
    try dsimp only [L3.cxK, L3.cxKX]
    rintro Rs M k X ⟨b, _, rfl, rfl, rfl, q⟩
    (repeat' decreasing_trivial_pre_omega)
    refine ev_orNil ?_
    (repeat' decreasing_trivial_pre_omega)
    refine ⟨rfl, ?_⟩
    (repeat' decreasing_trivial_pre_omega)
    refine k_map (l := (["hall", "stair", "a", "loft", "den", "b", "gate", "cellar", "yard", "nook", "tower", "basement"] : List Str)) (f := aStr) fun z0 _ => ?_
    (repeat' decreasing_trivial_pre_omega)
    refine k_map (l := (["hall", "stair", "a", "loft", "den", "b", "gate", "cellar", "yard", "nook", "tower", "basement"] : List Str)) (f := aStr) fun z1 _ => ?_
    (repeat' decreasing_trivial_pre_omega)
    refine k_map (l := (["hall", "stair", "a", "loft", "den", "b", "gate", "cellar", "yard", "nook", "tower", "basement"] : List Str)) (f := aStr) fun z2 _ => ?_
    (repeat' decreasing_trivial_pre_omega)
    refine k_map (l := (["hall", "stair", "a", "loft", "den", "b", "gate", "cellar", "yard", "nook", "tower", "basement"] : List Str)) (f := aStr) fun z3 _ => ?_
    (repeat' decreasing_trivial_pre_omega)
    exact k_map (l := [z0, z1, z2, z3]) (f := aStr) fun z _ => q z
    )) only [↓bx_true]

abbrev s__law_asking : Stmt := top 33
theorem sc__law_asking : FnScope ["_law_box_here", "_law_m", "_law_rooms", "_law_posts", "_law_post", "_law_one", "_law_other", "_law_beat", "_law_p", "_law_q", "_law_some"] ["_law_box_here", "_law_m"] (defScope s__law_asking) := ⟨rfl, rfl, rfl, by decide +kernel, rfl, by decide +kernel, by decide +kernel⟩
abbrev emptyG (K : PySem.W.Frag) : FR := [("house", aTup K [iLst [], iLst [], iLst []]), ("posts", iLst []), ("lamps", iLst []), ("meet", iBl false), ("relief", iInt 0), ("watches", iLst []), ("deeds", iLst [])]
abbrev ts__law_asking (K : PySem.W.Frag) : TSp := boxK fun Rs q => Rs = [iDF (emptyG K)] ∧ ∀ l : List Atom, l.length ≤ 10 → HeadS l → l ≠ [] → q (aTup K (l.map atomR))
theorem ok__law_asking (B : Bt mg) (c__law_draw : Cl P w K mg base CX0 1 "_law_draw" (ts__law_draw K) []) (c__law_name_of : Cl P w K mg base CX0 3 "_law_name_of" (ts__law_name_of K) []) (c__law_of : Cl P w K mg base CX0 2 "_law_of" (ts__law_of K) []) {f : Addr} {fd : FuncData} (d : Df K mg "_law_asking" s__law_asking ["_law_box_here", "_law_m"] f fd) : Cl P w K mg base CX0 4 "_law_asking" (ts__law_asking K) [] := by
  refine bx_of ?_
  simp (disch := with_unfolding_all (
    refine cl_of d (okT (kk := 3) d.fn sc__law_asking (fun Rs M k X h => by obtain ⟨b, _, rfl, _, rfl, _⟩ := h; rfl) fun cdv A outer s H E hr => ⟨_,
      (pss_cons (ps_par (i := 2) (j := 3) rfl sc__law_asking.nd rfl rfl (by decide) rfl rfl (pa_cons (pe_ix ix_tup (pe_dget (by exact hu_of hr) (pv 1) pe_str (fun _ _ => rfl)) pe_int (fun _ _ => rfl)) (pa_cons (pe_lc (own := [("_law_post", 4)]) rfl sc__law_asking.nd (pi_list (pe_dget (by exact hu_of hr) (pv 1) pe_str (fun _ _ => rfl))) (blkOk_by (own := [("_law_post", 4)]) (N := ["_law_box_here", "_law_m", "_law_rooms", "_law_posts", "_law_post", "_law_one", "_law_other", "_law_beat", "_law_p", "_law_q", "_law_some"]) (sc := defScope s__law_asking) (by decide +kernel)) (fun _ _ _ _ _ => (pg_name (i := 4) sc__law_asking.nd rfl (by first | exact Or.inl rfl | exact Or.inr rfl))) (fun _ _ _ _ _ => pts_nil) (fun _ _ _ _ _ => (pe_ix (castIx (K := K) (r := rIxT) rfl ix_tup) (pv 4) pe_int (fun _ _ => rfl)))) pa_nil)) (by rfl))
        (pss_cons (ps_par3 (i := 5) (j := 6) (l := 7) rfl sc__law_asking.nd rfl rfl rfl (by decide) (by decide) (by decide) rfl rfl rfl (pa_cons (pe_cl c__law_name_of hr (by decide) pass0 rfl (pa_cons (pv 0) (pa_cons (pv 2) pa_nil))) (pa_cons (pe_cl c__law_name_of hr (by decide) pass0 rfl (pa_cons (pv 0) (pa_cons (pv 2) pa_nil))) (pa_cons (pe_op op_sub (pe_cl c__law_draw hr (by decide) pass0 rfl (pa_cons (pv 0) (pa_cons pe_int pa_nil))) pe_int) pa_nil))) (by rfl))
        (pss_cons (ps_par (i := 8) (j := 9) rfl sc__law_asking.nd rfl rfl (by decide) rfl rfl (pa_cons (pe_cl c__law_name_of hr (by decide) pass0 rfl (pa_cons (pv 0) (pa_cons (pv 3) pa_nil))) (pa_cons (pe_cl c__law_name_of hr (by decide) pass0 rfl (pa_cons (pv 0) (pa_cons (pv 3) pa_nil))) pa_nil)) (by rfl))
        (pss_cons (ps_set (i := 10) sc__law_asking.nd rfl (Or.inl rfl) (pe_lst (pa_cons (pe_tup (pa_cons pe_str (pa_cons (pv 8) (pa_cons (pv 7) pa_nil)))) (pa_cons (pe_tup (pa_cons pe_str (pa_cons (pv 8) (pa_cons (pv 7) pa_nil)))) (pa_cons (pe_tup (pa_cons pe_str (pa_cons (pv 7) pa_nil))) (pa_cons (pe_tup (pa_cons pe_str pa_nil)) (pa_cons (pe_tup (pa_cons pe_str (pa_cons (pv 8) (pa_cons (pv 9) pa_nil)))) (pa_cons (pe_tup (pa_cons pe_str (pa_cons (pv 5) (pa_cons (pv 6) pa_nil)))) pa_nil))))))))
        (pss_cons (ps_set (i := 10) sc__law_asking.nd rfl (Or.inl rfl) (pe_op op_cat (pv 10) (pe_lst (pa_cons (pe_tup (pa_cons pe_str (pa_cons (pv 5) (pa_cons (pv 6) (pa_cons (pv 7) pa_nil))))) (pa_cons (pe_tup (pa_cons pe_str (pa_cons (pv 5) (pa_cons (pv 7) pa_nil)))) pa_nil)))))
        (pss_one (ps_ret (pe_cl c__law_of hr (by decide) pass0 rfl (pa_cons (pv 0) (pa_cons (pv 10) pa_nil)))))))))), ?_⟩)
    try dsimp only [L3.cxK, L3.cxKX]
    rintro Rs M k X ⟨b, _, rfl, rfl, rfl, q⟩
    (repeat' decreasing_trivial_pre_omega)
    refine Ep.ev (ep_lcM (l := ([] : List Nat)) (e := fun _ => iNon) (e' := fun _ => iNon) ?_ (by simp) (by decide) (fun p hp => nomatch hp)) ?_
    · (repeat' decreasing_trivial_pre_omega)
    (repeat' decreasing_trivial_pre_omega)
    refine ⟨_, leS_rfl, rfl, fun z1 => ?_⟩
    (repeat' decreasing_trivial_pre_omega)
    refine ⟨_, leS_rfl, rfl, fun z2 => ?_⟩
    (repeat' decreasing_trivial_pre_omega)
    intro d1 _
    (repeat' decreasing_trivial_pre_omega)
    refine ⟨_, leS_rfl, rfl, fun z3 => ?_⟩
    (repeat' decreasing_trivial_pre_omega)
    refine ⟨_, leS_rfl, rfl, fun z4 => ?_⟩
    (repeat' decreasing_trivial_pre_omega)
    intro r hr
    simp only [List.cons_append, List.nil_append, List.mem_cons, List.not_mem_nil, or_false] at hr
    rcases hr with rfl | rfl | rfl | rfl | rfl | rfl | rfl | rfl
    · exact q [.inl "where", .inl z3, .inr (d1 - 20)] (by simp) (.inr ⟨_, _, rfl⟩) (by simp)
    · exact q [.inl "who", .inl z3, .inr (d1 - 20)] (by simp) (.inr ⟨_, _, rfl⟩) (by simp)
    · exact q [.inl "lit", .inr (d1 - 20)] (by simp) (.inr ⟨_, _, rfl⟩) (by simp)
    · exact q [.inl "wheel"] (by simp) (.inr ⟨_, _, rfl⟩) (by simp)
    · exact q [.inl "meets", .inl z3, .inl z4] (by simp) (.inr ⟨_, _, rfl⟩) (by simp)
    · exact q [.inl "way", .inl z1, .inl z2] (by simp) (.inr ⟨_, _, rfl⟩) (by simp)
    · exact q [.inl "way", .inl z1, .inl z2, .inr (d1 - 20)] (by simp) (.inr ⟨_, _, rfl⟩) (by simp)
    · exact q [.inl "linger", .inl z1, .inr (d1 - 20)] (by simp) (.inr ⟨_, _, rfl⟩) (by simp)
    )) only [↓bx_true]

abbrev s__law_asking_good : Stmt := top 34
theorem sc__law_asking_good : FnScope ["_law_asking_here", "_law_sizes"] ["_law_asking_here"] (defScope s__law_asking_good) := ⟨rfl, rfl, rfl, by decide +kernel, rfl, by decide +kernel, by decide +kernel⟩
abbrev ts__law_asking_good (K : PySem.W.Frag) : TSp := pureK fun Rs q => ∃ l : List Atom, Rs = [aTup K (l.map atomR)] ∧ l.length ≤ 1000 ∧ HeadS l ∧ q (iBl (askGood l))
theorem ok__law_asking_good (B : Bt mg) {f : Addr} {fd : FuncData} (d : Df K mg "_law_asking_good" s__law_asking_good ["_law_asking_here"] f fd) : Cl P w K mg base CX0 1 "_law_asking_good" (ts__law_asking_good K) [] := by
  refine bx_of ?_
  simp (disch := with_unfolding_all (
    refine cl_of d (okT (kk := 0) d.fn sc__law_asking_good (fun Rs M k X h => by obtain ⟨_, _, rfl, _⟩ := h; rfl) fun cdv A outer s H E hr => ⟨_,
      (pss_cons (ps_set (i := 1) sc__law_asking_good.nd rfl (Or.inl rfl) (pe_disp (pps_cons pe_str (pe_lst (pa_cons pe_int pa_nil)) (pps_cons pe_str (pe_lst (pa_cons pe_int pa_nil)) (pps_cons pe_str (pe_lst (pa_cons pe_int pa_nil)) (pps_cons pe_str (pe_lst (pa_cons pe_int pa_nil)) (pps_cons pe_str (pe_lst (pa_cons pe_int pa_nil)) (pps_cons pe_str (pe_lst (pa_cons pe_int (pa_cons pe_int pa_nil))) (pps_cons pe_str (pe_lst (pa_cons pe_int pa_nil)) pps_nil))))))) rfl rfl (by simp) (by decide)))
        (pss_one (ps_fz (ps_ret (pe_and (pe_cmpR op_gt (pe_callB call_len (by rfl) B.len (by decide +kernel) (pa_cons (pv 0) pa_nil)) pe_int (nomark _)) (pe_and (pe_cmp (pc_din (by exact hu_of hr) (pe_ix ix_tup (pv 0) pe_int (fun _ _ => rfl)) (pv 1))) (pe_one (pe_cmpR op_in_seq (pe_op op_sub (pe_callB call_len (by rfl) B.len (by decide +kernel) (pa_cons (pv 0) pa_nil)) pe_int) (pe_dget (by exact hu_of hr) (pv 1) (pe_ix ix_tup (pv 0) pe_int (fun _ _ => rfl)) (fun _ _ => rfl)) (by rfl))))))))), ?_⟩)
    try dsimp only [L3.cxK, L3.cxKX]
    rintro Rs M k X ⟨rfl, l, rfl, l9, hd, q⟩
    (repeat' decreasing_trivial_pre_omega)
    refine ev_disp fun d => ?_
    (repeat' decreasing_trivial_pre_omega)
    refine ed_cons (ev_str ⟨_, rfl, ?_⟩)
    (repeat' decreasing_trivial_pre_omega)
    refine ed_cons (ev_str ⟨_, rfl, ?_⟩)
    (repeat' decreasing_trivial_pre_omega)
    refine ed_cons (ev_str ⟨_, rfl, ?_⟩)
    (repeat' decreasing_trivial_pre_omega)
    refine ed_cons (ev_str ⟨_, rfl, ?_⟩)
    (repeat' decreasing_trivial_pre_omega)
    refine ed_cons (ev_str ⟨_, rfl, ?_⟩)
    (repeat' decreasing_trivial_pre_omega)
    refine ed_cons (ev_str ⟨_, rfl, ?_⟩)
    (repeat' decreasing_trivial_pre_omega)
    refine ed_cons (ev_str ⟨_, rfl, ?_⟩)
    (repeat' decreasing_trivial_pre_omega)
    refine ed_nil ⟨0, rfl, by simp, (show (["where", "who", "lit", "wheel", "meets", "way", "linger"] : List Str).Nodup by decide +kernel), ?_⟩
    (repeat' decreasing_trivial_pre_omega)
    refine st_tFzL (i := 0) (j := 1) (d := d) (kvs := sizesF) rfl rfl ?_
    generalize hF : sizesF = F
    (repeat' decreasing_trivial_pre_omega)
    rcases hd with rfl | ⟨z, rest, rfl⟩
    · refine (if_neg (by simp)).mpr ?_
      exact q
    refine (if_pos (by simp)).mpr ?_
    refine ev_andV (ev_dinD ?_)
    (repeat' decreasing_trivial_pre_omega)
    refine ⟨z, rfl, ?_⟩
    (repeat' decreasing_trivial_pre_omega)
    subst hF
    by_cases hz : z ∈ sizesL.map (·.1)
    · obtain ⟨p, hp, rfl⟩ := List.mem_map.mp hz
      rw [ask_inS hp rest] at q
      rw [size_look hp]
      refine (if_pos (by rfl)).mpr ?_
      (repeat' decreasing_trivial_pre_omega)
      refine ⟨_, _, rfl, hd_f, _, size_look hp, ?_⟩
      refine o_inI _ ?_
      rw [show (((Sum.inl p.1 :: rest : List Atom).map atomR).length : Int) - 1 = (rest.length : Int) from by simp]
      exact q
    · rw [ask_noS hz] at q
      rw [size_no hz]
      exact (if_neg (by simp)).mpr q
    )) only [↓bx_true]

abbrev s__law_like : Stmt := top 35
theorem sc__law_like : FnScope ["_law_found", "_law_due", "_law_one", "_law_other"] ["_law_found", "_law_due"] (defScope s__law_like) := ⟨rfl, rfl, rfl, by decide +kernel, rfl, by decide +kernel, by decide +kernel⟩
abbrev ts__law_like (K : PySem.W.Frag) : TSp := tsLike K 7
theorem ok__law_like_n (B : Bt mg) {f : Addr} {fd : FuncData} (d : Df K mg "_law_like" s__law_like ["_law_found", "_law_due"] f fd) : ∀ n, Cl P w K mg base CX0 n "_law_like" (tsLike K n) []
  | 0 => cl_false d fun Rs M k X ⟨d, _, h, _⟩ => by cases h
  | n + 1 => by
    have c__law_like : Cl P w K mg base CX0 n "_law_like" (tsLike K n) [] := ok__law_like_n B d n
    refine cl_of d (okT (kk := n) d.fn sc__law_like (fun Rs M k X h => by obtain ⟨_, rfl, _⟩ := h; rfl) fun cdv A outer s H E hr => ⟨_,
      (pss_cons (ps_if (pt_val (pe_callB call_isiT (by rfl) B.isinstance (by decide +kernel) (pa_cons (pv 1) (pa_cons (pe_tup (pa_cons (pe_bltn (v := .ty "list") (by rfl) B.list (by decide +kernel) rfl) (pa_cons (pe_bltn (v := .ty "tuple") (by rfl) B.tuple (by decide +kernel) rfl) pa_nil))) pa_nil)))) (pss_cons (ps_if (PW.pt (pw_or (pt_cmpR op_ne (pe_callB call_isi (by rfl) B.isinstance (by decide +kernel) (pa_cons (pv 0) (pa_cons (pe_bltn (v := .ty "list") (by rfl) B.list (by decide +kernel) rfl) pa_nil))) (pe_callB call_isi (by rfl) B.isinstance (by decide +kernel) (pa_cons (pv 1) (pa_cons (pe_bltn (v := .ty "list") (by rfl) B.list (by decide +kernel) rfl) pa_nil))) (nomark _)) (pw_or1 (pt_cmpR op_ne (pe_callB call_isi (by rfl) B.isinstance (by decide +kernel) (pa_cons (pv 0) (pa_cons (pe_bltn (v := .ty "tuple") (by rfl) B.tuple (by decide +kernel) rfl) pa_nil))) (pe_callB call_isi (by rfl) B.isinstance (by decide +kernel) (pa_cons (pv 1) (pa_cons (pe_bltn (v := .ty "tuple") (by rfl) B.tuple (by decide +kernel) rfl) pa_nil))) (nomark _))))) (pss_one (ps_ret pe_bl)) pss_nil)
      (pss_one (ps_ret (pe_and (pe_cmpR op_eq (pe_callB call_len (by rfl) B.len (by decide +kernel) (pa_cons (pv 0) pa_nil)) (pe_callB call_len (by rfl) B.len (by decide +kernel) (pa_cons (pv 1) pa_nil)) (nomark _)) (pe_one (pe_callB (cr_all rfl) (by rfl) B.all (by decide +kernel) (pa_cons (pe_lc (own := [("_law_one", 2), ("_law_other", 3)]) rfl sc__law_like.nd (pi_zipA (by rfl) B.zip (pa_cons (pv 0) (pa_cons (pv 1) pa_nil))) (blkOk_by (own := [("_law_one", 2), ("_law_other", 3)]) (N := ["_law_found", "_law_due", "_law_one", "_law_other"]) (sc := defScope s__law_like) (by decide +kernel)) (fun s0 H0 C0 cl0 fp0 => blk_tup2 (i := 2) (j := 3) sc__law_like.nd (s := s0) (H := H0) (C := C0) (cl := cl0) (fp := fp0)) (fun _ _ _ _ _ => pts_nil) (fun _ _ _ _ _ => (pe_cl c__law_like hr (Nat.le_refl _) pass0 rfl (pa_cons (pv 2) (pa_cons (pv 3) pa_nil))))) pa_nil))))))) pss_nil)
      (pss_cons (ps_if (PW.pt (pw_or (pt_cmpR op_isN (pv 0) pe_non (nomark _)) (pw_or1 (pt_cmpR op_isN (pv 1) pe_non (nomark _))))) (pss_one (ps_ret (pe_and (pe_cmpR op_isN (pv 0) pe_non (nomark _)) (pe_one (pe_cmpR op_isN (pv 1) pe_non (nomark _)))))) pss_nil)
      (pss_cons (ps_if (PW.pt (pw_or (pt_cmpR op_ne (pe_callB call_isi (by rfl) B.isinstance (by decide +kernel) (pa_cons (pv 0) (pa_cons (pe_bltn (v := .ty "bool") (by rfl) B.bool (by decide +kernel) rfl) pa_nil))) (pe_callB call_isi (by rfl) B.isinstance (by decide +kernel) (pa_cons (pv 1) (pa_cons (pe_bltn (v := .ty "bool") (by rfl) B.bool (by decide +kernel) rfl) pa_nil))) (nomark _)) (pw_or1 (pt_cmpR op_ne (pe_callB call_isi (by rfl) B.isinstance (by decide +kernel) (pa_cons (pv 0) (pa_cons (pe_bltn (v := .ty "int") (by rfl) B.int (by decide +kernel) rfl) pa_nil))) (pe_callB call_isi (by rfl) B.isinstance (by decide +kernel) (pa_cons (pv 1) (pa_cons (pe_bltn (v := .ty "int") (by rfl) B.int (by decide +kernel) rfl) pa_nil))) (nomark _))))) (pss_one (ps_ret pe_bl)) pss_nil)
      (pss_one (ps_ret (pe_and (pe_cmpR op_eq (pe_callB call_isi (by rfl) B.isinstance (by decide +kernel) (pa_cons (pv 0) (pa_cons (pe_bltn (v := .ty "str") (by rfl) B.str (by decide +kernel) rfl) pa_nil))) (pe_callB call_isi (by rfl) B.isinstance (by decide +kernel) (pa_cons (pv 1) (pa_cons (pe_bltn (v := .ty "str") (by rfl) B.str (by decide +kernel) rfl) pa_nil))) (nomark _)) (pe_one (pe_cmpR op_eq (pv 0) (pv 1) (nomark _))))))))), ?_⟩)
    rintro Rs M k X ⟨d, rfl, hd, rfl, q⟩
    show St E _ [some (iDat K d), some (iDat K d), none, none] [] _
    cases hd with
    | list hl hf =>
      rename_i ds
      rw [iDat]
      refine st_seq (st_ifp (etp_tB (ep_cb (eap_cons (ep_var rfl) (eap_cons (ep_tupS (eap_cons ep_ty (eap_cons ep_ty eap_nil)) (by simp)) eap_nil)) (c_isi2 isT_lst (b1 := true) (b2 := false) (by decide +kernel) (by decide +kernel)))) (fun _ => ?_) (fun h => nomatch h))
      refine st_seq (st_ifp (b := false) (etp_or (a := false) (b := false) (etp_test (ep_op (ep_cb (eap_cons (ep_var rfl) (eap_cons ep_ty eap_nil)) (c_isi isT_lst (b := true) (by decide +kernel))) (ep_cb (eap_cons (ep_var rfl) (eap_cons ep_ty eap_nil)) (c_isi isT_lst (b := true) (by decide +kernel))) o_neB)) (fun _ => etp_test (ep_op (ep_cb (eap_cons (ep_var rfl) (eap_cons ep_ty eap_nil)) (c_isi isT_lst (b := false) (by decide +kernel))) (ep_cb (eap_cons (ep_var rfl) (eap_cons ep_ty eap_nil)) (c_isi isT_lst (b := false) (by decide +kernel))) o_neB))) (fun h => nomatch h) (fun _ => st_next ?_))
      refine st_ret (Ep.to (ep_andV (b := true) (ep_op (ep_cb (eap_cons (ep_var rfl) eap_nil) c_lenL) (ep_cb (eap_cons (ep_var rfl) eap_nil) c_lenL) o_eqI) (fun _ => Ep.to (ep_cb (eap_cons (Ep.to (ep_lc (by decide) (tip_zipL (ep_var rfl) (ep_var rfl) (n := ds.length) (by simp [iDats_len])) hl (fun _ => true) (fun _ => iBl true) fun i r hi hr => ?_) (congrArg iLst (given_true _))) eap_nil) c_all) (congrArg iBl (all_true _)))) (by simp) _ _ q)
      obtain ⟨q1, q2, e1, e2, rfl⟩ := hr
      rw [e1] at e2
      cases e2
      obtain ⟨d', hd', rfl⟩ := iDats_get K e1
      exact tg_tup rfl (tgs_cons (tg_name (tgs_cons (tg_name (tgs_nil ⟨rfl, etp_yes, fun _ => ep_callP d' (eap_cons (ep_var rfl) (eap_cons (ep_var rfl) eap_nil)) rfl (hf d' hd')⟩)))))
    | tup hl hf =>
      rename_i ds
      rw [iDat]
      refine st_seq (st_ifp (etp_tB (ep_cb (eap_cons (ep_var rfl) (eap_cons (ep_tupS (eap_cons ep_ty (eap_cons ep_ty eap_nil)) (by simp)) eap_nil)) (c_isi2 isT_tup (b1 := false) (b2 := true) (by decide +kernel) (by decide +kernel)))) (fun _ => ?_) (fun h => nomatch h))
      refine st_seq (st_ifp (b := false) (etp_or (a := false) (b := false) (etp_test (ep_op (ep_cb (eap_cons (ep_var rfl) (eap_cons ep_ty eap_nil)) (c_isi isT_tup (b := false) (by decide +kernel))) (ep_cb (eap_cons (ep_var rfl) (eap_cons ep_ty eap_nil)) (c_isi isT_tup (b := false) (by decide +kernel))) o_neB)) (fun _ => etp_test (ep_op (ep_cb (eap_cons (ep_var rfl) (eap_cons ep_ty eap_nil)) (c_isi isT_tup (b := true) (by decide +kernel))) (ep_cb (eap_cons (ep_var rfl) (eap_cons ep_ty eap_nil)) (c_isi isT_tup (b := true) (by decide +kernel))) o_neB))) (fun h => nomatch h) (fun _ => st_next ?_))
      refine st_ret (Ep.to (ep_andV (b := true) (ep_op (ep_cb (eap_cons (ep_var rfl) eap_nil) c_lenT) (ep_cb (eap_cons (ep_var rfl) eap_nil) c_lenT) o_eqI) (fun _ => Ep.to (ep_cb (eap_cons (Ep.to (ep_lc (by decide) (tip_zipT (ep_var rfl) (ep_var rfl) (n := ds.length) (by simp [iDats_len])) hl (fun _ => true) (fun _ => iBl true) fun i r hi hr => ?_) (congrArg iLst (given_true _))) eap_nil) c_all) (congrArg iBl (all_true _)))) (by simp) _ _ q)
      obtain ⟨q1, q2, e1, e2, rfl⟩ := hr
      rw [e1] at e2
      cases e2
      obtain ⟨d', hd', rfl⟩ := iDats_get K e1
      exact tg_tup rfl (tgs_cons (tg_name (tgs_cons (tg_name (tgs_nil ⟨rfl, etp_yes, fun _ => ep_callP d' (eap_cons (ep_var rfl) (eap_cons (ep_var rfl) eap_nil)) rfl (hf d' hd')⟩)))))
    | non =>
      rw [iDat]
      refine st_seq (st_ifp (etp_tB (ep_cb (eap_cons (ep_var rfl) (eap_cons (ep_tupS (eap_cons ep_ty (eap_cons ep_ty eap_nil)) (by simp)) eap_nil)) (c_isi2 isT_non (b1 := false) (b2 := false) (by decide +kernel) (by decide +kernel)))) (fun h => nomatch h) (fun _ => st_next ?_))
      refine st_seq (st_ifp (b := true) (etp_or (a := true) (b := true) (etp_test (ep_op (ep_var rfl) ep_non (o_isN true (fun S v p => by cases p; rfl)))) (fun h => nomatch h)) (fun _ => ?_) (fun h => nomatch h))
      exact st_ret (ep_andV (ep_op (ep_var rfl) ep_non (o_isN true (fun S v p => by cases p; rfl))) (fun _ => ep_op (ep_var rfl) ep_non (o_isN true (fun S v p => by cases p; rfl))) _ _ q)
    | bl b =>
      rw [iDat]
      refine st_seq (st_ifp (etp_tB (ep_cb (eap_cons (ep_var rfl) (eap_cons (ep_tupS (eap_cons ep_ty (eap_cons ep_ty eap_nil)) (by simp)) eap_nil)) (c_isi2 isT_bl (b1 := false) (b2 := false) (by decide +kernel) (by decide +kernel)))) (fun h => nomatch h) (fun _ => st_next ?_))
      refine st_seq (st_ifp (b := false) (etp_or (a := false) (b := false) (etp_test (ep_op (ep_var rfl) ep_non (o_isN false (fun S v p => by cases p; rfl)))) (fun _ => etp_test (ep_op (ep_var rfl) ep_non (o_isN false (fun S v p => by cases p; rfl))))) (fun h => nomatch h) (fun _ => st_next ?_))
      refine st_seq (st_ifp (b := false) (etp_or (a := false) (b := false) (etp_test (ep_op (ep_cb (eap_cons (ep_var rfl) (eap_cons ep_ty eap_nil)) (c_isi isT_bl (b := true) (by decide +kernel))) (ep_cb (eap_cons (ep_var rfl) (eap_cons ep_ty eap_nil)) (c_isi isT_bl (b := true) (by decide +kernel))) o_neB)) (fun _ => etp_test (ep_op (ep_cb (eap_cons (ep_var rfl) (eap_cons ep_ty eap_nil)) (c_isi isT_bl (b := true) (by decide +kernel))) (ep_cb (eap_cons (ep_var rfl) (eap_cons ep_ty eap_nil)) (c_isi isT_bl (b := true) (by decide +kernel))) o_neB))) (fun h => nomatch h) (fun _ => st_next ?_))
      exact st_ret (Ep.to (ep_andV (a := true) (b := true) (ep_op (ep_cb (eap_cons (ep_var rfl) (eap_cons ep_ty eap_nil)) (c_isi isT_bl (b := false) (by decide +kernel))) (ep_cb (eap_cons (ep_var rfl) (eap_cons ep_ty eap_nil)) (c_isi isT_bl (b := false) (by decide +kernel))) o_eqB) (fun _ => Ep.to (ep_op (ep_var rfl) (ep_var rfl) o_eqB) (congrArg iBl (by simp)))) rfl _ _ q)
    | int i =>
      rw [iDat]
      refine st_seq (st_ifp (etp_tB (ep_cb (eap_cons (ep_var rfl) (eap_cons (ep_tupS (eap_cons ep_ty (eap_cons ep_ty eap_nil)) (by simp)) eap_nil)) (c_isi2 isT_int (b1 := false) (b2 := false) (by decide +kernel) (by decide +kernel)))) (fun h => nomatch h) (fun _ => st_next ?_))
      refine st_seq (st_ifp (b := false) (etp_or (a := false) (b := false) (etp_test (ep_op (ep_var rfl) ep_non (o_isN false (fun S v p => by cases p; rfl)))) (fun _ => etp_test (ep_op (ep_var rfl) ep_non (o_isN false (fun S v p => by cases p; rfl))))) (fun h => nomatch h) (fun _ => st_next ?_))
      refine st_seq (st_ifp (b := false) (etp_or (a := false) (b := false) (etp_test (ep_op (ep_cb (eap_cons (ep_var rfl) (eap_cons ep_ty eap_nil)) (c_isi isT_int (b := false) (by decide +kernel))) (ep_cb (eap_cons (ep_var rfl) (eap_cons ep_ty eap_nil)) (c_isi isT_int (b := false) (by decide +kernel))) o_neB)) (fun _ => etp_test (ep_op (ep_cb (eap_cons (ep_var rfl) (eap_cons ep_ty eap_nil)) (c_isi isT_int (b := true) (by decide +kernel))) (ep_cb (eap_cons (ep_var rfl) (eap_cons ep_ty eap_nil)) (c_isi isT_int (b := true) (by decide +kernel))) o_neB))) (fun h => nomatch h) (fun _ => st_next ?_))
      exact st_ret (Ep.to (ep_andV (a := true) (b := true) (ep_op (ep_cb (eap_cons (ep_var rfl) (eap_cons ep_ty eap_nil)) (c_isi isT_int (b := false) (by decide +kernel))) (ep_cb (eap_cons (ep_var rfl) (eap_cons ep_ty eap_nil)) (c_isi isT_int (b := false) (by decide +kernel))) o_eqB) (fun _ => Ep.to (ep_op (ep_var rfl) (ep_var rfl) o_eqI) (congrArg iBl (by simp)))) rfl _ _ q)
    | str x =>
      rw [iDat]
      refine st_seq (st_ifp (etp_tB (ep_cb (eap_cons (ep_var rfl) (eap_cons (ep_tupS (eap_cons ep_ty (eap_cons ep_ty eap_nil)) (by simp)) eap_nil)) (c_isi2 isT_str (b1 := false) (b2 := false) (by decide +kernel) (by decide +kernel)))) (fun h => nomatch h) (fun _ => st_next ?_))
      refine st_seq (st_ifp (b := false) (etp_or (a := false) (b := false) (etp_test (ep_op (ep_var rfl) ep_non (o_isN false (fun S v p => by cases p; rfl)))) (fun _ => etp_test (ep_op (ep_var rfl) ep_non (o_isN false (fun S v p => by cases p; rfl))))) (fun h => nomatch h) (fun _ => st_next ?_))
      refine st_seq (st_ifp (b := false) (etp_or (a := false) (b := false) (etp_test (ep_op (ep_cb (eap_cons (ep_var rfl) (eap_cons ep_ty eap_nil)) (c_isi isT_str (b := false) (by decide +kernel))) (ep_cb (eap_cons (ep_var rfl) (eap_cons ep_ty eap_nil)) (c_isi isT_str (b := false) (by decide +kernel))) o_neB)) (fun _ => etp_test (ep_op (ep_cb (eap_cons (ep_var rfl) (eap_cons ep_ty eap_nil)) (c_isi isT_str (b := false) (by decide +kernel))) (ep_cb (eap_cons (ep_var rfl) (eap_cons ep_ty eap_nil)) (c_isi isT_str (b := false) (by decide +kernel))) o_neB))) (fun h => nomatch h) (fun _ => st_next ?_))
      exact st_ret (Ep.to (ep_andV (a := true) (b := true) (ep_op (ep_cb (eap_cons (ep_var rfl) (eap_cons ep_ty eap_nil)) (c_isi isT_str (b := true) (by decide +kernel))) (ep_cb (eap_cons (ep_var rfl) (eap_cons ep_ty eap_nil)) (c_isi isT_str (b := true) (by decide +kernel))) o_eqB) (fun _ => Ep.to (ep_op (ep_var rfl) (ep_var rfl) o_eqS) (congrArg iBl (by simp)))) rfl _ _ q)
theorem ok__law_like (B : Bt mg) {f : Addr} {fd : FuncData} (d : Df K mg "_law_like" s__law_like ["_law_found", "_law_due"] f fd) : Cl P w K mg base CX0 7 "_law_like" (ts__law_like K) [] := ok__law_like_n B d 7
abbrev s__law_word : Stmt := top 36
theorem sc__law_word : FnScope ["_law_e", "_law_kinds", "_law_every", "_law_word_here", "_law_so"] ["_law_e"] (defScope s__law_word) := ⟨rfl, rfl, rfl, by decide +kernel, rfl, by decide +kernel, by decide +kernel⟩
def lawWords : List Str := ["BadName", "Taken", "Leans", "BadNumber", "NotAWalk", "Broken", "TooGreat", "BadText", "Full", "Loop", "NoDoor", "NoSight", "BadRound", "Bare", "BadDeed", "BadAsking", "NoRoom", "NoPost", "NoWatcher", "NoWatch", "Nothing"]
theorem lawWords_ok : Txt.split (("BadName Taken Leans BadNumber NotAWalk Broken TooGreat BadText Full Loop NoDoor" : Str) ++ " NoSight BadRound Bare BadDeed BadAsking NoRoom NoPost NoWatcher NoWatch Nothing") " " = lawWords := by decide +kernel
theorem lawWords_len : ∀ z ∈ lawWords, z.length ≤ 20 := by decide +kernel
theorem get_map {α β : Type} {f : α → β} {l : List α} {i : Nat} {q : β} {d : α} (h : (l.map f)[i]? = some q) : q = f (l.getD i d) := by
  rw [List.getElem?_map] at h
  cases e : l[i]? with
  | none => rw [e] at h; cases h
  | some x => rw [e] at h; rw [List.getD_eq_getElem?_getD, e]; exact (Option.some.inj h).symm
theorem join_one (a z : Str) : Txt.join a [z] = z := by
  first | rfl | (unfold Txt.join; rfl)
theorem ok__law_word (B : Bt mg) {C_DarkError C_Missing C_BadName C_Taken C_Leans C_BadNumber C_NotAWalk C_Broken C_TooGreat C_BadText C_Full C_Loop C_NoDoor C_NoSight C_BadRound C_Bare C_BadDeed C_BadAsking C_NoRoom C_NoPost C_NoWatcher C_NoWatch C_Nothing : Addr} (m_BadName : mg "BadName" = some (.ref C_BadName)) (m_Taken : mg "Taken" = some (.ref C_Taken)) (m_Leans : mg "Leans" = some (.ref C_Leans)) (m_BadNumber : mg "BadNumber" = some (.ref C_BadNumber)) (m_NotAWalk : mg "NotAWalk" = some (.ref C_NotAWalk)) (m_Broken : mg "Broken" = some (.ref C_Broken)) (m_TooGreat : mg "TooGreat" = some (.ref C_TooGreat)) (m_BadText : mg "BadText" = some (.ref C_BadText)) (m_Full : mg "Full" = some (.ref C_Full)) (m_Loop : mg "Loop" = some (.ref C_Loop)) (m_NoDoor : mg "NoDoor" = some (.ref C_NoDoor)) (m_NoSight : mg "NoSight" = some (.ref C_NoSight)) (m_BadRound : mg "BadRound" = some (.ref C_BadRound)) (m_Bare : mg "Bare" = some (.ref C_Bare)) (m_BadDeed : mg "BadDeed" = some (.ref C_BadDeed)) (m_BadAsking : mg "BadAsking" = some (.ref C_BadAsking)) (m_NoRoom : mg "NoRoom" = some (.ref C_NoRoom)) (m_NoPost : mg "NoPost" = some (.ref C_NoPost)) (m_NoWatcher : mg "NoWatcher" = some (.ref C_NoWatcher)) (m_NoWatch : mg "NoWatch" = some (.ref C_NoWatch)) (m_Nothing : mg "Nothing" = some (.ref C_Nothing)) (TX : XTab K (XTl C_BadName C_Taken C_Leans C_BadNumber C_NotAWalk C_Broken C_TooGreat C_BadText C_Full C_Loop C_NoDoor C_NoSight C_BadRound C_Bare C_BadDeed C_BadAsking C_NoRoom C_NoPost C_NoWatcher C_NoWatch C_Nothing) C_DarkError C_Missing C_Nothing) {f : Addr} {fd : FuncData} (d : Df K mg "_law_word" s__law_word ["_law_e"] f fd) : ClE P w K mg base 1 "_law_word" (tsWordX (XTl C_BadName C_Taken C_Leans C_BadNumber C_NotAWalk C_Broken C_TooGreat C_BadText C_Full C_Loop C_NoDoor C_NoSight C_BadRound C_Bare C_BadDeed C_BadAsking C_NoRoom C_NoPost C_NoWatcher C_NoWatch C_Nothing)) := by
  refine bx_of ?_
  simp (disch := with_unfolding_all (
    refine ⟨f, fd, ["_law_e"], ?_, d.mg, d.fn.kp, d.bd⟩
    refine okE (kk := 0) d.fn sc__law_word (fun a D dd Rs M k X h => by obtain ⟨_, rfl, _⟩ := h; rfl) fun cdv A outer s H p D dd hr hot hz hf hts => ?_
    have hX := xis_W TX hts
    have hU := TX.U
    clear hts
    refine ⟨_,
      (pss_cons (ps_set (i := 1) sc__law_word.nd rfl (Or.inl rfl) (pe_lst (pa_cons (pe_callB (call_isH (a := p.1) (oe := p.2) (List.mem_cons_self ..) hz hf hX hU) (by rfl) B.isinstance (by decide +kernel) (pa_cons (pv 0) (pa_cons (pe_glob (v := .ref C_BadName) rfl m_BadName rfl) pa_nil))) (pa_cons (pe_callB (call_isH (a := p.1) (oe := p.2) (List.mem_cons_self ..) hz hf hX hU) (by rfl) B.isinstance (by decide +kernel) (pa_cons (pv 0) (pa_cons (pe_glob (v := .ref C_Taken) rfl m_Taken rfl) pa_nil))) (pa_cons (pe_callB (call_isH (a := p.1) (oe := p.2) (List.mem_cons_self ..) hz hf hX hU) (by rfl) B.isinstance (by decide +kernel) (pa_cons (pv 0) (pa_cons (pe_glob (v := .ref C_Leans) rfl m_Leans rfl) pa_nil))) (pa_cons (pe_callB (call_isH (a := p.1) (oe := p.2) (List.mem_cons_self ..) hz hf hX hU) (by rfl) B.isinstance (by decide +kernel) (pa_cons (pv 0) (pa_cons (pe_glob (v := .ref C_BadNumber) rfl m_BadNumber rfl) pa_nil))) pa_nil))))))
        (pss_cons (ps_set (i := 1) sc__law_word.nd rfl (Or.inl rfl) (pe_op op_cat (pv 1) (pe_lst (pa_cons (pe_callB (call_isH (a := p.1) (oe := p.2) (List.mem_cons_self ..) hz hf hX hU) (by rfl) B.isinstance (by decide +kernel) (pa_cons (pv 0) (pa_cons (pe_glob (v := .ref C_NotAWalk) rfl m_NotAWalk rfl) pa_nil))) (pa_cons (pe_callB (call_isH (a := p.1) (oe := p.2) (List.mem_cons_self ..) hz hf hX hU) (by rfl) B.isinstance (by decide +kernel) (pa_cons (pv 0) (pa_cons (pe_glob (v := .ref C_Broken) rfl m_Broken rfl) pa_nil))) (pa_cons (pe_callB (call_isH (a := p.1) (oe := p.2) (List.mem_cons_self ..) hz hf hX hU) (by rfl) B.isinstance (by decide +kernel) (pa_cons (pv 0) (pa_cons (pe_glob (v := .ref C_TooGreat) rfl m_TooGreat rfl) pa_nil))) (pa_cons (pe_callB (call_isH (a := p.1) (oe := p.2) (List.mem_cons_self ..) hz hf hX hU) (by rfl) B.isinstance (by decide +kernel) (pa_cons (pv 0) (pa_cons (pe_glob (v := .ref C_BadText) rfl m_BadText rfl) pa_nil))) pa_nil)))))))
        (pss_cons (ps_set (i := 1) sc__law_word.nd rfl (Or.inl rfl) (pe_op op_cat (pv 1) (pe_lst (pa_cons (pe_callB (call_isH (a := p.1) (oe := p.2) (List.mem_cons_self ..) hz hf hX hU) (by rfl) B.isinstance (by decide +kernel) (pa_cons (pv 0) (pa_cons (pe_glob (v := .ref C_Full) rfl m_Full rfl) pa_nil))) (pa_cons (pe_callB (call_isH (a := p.1) (oe := p.2) (List.mem_cons_self ..) hz hf hX hU) (by rfl) B.isinstance (by decide +kernel) (pa_cons (pv 0) (pa_cons (pe_glob (v := .ref C_Loop) rfl m_Loop rfl) pa_nil))) (pa_cons (pe_callB (call_isH (a := p.1) (oe := p.2) (List.mem_cons_self ..) hz hf hX hU) (by rfl) B.isinstance (by decide +kernel) (pa_cons (pv 0) (pa_cons (pe_glob (v := .ref C_NoDoor) rfl m_NoDoor rfl) pa_nil))) (pa_cons (pe_callB (call_isH (a := p.1) (oe := p.2) (List.mem_cons_self ..) hz hf hX hU) (by rfl) B.isinstance (by decide +kernel) (pa_cons (pv 0) (pa_cons (pe_glob (v := .ref C_NoSight) rfl m_NoSight rfl) pa_nil))) pa_nil)))))))
        (pss_cons (ps_set (i := 1) sc__law_word.nd rfl (Or.inl rfl) (pe_op op_cat (pv 1) (pe_lst (pa_cons (pe_callB (call_isH (a := p.1) (oe := p.2) (List.mem_cons_self ..) hz hf hX hU) (by rfl) B.isinstance (by decide +kernel) (pa_cons (pv 0) (pa_cons (pe_glob (v := .ref C_BadRound) rfl m_BadRound rfl) pa_nil))) (pa_cons (pe_callB (call_isH (a := p.1) (oe := p.2) (List.mem_cons_self ..) hz hf hX hU) (by rfl) B.isinstance (by decide +kernel) (pa_cons (pv 0) (pa_cons (pe_glob (v := .ref C_Bare) rfl m_Bare rfl) pa_nil))) (pa_cons (pe_callB (call_isH (a := p.1) (oe := p.2) (List.mem_cons_self ..) hz hf hX hU) (by rfl) B.isinstance (by decide +kernel) (pa_cons (pv 0) (pa_cons (pe_glob (v := .ref C_BadDeed) rfl m_BadDeed rfl) pa_nil))) (pa_cons (pe_callB (call_isH (a := p.1) (oe := p.2) (List.mem_cons_self ..) hz hf hX hU) (by rfl) B.isinstance (by decide +kernel) (pa_cons (pv 0) (pa_cons (pe_glob (v := .ref C_BadAsking) rfl m_BadAsking rfl) pa_nil))) pa_nil)))))))
        (pss_cons (ps_set (i := 1) sc__law_word.nd rfl (Or.inl rfl) (pe_op op_cat (pv 1) (pe_lst (pa_cons (pe_callB (call_isH (a := p.1) (oe := p.2) (List.mem_cons_self ..) hz hf hX hU) (by rfl) B.isinstance (by decide +kernel) (pa_cons (pv 0) (pa_cons (pe_glob (v := .ref C_NoRoom) rfl m_NoRoom rfl) pa_nil))) (pa_cons (pe_callB (call_isH (a := p.1) (oe := p.2) (List.mem_cons_self ..) hz hf hX hU) (by rfl) B.isinstance (by decide +kernel) (pa_cons (pv 0) (pa_cons (pe_glob (v := .ref C_NoPost) rfl m_NoPost rfl) pa_nil))) (pa_cons (pe_callB (call_isH (a := p.1) (oe := p.2) (List.mem_cons_self ..) hz hf hX hU) (by rfl) B.isinstance (by decide +kernel) (pa_cons (pv 0) (pa_cons (pe_glob (v := .ref C_NoWatcher) rfl m_NoWatcher rfl) pa_nil))) (pa_cons (pe_callB (call_isH (a := p.1) (oe := p.2) (List.mem_cons_self ..) hz hf hX hU) (by rfl) B.isinstance (by decide +kernel) (pa_cons (pv 0) (pa_cons (pe_glob (v := .ref C_NoWatch) rfl m_NoWatch rfl) pa_nil))) pa_nil)))))))
        (pss_cons (ps_set (i := 2) sc__law_word.nd rfl (Or.inl rfl) pe_str)
        (pss_cons (ps_set (i := 2) sc__law_word.nd rfl (Or.inl rfl) (pe_op op_add_str (pv 2) pe_str))
        (pss_cons (ps_set (i := 2) sc__law_word.nd rfl (Or.inl rfl) (pe_split (pv 2) pe_str))
        (pss_one (ps_ret (pe_join pe_str (lc_zipH (own := [("_law_word_here", 3), ("_law_so", 4)]) ⟨p, hot, List.mem_cons_self ..⟩ sc__law_word.nd rfl B.zip (pa_cons (pv 2) (pa_cons (pe_op op_cat (pv 1) (pe_lst (pa_cons (pe_callB (call_isH (a := p.1) (oe := p.2) (List.mem_cons_self ..) hz hf hX hU) (by rfl) B.isinstance (by decide +kernel) (pa_cons (pv 0) (pa_cons (pe_glob (v := .ref C_Nothing) rfl m_Nothing rfl) pa_nil))) pa_nil))) pa_nil)) (blkOk_by (own := [("_law_word_here", 3), ("_law_so", 4)]) (N := ["_law_e", "_law_kinds", "_law_every", "_law_word_here", "_law_so"]) (sc := defScope s__law_word) (by decide +kernel)) (fun s0 H0 C0 cl0 fp0 hd0 => blk_tup2H (i := 3) (j := 4) sc__law_word.nd (s := s0) (H := H0) (C := C0) (cl := cl0) (fp := fp0) (hd := hd0)) (fun _ _ _ _ _ => (pts_one (pt_val (pv 4)))) (fun _ _ _ _ _ => (pv 3)))))))))))))), ?_⟩
    try dsimp only [L3.cxK, L3.cxKX]
    rintro Rs M k X ⟨fs, rfl, rfl, kn, q⟩
    have wl : (wdX (XTl C_BadName C_Taken C_Leans C_BadNumber C_NotAWalk C_Broken C_TooGreat C_BadText C_Full C_Loop C_NoDoor C_NoSight C_BadRound C_Bare C_BadDeed C_BadAsking C_NoRoom C_NoPost C_NoWatcher C_NoWatch C_Nothing) ⟨D, fs⟩).length ≤ 20 := by
      obtain ⟨c, h1, _⟩ := id kn
      have hm : c.w ∈ ((XTl C_BadName C_Taken C_Leans C_BadNumber C_NotAWalk C_Broken C_TooGreat C_BadText C_Full C_Loop C_NoDoor C_NoSight C_BadRound C_Bare C_BadDeed C_BadAsking C_NoRoom C_NoPost C_NoWatcher C_NoWatch C_Nothing)).map (·.w) := List.mem_map.mpr ⟨c, (atX_mem h1).1, rfl⟩
      have e : wdX (XTl C_BadName C_Taken C_Leans C_BadNumber C_NotAWalk C_Broken C_TooGreat C_BadText C_Full C_Loop C_NoDoor C_NoSight C_BadRound C_Bare C_BadDeed C_BadAsking C_NoRoom C_NoPost C_NoWatcher C_NoWatch C_Nothing) ⟨D, fs⟩ = c.w := by unfold wdX; rw [h1]; rfl
      rw [e]
      exact lawWords_len _ hm
    refine st_seq (st_asg (Ep.ev (ep_lst (eap_cons (ep_cb (eap_cons (ep_var rfl) (eap_cons (ep_c fun _ => rfl) eap_nil)) (c_isH (kit_of TX kn (.head _)))) (eap_cons (ep_cb (eap_cons (ep_var rfl) (eap_cons (ep_c fun _ => rfl) eap_nil)) (c_isH (kit_of TX kn (.tail _ (.head _))))) (eap_cons (ep_cb (eap_cons (ep_var rfl) (eap_cons (ep_c fun _ => rfl) eap_nil)) (c_isH (kit_of TX kn (.tail _ (.tail _ (.head _)))))) (eap_cons (ep_cb (eap_cons (ep_var rfl) (eap_cons (ep_c fun _ => rfl) eap_nil)) (c_isH (kit_of TX kn (.tail _ (.tail _ (.tail _ (.head _))))))) eap_nil)))) (by simp)) ?_))
    refine st_seq (st_asg (Ep.ev (ep_op (ep_var rfl) (ep_lst (eap_cons (ep_cb (eap_cons (ep_var rfl) (eap_cons (ep_c fun _ => rfl) eap_nil)) (c_isH (kit_of TX kn (.tail _ (.tail _ (.tail _ (.tail _ (.head _)))))))) (eap_cons (ep_cb (eap_cons (ep_var rfl) (eap_cons (ep_c fun _ => rfl) eap_nil)) (c_isH (kit_of TX kn (.tail _ (.tail _ (.tail _ (.tail _ (.tail _ (.head _))))))))) (eap_cons (ep_cb (eap_cons (ep_var rfl) (eap_cons (ep_c fun _ => rfl) eap_nil)) (c_isH (kit_of TX kn (.tail _ (.tail _ (.tail _ (.tail _ (.tail _ (.tail _ (.head _)))))))))) (eap_cons (ep_cb (eap_cons (ep_var rfl) (eap_cons (ep_c fun _ => rfl) eap_nil)) (c_isH (kit_of TX kn (.tail _ (.tail _ (.tail _ (.tail _ (.tail _ (.tail _ (.tail _ (.head _))))))))))) eap_nil)))) (by simp)) (o_cat (by simp))) ?_))
    refine st_seq (st_asg (Ep.ev (ep_op (ep_var rfl) (ep_lst (eap_cons (ep_cb (eap_cons (ep_var rfl) (eap_cons (ep_c fun _ => rfl) eap_nil)) (c_isH (kit_of TX kn (.tail _ (.tail _ (.tail _ (.tail _ (.tail _ (.tail _ (.tail _ (.tail _ (.head _)))))))))))) (eap_cons (ep_cb (eap_cons (ep_var rfl) (eap_cons (ep_c fun _ => rfl) eap_nil)) (c_isH (kit_of TX kn (.tail _ (.tail _ (.tail _ (.tail _ (.tail _ (.tail _ (.tail _ (.tail _ (.tail _ (.head _))))))))))))) (eap_cons (ep_cb (eap_cons (ep_var rfl) (eap_cons (ep_c fun _ => rfl) eap_nil)) (c_isH (kit_of TX kn (.tail _ (.tail _ (.tail _ (.tail _ (.tail _ (.tail _ (.tail _ (.tail _ (.tail _ (.tail _ (.head _)))))))))))))) (eap_cons (ep_cb (eap_cons (ep_var rfl) (eap_cons (ep_c fun _ => rfl) eap_nil)) (c_isH (kit_of TX kn (.tail _ (.tail _ (.tail _ (.tail _ (.tail _ (.tail _ (.tail _ (.tail _ (.tail _ (.tail _ (.tail _ (.head _))))))))))))))) eap_nil)))) (by simp)) (o_cat (by simp))) ?_))
    refine st_seq (st_asg (Ep.ev (ep_op (ep_var rfl) (ep_lst (eap_cons (ep_cb (eap_cons (ep_var rfl) (eap_cons (ep_c fun _ => rfl) eap_nil)) (c_isH (kit_of TX kn (.tail _ (.tail _ (.tail _ (.tail _ (.tail _ (.tail _ (.tail _ (.tail _ (.tail _ (.tail _ (.tail _ (.tail _ (.head _)))))))))))))))) (eap_cons (ep_cb (eap_cons (ep_var rfl) (eap_cons (ep_c fun _ => rfl) eap_nil)) (c_isH (kit_of TX kn (.tail _ (.tail _ (.tail _ (.tail _ (.tail _ (.tail _ (.tail _ (.tail _ (.tail _ (.tail _ (.tail _ (.tail _ (.tail _ (.head _))))))))))))))))) (eap_cons (ep_cb (eap_cons (ep_var rfl) (eap_cons (ep_c fun _ => rfl) eap_nil)) (c_isH (kit_of TX kn (.tail _ (.tail _ (.tail _ (.tail _ (.tail _ (.tail _ (.tail _ (.tail _ (.tail _ (.tail _ (.tail _ (.tail _ (.tail _ (.tail _ (.head _)))))))))))))))))) (eap_cons (ep_cb (eap_cons (ep_var rfl) (eap_cons (ep_c fun _ => rfl) eap_nil)) (c_isH (kit_of TX kn (.tail _ (.tail _ (.tail _ (.tail _ (.tail _ (.tail _ (.tail _ (.tail _ (.tail _ (.tail _ (.tail _ (.tail _ (.tail _ (.tail _ (.tail _ (.head _))))))))))))))))))) eap_nil)))) (by simp)) (o_cat (by simp))) ?_))
    refine st_seq (st_asg (Ep.ev (ep_op (ep_var rfl) (ep_lst (eap_cons (ep_cb (eap_cons (ep_var rfl) (eap_cons (ep_c fun _ => rfl) eap_nil)) (c_isH (kit_of TX kn (.tail _ (.tail _ (.tail _ (.tail _ (.tail _ (.tail _ (.tail _ (.tail _ (.tail _ (.tail _ (.tail _ (.tail _ (.tail _ (.tail _ (.tail _ (.tail _ (.head _)))))))))))))))))))) (eap_cons (ep_cb (eap_cons (ep_var rfl) (eap_cons (ep_c fun _ => rfl) eap_nil)) (c_isH (kit_of TX kn (.tail _ (.tail _ (.tail _ (.tail _ (.tail _ (.tail _ (.tail _ (.tail _ (.tail _ (.tail _ (.tail _ (.tail _ (.tail _ (.tail _ (.tail _ (.tail _ (.tail _ (.head _))))))))))))))))))))) (eap_cons (ep_cb (eap_cons (ep_var rfl) (eap_cons (ep_c fun _ => rfl) eap_nil)) (c_isH (kit_of TX kn (.tail _ (.tail _ (.tail _ (.tail _ (.tail _ (.tail _ (.tail _ (.tail _ (.tail _ (.tail _ (.tail _ (.tail _ (.tail _ (.tail _ (.tail _ (.tail _ (.tail _ (.tail _ (.head _)))))))))))))))))))))) (eap_cons (ep_cb (eap_cons (ep_var rfl) (eap_cons (ep_c fun _ => rfl) eap_nil)) (c_isH (kit_of TX kn (.tail _ (.tail _ (.tail _ (.tail _ (.tail _ (.tail _ (.tail _ (.tail _ (.tail _ (.tail _ (.tail _ (.tail _ (.tail _ (.tail _ (.tail _ (.tail _ (.tail _ (.tail _ (.tail _ (.head _))))))))))))))))))))))) eap_nil)))) (by simp)) (o_cat (by simp))) ?_))
    refine st_seq (st_asg (Ep.ev ep_str ?_))
    refine st_seq (st_asg (Ep.ev (ep_op (ep_var rfl) ep_str (o_addS (by decide +kernel))) ?_))
    refine st_seq (st_asg (ev_tM1 (ep_var rfl _ _ ⟨_, rfl, ep_str _ _ (om_split rfl (by decide +kernel) ?_)⟩)))
    rw [lawWords_ok]
    refine st_ret (Ep.ev (R := aStr (wdX (XTl C_BadName C_Taken C_Leans C_BadNumber C_NotAWalk C_Broken C_TooGreat C_BadText C_Full C_Loop C_NoDoor C_NoSight C_BadRound C_Bare C_BadDeed C_BadAsking C_NoRoom C_NoPost C_NoWatcher C_NoWatch C_Nothing) ⟨D, fs⟩)) (Ep.to (ep_tM1 ep_str (Ep.to (R1 := iLst ([wdX (XTl C_BadName C_Taken C_Leans C_BadNumber C_NotAWalk C_Broken C_TooGreat C_BadText C_Full C_Loop C_NoDoor C_NoSight C_BadRound C_Bare C_BadDeed C_BadAsking C_NoRoom C_NoPost C_NoWatcher C_NoWatch C_Nothing) ⟨D, fs⟩].map aStr)) (ep_lc (by decide) (tip_zipH (ep_var rfl) (ep_op (ep_var rfl) (ep_lst (eap_cons (ep_cb (eap_cons (ep_var rfl) (eap_cons (ep_c fun _ => rfl) eap_nil)) (c_isH (kit_of TX kn (.tail _ (.tail _ (.tail _ (.tail _ (.tail _ (.tail _ (.tail _ (.tail _ (.tail _ (.tail _ (.tail _ (.tail _ (.tail _ (.tail _ (.tail _ (.tail _ (.tail _ (.tail _ (.tail _ (.tail _ (.head _)))))))))))))))))))))))) eap_nil) (by simp)) (o_cat (by simp))) (n := 21) rfl (by rw [List.length_map]; exact Nat.le_of_ble_eq_true rfl)) (by decide) (fun i => (⟨D, fs⟩ : XR).cls == (((XTl C_BadName C_Taken C_Leans C_BadNumber C_NotAWalk C_Broken C_TooGreat C_BadText C_Full C_Loop C_NoDoor C_NoSight C_BadRound C_Bare C_BadDeed C_BadAsking C_NoRoom C_NoPost C_NoWatcher C_NoWatch C_Nothing)).getD i ⟨0, "", none⟩).C) (fun i => aStr (((XTl C_BadName C_Taken C_Leans C_BadNumber C_NotAWalk C_Broken C_TooGreat C_BadText C_Full C_Loop C_NoDoor C_NoSight C_BadRound C_Bare C_BadDeed C_BadAsking C_NoRoom C_NoPost C_NoWatcher C_NoWatch C_Nothing)).getD i ⟨0, "", none⟩).w) (fun i r hi hr => ?_)) (congrArg iLst (one_word TX kn ⟨0, "", none⟩))) (om_join (l := [wdX (XTl C_BadName C_Taken C_Leans C_BadNumber C_NotAWalk C_Broken C_TooGreat C_BadText C_Full C_Loop C_NoDoor C_NoSight C_BadRound C_Bare C_BadDeed C_BadAsking C_NoRoom C_NoPost C_NoWatcher C_NoWatch C_Nothing) ⟨D, fs⟩]) (by show (wdX _ _).length + 0 + 1 * (" " : Str).length ≤ 16000000; rw [show (" " : Str).length = 1 from rfl]; omega))) ?_) q)
    · obtain ⟨q1, q2, e1, e2, rfl⟩ := hr
      have e1 : q1 = aStr (((XTl C_BadName C_Taken C_Leans C_BadNumber C_NotAWalk C_Broken C_TooGreat C_BadText C_Full C_Loop C_NoDoor C_NoSight C_BadRound C_Bare C_BadDeed C_BadAsking C_NoRoom C_NoPost C_NoWatcher C_NoWatch C_Nothing)).getD i ⟨0, "", none⟩).w := get_map (l := (XTl C_BadName C_Taken C_Leans C_BadNumber C_NotAWalk C_Broken C_TooGreat C_BadText C_Full C_Loop C_NoDoor C_NoSight C_BadRound C_Bare C_BadDeed C_BadAsking C_NoRoom C_NoPost C_NoWatcher C_NoWatch C_Nothing)) (f := fun c => aStr c.w) e1
      have e2 : q2 = iBl ((⟨D, fs⟩ : XR).cls == (((XTl C_BadName C_Taken C_Leans C_BadNumber C_NotAWalk C_Broken C_TooGreat C_BadText C_Full C_Loop C_NoDoor C_NoSight C_BadRound C_Bare C_BadDeed C_BadAsking C_NoRoom C_NoPost C_NoWatcher C_NoWatch C_Nothing)).getD i ⟨0, "", none⟩).C) := get_map (l := (XTl C_BadName C_Taken C_Leans C_BadNumber C_NotAWalk C_Broken C_TooGreat C_BadText C_Full C_Loop C_NoDoor C_NoSight C_BadRound C_Bare C_BadDeed C_BadAsking C_NoRoom C_NoPost C_NoWatcher C_NoWatch C_Nothing)) (f := fun c => iBl (D == c.C)) e2
      subst e1 e2
      exact tg_tup rfl (tgs_cons (tg_name (tgs_cons (tg_name (tgs_nil ⟨rfl, etp_tB (ep_var rfl), fun _ => ep_var rfl⟩)))))
    · exact congrArg aStr (join_one _ _)
    )) only [↓bx_true]

abbrev s__law_field : Stmt := top 37
theorem sc__law_field : FnScope ["_law_e"] ["_law_e"] (defScope s__law_field) := ⟨rfl, rfl, rfl, by decide +kernel, rfl, by decide +kernel, by decide +kernel⟩
/-- the fields by their places in the table -/
def fldL : List (Option Str) := [some "name", some "name", some "name", some "asked", some "at", some "at", some "many", some "row", none, none, none, none, none, none, none, none, some "name", some "name", some "name", some "name", none]
theorem fld_some : ∀ j : Fin 21, ([0, 1, 2, 16, 17, 18, 19].any fun i => decide (i = j.val)) = true → fldL.getD j.val none = some "name" := by decide +kernel
theorem fld_1 : ∀ j : Fin 21, decide (3 = j.val) = true → fldL.getD j.val none = some "asked" := by decide +kernel
theorem fld_2 : ∀ j : Fin 21, ([4, 5].any fun i => decide (i = j.val)) = true → fldL.getD j.val none = some "at" := by decide +kernel
theorem fld_3 : ∀ j : Fin 21, decide (6 = j.val) = true → fldL.getD j.val none = some "many" := by decide +kernel
theorem fld_4 : ∀ j : Fin 21, decide (7 = j.val) = true → fldL.getD j.val none = some "row" := by decide +kernel
theorem fld_none : ∀ j : Fin 21, ([0, 1, 2, 16, 17, 18, 19].any fun i => decide (i = j.val)) = false → decide (3 = j.val) = false → ([4, 5].any fun i => decide (i = j.val)) = false → decide (6 = j.val) = false → decide (7 = j.val) = false → fldL.getD j.val none = none := by decide +kernel
theorem ok__law_field (B : Bt mg) {C_DarkError C_Missing C_BadName C_Taken C_Leans C_BadNumber C_NotAWalk C_Broken C_TooGreat C_BadText C_Full C_Loop C_NoDoor C_NoSight C_BadRound C_Bare C_BadDeed C_BadAsking C_NoRoom C_NoPost C_NoWatcher C_NoWatch C_Nothing : Addr} (m_BadName : mg "BadName" = some (.ref C_BadName)) (m_Taken : mg "Taken" = some (.ref C_Taken)) (m_Leans : mg "Leans" = some (.ref C_Leans)) (m_BadNumber : mg "BadNumber" = some (.ref C_BadNumber)) (m_NotAWalk : mg "NotAWalk" = some (.ref C_NotAWalk)) (m_Broken : mg "Broken" = some (.ref C_Broken)) (m_TooGreat : mg "TooGreat" = some (.ref C_TooGreat)) (m_BadText : mg "BadText" = some (.ref C_BadText)) (m_Full : mg "Full" = some (.ref C_Full)) (m_Loop : mg "Loop" = some (.ref C_Loop)) (m_NoDoor : mg "NoDoor" = some (.ref C_NoDoor)) (m_NoSight : mg "NoSight" = some (.ref C_NoSight)) (m_BadRound : mg "BadRound" = some (.ref C_BadRound)) (m_Bare : mg "Bare" = some (.ref C_Bare)) (m_BadDeed : mg "BadDeed" = some (.ref C_BadDeed)) (m_BadAsking : mg "BadAsking" = some (.ref C_BadAsking)) (m_NoRoom : mg "NoRoom" = some (.ref C_NoRoom)) (m_NoPost : mg "NoPost" = some (.ref C_NoPost)) (m_NoWatcher : mg "NoWatcher" = some (.ref C_NoWatcher)) (m_NoWatch : mg "NoWatch" = some (.ref C_NoWatch)) (m_Nothing : mg "Nothing" = some (.ref C_Nothing)) (TX : XTab K (XTl C_BadName C_Taken C_Leans C_BadNumber C_NotAWalk C_Broken C_TooGreat C_BadText C_Full C_Loop C_NoDoor C_NoSight C_BadRound C_Bare C_BadDeed C_BadAsking C_NoRoom C_NoPost C_NoWatcher C_NoWatch C_Nothing) C_DarkError C_Missing C_Nothing) {f : Addr} {fd : FuncData} (d : Df K mg "_law_field" s__law_field ["_law_e"] f fd) : ClE P w K mg base 1 "_law_field" (tsFieldX (XTl C_BadName C_Taken C_Leans C_BadNumber C_NotAWalk C_Broken C_TooGreat C_BadText C_Full C_Loop C_NoDoor C_NoSight C_BadRound C_Bare C_BadDeed C_BadAsking C_NoRoom C_NoPost C_NoWatcher C_NoWatch C_Nothing)) := by
  refine bx_of ?_
  simp (disch := with_unfolding_all (
    refine ⟨f, fd, ["_law_e"], ?_, d.mg, d.fn.kp, d.bd⟩
    refine okE (kk := 0) d.fn sc__law_field (fun a D dd Rs M k X h => by obtain ⟨_, rfl, _⟩ := h; rfl) fun cdv A outer s H p D dd hr hot hz hf hts => ?_
    have hX := xis_F TX hts
    have hU := TX.U
    clear hts
    refine ⟨_,
      (pss_cons (ps_if (pt_val (pe_callB (call_isHT (a := p.1) (oe := p.2) (List.mem_cons_self ..) hz hf hX hU) (by rfl) B.isinstance (by decide +kernel) (pa_cons (pv 0) (pa_cons (pe_tup (pa_cons (pe_glob (v := .ref C_BadName) rfl m_BadName rfl) (pa_cons (pe_glob (v := .ref C_Taken) rfl m_Taken rfl) (pa_cons (pe_glob (v := .ref C_Leans) rfl m_Leans rfl) (pa_cons (pe_glob (v := .ref C_NoRoom) rfl m_NoRoom rfl) (pa_cons (pe_glob (v := .ref C_NoPost) rfl m_NoPost rfl) (pa_cons (pe_glob (v := .ref C_NoWatcher) rfl m_NoWatcher rfl) (pa_cons (pe_glob (v := .ref C_NoWatch) rfl m_NoWatch rfl) pa_nil)))))))) pa_nil)))) (pss_one (ps_ret (pe_xfH (a := p.1) (oe := p.2) (List.mem_cons_self ..) hz hf hX (pv 0)))) pss_nil)
        (pss_cons (ps_if (pt_val (pe_callB (call_isH (a := p.1) (oe := p.2) (List.mem_cons_self ..) hz hf hX hU) (by rfl) B.isinstance (by decide +kernel) (pa_cons (pv 0) (pa_cons (pe_glob (v := .ref C_BadNumber) rfl m_BadNumber rfl) pa_nil)))) (pss_one (ps_ret (pe_xfH (a := p.1) (oe := p.2) (List.mem_cons_self ..) hz hf hX (pv 0)))) pss_nil)
        (pss_cons (ps_if (pt_val (pe_callB (call_isHT (a := p.1) (oe := p.2) (List.mem_cons_self ..) hz hf hX hU) (by rfl) B.isinstance (by decide +kernel) (pa_cons (pv 0) (pa_cons (pe_tup (pa_cons (pe_glob (v := .ref C_NotAWalk) rfl m_NotAWalk rfl) (pa_cons (pe_glob (v := .ref C_Broken) rfl m_Broken rfl) pa_nil))) pa_nil)))) (pss_one (ps_ret (pe_xfH (a := p.1) (oe := p.2) (List.mem_cons_self ..) hz hf hX (pv 0)))) pss_nil)
        (pss_cons (ps_if (pt_val (pe_callB (call_isH (a := p.1) (oe := p.2) (List.mem_cons_self ..) hz hf hX hU) (by rfl) B.isinstance (by decide +kernel) (pa_cons (pv 0) (pa_cons (pe_glob (v := .ref C_TooGreat) rfl m_TooGreat rfl) pa_nil)))) (pss_one (ps_ret (pe_xfH (a := p.1) (oe := p.2) (List.mem_cons_self ..) hz hf hX (pv 0)))) pss_nil)
        (pss_one (ps_ret (pe_ifExp (pt_val (pe_callB (call_isH (a := p.1) (oe := p.2) (List.mem_cons_self ..) hz hf hX hU) (by rfl) B.isinstance (by decide +kernel) (pa_cons (pv 0) (pa_cons (pe_glob (v := .ref C_BadText) rfl m_BadText rfl) pa_nil)))) (pe_xfH (a := p.1) (oe := p.2) (List.mem_cons_self ..) hz hf hX (pv 0)) pe_non))))))), ?_⟩
    try dsimp only [L3.cxK, L3.cxKX]
    rintro Rs M k X ⟨fs, rfl, rfl, kn, q⟩
    obtain ⟨j, hj, hi, hf0, hf1⟩ := kn_ix TX kn ⟨0, "", none⟩
    replace hj : j < 21 := hj
    have ef : (((XTl C_BadName C_Taken C_Leans C_BadNumber C_NotAWalk C_Broken C_TooGreat C_BadText C_Full C_Loop C_NoDoor C_NoSight C_BadRound C_Bare C_BadDeed C_BadAsking C_NoRoom C_NoPost C_NoWatcher C_NoWatch C_Nothing)).getD j ⟨0, "", none⟩).fld = fldL.getD j none := by
      have : fldL = ((XTl C_BadName C_Taken C_Leans C_BadNumber C_NotAWalk C_Broken C_TooGreat C_BadText C_Full C_Loop C_NoDoor C_NoSight C_BadRound C_Bare C_BadDeed C_BadAsking C_NoRoom C_NoPost C_NoWatcher C_NoWatch C_Nothing)).map (·.fld) := rfl
      rw [this, List.getD_eq_getElem?_getD, List.getD_eq_getElem?_getD, List.getElem?_map]
      cases ((XTl C_BadName C_Taken C_Leans C_BadNumber C_NotAWalk C_Broken C_TooGreat C_BadText C_Full C_Loop C_NoDoor C_NoSight C_BadRound C_Bare C_BadDeed C_BadAsking C_NoRoom C_NoPost C_NoWatcher C_NoWatch C_Nothing))[j]? <;> rfl
    rw [ef] at hf0
    simp only [ef] at hf1
    have a1 : ([C_BadName, C_Taken, C_Leans, C_NoRoom, C_NoPost, C_NoWatcher, C_NoWatch].any fun C => D == C) = [0, 1, 2, 16, 17, 18, 19].any fun i => decide (i = j) := by
      simp only [List.any_cons, List.any_nil]
      rw [← hi 0 (by show 0 < 21; decide), ← hi 1 (by show 1 < 21; decide), ← hi 2 (by show 2 < 21; decide), ← hi 16 (by show 16 < 21; decide), ← hi 17 (by show 17 < 21; decide), ← hi 18 (by show 18 < 21; decide), ← hi 19 (by show 19 < 21; decide)]
      rfl
    have a2 : (D == C_BadNumber) = decide (3 = j) := hi 3 (by show 3 < 21; decide)
    have a3 : ([C_NotAWalk, C_Broken].any fun C => D == C) = [4, 5].any fun i => decide (i = j) := by
      simp only [List.any_cons, List.any_nil]
      rw [← hi 4 (by show 4 < 21; decide), ← hi 5 (by show 5 < 21; decide)]
      rfl
    have a4 : (D == C_TooGreat) = decide (6 = j) := hi 6 (by show 6 < 21; decide)
    have a5 : (D == C_BadText) = decide (7 = j) := hi 7 (by show 7 < 21; decide)
    have k1 : PySem.W.kitAny K (.ref D) ([C_BadName, C_Taken, C_Leans, C_NoRoom, C_NoPost, C_NoWatcher, C_NoWatch].map Value.ref) = some ([0, 1, 2, 16, 17, 18, 19].any fun i => decide (i = j)) := by
      rw [← a1]
      exact kitAny_of fun C hC => by
        simp only [List.mem_cons, List.not_mem_nil, or_false] at hC
        rcases hC with rfl | rfl | rfl | rfl | rfl | rfl | rfl
        · exact kit_of TX kn (.head _)
        · exact kit_of TX kn (.tail _ (.head _))
        · exact kit_of TX kn (.tail _ (.tail _ (.head _)))
        · exact kit_of TX kn (.tail _ (.tail _ (.tail _ (.tail _ (.tail _ (.tail _ (.tail _ (.tail _ (.tail _ (.tail _ (.tail _ (.tail _ (.tail _ (.tail _ (.tail _ (.tail _ (.head _)))))))))))))))))
        · exact kit_of TX kn (.tail _ (.tail _ (.tail _ (.tail _ (.tail _ (.tail _ (.tail _ (.tail _ (.tail _ (.tail _ (.tail _ (.tail _ (.tail _ (.tail _ (.tail _ (.tail _ (.tail _ (.head _))))))))))))))))))
        · exact kit_of TX kn (.tail _ (.tail _ (.tail _ (.tail _ (.tail _ (.tail _ (.tail _ (.tail _ (.tail _ (.tail _ (.tail _ (.tail _ (.tail _ (.tail _ (.tail _ (.tail _ (.tail _ (.tail _ (.head _)))))))))))))))))))
        · exact kit_of TX kn (.tail _ (.tail _ (.tail _ (.tail _ (.tail _ (.tail _ (.tail _ (.tail _ (.tail _ (.tail _ (.tail _ (.tail _ (.tail _ (.tail _ (.tail _ (.tail _ (.tail _ (.tail _ (.tail _ (.head _))))))))))))))))))))
    have k3 : PySem.W.kitAny K (.ref D) ([C_NotAWalk, C_Broken].map Value.ref) = some ([4, 5].any fun i => decide (i = j)) := by
      rw [← a3]
      exact kitAny_of fun C hC => by
        simp only [List.mem_cons, List.not_mem_nil, or_false] at hC
        rcases hC with rfl | rfl
        · exact kit_of TX kn (.tail _ (.tail _ (.tail _ (.tail _ (.head _)))))
        · exact kit_of TX kn (.tail _ (.tail _ (.tail _ (.tail _ (.tail _ (.head _))))))
    have k2 : PySem.W.kitOne K (.ref D) (.ref C_BadNumber) = some (decide (3 = j)) := by rw [← a2]; exact kit_of TX kn (.tail _ (.tail _ (.tail _ (.head _))))
    have k4 : PySem.W.kitOne K (.ref D) (.ref C_TooGreat) = some (decide (6 = j)) := by rw [← a4]; exact kit_of TX kn (.tail _ (.tail _ (.tail _ (.tail _ (.tail _ (.tail _ (.head _)))))))
    have k5 : PySem.W.kitOne K (.ref D) (.ref C_BadText) = some (decide (7 = j)) := by rw [← a5]; exact kit_of TX kn (.tail _ (.tail _ (.tail _ (.tail _ (.tail _ (.tail _ (.tail _ (.head _))))))))
    have f1 := fld_some ⟨j, hj⟩
    have f2 := fld_1 ⟨j, hj⟩
    have f3 := fld_2 ⟨j, hj⟩
    have f4 := fld_3 ⟨j, hj⟩
    have f5 := fld_4 ⟨j, hj⟩
    have f6 := fld_none ⟨j, hj⟩
    dsimp only at f1 f2 f3 f4 f5 f6
    clear a1 a2 a3 a4 a5 ef hi
    generalize ([0, 1, 2, 16, 17, 18, 19].any fun i => decide (i = j)) = b1 at f1 f6 k1
    generalize ([4, 5].any fun i => decide (i = j)) = b3 at f3 f6 k3
    generalize decide (3 = j) = b2 at f2 f6 k2
    generalize decide (6 = j) = b4 at f4 f6 k4
    generalize decide (7 = j) = b5 at f5 f6 k5
    generalize fldL.getD j none = fo at f1 f2 f3 f4 f5 f6 hf0 hf1
    refine st_seq (st_ifp (b := b1) (etp_tB (ep_cb (eap_cons (ep_var rfl) (eap_cons (ep_tupS (Rs := [C_BadName, C_Taken, C_Leans, C_NoRoom, C_NoPost, C_NoWatcher, C_NoWatch].map iRef) (eap_cons (ep_c fun _ => rfl) (eap_cons (ep_c fun _ => rfl) (eap_cons (ep_c fun _ => rfl) (eap_cons (ep_c fun _ => rfl) (eap_cons (ep_c fun _ => rfl) (eap_cons (ep_c fun _ => rfl) (eap_cons (ep_c fun _ => rfl) eap_nil))))))) (by simp)) eap_nil)) (c_isHT k1))) (fun e => ?_) (fun e1 => st_next ?_))
    · obtain ⟨no, R, l1, l2⟩ := hf1 _ (f1 e)
      rw [l2] at q
      exact st_ret (Ep.ev (ep_xfH (ep_var rfl) no l1) q)
    refine st_seq (st_ifp (b := b2) (etp_tB (ep_cb (eap_cons (ep_var rfl) (eap_cons (ep_c fun _ => rfl) eap_nil)) (c_isH k2))) (fun e => ?_) (fun e2 => st_next ?_))
    · obtain ⟨no, R, l1, l2⟩ := hf1 _ (f2 e)
      rw [l2] at q
      exact st_ret (Ep.ev (ep_xfH (ep_var rfl) no l1) q)
    refine st_seq (st_ifp (b := b3) (etp_tB (ep_cb (eap_cons (ep_var rfl) (eap_cons (ep_tupS (Rs := [C_NotAWalk, C_Broken].map iRef) (eap_cons (ep_c fun _ => rfl) (eap_cons (ep_c fun _ => rfl) eap_nil)) (by simp)) eap_nil)) (c_isHT k3))) (fun e => ?_) (fun e3 => st_next ?_))
    · obtain ⟨no, R, l1, l2⟩ := hf1 _ (f3 e)
      rw [l2] at q
      exact st_ret (Ep.ev (ep_xfH (ep_var rfl) no l1) q)
    refine st_seq (st_ifp (b := b4) (etp_tB (ep_cb (eap_cons (ep_var rfl) (eap_cons (ep_c fun _ => rfl) eap_nil)) (c_isH k4))) (fun e => ?_) (fun e4 => st_next ?_))
    · obtain ⟨no, R, l1, l2⟩ := hf1 _ (f4 e)
      rw [l2] at q
      exact st_ret (Ep.ev (ep_xfH (ep_var rfl) no l1) q)
    refine st_ret (Ep.ev (R := flX (XTl C_BadName C_Taken C_Leans C_BadNumber C_NotAWalk C_Broken C_TooGreat C_BadText C_Full C_Loop C_NoDoor C_NoSight C_BadRound C_Bare C_BadDeed C_BadAsking C_NoRoom C_NoPost C_NoWatcher C_NoWatch C_Nothing) ⟨D, fs⟩) (ep_if (b := b5) (etp_tB (ep_cb (eap_cons (ep_var rfl) (eap_cons (ep_c fun _ => rfl) eap_nil)) (c_isH k5))) (fun e => ?_) (fun e5 => ?_)) q)
    · obtain ⟨no, R, l1, l2⟩ := hf1 _ (f5 e)
      rw [l2]
      exact ep_xfH (ep_var rfl) no l1
    · rw [hf0, f6 e1 e2 e3 e4 e5]
      exact ep_non
    )) only [↓bx_true]

abbrev s__law_tried : Stmt := top 38
theorem ok__law_tried {C_DarkError C_Missing C_BadName C_Taken C_Leans C_BadNumber C_NotAWalk C_Broken C_TooGreat C_BadText C_Full C_Loop C_NoDoor C_NoSight C_BadRound C_Bare C_BadDeed C_BadAsking C_NoRoom C_NoPost C_NoWatcher C_NoWatch C_Nothing : Addr} (TX : XTab K (XTl C_BadName C_Taken C_Leans C_BadNumber C_NotAWalk C_Broken C_TooGreat C_BadText C_Full C_Loop C_NoDoor C_NoSight C_BadRound C_Bare C_BadDeed C_BadAsking C_NoRoom C_NoPost C_NoWatcher C_NoWatch C_Nothing) C_DarkError C_Missing C_Nothing) (m_DarkError : mg "DarkError" = some (.ref C_DarkError)) (m_Missing : mg "Missing" = some (.ref C_Missing)) (m_Nothing : mg "Nothing" = some (.ref C_Nothing)) (ce__law_word : ClE P w K mg base 1 "_law_word" (tsWordX (XTl C_BadName C_Taken C_Leans C_BadNumber C_NotAWalk C_Broken C_TooGreat C_BadText C_Full C_Loop C_NoDoor C_NoSight C_BadRound C_Bare C_BadDeed C_BadAsking C_NoRoom C_NoPost C_NoWatcher C_NoWatch C_Nothing))) (ce__law_field : ClE P w K mg base 1 "_law_field" (tsFieldX (XTl C_BadName C_Taken C_Leans C_BadNumber C_NotAWalk C_Broken C_TooGreat C_BadText C_Full C_Loop C_NoDoor C_NoSight C_BadRound C_Bare C_BadDeed C_BadAsking C_NoRoom C_NoPost C_NoWatcher C_NoWatch C_Nothing))) {f : Addr} {fd : FuncData} (d : Df K mg "_law_tried" s__law_tried ["_law_ask"] f fd) : ClL P w K mg base 3 "_law_tried" (TTr K C_DarkError C_Missing C_Nothing (tsWordX (XTl C_BadName C_Taken C_Leans C_BadNumber C_NotAWalk C_Broken C_TooGreat C_BadText C_Full C_Loop C_NoDoor C_NoSight C_BadRound C_Bare C_BadDeed C_BadAsking C_NoRoom C_NoPost C_NoWatcher C_NoWatch C_Nothing)) (tsFieldX (XTl C_BadName C_Taken C_Leans C_BadNumber C_NotAWalk C_Broken C_TooGreat C_BadText C_Full C_Loop C_NoDoor C_NoSight C_BadRound C_Bare C_BadDeed C_BadAsking C_NoRoom C_NoPost C_NoWatcher C_NoWatch C_Nothing))) :=
  ⟨f, tried_ok (k := 2) d.fn d.bd rfl rfl (by exact fun _ _ _ => rfl) (by exact fun _ _ _ => rfl) m_DarkError m_Missing m_Nothing ce__law_word ce__law_field (by decide) (by decide) (by decide), d.mg, d.fn.kp⟩
abbrev s_need_asking : Stmt := top 26
theorem sc_need_asking : FnScope ["asking", "shape"] ["asking"] (defScope s_need_asking) := ⟨rfl, rfl, rfl, by decide +kernel, rfl, by decide +kernel, by decide +kernel⟩
abbrev ts_xneed_asking (K : PySem.W.Frag) (C_BadAsking : Addr) : TSp := pureX fun Rs q qx => ∃ l : List Atom, Rs = [aTup K (l.map atomR)] ∧ l.length ≤ 1000 ∧ HeadS l ∧ (askGood l = true → q iNon) ∧ (askGood l = false → qx ⟨C_BadAsking, [("word", aStr "BadAsking")]⟩)
theorem ok_xneed_asking (B : Bt mg) {D_SHAPES : Addr} (g_SHAPES : ∃ u, mg "SHAPES" = some u ∧ RelV (.ref D_SHAPES) u) (kd_SHAPES : KdT K w D_SHAPES shapesL) {C_BadAsking : Addr} (ex_BadAsking : ClX P w K mg base "BadAsking" C_BadAsking none) {f : Addr} {fd : FuncData} (d : Df K mg "need_asking" s_need_asking ["asking"] f fd) : Cl P w K mg base (L2N.CX P w) 3 "need_asking" (ts_xneed_asking K C_BadAsking) [] := by
  refine bx_of ?_
  simp (disch := with_unfolding_all (
    refine cl_of d (okTXN (kk := 2) d.fn sc_need_asking (fun Rs M k X h => by obtain ⟨_, _, rfl, _⟩ := h; rfl) fun cdv A outer s H E hr => ⟨_,
      (pss_cons (ps_if (PW.pt (pw_or (pt_cmpR op_eq (pe_callB call_len (by rfl) B.len (by decide +kernel) (pa_cons (pv 0) pa_nil)) pe_int (nomark _)) (pw_or1 (pt_cmpR (op_ninKd kd_SHAPES) (pe_ix ix_tup (pv 0) pe_int (fun _ _ => rfl)) (pe_gc rfl g_SHAPES) (by rfl))))) (pss_one (ps_rz0 ex_BadAsking rfl hr (by decide) (L2N.takes_of rfl rfl rfl rfl) rfl)) pss_nil)
        (pss_one (ps_if (pt_cmpR op_notIn_seq (pe_op op_sub (pe_callB call_len (by rfl) B.len (by decide +kernel) (pa_cons (pv 0) pa_nil)) pe_int) (pe_lc (own := [("shape", 1)]) rfl sc_need_asking.nd (pi_tup (pe_ix ix_kdict (pe_gc rfl g_SHAPES) (pe_ix ix_tup (pv 0) pe_int (fun _ _ => rfl)) (fun _ _ => rfl))) (blkOk_by (own := [("shape", 1)]) (N := ["asking", "shape"]) (sc := defScope s_need_asking) (by decide +kernel)) (fun _ _ _ _ _ => (pg_name (i := 1) sc_need_asking.nd rfl (by first | exact Or.inl rfl | exact Or.inr rfl))) (fun _ _ _ _ _ => pts_nil) (fun _ _ _ _ _ => (pe_callB (castCall (K := K) (r := rLn) rfl call_len) (by rfl) B.len (by decide +kernel) (pa_cons (pv 1) pa_nil)))) (by rfl)) (pss_one (ps_rz0 ex_BadAsking rfl hr (by decide) (L2N.takes_of rfl rfl rfl rfl) rfl)) pss_nil))), ?_⟩)
    try dsimp only [L3.cxK, L3.cxKX]
    rintro Rs M k X ⟨rfl, l, rfl, l9, hd, q, qx⟩
    (repeat' decreasing_trivial_pre_omega)
    rcases hd with rfl | ⟨z, rest, rfl⟩
    · (repeat' decreasing_trivial_pre_omega)
      refine (if_pos (by rfl)).mpr ?_
      (repeat' decreasing_trivial_pre_omega)
      exact qx rfl
    refine (if_neg (by simp; omega)).mpr ?_
    (repeat' decreasing_trivial_pre_omega)
    refine o_ninKd kd_SHAPES _ ?_
    (repeat' decreasing_trivial_pre_omega)
    refine ite_b (fun h => ?_) (fun h => ?_)
    · (repeat' decreasing_trivial_pre_omega)
      exact qx (ask_no fun hn => by rw [decide_eq_true hn] at h; cases h)
    have h : z ∈ shapesL.map (·.1) := Decidable.byContradiction fun hn => by rw [decide_eq_false hn] at h; cases h
    obtain ⟨p, hp, rfl⟩ := List.mem_map.mp h
    (repeat' decreasing_trivial_pre_omega)
    refine Ep.ev (ep_lcTM (K := K) (l := p.2) (e := aStr) (e' := fun z : Str => iInt (z.length : Nat)) ?_ ?_ (by decide) (fun z hz => ?_)) ?_
    · (repeat' decreasing_trivial_pre_omega)
      refine o_ixKd kd_SHAPES hp _ ?_
      (repeat' decreasing_trivial_pre_omega)
    · have := (shape_len p hp).1
      omega
    · (repeat' decreasing_trivial_pre_omega)
      have := (shape_len p hp).2 z hz
      omega
    rw [show (p.2.map fun z : Str => iInt (z.length : Nat)) = (p.2.map fun z : Str => ((z.length : Nat) : Int)).map iInt from by rw [List.map_map]; rfl]
    refine o_ninI _ ?_
    rw [show (((Sum.inl p.1 :: rest : List Atom).map atomR).length : Int) - 1 = (rest.length : Int) from by simp, ← ask_in hp rest]
    refine ⟨_, rfl, ?_⟩
    cases hg : askGood (.inl p.1 :: rest) with
    | true =>
      (repeat' decreasing_trivial_pre_omega)
      exact q hg
    | false =>
      (repeat' decreasing_trivial_pre_omega)
      exact qx hg
    )) only [↓bx_true]

abbrev s__law_refused : Stmt := top 39
theorem ok__law_refused {C_DarkError C_Missing C_BadName C_Taken C_Leans C_BadNumber C_NotAWalk C_Broken C_TooGreat C_BadText C_Full C_Loop C_NoDoor C_NoSight C_BadRound C_Bare C_BadDeed C_BadAsking C_NoRoom C_NoPost C_NoWatcher C_NoWatch C_Nothing : Addr} (TX : XTab K (XTl C_BadName C_Taken C_Leans C_BadNumber C_NotAWalk C_Broken C_TooGreat C_BadText C_Full C_Loop C_NoDoor C_NoSight C_BadRound C_Bare C_BadDeed C_BadAsking C_NoRoom C_NoPost C_NoWatcher C_NoWatch C_Nothing) C_DarkError C_Missing C_Nothing) (cl__law_tried : ClL P w K mg base 3 "_law_tried" (TTr K C_DarkError C_Missing C_Nothing (tsWordX (XTl C_BadName C_Taken C_Leans C_BadNumber C_NotAWalk C_Broken C_TooGreat C_BadText C_Full C_Loop C_NoDoor C_NoSight C_BadRound C_Bare C_BadDeed C_BadAsking C_NoRoom C_NoPost C_NoWatcher C_NoWatch C_Nothing)) (tsFieldX (XTl C_BadName C_Taken C_Leans C_BadNumber C_NotAWalk C_Broken C_TooGreat C_BadText C_Full C_Loop C_NoDoor C_NoSight C_BadRound C_Bare C_BadDeed C_BadAsking C_NoRoom C_NoPost C_NoWatcher C_NoWatch C_Nothing)))) {f : Addr} {fd : FuncData} (d : Df K mg "_law_refused" s__law_refused ["_law_ask"] f fd) : ClL P w K mg base 4 "_law_refused" (TRf K (TTr K C_DarkError C_Missing C_Nothing (tsWordX (XTl C_BadName C_Taken C_Leans C_BadNumber C_NotAWalk C_Broken C_TooGreat C_BadText C_Full C_Loop C_NoDoor C_NoSight C_BadRound C_Bare C_BadDeed C_BadAsking C_NoRoom C_NoPost C_NoWatcher C_NoWatch C_Nothing)) (tsFieldX (XTl C_BadName C_Taken C_Leans C_BadNumber C_NotAWalk C_Broken C_TooGreat C_BadText C_Full C_Loop C_NoDoor C_NoSight C_BadRound C_Bare C_BadDeed C_BadAsking C_NoRoom C_NoPost C_NoWatcher C_NoWatch C_Nothing)))) := by
  obtain ⟨g, F, m, kp⟩ := cl__law_tried.ex
  exact ⟨f, refused_ok (k := 3) d.fn d.bd rfl rfl F m kp (by decide), d.mg, d.fn.kp⟩
abbrev s_law : Stmt := top 40
theorem sc_law : FnScope ["_law_script", "_law_box_here", "_law_m", "_law_turn", "_law_asking_here", "_law_pick", "_law_due"] ["_law_script"] (defScope s_law) := ⟨rfl, rfl, rfl, by decide +kernel, rfl, by decide +kernel, by decide +kernel⟩
abbrev ts_law (K : PySem.W.Frag) (Pt : Addr) : TSp := fun Rs M k _ => ∃ ns, Rs = [iScr K ns] ∧ ns.length ≤ 63 ∧ M = [(Pt, mTbl lamQ)] ∧ ∀ M', k (iBl true) M'
theorem ok_law (B : Bt mg) {C_DarkError C_Missing C_BadName C_Taken C_Leans C_BadNumber C_NotAWalk C_Broken C_TooGreat C_BadText C_Full C_Loop C_NoDoor C_NoSight C_BadRound C_Bare C_BadDeed C_BadAsking C_NoRoom C_NoPost C_NoWatcher C_NoWatch C_Nothing : Addr} (TX : XTab K (XTl C_BadName C_Taken C_Leans C_BadNumber C_NotAWalk C_Broken C_TooGreat C_BadText C_Full C_Loop C_NoDoor C_NoSight C_BadRound C_Bare C_BadDeed C_BadAsking C_NoRoom C_NoPost C_NoWatcher C_NoWatch C_Nothing) C_DarkError C_Missing C_Nothing) (c__law_box : Cl P w K mg base CX0 1 "_law_box" (ts__law_box K) []) (c__law_empty : Cl P w K mg base CX0 1 "_law_empty" (ts__law_empty K) []) (c__law_asking : Cl P w K mg base CX0 4 "_law_asking" (ts__law_asking K) []) (c__law_draw : Cl P w K mg base CX0 1 "_law_draw" (ts__law_draw K) []) (c__law_of : Cl P w K mg base CX0 2 "_law_of" (ts__law_of K) []) (c__law_asking_good : Cl P w K mg base CX0 1 "_law_asking_good" (ts__law_asking_good K) []) (c__law_like : Cl P w K mg base CX0 7 "_law_like" (ts__law_like K) []) (cl__law_tried : ClL P w K mg base 3 "_law_tried" (TTr K C_DarkError C_Missing C_Nothing (tsWordX (XTl C_BadName C_Taken C_Leans C_BadNumber C_NotAWalk C_Broken C_TooGreat C_BadText C_Full C_Loop C_NoDoor C_NoSight C_BadRound C_Bare C_BadDeed C_BadAsking C_NoRoom C_NoPost C_NoWatcher C_NoWatch C_Nothing)) (tsFieldX (XTl C_BadName C_Taken C_Leans C_BadNumber C_NotAWalk C_Broken C_TooGreat C_BadText C_Full C_Loop C_NoDoor C_NoSight C_BadRound C_Bare C_BadDeed C_BadAsking C_NoRoom C_NoPost C_NoWatcher C_NoWatch C_Nothing)))) (c_xneed_asking : Cl P w K mg base (L2N.CX P w) 3 "need_asking" (ts_xneed_asking K C_BadAsking) []) (cl__law_refused : ClL P w K mg base 4 "_law_refused" (TRf K (TTr K C_DarkError C_Missing C_Nothing (tsWordX (XTl C_BadName C_Taken C_Leans C_BadNumber C_NotAWalk C_Broken C_TooGreat C_BadText C_Full C_Loop C_NoDoor C_NoSight C_BadRound C_Bare C_BadDeed C_BadAsking C_NoRoom C_NoPost C_NoWatcher C_NoWatch C_Nothing)) (tsFieldX (XTl C_BadName C_Taken C_Leans C_BadNumber C_NotAWalk C_Broken C_TooGreat C_BadText C_Full C_Loop C_NoDoor C_NoSight C_BadRound C_Bare C_BadDeed C_BadAsking C_NoRoom C_NoPost C_NoWatcher C_NoWatch C_Nothing))))) {f c Pt : Addr} {fd : FuncData} (TB : TabB base mg c Pt) (d : FunC K "law" "law" s_law f fd c) : FnOk P w K mg base CX0 8 f fd ["_law_script"] (spT (ts_law K Pt)) := by
  refine bx_of ?_
  simp (disch := with_unfolding_all (
    refine (okTC (kk := 7) d sc_law (fun Rs M k X h => by obtain ⟨ns, rfl, _⟩ := h; rfl) fun A outer s H E hr => ⟨_,
      (pss_cons (ps_set (i := 1) sc_law.nd rfl (Or.inl rfl) (pe_cl c__law_box hr (by decide) pass0 rfl (pa_cons (pv 0) pa_nil)))
        (pss_cons (ps_set (i := 2) sc_law.nd rfl (Or.inl rfl) (pe_cl0 c__law_empty hr (by decide) pass0 rfl))
        (pss_cons (ps_fz (ps_for PassesOwn.never rfl (pi_range1 (by rfl) B.range (pa_cons pe_int pa_nil)) (pg_name (i := 3) sc_law.nd rfl (Or.inl rfl)) (pss_cons (ps_set (i := 4) sc_law.nd rfl (Or.inr rfl) (pe_cl c__law_asking hr (by decide) pass0 rfl (pa_cons (pv 1) (pa_cons (pv 2) pa_nil))))
        (pss_cons (ps_set (i := 5) sc_law.nd rfl (Or.inl rfl) (pe_cl c__law_draw hr (by decide) pass0 rfl (pa_cons (pv 1) (pa_cons pe_int pa_nil))))
        (pss_cons (ps_if (pt_cmpR op_eq (pv 5) pe_int (nomark _)) (pss_one (ps_set (i := 4) sc_law.nd rfl (Or.inr rfl) (pe_slice sl_tupA (pv 4) po_none (po_some (pe_un un_neg pe_int))))) (pss_one (ps_if (pt_cmpR op_eq (pv 5) pe_int (nomark _)) (pss_one (ps_set (i := 4) sc_law.nd rfl (Or.inr rfl) (pe_op op_catA (pv 4) (pe_tup (pa_cons (pe_cl c__law_draw hr (by decide) pass0 rfl (pa_cons (pv 1) (pa_cons pe_int pa_nil))) pa_nil))))) (pss_one (ps_if (pt_cmpR op_eq (pv 5) pe_int (nomark _)) (pss_one (ps_set (i := 4) sc_law.nd rfl (Or.inr rfl) (pe_op op_catA (pe_tup (pa_cons (pe_cl c__law_of hr (by decide) pass0 rfl (pa_cons (pv 1) (pa_cons (pe_lst (pa_cons pe_str (pa_cons pe_str (pa_cons pe_str (pa_cons pe_str (pa_cons pe_str pa_nil)))))) pa_nil))) pa_nil)) (pe_slice sl_tupA (pv 4) (po_some pe_int) po_none)))) pss_nil)))))
        (pss_cons (ps_set (i := 6) sc_law.nd rfl (Or.inl rfl) (pe_ifExp (pt_val (pe_cl c__law_asking_good hr (by decide) pass0 rfl (pa_cons (pv 4) pa_nil))) (pe_tup (pa_cons pe_non (pa_cons pe_str (pa_cons pe_non pa_nil)))) (pe_tup (pa_cons pe_non (pa_cons pe_str (pa_cons pe_non pa_nil))))))
        (pss_one (ps_if (pt_not (pt_val (pe_cl c__law_like hr (by decide) pass0 rfl (pa_cons (pe_lamL cl__law_tried rfl TB rfl (hr.mono (by decide)) (lamS_by (sc := defScope s_law) (by decide +kernel)) rfl (fun _ _ _ _ _ => rfl) (kl := 3) (fun A0 outer0 s0 H0 E0 f0 c0 hr2 => (pe_cl c_xneed_asking hr2 (by decide) (L2N.passes_call (L2N.takes_of rfl rfl rfl rfl) fun _ _ _ _ z => z) rfl (pa_cons (pv 4) pa_nil)))) (pa_cons (pv 6) pa_nil))))) (pss_one (ps_ret pe_bl)) pss_nil))))))))
        (pss_one (ps_ret (pe_cl c__law_like hr (by decide) pass0 rfl (pa_cons (pe_lamL cl__law_refused rfl TB rfl (hr.mono (by decide)) (lamS_by (sc := defScope s_law) (by decide +kernel)) rfl (fun _ _ _ _ _ => rfl) (kl := 3) (fun A0 outer0 s0 H0 E0 f0 c0 hr2 => (pe_cl c_xneed_asking hr2 (by decide) (L2N.passes_call (L2N.takes_of rfl rfl rfl rfl) fun _ _ _ _ z => z) rfl (pa_cons (pe_tup pa_nil) pa_nil)))) (pa_cons (pe_tup (pa_cons pe_str (pa_cons pe_non pa_nil))) pa_nil)))))))), ?_⟩)
    try dsimp only [L3.cxK, L3.cxKX]
    rintro Rs M k X ⟨ns, rfl, hl, rfl, q⟩
    (repeat' decreasing_trivial_pre_omega)
    refine ⟨[], [(Pt, mTbl lamQ)], rfl, ns, rfl, hl, rfl, fun b => ?_⟩
    (repeat' decreasing_trivial_pre_omega)
    refine ⟨[], [(b, mBox), (Pt, mTbl lamQ)], rfl, rfl, rfl, fun d => ?_⟩
    (repeat' decreasing_trivial_pre_omega)
    refine st_tFzL (i := 0) (j := 2) (d := d) (kvs := emptyF K) rfl rfl ?_
    refine st_forG Unit ?_
    (repeat' decreasing_trivial_pre_omega)
    refine ⟨8, rfl, by decide, fun _ _ => True, fun _ => [some (iScr K ns), some (iRef b), some (iDF (emptyF K)), none, none, none, none], fun _ => [(b, mBox), (Pt, mTbl lamQ)], lj () True.intro (by (repeat' decreasing_trivial_pre_omega)) rfl, ?_, ?_⟩
    · rintro i r a hi rfl _
      try dsimp only
      (repeat' decreasing_trivial_pre_omega)
      refine ⟨_, leS_rfl, rfl, fun l l9 hd hne => ?_⟩
      (repeat' decreasing_trivial_pre_omega)
      intro pk hpk
      refine st_join (α := List Atom) (P := fun l => l.length ≤ 20 ∧ HeadS l) (G := fun l => [some (iScr K ns), some (iRef b), some (iDF (emptyF K)), none, some (aTup K (l.map atomR)), none, none]) (N := fun _ => [(b, mBox), (Pt, mTbl lamQ)]) ?_ (fun l2 ⟨l3, hd2⟩ => ?_)
      · obtain ⟨z, rest, rfl⟩ : ∃ z rest, l = .inl z :: rest := hd.resolve_left hne
        (repeat' decreasing_trivial_pre_omega)
        refine ite_b (fun h => ?_) (fun h => ?_)
        · (repeat' decreasing_trivial_pre_omega)
          rw [cutL_map, cutL_last]
          exact lj ((.inl z :: rest : List Atom).dropLast) ⟨by simp at l9 ⊢; omega, head_last (.inr ⟨_, _, rfl⟩)⟩ (by (repeat' decreasing_trivial_pre_omega)) rfl
        (repeat' decreasing_trivial_pre_omega)
        refine ite_b (fun h => ?_) (fun h => ?_)
        · (repeat' decreasing_trivial_pre_omega)
          intro n hn
          (repeat' decreasing_trivial_pre_omega)
          · simp at l9 ⊢; omega
          rw [show (Sum.inl z :: rest : List Atom).map atomR ++ [iInt (n : Nat)] = (Sum.inl z :: rest ++ [Sum.inr (n : Int)] : List Atom).map atomR from by simp [atomR]]
          exact lj (.inl z :: rest ++ [.inr (n : Int)]) ⟨by simp at l9 ⊢; omega, .inr ⟨_, _, rfl⟩⟩ (by (repeat' decreasing_trivial_pre_omega)) rfl
        (repeat' decreasing_trivial_pre_omega)
        refine ite_b (fun h => ?_) (fun h => ?_)
        · (repeat' decreasing_trivial_pre_omega)
          refine k_map (l := (["", "Way", "ways", "none", "room"] : List Str)) (f := aStr) fun z2 _ => ?_
          (repeat' decreasing_trivial_pre_omega)
          · rw [cutL_map, cutL_1]; simp at l9 ⊢; omega
          rw [cutL_map, cutL_1]
          exact lj (.inl z2 :: rest) ⟨by simp at l9 ⊢; omega, .inr ⟨_, _, rfl⟩⟩ (by (repeat' decreasing_trivial_pre_omega)) rfl
        (repeat' decreasing_trivial_pre_omega)
        exact lj (.inl z :: rest) ⟨by omega, .inr ⟨_, _, rfl⟩⟩ (by (repeat' decreasing_trivial_pre_omega)) rfl
      (repeat' decreasing_trivial_pre_omega)
      refine ⟨_, leS_rfl, l2, rfl, by omega, hd2, ?_⟩
      (repeat' decreasing_trivial_pre_omega)
      cases hg : askGood l2 with
      | true =>
        (repeat' decreasing_trivial_pre_omega)
        refine ev_triedR TX (R0 := aTup K [iNon, aStr "", iNon]) 1 rfl (fun E' => ?_) ?_
        · (repeat' decreasing_trivial_pre_omega)
          exact ⟨_, leS_rfl, l2, rfl, by omega, hd2, fun _ => ⟨rfl, rfl⟩, fun h => absurd (hg.symm.trans h) (by decide)⟩
        (repeat' decreasing_trivial_pre_omega)
        apply k_like (d := .tuple [.none, .str "", .none])
        · rfl
        · rfl
        · exact fit_t (fitA_cons (.non) (fitA_cons (.str _) (fitA_cons (.non) fitA_nil))) (by simp)
        (repeat' decreasing_trivial_pre_omega)
        exact lj () True.intro (by (repeat' decreasing_trivial_pre_omega)) rfl
      | false =>
        (repeat' decreasing_trivial_pre_omega)
        refine ev_triedR TX (R0 := aTup K [iNon, aStr "BadAsking", iNon]) 1 rfl (fun E' => ?_) ?_
        · (repeat' decreasing_trivial_pre_omega)
          exact ⟨_, leS_rfl, l2, rfl, by omega, hd2, fun h => absurd (hg.symm.trans h) (by decide), fun _ => kt0 TX (.tail _ (.tail _ (.tail _ (.tail _ (.tail _ (.tail _ (.tail _ (.tail _ (.tail _ (.tail _ (.tail _ (.tail _ (.tail _ (.tail _ (.tail _ (.head _)))))))))))))))) rfl rfl⟩
        (repeat' decreasing_trivial_pre_omega)
        apply k_like (d := .tuple [.none, .str "BadAsking", .none])
        · rfl
        · rfl
        · exact fit_t (fitA_cons (.non) (fitA_cons (.str _) (fitA_cons (.non) fitA_nil))) (by simp)
        (repeat' decreasing_trivial_pre_omega)
        exact lj () True.intro (by (repeat' decreasing_trivial_pre_omega)) rfl
    · rintro _ Γ1 _ w
      refine st_wk w ?_
      try dsimp only
      (repeat' decreasing_trivial_pre_omega)
      refine ev_refusedR TX (R0 := aTup K [aStr "BadAsking", iNon]) 1 rfl (fun E' => ?_) ?_
      · (repeat' decreasing_trivial_pre_omega)
        refine ⟨_, leS_rfl, [], rfl, by decide, .inl rfl, fun h => (nomatch h), fun _ => kr0 TX (.tail _ (.tail _ (.tail _ (.tail _ (.tail _ (.tail _ (.tail _ (.tail _ (.tail _ (.tail _ (.tail _ (.tail _ (.tail _ (.tail _ (.tail _ (.head _)))))))))))))))) rfl rfl⟩
      (repeat' decreasing_trivial_pre_omega)
      apply k_like (d := .tuple [.str "BadAsking", .none])
      · rfl
      · rfl
      · exact fit_t (fitA_cons (.str _) (fitA_cons (.non) fitA_nil)) (by simp)
      exact q _
    )) only [↓bx_true]

end
abbrev s_BadAsking___init__ : Stmt := inClass (top 19) 0
theorem sc_BadAsking___init__ : FnScope ["self"] ["self"] (defScope s_BadAsking___init__) := ⟨rfl, rfl, rfl, by decide +kernel, rfl, by decide +kernel, by decide +kernel⟩
theorem all_mk {l : PySem.W.OpenLaw} {w : World} {K : PySem.W.Frag} {h : Heap} {mg : Str → Option Value} {fa C_DarkError C_Missing C_BadName C_Taken C_Leans C_BadNumber C_NotAWalk C_Broken C_TooGreat C_BadText C_Full C_Loop C_NoDoor C_NoSight C_BadRound C_Bare C_BadDeed C_BadAsking C_NoRoom C_NoPost C_NoWatcher C_NoWatch C_Nothing LC LP FI_BadAsking f1 f2 f3 f4 f5 f6 f7 f8 f9 f10 f11 f12 f13 f14 : Addr} (X : K.In h) (G : h.Ns mainGlobals mg) (hfa : mg "law" = some (.ref fa))
    (a_DarkError : PySem.W.nsIn K mainGlobals "DarkError" = some (some (.ref C_DarkError)))
    (a_Missing : PySem.W.nsIn K mainGlobals "Missing" = some (some (.ref C_Missing)))
    (a_BadName : PySem.W.nsIn K mainGlobals "BadName" = some (some (.ref C_BadName)))
    (a_Taken : PySem.W.nsIn K mainGlobals "Taken" = some (some (.ref C_Taken)))
    (a_Leans : PySem.W.nsIn K mainGlobals "Leans" = some (some (.ref C_Leans)))
    (a_BadNumber : PySem.W.nsIn K mainGlobals "BadNumber" = some (some (.ref C_BadNumber)))
    (a_NotAWalk : PySem.W.nsIn K mainGlobals "NotAWalk" = some (some (.ref C_NotAWalk)))
    (a_Broken : PySem.W.nsIn K mainGlobals "Broken" = some (some (.ref C_Broken)))
    (a_TooGreat : PySem.W.nsIn K mainGlobals "TooGreat" = some (some (.ref C_TooGreat)))
    (a_BadText : PySem.W.nsIn K mainGlobals "BadText" = some (some (.ref C_BadText)))
    (a_Full : PySem.W.nsIn K mainGlobals "Full" = some (some (.ref C_Full)))
    (a_Loop : PySem.W.nsIn K mainGlobals "Loop" = some (some (.ref C_Loop)))
    (a_NoDoor : PySem.W.nsIn K mainGlobals "NoDoor" = some (some (.ref C_NoDoor)))
    (a_NoSight : PySem.W.nsIn K mainGlobals "NoSight" = some (some (.ref C_NoSight)))
    (a_BadRound : PySem.W.nsIn K mainGlobals "BadRound" = some (some (.ref C_BadRound)))
    (a_Bare : PySem.W.nsIn K mainGlobals "Bare" = some (some (.ref C_Bare)))
    (a_BadDeed : PySem.W.nsIn K mainGlobals "BadDeed" = some (some (.ref C_BadDeed)))
    (a_BadAsking : PySem.W.nsIn K mainGlobals "BadAsking" = some (some (.ref C_BadAsking)))
    (a_NoRoom : PySem.W.nsIn K mainGlobals "NoRoom" = some (some (.ref C_NoRoom)))
    (a_NoPost : PySem.W.nsIn K mainGlobals "NoPost" = some (some (.ref C_NoPost)))
    (a_NoWatcher : PySem.W.nsIn K mainGlobals "NoWatcher" = some (some (.ref C_NoWatcher)))
    (a_NoWatch : PySem.W.nsIn K mainGlobals "NoWatch" = some (some (.ref C_NoWatch)))
    (a_Nothing : PySem.W.nsIn K mainGlobals "Nothing" = some (some (.ref C_Nothing)))
    {odx_BadAsking anx_BadAsking : Option Addr} {slx_BadAsking : Array (Option Value)} {ocx_BadAsking kvx_BadAsking dcx_BadAsking pmx_BadAsking cdx_BadAsking ctx_BadAsking : Value} (xi_BadAsking : PySem.W.findIn K (.ref C_BadAsking) "__init__" = some (some (.ref FI_BadAsking))) (xl_BadAsking : K.lookup FI_BadAsking = some ⟨ocx_BadAsking, odx_BadAsking, .func (PySem.W.fnOf "__init__" "BadAsking.__init__" (defArgs s_BadAsking___init__) (defBody s_BadAsking___init__) (defScope s_BadAsking___init__) .none kvx_BadAsking dcx_BadAsking pmx_BadAsking anx_BadAsking cdx_BadAsking ctx_BadAsking), slx_BadAsking⟩) (xc_BadAsking : PySem.W.codeIn K cdx_BadAsking "BadAsking.__init__" = true) (xk_BadAsking : PySem.W.keepIn K (.ref FI_BadAsking) = true) (xx_BadAsking : exkB K C_BadAsking FI_BadAsking [C_DarkError] [.type "ValueError", .type "Exception", .type "BaseException", .type "object"] "ValueError.__new__" none = true)
    (xt : xtabB K (XTl C_BadName C_Taken C_Leans C_BadNumber C_NotAWalk C_Broken C_TooGreat C_BadText C_Full C_Loop C_NoDoor C_NoSight C_BadRound C_Bare C_BadDeed C_BadAsking C_NoRoom C_NoPost C_NoWatcher C_NoWatch C_Nothing) C_DarkError C_Missing C_Nothing = true)
    {kV1 : Value} {od1 an1 : Option Addr} {sl1 : Array (Option Value)} {oc1 dc1 pm1 cd1 ct1 : Value} (a1 : PySem.W.nsIn K mainGlobals "_law_box" = some (some (.ref f1))) (l1 : K.lookup f1 = some ⟨oc1, od1, .func (PySem.W.fnOf "_law_box" "_law_box" (defArgs s__law_box) (defBody s__law_box) (defScope s__law_box) .none kV1 dc1 pm1 an1 cd1 ct1), sl1⟩) (c1 : PySem.W.codeIn K cd1 "_law_box" = true) (k1 : PySem.W.keepIn K (.ref f1) = true)
    {kV2 : Value} {od2 an2 : Option Addr} {sl2 : Array (Option Value)} {oc2 dc2 pm2 cd2 ct2 : Value} (a2 : PySem.W.nsIn K mainGlobals "_law_empty" = some (some (.ref f2))) (l2 : K.lookup f2 = some ⟨oc2, od2, .func (PySem.W.fnOf "_law_empty" "_law_empty" (defArgs s__law_empty) (defBody s__law_empty) (defScope s__law_empty) .none kV2 dc2 pm2 an2 cd2 ct2), sl2⟩) (c2 : PySem.W.codeIn K cd2 "_law_empty" = true) (k2 : PySem.W.keepIn K (.ref f2) = true)
    {kV3 : Value} {od3 an3 : Option Addr} {sl3 : Array (Option Value)} {oc3 dc3 pm3 cd3 ct3 : Value} (a3 : PySem.W.nsIn K mainGlobals "_law_draw" = some (some (.ref f3))) (l3 : K.lookup f3 = some ⟨oc3, od3, .func (PySem.W.fnOf "_law_draw" "_law_draw" (defArgs s__law_draw) (defBody s__law_draw) (defScope s__law_draw) .none kV3 dc3 pm3 an3 cd3 ct3), sl3⟩) (c3 : PySem.W.codeIn K cd3 "_law_draw" = true) (k3 : PySem.W.keepIn K (.ref f3) = true)
    {kV4 : Value} {od4 an4 : Option Addr} {sl4 : Array (Option Value)} {oc4 dc4 pm4 cd4 ct4 : Value} (a4 : PySem.W.nsIn K mainGlobals "_law_of" = some (some (.ref f4))) (l4 : K.lookup f4 = some ⟨oc4, od4, .func (PySem.W.fnOf "_law_of" "_law_of" (defArgs s__law_of) (defBody s__law_of) (defScope s__law_of) .none kV4 dc4 pm4 an4 cd4 ct4), sl4⟩) (c4 : PySem.W.codeIn K cd4 "_law_of" = true) (k4 : PySem.W.keepIn K (.ref f4) = true)
    {kV5 : Value} {od5 an5 : Option Addr} {sl5 : Array (Option Value)} {oc5 dc5 pm5 cd5 ct5 : Value} (a5 : PySem.W.nsIn K mainGlobals "_law_name_of" = some (some (.ref f5))) (l5 : K.lookup f5 = some ⟨oc5, od5, .func (PySem.W.fnOf "_law_name_of" "_law_name_of" (defArgs s__law_name_of) (defBody s__law_name_of) (defScope s__law_name_of) .none kV5 dc5 pm5 an5 cd5 ct5), sl5⟩) (c5 : PySem.W.codeIn K cd5 "_law_name_of" = true) (k5 : PySem.W.keepIn K (.ref f5) = true)
    {kV6 : Value} {od6 an6 : Option Addr} {sl6 : Array (Option Value)} {oc6 dc6 pm6 cd6 ct6 : Value} (a6 : PySem.W.nsIn K mainGlobals "_law_asking" = some (some (.ref f6))) (l6 : K.lookup f6 = some ⟨oc6, od6, .func (PySem.W.fnOf "_law_asking" "_law_asking" (defArgs s__law_asking) (defBody s__law_asking) (defScope s__law_asking) .none kV6 dc6 pm6 an6 cd6 ct6), sl6⟩) (c6 : PySem.W.codeIn K cd6 "_law_asking" = true) (k6 : PySem.W.keepIn K (.ref f6) = true)
    {kV7 : Value} {od7 an7 : Option Addr} {sl7 : Array (Option Value)} {oc7 dc7 pm7 cd7 ct7 : Value} (a7 : PySem.W.nsIn K mainGlobals "_law_asking_good" = some (some (.ref f7))) (l7 : K.lookup f7 = some ⟨oc7, od7, .func (PySem.W.fnOf "_law_asking_good" "_law_asking_good" (defArgs s__law_asking_good) (defBody s__law_asking_good) (defScope s__law_asking_good) .none kV7 dc7 pm7 an7 cd7 ct7), sl7⟩) (c7 : PySem.W.codeIn K cd7 "_law_asking_good" = true) (k7 : PySem.W.keepIn K (.ref f7) = true)
    {kV8 : Value} {od8 an8 : Option Addr} {sl8 : Array (Option Value)} {oc8 dc8 pm8 cd8 ct8 : Value} (a8 : PySem.W.nsIn K mainGlobals "_law_like" = some (some (.ref f8))) (l8 : K.lookup f8 = some ⟨oc8, od8, .func (PySem.W.fnOf "_law_like" "_law_like" (defArgs s__law_like) (defBody s__law_like) (defScope s__law_like) .none kV8 dc8 pm8 an8 cd8 ct8), sl8⟩) (c8 : PySem.W.codeIn K cd8 "_law_like" = true) (k8 : PySem.W.keepIn K (.ref f8) = true)
    {kV9 : Value} {od9 an9 : Option Addr} {sl9 : Array (Option Value)} {oc9 dc9 pm9 cd9 ct9 : Value} (a9 : PySem.W.nsIn K mainGlobals "_law_word" = some (some (.ref f9))) (l9 : K.lookup f9 = some ⟨oc9, od9, .func (PySem.W.fnOf "_law_word" "_law_word" (defArgs s__law_word) (defBody s__law_word) (defScope s__law_word) .none kV9 dc9 pm9 an9 cd9 ct9), sl9⟩) (c9 : PySem.W.codeIn K cd9 "_law_word" = true) (k9 : PySem.W.keepIn K (.ref f9) = true)
    {kV10 : Value} {od10 an10 : Option Addr} {sl10 : Array (Option Value)} {oc10 dc10 pm10 cd10 ct10 : Value} (a10 : PySem.W.nsIn K mainGlobals "_law_field" = some (some (.ref f10))) (l10 : K.lookup f10 = some ⟨oc10, od10, .func (PySem.W.fnOf "_law_field" "_law_field" (defArgs s__law_field) (defBody s__law_field) (defScope s__law_field) .none kV10 dc10 pm10 an10 cd10 ct10), sl10⟩) (c10 : PySem.W.codeIn K cd10 "_law_field" = true) (k10 : PySem.W.keepIn K (.ref f10) = true)
    {kV11 : Value} {od11 an11 : Option Addr} {sl11 : Array (Option Value)} {oc11 dc11 pm11 cd11 ct11 : Value} (a11 : PySem.W.nsIn K mainGlobals "_law_tried" = some (some (.ref f11))) (l11 : K.lookup f11 = some ⟨oc11, od11, .func (PySem.W.fnOf "_law_tried" "_law_tried" (defArgs s__law_tried) (defBody s__law_tried) (defScope s__law_tried) .none kV11 dc11 pm11 an11 cd11 ct11), sl11⟩) (c11 : PySem.W.codeIn K cd11 "_law_tried" = true) (k11 : PySem.W.keepIn K (.ref f11) = true)
    {kV12 : Value} {od12 an12 : Option Addr} {sl12 : Array (Option Value)} {oc12 dc12 pm12 cd12 ct12 : Value} (a12 : PySem.W.nsIn K mainGlobals "need_asking" = some (some (.ref f12))) (l12 : K.lookup f12 = some ⟨oc12, od12, .func (PySem.W.fnOf "need_asking" "need_asking" (defArgs s_need_asking) (defBody s_need_asking) (defScope s_need_asking) .none kV12 dc12 pm12 an12 cd12 ct12), sl12⟩) (c12 : PySem.W.codeIn K cd12 "need_asking" = true) (k12 : PySem.W.keepIn K (.ref f12) = true)
    {kV13 : Value} {od13 an13 : Option Addr} {sl13 : Array (Option Value)} {oc13 dc13 pm13 cd13 ct13 : Value} (a13 : PySem.W.nsIn K mainGlobals "_law_refused" = some (some (.ref f13))) (l13 : K.lookup f13 = some ⟨oc13, od13, .func (PySem.W.fnOf "_law_refused" "_law_refused" (defArgs s__law_refused) (defBody s__law_refused) (defScope s__law_refused) .none kV13 dc13 pm13 an13 cd13 ct13), sl13⟩) (c13 : PySem.W.codeIn K cd13 "_law_refused" = true) (k13 : PySem.W.keepIn K (.ref f13) = true)
    {kV14 : Value} {od14 an14 : Option Addr} {sl14 : Array (Option Value)} {oc14 dc14 pm14 ct14 : Value} (a14 : PySem.W.nsIn K mainGlobals "law" = some (some (.ref f14))) (l14 : K.lookup f14 = some ⟨oc14, od14, .func (PySem.W.fnOf "law" "law" (defArgs s_law) (defBody s_law) (defScope s_law) .none kV14 dc14 pm14 an14 (.ref LC) ct14), sl14⟩) (c14 : PySem.W.codeIn K (.ref LC) "law" = true) (k14 : PySem.W.keepIn K (.ref f14) = true)
    {D_SHAPES : Addr} (g_SHAPES : PySem.W.nsIn K mainGlobals "SHAPES" = some (some (.ref D_SHAPES))) (dd_SHAPES : He.dicW K D_SHAPES = some (He.keysIn w.params (shapesL.map (·.1))))
    {t0_SHAPES : Addr} {tk0_0_SHAPES : Tok} {od0_SHAPES : Option Addr} {qn0_SHAPES : Nat} {qs0_SHAPES : Array (Option Value)} (v0_SHAPES : PySem.W.nsIn K D_SHAPES "where" = some (some (.ref t0_SHAPES))) (q0_SHAPES : K.lookup t0_SHAPES = some ⟨.type "tuple", od0_SHAPES, .seq #[.str "nb" tk0_0_SHAPES] qn0_SHAPES, qs0_SHAPES⟩)
    {t1_SHAPES : Addr} {tk1_0_SHAPES : Tok} {od1_SHAPES : Option Addr} {qn1_SHAPES : Nat} {qs1_SHAPES : Array (Option Value)} (v1_SHAPES : PySem.W.nsIn K D_SHAPES "who" = some (some (.ref t1_SHAPES))) (q1_SHAPES : K.lookup t1_SHAPES = some ⟨.type "tuple", od1_SHAPES, .seq #[.str "nb" tk1_0_SHAPES] qn1_SHAPES, qs1_SHAPES⟩)
    {t2_SHAPES : Addr} {tk2_0_SHAPES : Tok} {od2_SHAPES : Option Addr} {qn2_SHAPES : Nat} {qs2_SHAPES : Array (Option Value)} (v2_SHAPES : PySem.W.nsIn K D_SHAPES "lit" = some (some (.ref t2_SHAPES))) (q2_SHAPES : K.lookup t2_SHAPES = some ⟨.type "tuple", od2_SHAPES, .seq #[.str "b" tk2_0_SHAPES] qn2_SHAPES, qs2_SHAPES⟩)
    {t3_SHAPES : Addr} {tk3_0_SHAPES : Tok} {od3_SHAPES : Option Addr} {qn3_SHAPES : Nat} {qs3_SHAPES : Array (Option Value)} (v3_SHAPES : PySem.W.nsIn K D_SHAPES "wheel" = some (some (.ref t3_SHAPES))) (q3_SHAPES : K.lookup t3_SHAPES = some ⟨.type "tuple", od3_SHAPES, .seq #[.str "" tk3_0_SHAPES] qn3_SHAPES, qs3_SHAPES⟩)
    {t4_SHAPES : Addr} {tk4_0_SHAPES : Tok} {od4_SHAPES : Option Addr} {qn4_SHAPES : Nat} {qs4_SHAPES : Array (Option Value)} (v4_SHAPES : PySem.W.nsIn K D_SHAPES "meets" = some (some (.ref t4_SHAPES))) (q4_SHAPES : K.lookup t4_SHAPES = some ⟨.type "tuple", od4_SHAPES, .seq #[.str "nn" tk4_0_SHAPES] qn4_SHAPES, qs4_SHAPES⟩)
    {t5_SHAPES : Addr} {tk5_0_SHAPES tk5_1_SHAPES : Tok} {od5_SHAPES : Option Addr} {qn5_SHAPES : Nat} {qs5_SHAPES : Array (Option Value)} (v5_SHAPES : PySem.W.nsIn K D_SHAPES "way" = some (some (.ref t5_SHAPES))) (q5_SHAPES : K.lookup t5_SHAPES = some ⟨.type "tuple", od5_SHAPES, .seq #[.str "nn" tk5_0_SHAPES, .str "nnb" tk5_1_SHAPES] qn5_SHAPES, qs5_SHAPES⟩)
    {t6_SHAPES : Addr} {tk6_0_SHAPES : Tok} {od6_SHAPES : Option Addr} {qn6_SHAPES : Nat} {qs6_SHAPES : Array (Option Value)} (v6_SHAPES : PySem.W.nsIn K D_SHAPES "linger" = some (some (.ref t6_SHAPES))) (q6_SHAPES : K.lookup t6_SHAPES = some ⟨.type "tuple", od6_SHAPES, .seq #[.str "nb" tk6_0_SHAPES] qn6_SHAPES, qs6_SHAPES⟩)
    (z_len : PySem.W.nsIn K mainGlobals "len" = some none)
    (z_range : PySem.W.nsIn K mainGlobals "range" = some none)
    (z_list : PySem.W.nsIn K mainGlobals "list" = some none)
    (z_tuple : PySem.W.nsIn K mainGlobals "tuple" = some none)
    (z_max : PySem.W.nsIn K mainGlobals "max" = some none)
    (z_min : PySem.W.nsIn K mainGlobals "min" = some none)
    (z_all : PySem.W.nsIn K mainGlobals "all" = some none)
    (z_any : PySem.W.nsIn K mainGlobals "any" = some none)
    (z_zip : PySem.W.nsIn K mainGlobals "zip" = some none)
    (z_enumerate : PySem.W.nsIn K mainGlobals "enumerate" = some none)
    (z_isinstance : PySem.W.nsIn K mainGlobals "isinstance" = some none)
    (z_str : PySem.W.nsIn K mainGlobals "str" = some none)
    (z_int : PySem.W.nsIn K mainGlobals "int" = some none)
    (z_bool : PySem.W.nsIn K mainGlobals "bool" = some none)
    (z_sorted : PySem.W.nsIn K mainGlobals "sorted" = some none)
    (z_sum : PySem.W.nsIn K mainGlobals "sum" = some none)
    (z_repr : PySem.W.nsIn K mainGlobals "repr" = some none)
    (z_dict : PySem.W.nsIn K mainGlobals "dict" = some none)
    (z_set : PySem.W.nsIn K mainGlobals "set" = some none)
    {lcl : Value} {lcd : Option Addr} {lvs : Array Value} {lsl : Array (Option Value)} (lc : K.lookup LC = some ⟨lcl, lcd, .fields lvs, lsl⟩) (lp : lvs[11]? = some (.ref LP)) (kc : PySem.W.codeHdIn K LC LP = true) (kt : PySem.W.noTabs K = true)
    : ∃ (fd : FuncData) (c Pt : Addr), (∃ oc od sl, K.lookup fa = some ⟨oc, od, .func fd, sl⟩) ∧ fd.code = .ref c ∧ PySem.W.codeHdIn K c Pt = true ∧ PySem.W.noTabs K = true ∧ (∀ (s : Shared) (v : Value), BindsTo s fd ⟨[v], []⟩ [("_law_script", v)]) ∧ ∀ base : Heap, K.In base → base.Ns mainGlobals mg → TabB base mg c Pt → FnOk l.prog w K mg base CX0 8 fa fd ["_law_script"] (spT (ts_law K Pt)) := by
  refine bx_of ?_
  simp (disch := with_unfolding_all (
    have e := hfa.symm.trans (PySem.W.mg_of X G a14)
    cases e
    have B : Bt mg := ⟨PySem.W.mg_none_of X G z_len, PySem.W.mg_none_of X G z_range, PySem.W.mg_none_of X G z_list, PySem.W.mg_none_of X G z_tuple, PySem.W.mg_none_of X G z_max, PySem.W.mg_none_of X G z_min, PySem.W.mg_none_of X G z_all, PySem.W.mg_none_of X G z_any, PySem.W.mg_none_of X G z_zip, PySem.W.mg_none_of X G z_enumerate, PySem.W.mg_none_of X G z_isinstance, PySem.W.mg_none_of X G z_str, PySem.W.mg_none_of X G z_int, PySem.W.mg_none_of X G z_bool, PySem.W.mg_none_of X G z_sorted, PySem.W.mg_none_of X G z_sum, PySem.W.mg_none_of X G z_repr, PySem.W.mg_none_of X G z_dict, PySem.W.mg_none_of X G z_set⟩
    have d1 : Df K mg "_law_box" s__law_box ["_law_script"] _ _ := ⟨fun_mk (st := s__law_box) l1 c1 k1, PySem.W.mg_of X G a1, (fun_mk (st := s__law_box) l1 c1 k1).binds fun _ _ _ _ _ _ us hl => match us, hl with | [_], _ => rfl⟩
    have d2 : Df K mg "_law_empty" s__law_empty [] _ _ := ⟨fun_mk (st := s__law_empty) l2 c2 k2, PySem.W.mg_of X G a2, (fun_mk (st := s__law_empty) l2 c2 k2).binds fun _ _ _ _ _ _ us hl => match us, hl with | [], _ => rfl⟩
    have d3 : Df K mg "_law_draw" s__law_draw ["_law_box_here", "_law_many"] _ _ := ⟨fun_mk (st := s__law_draw) l3 c3 k3, PySem.W.mg_of X G a3, (fun_mk (st := s__law_draw) l3 c3 k3).binds fun _ _ _ _ _ _ us hl => match us, hl with | [_, _], _ => rfl⟩
    have d4 : Df K mg "_law_of" s__law_of ["_law_box_here", "_law_some"] _ _ := ⟨fun_mk (st := s__law_of) l4 c4 k4, PySem.W.mg_of X G a4, (fun_mk (st := s__law_of) l4 c4 k4).binds fun _ _ _ _ _ _ us hl => match us, hl with | [_, _], _ => rfl⟩
    have d5 : Df K mg "_law_name_of" s__law_name_of ["_law_box_here", "_law_known"] _ _ := ⟨fun_mk (st := s__law_name_of) l5 c5 k5, PySem.W.mg_of X G a5, (fun_mk (st := s__law_name_of) l5 c5 k5).binds fun _ _ _ _ _ _ us hl => match us, hl with | [_, _], _ => rfl⟩
    have d6 : Df K mg "_law_asking" s__law_asking ["_law_box_here", "_law_m"] _ _ := ⟨fun_mk (st := s__law_asking) l6 c6 k6, PySem.W.mg_of X G a6, (fun_mk (st := s__law_asking) l6 c6 k6).binds fun _ _ _ _ _ _ us hl => match us, hl with | [_, _], _ => rfl⟩
    have d7 : Df K mg "_law_asking_good" s__law_asking_good ["_law_asking_here"] _ _ := ⟨fun_mk (st := s__law_asking_good) l7 c7 k7, PySem.W.mg_of X G a7, (fun_mk (st := s__law_asking_good) l7 c7 k7).binds fun _ _ _ _ _ _ us hl => match us, hl with | [_], _ => rfl⟩
    have d8 : Df K mg "_law_like" s__law_like ["_law_found", "_law_due"] _ _ := ⟨fun_mk (st := s__law_like) l8 c8 k8, PySem.W.mg_of X G a8, (fun_mk (st := s__law_like) l8 c8 k8).binds fun _ _ _ _ _ _ us hl => match us, hl with | [_, _], _ => rfl⟩
    have d9 : Df K mg "_law_word" s__law_word ["_law_e"] _ _ := ⟨fun_mk (st := s__law_word) l9 c9 k9, PySem.W.mg_of X G a9, (fun_mk (st := s__law_word) l9 c9 k9).binds fun _ _ _ _ _ _ us hl => match us, hl with | [_], _ => rfl⟩
    have d10 : Df K mg "_law_field" s__law_field ["_law_e"] _ _ := ⟨fun_mk (st := s__law_field) l10 c10 k10, PySem.W.mg_of X G a10, (fun_mk (st := s__law_field) l10 c10 k10).binds fun _ _ _ _ _ _ us hl => match us, hl with | [_], _ => rfl⟩
    have d11 : Df K mg "_law_tried" s__law_tried ["_law_ask"] _ _ := ⟨fun_mk (st := s__law_tried) l11 c11 k11, PySem.W.mg_of X G a11, (fun_mk (st := s__law_tried) l11 c11 k11).binds fun _ _ _ _ _ _ us hl => match us, hl with | [_], _ => rfl⟩
    have d12 : Df K mg "need_asking" s_need_asking ["asking"] _ _ := ⟨fun_mk (st := s_need_asking) l12 c12 k12, PySem.W.mg_of X G a12, (fun_mk (st := s_need_asking) l12 c12 k12).binds fun _ _ _ _ _ _ us hl => match us, hl with | [_], _ => rfl⟩
    have d13 : Df K mg "_law_refused" s__law_refused ["_law_ask"] _ _ := ⟨fun_mk (st := s__law_refused) l13 c13 k13, PySem.W.mg_of X G a13, (fun_mk (st := s__law_refused) l13 c13 k13).binds fun _ _ _ _ _ _ us hl => match us, hl with | [_], _ => rfl⟩
    have d14 : FunC K "law" "law" s_law _ _ LC := funC_mk (st := s_law) l14 c14
    have h_SHAPES := (⟨_, PySem.W.mg_of X G g_SHAPES, rfl⟩ : ∃ u, mg "SHAPES" = some u ∧ RelV (.ref D_SHAPES) u)
    have kd_SHAPES : KdT K w D_SHAPES shapesL := ⟨He.dicW_ok dd_SHAPES, fun z hz => kd_no dd_SHAPES hz, fun p hp => by
      simp only [shapesL, List.mem_cons, List.not_mem_nil, or_false] at hp
      rcases hp with rfl | rfl | rfl | rfl | rfl | rfl | rfl
      · exact ⟨_, v0_SHAPES, kd_tup1 q0_SHAPES⟩
      · exact ⟨_, v1_SHAPES, kd_tup1 q1_SHAPES⟩
      · exact ⟨_, v2_SHAPES, kd_tup1 q2_SHAPES⟩
      · exact ⟨_, v3_SHAPES, kd_tup1 q3_SHAPES⟩
      · exact ⟨_, v4_SHAPES, kd_tup1 q4_SHAPES⟩
      · exact ⟨_, v5_SHAPES, kd_tup2 q5_SHAPES⟩
      · exact ⟨_, v6_SHAPES, kd_tup1 q6_SHAPES⟩⟩
    refine ⟨PySem.W.fnOf "law" "law" (defArgs s_law) (defBody s_law) (defScope s_law) .none kV14 dc14 pm14 an14 (.ref LC) ct14, LC, LP, ⟨_, _, _, l14⟩, rfl, kc, kt, fun s v => .of_eq rfl, fun base hb hg TB => ?_⟩
    have TX := xtab_of xt
    have m_DarkError : mg "DarkError" = some (.ref C_DarkError) := PySem.W.mg_of X G a_DarkError
    have m_Missing : mg "Missing" = some (.ref C_Missing) := PySem.W.mg_of X G a_Missing
    have m_BadName : mg "BadName" = some (.ref C_BadName) := PySem.W.mg_of X G a_BadName
    have m_Taken : mg "Taken" = some (.ref C_Taken) := PySem.W.mg_of X G a_Taken
    have m_Leans : mg "Leans" = some (.ref C_Leans) := PySem.W.mg_of X G a_Leans
    have m_BadNumber : mg "BadNumber" = some (.ref C_BadNumber) := PySem.W.mg_of X G a_BadNumber
    have m_NotAWalk : mg "NotAWalk" = some (.ref C_NotAWalk) := PySem.W.mg_of X G a_NotAWalk
    have m_Broken : mg "Broken" = some (.ref C_Broken) := PySem.W.mg_of X G a_Broken
    have m_TooGreat : mg "TooGreat" = some (.ref C_TooGreat) := PySem.W.mg_of X G a_TooGreat
    have m_BadText : mg "BadText" = some (.ref C_BadText) := PySem.W.mg_of X G a_BadText
    have m_Full : mg "Full" = some (.ref C_Full) := PySem.W.mg_of X G a_Full
    have m_Loop : mg "Loop" = some (.ref C_Loop) := PySem.W.mg_of X G a_Loop
    have m_NoDoor : mg "NoDoor" = some (.ref C_NoDoor) := PySem.W.mg_of X G a_NoDoor
    have m_NoSight : mg "NoSight" = some (.ref C_NoSight) := PySem.W.mg_of X G a_NoSight
    have m_BadRound : mg "BadRound" = some (.ref C_BadRound) := PySem.W.mg_of X G a_BadRound
    have m_Bare : mg "Bare" = some (.ref C_Bare) := PySem.W.mg_of X G a_Bare
    have m_BadDeed : mg "BadDeed" = some (.ref C_BadDeed) := PySem.W.mg_of X G a_BadDeed
    have m_BadAsking : mg "BadAsking" = some (.ref C_BadAsking) := PySem.W.mg_of X G a_BadAsking
    have m_NoRoom : mg "NoRoom" = some (.ref C_NoRoom) := PySem.W.mg_of X G a_NoRoom
    have m_NoPost : mg "NoPost" = some (.ref C_NoPost) := PySem.W.mg_of X G a_NoPost
    have m_NoWatcher : mg "NoWatcher" = some (.ref C_NoWatcher) := PySem.W.mg_of X G a_NoWatcher
    have m_NoWatch : mg "NoWatch" = some (.ref C_NoWatch) := PySem.W.mg_of X G a_NoWatch
    have m_Nothing : mg "Nothing" = some (.ref C_Nothing) := PySem.W.mg_of X G a_Nothing
    have dx_BadAsking : Fun K "__init__" "BadAsking.__init__" s_BadAsking___init__ _ _ := fun_mk (st := s_BadAsking___init__) xl_BadAsking xc_BadAsking xk_BadAsking
    have ex_BadAsking : ClX l.prog w K mg base "BadAsking" C_BadAsking none := clx0_of PySem.F.excBase_ValueError pass_VE rfl xx_BadAsking m_BadAsking dx_BadAsking rfl sc_BadAsking___init__ (.inl rfl) (dx_BadAsking.binds (ps := ["self"]) fun _ _ _ _ _ _ us hl => match us, hl with | [_], _ => rfl)
    have r__law_box : Cl l.prog w K mg base CX0 1 "_law_box" (ts__law_box K) [] := ok__law_box B d1
    have r__law_empty : Cl l.prog w K mg base CX0 1 "_law_empty" (ts__law_empty K) [] := ok__law_empty B d2
    have r__law_draw : Cl l.prog w K mg base CX0 1 "_law_draw" (ts__law_draw K) [] := ok__law_draw B d3
    have r__law_of : Cl l.prog w K mg base CX0 2 "_law_of" (ts__law_of K) [] := ok__law_of B r__law_draw d4
    have r__law_name_of : Cl l.prog w K mg base CX0 3 "_law_name_of" (ts__law_name_of K) [] := ok__law_name_of B r__law_of d5
    have r__law_asking : Cl l.prog w K mg base CX0 4 "_law_asking" (ts__law_asking K) [] := ok__law_asking B r__law_draw r__law_name_of r__law_of d6
    have r__law_asking_good : Cl l.prog w K mg base CX0 1 "_law_asking_good" (ts__law_asking_good K) [] := ok__law_asking_good B d7
    have r__law_like : Cl l.prog w K mg base CX0 7 "_law_like" (ts__law_like K) [] := ok__law_like B d8
    have rce__law_word := ok__law_word (P := l.prog) (w := w) (base := base) B m_BadName m_Taken m_Leans m_BadNumber m_NotAWalk m_Broken m_TooGreat m_BadText m_Full m_Loop m_NoDoor m_NoSight m_BadRound m_Bare m_BadDeed m_BadAsking m_NoRoom m_NoPost m_NoWatcher m_NoWatch m_Nothing TX d9
    have rce__law_field := ok__law_field (P := l.prog) (w := w) (base := base) B m_BadName m_Taken m_Leans m_BadNumber m_NotAWalk m_Broken m_TooGreat m_BadText m_Full m_Loop m_NoDoor m_NoSight m_BadRound m_Bare m_BadDeed m_BadAsking m_NoRoom m_NoPost m_NoWatcher m_NoWatch m_Nothing TX d10
    have rcl__law_tried := ok__law_tried TX m_DarkError m_Missing m_Nothing rce__law_word rce__law_field d11
    have r_xneed_asking : Cl l.prog w K mg base (L2N.CX l.prog w) 3 "need_asking" (ts_xneed_asking K C_BadAsking) [] := ok_xneed_asking B h_SHAPES kd_SHAPES ex_BadAsking d12
    have rcl__law_refused := ok__law_refused TX rcl__law_tried d13
    exact ok_law B TX r__law_box r__law_empty r__law_asking r__law_draw r__law_of r__law_asking_good r__law_like rcl__law_tried r_xneed_asking rcl__law_refused TB d14
    )) only [↓bx_true]

theorem walk {l : PySem.W.OpenLaw} {q : Program} {loose : List Str} {XP : (Str → Option Value) → Heap → Prop} {YP : World → Heap → Prop} {d : DefRec} {K : Params → PySem.W.Frag} (hn : l.most = some 63) (hdf : d.params.defaults = []) (hrec : ((PyProof.Rows.recsOf q).any fun e => e.name == d.name) = true)
    (hY : ∀ (w : World) (h : Heap), YP w h → (K w.params).In h)
    (F : ∀ (w : World) (mg : Str → Option Value) (fa : Addr) (h : Heap), (K w.params).In h → h.Ns mainGlobals mg → mg d.name = some (.ref fa) →
      ∃ (fd : FuncData) (c Pt : Addr), (∃ oc od sl, (K w.params).lookup fa = some ⟨oc, od, .func fd, sl⟩) ∧ fd.code = .ref c ∧ PySem.W.codeHdIn (K w.params) c Pt = true ∧ PySem.W.noTabs (K w.params) = true ∧ (∀ (s : Shared) (v : Value), BindsTo s fd ⟨[v], []⟩ [("_law_script", v)]) ∧ ∀ base : Heap, (K w.params).In base → base.Ns mainGlobals mg → TabB base mg c Pt → FnOk l.prog w (K w.params) mg base CX0 8 fa fd ["_law_script"] (spT (ts_law (K w.params) Pt))) :
    PySem.W.WalkO q loose XP YP l.row.toRowW d [] (fun f vs => PySem.call f vs) :=
  LamX.walk_ofOwn (n := 63) (k := 8) (x := "_law_script") (CX := fun _ => CX0) hn (by decide) hdf ⟨rfl, by decide, by decide⟩ hrec hY (fun w mg fa h Y KX G hm own => lawAt_of (ts := ts_law (K w.params)) (q := lamQ) KX own (F w mg fa h KX G hm) fun Pt ns hl => ⟨ns, rfl, hl, rfl, fun _ => rfl⟩) fun _ _ _ _ _ z => z
end Dk
open PySem PySem.W PyProof.Rows
set_option maxRecDepth 100000 in
set_option maxHeartbeats 0 in
theorem PySem.Challenge.cw_darkthread_k54_askings_of_a_form_holds : PySem.Challenge.rw_darkthread_k54_askings_of_a_form.Holds := by
  w_on; o_law; k_head; (case hw => w_witness2)
  k_fill
  refine Dk.walk (l := PySem.Challenge.rw_darkthread_k54_askings_of_a_form) rfl rfl ?hrec (fun w h Y => by first | exact PySem.W.km_in_of Y | exact PySem.W.kIn_of Y) ?F
  case hrec => first | rfl | kernel_rfl
  case F =>
    intro w mg fa h KX G hmg
    refine' Dk.all_mk KX G hmg ?a_DarkError ?a_Missing ?a_BadName ?a_Taken ?a_Leans ?a_BadNumber ?a_NotAWalk ?a_Broken ?a_TooGreat ?a_BadText ?a_Full ?a_Loop ?a_NoDoor ?a_NoSight ?a_BadRound ?a_Bare ?a_BadDeed ?a_BadAsking ?a_NoRoom ?a_NoPost ?a_NoWatcher ?a_NoWatch ?a_Nothing ?xi_BadAsking ?xl_BadAsking ?xc_BadAsking ?xk_BadAsking ?xx_BadAsking ?xt ?a1 ?l1 ?c1 ?k1 ?a2 ?l2 ?c2 ?k2 ?a3 ?l3 ?c3 ?k3 ?a4 ?l4 ?c4 ?k4 ?a5 ?l5 ?c5 ?k5 ?a6 ?l6 ?c6 ?k6 ?a7 ?l7 ?c7 ?k7 ?a8 ?l8 ?c8 ?k8 ?a9 ?l9 ?c9 ?k9 ?a10 ?l10 ?c10 ?k10 ?a11 ?l11 ?c11 ?k11 ?a12 ?l12 ?c12 ?k12 ?a13 ?l13 ?c13 ?k13 ?a14 ?l14 ?c14 ?k14 ?g_SHAPES ?dd_SHAPES ?v0_SHAPES ?q0_SHAPES ?v1_SHAPES ?q1_SHAPES ?v2_SHAPES ?q2_SHAPES ?v3_SHAPES ?q3_SHAPES ?v4_SHAPES ?q4_SHAPES ?v5_SHAPES ?q5_SHAPES ?v6_SHAPES ?q6_SHAPES ?z_len ?z_range ?z_list ?z_tuple ?z_max ?z_min ?z_all ?z_any ?z_zip ?z_enumerate ?z_isinstance ?z_str ?z_int ?z_bool ?z_sorted ?z_sum ?z_repr ?z_dict ?z_set ?lc ?lp ?kc ?kt
    (case a_DarkError => k_is)
    (case a_Missing => k_is)
    (case a_BadName => k_is)
    (case a_Taken => k_is)
    (case a_Leans => k_is)
    (case a_BadNumber => k_is)
    (case a_NotAWalk => k_is)
    (case a_Broken => k_is)
    (case a_TooGreat => k_is)
    (case a_BadText => k_is)
    (case a_Full => k_is)
    (case a_Loop => k_is)
    (case a_NoDoor => k_is)
    (case a_NoSight => k_is)
    (case a_BadRound => k_is)
    (case a_Bare => k_is)
    (case a_BadDeed => k_is)
    (case a_BadAsking => k_is)
    (case a_NoRoom => k_is)
    (case a_NoPost => k_is)
    (case a_NoWatcher => k_is)
    (case a_NoWatch => k_is)
    (case a_Nothing => k_is)
    (case xi_BadAsking => k_is)
    (case xl_BadAsking => k_is)
    (case xc_BadAsking => k_is)
    (case xk_BadAsking => k_is)
    (case xx_BadAsking => first | exact rfl | kernel_rfl)
    (case xt => first | exact rfl | kernel_rfl)
    (case a1 => k_is)
    (case l1 => k_is)
    (case c1 => k_is)
    (case k1 => k_is)
    (case a2 => k_is)
    (case l2 => k_is)
    (case c2 => k_is)
    (case k2 => k_is)
    (case a3 => k_is)
    (case l3 => k_is)
    (case c3 => k_is)
    (case k3 => k_is)
    (case a4 => k_is)
    (case l4 => k_is)
    (case c4 => k_is)
    (case k4 => k_is)
    (case a5 => k_is)
    (case l5 => k_is)
    (case c5 => k_is)
    (case k5 => k_is)
    (case a6 => k_is)
    (case l6 => k_is)
    (case c6 => k_is)
    (case k6 => k_is)
    (case a7 => k_is)
    (case l7 => k_is)
    (case c7 => k_is)
    (case k7 => k_is)
    (case a8 => k_is)
    (case l8 => k_is)
    (case c8 => k_is)
    (case k8 => k_is)
    (case a9 => k_is)
    (case l9 => k_is)
    (case c9 => k_is)
    (case k9 => k_is)
    (case a10 => k_is)
    (case l10 => k_is)
    (case c10 => k_is)
    (case k10 => k_is)
    (case a11 => k_is)
    (case l11 => k_is)
    (case c11 => k_is)
    (case k11 => k_is)
    (case a12 => k_is)
    (case l12 => k_is)
    (case c12 => k_is)
    (case k12 => k_is)
    (case a13 => k_is)
    (case l13 => k_is)
    (case c13 => k_is)
    (case k13 => k_is)
    (case a14 => k_is)
    (case l14 => k_is)
    (case c14 => k_is)
    (case k14 => k_is)
    (case g_SHAPES => k_is)
    (case dd_SHAPES => first | exact rfl | kernel_rfl)
    (case v0_SHAPES => k_is)
    (case q0_SHAPES => k_is)
    (case v1_SHAPES => k_is)
    (case q1_SHAPES => k_is)
    (case v2_SHAPES => k_is)
    (case q2_SHAPES => k_is)
    (case v3_SHAPES => k_is)
    (case q3_SHAPES => k_is)
    (case v4_SHAPES => k_is)
    (case q4_SHAPES => k_is)
    (case v5_SHAPES => k_is)
    (case q5_SHAPES => k_is)
    (case v6_SHAPES => k_is)
    (case q6_SHAPES => k_is)
    (case z_len => k_is)
    (case z_range => k_is)
    (case z_list => k_is)
    (case z_tuple => k_is)
    (case z_max => k_is)
    (case z_min => k_is)
    (case z_all => k_is)
    (case z_any => k_is)
    (case z_zip => k_is)
    (case z_enumerate => k_is)
    (case z_isinstance => k_is)
    (case z_str => k_is)
    (case z_int => k_is)
    (case z_bool => k_is)
    (case z_sorted => k_is)
    (case z_sum => k_is)
    (case z_repr => k_is)
    (case z_dict => k_is)
    (case z_set => k_is)
    (case lc => k_is)
    (case lp => first | exact rfl | kernel_rfl)
    (case kc => first | exact rfl | kernel_rfl)
    (case kt => first | exact rfl | kernel_rfl)

