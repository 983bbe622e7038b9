import PyProof.Rows.All
import Wide.All
import OpenK.AllK
import Wide.FinOn
import HandS.ForMost
import HandS.ForExc
import HandS.Wide
import HandS.Flow
import HandS.Style
import HandS.IsInst
import HandS.Defaults
import HandS.Zip
import HandS.EndBits
import HandS.Walk
import PyProof.StrBlock2
import HandS.TupAny
import KE.KUnpackStar
import PyProof.P3Eq
import HandS.Small
import HandS.Iter
import HandS.MakeKw
import HandS.Deep
import KE.GoesMore
import HandS.Conv
import KE.GoesZip
import HandS.More
import HandS.DictComp
import HandS.Strs
import PyProof.SliceList
import HandS.SortInts
import HandS.OwnEq
import HandS.ListItems
import PyProof.Rows.FactsN_isinstance
import HandS.TupLen
import HandS.HotCalls
import HandS.Lambda
import HandS.ExcInit
import HandS.ExcIs
import HandS.ExcField
import PyProof.ZipIter
import PyProof.Rows.TupIter
import KE.KExcInit
import KE.KTryMore
import KE.KExcIs
import HandS.EndOwn
import KE.KNestM
import HandS.TupMul
import HandS.NoneIn
import KE.KDflt
import OpenK.KOps
import KE.KDictPairs
import HandS.HeadHook3
import KE.OsRunLaw
import PySem.Challenge.RW_darkthread_k49_whole_rounds_read_from_si
set_option Elab.async false
set_option linter.all false
set_option maxRecDepth 100000
set_option maxHeartbeats 8000000
def PyProofBox (P : Prop) : Prop := P
theorem bx_of {P : Prop} (h : PyProofBox P) : P := h
theorem bx_true {P : Prop} (h : P) : PyProofBox P = True := eq_true h
/-! L3: a typed layer of our own over the hand layer: what a reading comes to, said by representations of data. -/
namespace L3
open PySem L2

/-! ### representations -/
structure Rep where
  p : Hp → V → Prop
  m : ∀ {S S' : Hp} {v : V}, Same S S' → p S v → p S' v
structure MRep where
  p : Hp → HO → Prop
  m : ∀ {S S' : Hp} {o : HO}, Same S S' → p S o → p S' o
  nt : ∀ {S : Hp} {o : HO}, p S o → ∀ xs, o ≠ .tup xs
/-- free, or a tuple, which nothing changes -/
def Fre (H : Hp) (a : Addr) : Prop := ∀ o, H a = some o → ∃ xs, o = .tup xs
theorem fre_none {H : Hp} {a : Addr} (h : H a = none) : Fre H a := fun o q => by rw [h] at q; cases q
def All2 (S : Hp) : List Rep → List V → Prop
  | [], [] => True
  | r :: rs, v :: vs => r.p S v ∧ All2 S rs vs
  | _, _ => False
theorem All2.mono {S S' : Hp} (e : Same S S') : ∀ {rs : List Rep} {vs : List V}, All2 S rs vs → All2 S' rs vs
  | [], [], _ => True.intro
  | r :: rs, v :: vs, h => ⟨r.m e h.1, All2.mono e h.2⟩
  | [], _ :: _, h => h.elim
  | _ :: _, [], h => h.elim
theorem All2.len {S : Hp} : ∀ {rs : List Rep} {vs : List V}, All2 S rs vs → vs.length = rs.length
  | [], [], _ => rfl
  | _ :: rs, _ :: vs, h => congrArg Nat.succ (All2.len (rs := rs) (vs := vs) h.2)
  | [], _ :: _, h => h.elim
  | _ :: _, [], h => h.elim
theorem All2.get {S : Hp} : ∀ {rs : List Rep} {vs : List V} {i : Nat} {r : Rep}, All2 S rs vs → rs[i]? = some r → ∃ v, vs[i]? = some v ∧ r.p S v
  | r :: rs, v :: vs, 0, q, h, e => by
    have e' : r = q := Option.some.inj e
    subst e'
    exact ⟨v, rfl, h.1⟩
  | r :: rs, v :: vs, i + 1, q, h, e => All2.get (rs := rs) (vs := vs) (i := i) h.2 e
  | [], [], _, _, _, e => by cases e
  | [], _ :: _, _, _, h, _ => h.elim
  | _ :: _, [], _, _, h, _ => h.elim
theorem All2.getV {S : Hp} : ∀ {rs : List Rep} {vs : List V} {i : Nat} {v : V}, All2 S rs vs → vs[i]? = some v → ∃ r, rs[i]? = some r ∧ r.p S v
  | r :: rs, v :: vs, 0, q, h, e => by
    have e' : v = q := Option.some.inj e
    subst e'
    exact ⟨r, rfl, h.1⟩
  | r :: rs, v :: vs, i + 1, q, h, e => All2.getV (rs := rs) (vs := vs) (i := i) h.2 e
  | [], [], _, _, _, e => by cases e
  | [], _ :: _, _, _, h, _ => h.elim
  | _ :: _, [], _, _, h, _ => h.elim
theorem All2.app {S : Hp} : ∀ {rs qs : List Rep} {vs ws : List V}, All2 S rs vs → All2 S qs ws → All2 S (rs ++ qs) (vs ++ ws)
  | [], _, [], _, _, h => h
  | _ :: rs, _, _ :: vs, _, h, k => ⟨h.1, All2.app (rs := rs) (vs := vs) h.2 k⟩
  | [], _, _ :: _, _, h, _ => h.elim
  | _ :: _, _, [], _, h, _ => h.elim
theorem All2.one {S : Hp} {r : Rep} {v : V} (h : r.p S v) : All2 S [r] [v] := ⟨h, True.intro⟩
theorem All2.take {S : Hp} : ∀ (n : Nat) {rs : List Rep} {vs : List V}, All2 S rs vs → All2 S (rs.take n) (vs.take n)
  | 0, _, _, _ => by simp only [List.take_zero]; exact True.intro
  | n + 1, [], [], _ => True.intro
  | n + 1, _ :: rs, _ :: vs, h => ⟨h.1, All2.take n (rs := rs) (vs := vs) h.2⟩
  | _ + 1, [], _ :: _, h => h.elim
  | _ + 1, _ :: _, [], h => h.elim
theorem All2.drop {S : Hp} : ∀ (n : Nat) {rs : List Rep} {vs : List V}, All2 S rs vs → All2 S (rs.drop n) (vs.drop n)
  | 0, _, _, h => h
  | n + 1, [], [], _ => True.intro
  | n + 1, _ :: rs, _ :: vs, h => All2.drop n (rs := rs) (vs := vs) h.2
  | _ + 1, [], _ :: _, h => h.elim
  | _ + 1, _ :: _, [], h => h.elim
theorem All2.rev {S : Hp} : ∀ {rs : List Rep} {vs : List V}, All2 S rs vs → All2 S rs.reverse vs.reverse
  | [], [], _ => True.intro
  | r :: rs, v :: vs, h => by
    rw [List.reverse_cons, List.reverse_cons]
    exact (All2.rev (rs := rs) (vs := vs) h.2).app (All2.one h.1)
  | [], _ :: _, h => h.elim
  | _ :: _, [], h => h.elim
theorem All2.set {S : Hp} {r : Rep} {v : V} (hr : r.p S v) : ∀ {rs : List Rep} {vs : List V} (i : Nat), All2 S rs vs → All2 S (rs.set i r) (vs.set i v)
  | [], [], _, _ => True.intro
  | _ :: rs, _ :: vs, 0, h => ⟨hr, h.2⟩
  | _ :: rs, _ :: vs, i + 1, h => ⟨h.1, All2.set hr (rs := rs) (vs := vs) i h.2⟩
  | [], _ :: _, _, h => h.elim
  | _ :: _, [], _, h => h.elim
/-- flat representations: one value, no heap -/
theorem All2.flat {S : Hp} {α : Type} {r : α → Rep} {g : α → V} (h : ∀ x v, (r x).p S v → v = g x) : ∀ {l : List α} {vs : List V}, All2 S (l.map r) vs → vs = l.map g
  | [], [], _ => rfl
  | x :: l, v :: vs, k => by
    have e := h x v k.1
    have e2 := All2.flat h (l := l) (vs := vs) k.2
    rw [e, e2]
    rfl
  | [], _ :: _, h => h.elim
  | _ :: _, [], h => h.elim
theorem All2.unflat {S : Hp} {α : Type} {r : α → Rep} {g : α → V} (h : ∀ x, (r x).p S (g x)) : ∀ (l : List α), All2 S (l.map r) (l.map g)
  | [] => True.intro
  | x :: l => ⟨h x, All2.unflat h l⟩

theorem Same.sql {K : PySem.W.Frag} {H H' : Hp} {a : Addr} {xs : List V} (e : Same H H') (h : SqL K H a xs) : SqL K H' a xs := Same.seq e h
theorem Same.sqt {K : PySem.W.Frag} {H H' : Hp} {a : Addr} {xs : List V} (e : Same H H') (h : SqT K H a xs) : SqT K H' a xs := by
  rcases h with (h | ⟨o, h⟩) | h
  · exact .inl (.inl (e _ _ h))
  · exact .inl (.inr ⟨o, e _ _ h⟩)
  · exact .inr h

def iNon : Rep := ⟨fun _ v => v = .non, fun _ h => h⟩
def iBl (b : Bool) : Rep := ⟨fun _ v => v = .bl b, fun _ h => h⟩
def iInt (i : Int) : Rep := ⟨fun _ v => v = .int i, fun _ h => h⟩
def aStr (x : Str) : Rep := ⟨fun _ v => v = .str x, fun _ h => h⟩
def iRef (a : Addr) : Rep := ⟨fun _ v => v = .ref a, fun _ h => h⟩
def iAny : Rep := ⟨fun _ _ => True, fun _ h => h⟩
def iLst (rs : List Rep) : Rep := ⟨fun S v => ∃ a xs, v = .ref a ∧ S a = some (.lst xs) ∧ All2 S rs xs, fun e ⟨a, xs, h1, h2, h3⟩ => ⟨a, xs, h1, e _ _ h2, h3.mono e⟩⟩
/-- a list that is read alone (the script) -/
def iScr (K : PySem.W.Frag) (ns : List Int) : Rep := ⟨fun S v => ∃ a, v = .ref a ∧ SqL K S a (ns.map V.int), fun e ⟨a, h1, h2⟩ => ⟨a, h1, Same.sql e h2⟩⟩
def aTup (K : PySem.W.Frag) (rs : List Rep) : Rep := ⟨fun S v => ∃ a xs, v = .ref a ∧ SqT K S a xs ∧ All2 S rs xs, fun e ⟨a, xs, h1, h2, h3⟩ => ⟨a, xs, h1, Same.sqt e h2, h3.mono e⟩⟩
def mLst (rs : List Rep) : MRep := ⟨fun S o => ∃ xs, o = .lst xs ∧ All2 S rs xs, fun e ⟨xs, h1, h3⟩ => ⟨xs, h1, h3.mono e⟩, fun ⟨xs, h1, _⟩ ys z => by rw [h1] at z; cases z⟩

/-! ### the symbolic heap -/
abbrev SH := List (Addr × MRep)
abbrev dm (M : SH) : List Addr := M.map (·.1)
abbrev Ct := List (Option Rep)
structure MOk (S H : Hp) (M : SH) : Prop where
  at_ : ∀ a P, (a, P) ∈ M → S a = none ∧ ∃ o, H a = some o ∧ P.p S o
  nd : (dm M).Nodup
structure Stp (S H S2 H2 : Hp) (M M2 : SH) : Prop where
  s : Same S S2
  e : Same S2 H2
  new : ∀ a, S a = none → S2 a ≠ none → Fre H a ∨ a ∈ dm M
  fr : ∀ a o, a ∉ dm M → H a = some o → H2 a = some o
  m : MOk S2 H2 M2
  dn : ∀ a ∈ dm M2, a ∈ dm M ∨ H a = none
structure Nv (S H : Hp) (σ : L2.St) (Γ : Ct) (M : SH) : Prop where
  ex : Same S H
  len : σ.length = Γ.length
  sl : ∀ (i : Nat) (R : Rep), Γ[i]? = some (some R) → ∃ v, σ[i]? = some (some v) ∧ R.p S v
  m : MOk S H M

theorem MOk.mem {S H : Hp} {M : SH} (m : MOk S H M) {a : Addr} (h : a ∈ dm M) : S a = none ∧ ∃ o, H a = some o := by
  obtain ⟨⟨b, P⟩, h1, h2⟩ := List.mem_map.mp h
  have e : b = a := h2
  subst e
  obtain ⟨z, o, q, _⟩ := m.at_ b P h1
  exact ⟨z, o, q⟩
theorem Stp.refl {S H : Hp} {M : SH} (e : Same S H) (m : MOk S H M) : Stp S H S H M M :=
  ⟨Same.refl _, e, fun a h1 h2 => absurd h1 h2, fun _ _ _ h => h, m, fun _ h => .inl h⟩
theorem Stp.trans {S H S1 H1 S2 H2 : Hp} {M M1 M2 : SH} (a : Stp S H S1 H1 M M1) (b : Stp S1 H1 S2 H2 M1 M2) : Stp S H S2 H2 M M2 := by
  have back : ∀ c, H1 c = none → H c = none ∨ c ∈ dm M := fun c h => by
    by_cases hc : c ∈ dm M
    · exact .inr hc
    · cases q : H c with
      | none => exact .inl rfl
      | some o => rw [a.fr c o hc q] at h; cases h
  have backF : ∀ c, Fre H1 c → Fre H c ∨ c ∈ dm M := fun c h => by
    by_cases hc : c ∈ dm M
    · exact .inr hc
    · exact .inl fun o q => h o (a.fr c o hc q)
  refine ⟨a.s.trans b.s, b.e, fun c h1 h2 => ?_, fun c o h1 h2 => ?_, b.m, fun c h => ?_⟩
  · by_cases h3 : S1 c = none
    · rcases b.new c h3 h2 with h | h
      · exact backF c h
      · exact (a.dn c h).elim .inr fun z => .inl (fre_none z)
    · exact a.new c h1 h3
  · refine b.fr c o (fun z => ?_) (a.fr c o h1 h2)
    rcases a.dn c z with z | z
    · exact h1 z
    · rw [h2] at z; cases z
  · rcases b.dn c h with h | h
    · exact a.dn c h
    · exact (back c h).symm
theorem Nv.step {S H S2 H2 : Hp} {σ : L2.St} {Γ : Ct} {M M2 : SH} (I : Nv S H σ Γ M) (st : Stp S H S2 H2 M M2) : Nv S2 H2 σ Γ M2 :=
  ⟨st.e, I.len, fun i R h => let ⟨v, h1, h2⟩ := I.sl i R h; ⟨v, h1, R.m st.s h2⟩, st.m⟩
theorem Nv.set {S H : Hp} {σ : L2.St} {Γ : Ct} {M : SH} (I : Nv S H σ Γ M) (j : Nat) {v : V} {R : Rep} (h : R.p S v) : Nv S H (σ.set j (some v)) (Γ.set j (some R)) M := by
  refine ⟨I.ex, by simp [I.len], fun i Q e => ?_, I.m⟩
  by_cases hj : j = i
  · subst hj
    have hl : j < Γ.length := by
      have := (List.getElem?_eq_some_iff.mp e).1
      simpa using this
    rw [List.getElem?_set_self hl] at e
    cases e
    exact ⟨v, List.getElem?_set_self (by rw [I.len]; exact hl), h⟩
  · rw [List.getElem?_set_ne hj] at e ⊢
    exact I.sl i Q e
theorem Nv.weak {S H : Hp} {σ : L2.St} {Γ Γ' : Ct} {M : SH} (I : Nv S H σ Γ M) (hl : Γ'.length = Γ.length) (h : ∀ (i : Nat) (R : Rep), Γ'[i]? = some (some R) → Γ[i]? = some (some R)) : Nv S H σ Γ' M :=
  ⟨I.ex, I.len.trans hl.symm, fun i R e => I.sl i R (h i R e), I.m⟩
/-- framing -/
theorem Stp.frame {S H S2 H2 : Hp} {M M2 F : SH} (st : Stp S H S2 H2 M M2) (m : MOk S H (M ++ F)) : Stp S H S2 H2 (M ++ F) (M2 ++ F) := by
  have nd := m.nd
  have eM : dm (M ++ F) = dm M ++ dm F := List.map_append
  have eM2 : dm (M2 ++ F) = dm M2 ++ dm F := List.map_append
  rw [eM, List.nodup_append] at nd
  obtain ⟨n1, n2, n3⟩ := nd
  have hF : ∀ a, a ∈ dm F → S a = none ∧ (∃ o, H a = some o) ∧ a ∉ dm M := fun a h => by
    obtain ⟨z, o⟩ := m.mem (a := a) (by rw [eM]; exact List.mem_append_right _ h)
    exact ⟨z, o, fun q => n3 a q a h rfl⟩
  refine ⟨st.s, st.e, fun a h1 h2 => ?_, fun a o h1 h2 => ?_, ⟨fun a P h => ?_, ?_⟩, fun a h => ?_⟩
  · rcases st.new a h1 h2 with h | h
    · exact .inl h
    · exact .inr (by rw [eM]; exact List.mem_append_left _ h)
  · exact st.fr a o (fun z => h1 (by rw [eM]; exact List.mem_append_left _ z)) h2
  · rcases List.mem_append.mp h with h | h
    · exact st.m.at_ a P h
    · have ha : a ∈ dm F := List.mem_map.mpr ⟨(a, P), h, rfl⟩
      obtain ⟨z, _, z3⟩ := hF a ha
      obtain ⟨_, o, q1, q2⟩ := m.at_ a P (List.mem_append_right _ h)
      refine ⟨?_, o, st.fr a o z3 q1, P.m st.s q2⟩
      cases q : S2 a with
      | none => rfl
      | some u =>
        rcases st.new a z (by rw [q]; exact fun c => by cases c) with w | w
        · obtain ⟨xs, e⟩ := w o q1
          exact absurd e (P.nt q2 xs)
        · exact absurd w z3
  · rw [eM2, List.nodup_append]
    refine ⟨st.m.nd, n2, fun a h1 b h2 e => ?_⟩
    subst e
    obtain ⟨_, ⟨o, q⟩, z3⟩ := hF a h2
    rcases st.dn a h1 with w | w
    · exact z3 w
    · rw [w] at q; cases q
  · rw [eM2] at h
    rw [eM]
    rcases List.mem_append.mp h with h | h
    · rcases st.dn a h with w | w
      · exact .inl (List.mem_append_left _ w)
      · exact .inr w
    · exact .inl (List.mem_append_right _ h)
theorem MOk.left {S H : Hp} {M F : SH} (m : MOk S H (M ++ F)) : MOk S H M := by
  refine ⟨fun a P h => m.at_ a P (List.mem_append_left _ h), ?_⟩
  have nd := m.nd
  rw [show dm (M ++ F) = dm M ++ dm F from List.map_append, List.nodup_append] at nd
  exact nd.1
theorem MOk.perm {S H : Hp} {M M' : SH} (m : MOk S H M) (h : M.Perm M') : MOk S H M' :=
  ⟨fun a P e => m.at_ a P (h.symm.subset e), (h.map _).nodup_iff.mp m.nd⟩
theorem Stp.permL {S H S2 H2 : Hp} {M M' M2 : SH} (st : Stp S H S2 H2 M' M2) (h : M.Perm M') : Stp S H S2 H2 M M2 := by
  have e : ∀ a, a ∈ dm M ↔ a ∈ dm M' := fun a => (h.map _).mem_iff
  exact ⟨st.s, st.e, fun a h1 h2 => by rw [e a]; exact st.new a h1 h2, fun a o h1 h2 => st.fr a o (fun z => h1 ((e a).mpr z)) h2, st.m, fun a h1 => by rw [e a]; exact st.dn a h1⟩

/-! ### a new object: kept in the stable part, or as a mutable one -/
theorem Same.newS {S H : Hp} {p : Addr} {o : HO} (e : Same S H) (h : H p = none) : Same S (upd S p o) := fun a u q => by
  rw [upd_ne (ne_of_none (e _ _ q) h)]; exact q
theorem Stp.newS {S H : Hp} {M : SH} {p : Addr} {o : HO} (e : Same S H) (m : MOk S H M) (h : H p = none) : Stp S H (upd S p o) (upd H p o) M M := by
  have nm : ∀ a, a ∈ dm M → a ≠ p := fun a ha z => by
    obtain ⟨_, o, q⟩ := m.mem ha
    rw [z, h] at q; cases q
  refine ⟨Same.newS e h, fun a u q => ?_, fun a h1 h2 => ?_, fun a u _ q => ?_, ⟨fun a P hp => ?_, m.nd⟩, fun _ h => .inl h⟩
  · by_cases ha : a = p
    · subst ha; rw [upd_same] at q ⊢; exact q
    · rw [upd_ne ha] at q ⊢; exact e _ _ q
  · by_cases ha : a = p
    · subst ha; exact .inl (fre_none h)
    · rw [upd_ne ha] at h2; exact absurd h1 h2
  · rw [upd_ne (ne_of_none q h)]; exact q
  · obtain ⟨z, u, q1, q2⟩ := m.at_ a P hp
    have ha := nm a (List.mem_map.mpr ⟨(a, P), hp, rfl⟩)
    exact ⟨by rw [upd_ne ha]; exact z, u, by rw [upd_ne ha]; exact q1, P.m (Same.newS e h) q2⟩
theorem Stp.newM {S H : Hp} {M : SH} {p : Addr} {o : HO} {P : MRep} (e : Same S H) (m : MOk S H M) (h : H p = none) (hP : P.p S o) : Stp S H S (upd H p o) M (M ++ [(p, P)]) := by
  have hS : S p = none := by
    cases q : S p with
    | none => rfl
    | some u => rw [e _ _ q] at h; cases h
  have nm : ∀ a, a ∈ dm M → a ≠ p := fun a ha z => by
    obtain ⟨_, o, q⟩ := m.mem ha
    rw [z, h] at q; cases q
  refine ⟨Same.refl _, fun a u q => ?_, fun a h1 h2 => absurd h1 h2, fun a u _ q => ?_, ⟨fun a P' hp => ?_, ?_⟩, fun a ha => ?_⟩
  · rw [upd_ne (ne_of_none (e _ _ q) h)]; exact e _ _ q
  · rw [upd_ne (ne_of_none q h)]; exact q
  · rcases List.mem_append.mp hp with hp | hp
    · obtain ⟨z, u, q1, q2⟩ := m.at_ a P' hp
      have ha := nm a (List.mem_map.mpr ⟨(a, P'), hp, rfl⟩)
      exact ⟨z, u, by rw [upd_ne ha]; exact q1, q2⟩
    · have e1 : (a, P') = (p, P) := List.mem_singleton.mp hp
      cases e1
      exact ⟨hS, o, upd_same, hP⟩
  · rw [show dm (M ++ [(p, P)]) = dm M ++ [p] from List.map_append, List.nodup_append]
    refine ⟨m.nd, by simp, fun a h1 b h2 => ?_⟩
    have e1 : b = p := List.mem_singleton.mp h2
    subst e1
    exact nm a h1
  · rw [show dm (M ++ [(p, P)]) = dm M ++ [p] from List.map_append] at ha
    rcases List.mem_append.mp ha with ha | ha
    · exact .inl ha
    · have e1 : a = p := List.mem_singleton.mp ha
      subst e1
      exact .inr h
/-- a mutable object written -/
theorem Stp.wrM {S H : Hp} {A B : SH} {a : Addr} {P P' : MRep} {o : HO} (e : Same S H) (m : MOk S H (A ++ (a, P) :: B)) (hP : P'.p S o) : Stp S H S (upd H a o) (A ++ (a, P) :: B) (A ++ (a, P') :: B) := by
  have dme : ∀ Q : MRep, dm (A ++ (a, Q) :: B) = dm A ++ a :: dm B := fun Q => by simp [dm]
  have ha : a ∈ dm (A ++ (a, P) :: B) := by rw [dme]; simp
  obtain ⟨hS, _⟩ := m.mem ha
  have nd := m.nd
  rw [dme] at nd
  have nd2 : a ∉ dm A ∧ a ∉ dm B := by
    rw [List.nodup_append] at nd
    obtain ⟨_, n2, n3⟩ := nd
    exact ⟨fun h => n3 a h a (List.mem_cons_self ..) rfl, (List.nodup_cons.mp n2).1⟩
  refine ⟨Same.refl _, fun b u q => ?_, fun b h1 h2 => absurd h1 h2, fun b u h1 q => ?_, ⟨fun b Q hq => ?_, ?_⟩, fun b hb => .inl (by rw [dme] at hb ⊢; exact hb)⟩
  · have hb : b ≠ a := fun z => by rw [z, hS] at q; cases q
    rw [upd_ne hb]; exact e _ _ q
  · have hb : b ≠ a := fun z => h1 (by rw [z]; exact ha)
    rw [upd_ne hb]; exact q
  · have old : ∀ Q, b ≠ a → (b, Q) ∈ A ++ (a, P) :: B → S b = none ∧ ∃ o_1, upd H a o b = some o_1 ∧ Q.p S o_1 := fun Q hb hq => by
      obtain ⟨z, u, q1, q2⟩ := m.at_ b Q hq
      exact ⟨z, u, by rw [upd_ne hb]; exact q1, q2⟩
    rcases List.mem_append.mp hq with hq | hq
    · refine old Q (fun z => ?_) (List.mem_append_left _ hq)
      rw [z] at hq
      exact nd2.1 (List.mem_map.mpr ⟨_, hq, rfl⟩)
    · rcases List.mem_cons.mp hq with hq | hq
      · cases hq
        exact ⟨hS, o, upd_same, hP⟩
      · refine old Q (fun z => ?_) (List.mem_append_right _ (List.mem_cons_of_mem _ hq))
        rw [z] at hq
        exact nd2.2 (List.mem_map.mpr ⟨_, hq, rfl⟩)
  · rw [dme]; exact nd
/-- a mutable object becomes stable -/
theorem Stp.fz {S H : Hp} {A B : SH} {a : Addr} {P : MRep} {o : HO} (e : Same S H) (m : MOk S H (A ++ (a, P) :: B)) (ho : H a = some o) : Stp S H (upd S a o) H (A ++ (a, P) :: B) (A ++ B) := by
  have dme : dm (A ++ (a, P) :: B) = dm A ++ a :: dm B := by simp [dm]
  have dme2 : dm (A ++ B) = dm A ++ dm B := by simp [dm]
  have ha : a ∈ dm (A ++ (a, P) :: B) := by rw [dme]; simp
  obtain ⟨hS, _⟩ := m.mem ha
  have nd := m.nd
  rw [dme] at nd
  have nd2 : a ∉ dm A ∧ a ∉ dm B := by
    rw [List.nodup_append] at nd
    obtain ⟨_, n2, n3⟩ := nd
    exact ⟨fun h => n3 a h a (List.mem_cons_self ..) rfl, (List.nodup_cons.mp n2).1⟩
  have sm : Same S (upd S a o) := fun b u q => by
    have hb : b ≠ a := fun z => by rw [z, hS] at q; cases q
    rw [upd_ne hb]; exact q
  refine ⟨sm, fun b u q => ?_, fun b h1 h2 => ?_, fun _ _ _ q => q, ⟨fun b Q hq => ?_, ?_⟩, fun b hb => .inl ?_⟩
  · by_cases hb : b = a
    · subst hb; rw [upd_same] at q; rw [ho]; exact q
    · rw [upd_ne hb] at q; exact e _ _ q
  · by_cases hb : b = a
    · subst hb; exact .inr ha
    · rw [upd_ne hb] at h2; exact absurd h1 h2
  · have hq' : (b, Q) ∈ A ++ (a, P) :: B := by
      rcases List.mem_append.mp hq with h | h
      · exact List.mem_append_left _ h
      · exact List.mem_append_right _ (List.mem_cons_of_mem _ h)
    have hb : b ≠ a := fun z => by
      rw [z] at hq
      rcases List.mem_append.mp hq with h | h
      · exact nd2.1 (List.mem_map.mpr ⟨_, h, rfl⟩)
      · exact nd2.2 (List.mem_map.mpr ⟨_, h, rfl⟩)
    obtain ⟨z, u, q1, q2⟩ := m.at_ b Q hq'
    exact ⟨by rw [upd_ne hb]; exact z, u, q1, Q.m sm q2⟩
  · rw [dme2]
    rw [List.nodup_append] at nd ⊢
    obtain ⟨n1, n2, n3⟩ := nd
    exact ⟨n1, (List.nodup_cons.mp n2).2, fun x h1 y h2 => n3 x h1 y (List.mem_cons_of_mem _ h2)⟩
  · rw [dme2] at hb
    rw [dme]
    rcases List.mem_append.mp hb with h | h
    · exact List.mem_append_left _ h
    · exact List.mem_append_right _ (List.mem_cons_of_mem _ h)
end L3

namespace L3
open PySem L2

/-! ### exceptions of our own classes: the class, its fields -/
structure XR where
  cls : Addr
  fs : List (Str × Rep)
def XR.p (x : XR) (S : Hp) (cls : Value) (d : Option Addr) : Prop :=
  cls = .ref x.cls ∧ ∃ dd vs, d = some dd ∧ S dd = some (.xd vs) ∧ vs.map (·.1) = x.fs.map (·.1) ∧ All2 S (x.fs.map (·.2)) (vs.map (·.2))
abbrev KR := Rep → SH → Prop
abbrev KX := XR → SH → Prop
def Out (S H : Hp) (M : SH) (K : KR) (Q : VK) : Prop := ∀ v S2 H2 R M2, K R M2 → Stp S H S2 H2 M M2 → R.p S2 v → Q v H2
def OutX (S H : Hp) (M : SH) (X : KX) (E : XK) : Prop := ∀ cls d S2 H2 x M2, X x M2 → Stp S H S2 H2 M M2 → x.p S2 cls d → E cls d H2
theorem Out.step {S H S1 H1 : Hp} {M M1 : SH} {K : KR} {Q : VK} (o : Out S H M K Q) (st : Stp S H S1 H1 M M1) : Out S1 H1 M1 K Q :=
  fun v S2 H2 R M2 k st2 p => o v S2 H2 R M2 k (st.trans st2) p
theorem OutX.step {S H S1 H1 : Hp} {M M1 : SH} {X : KX} {E : XK} (o : OutX S H M X E) (st : Stp S H S1 H1 M M1) : OutX S1 H1 M1 X E :=
  fun c d S2 H2 x M2 k st2 p => o c d S2 H2 x M2 k (st.trans st2) p
abbrev X0 : KX := fun _ _ => False

/-! ### what readings come to -/
def Ev (E : XK) (te : TE) (Γ : Ct) (M : SH) (K : KR) (X : KX) : Prop := ∀ σ S H Q, Nv S H σ Γ M → Out S H M K Q → OutX S H M X E → te σ H Q
def Ep (E : XK) (te : TE) (Γ : Ct) (M : SH) (R : Rep) : Prop := ∀ (K : KR) (X : KX), K R M → Ev E te Γ M K X
def Et (E : XK) (tt : TT) (Γ : Ct) (M : SH) (K : Bool → SH → Prop) (X : KX) : Prop := ∀ σ S H Q, Nv S H σ Γ M → (∀ b S2 H2 M2, K b M2 → Stp S H S2 H2 M M2 → Q b H2) → OutX S H M X E → tt σ H Q
def Etp (E : XK) (tt : TT) (Γ : Ct) (M : SH) (b : Bool) : Prop := ∀ (K : Bool → SH → Prop) (X : KX), K b M → Et E tt Γ M K X
def Ea (E : XK) (ta : TA) (Γ : Ct) (M : SH) (K : List Rep → SH → Prop) (X : KX) : Prop := ∀ σ S H Q, Nv S H σ Γ M → (∀ vs S2 H2 Rs M2, K Rs M2 → Stp S H S2 H2 M M2 → All2 S2 Rs vs → Q vs H2) → OutX S H M X E → ta σ H Q
def Eap (E : XK) (ta : TA) (Γ : Ct) (M : SH) (Rs : List Rep) : Prop := ∀ (K : List Rep → SH → Prop) (X : KX), K Rs M → Ea E ta Γ M K X
/-- by values: two places, one place, a list -/
def O2 (r : R2) (R1 R2 : Rep) (M : SH) (K : KR) : Prop := ∀ x y S H Q, Same S H → MOk S H M → R1.p S x → R2.p S y → Out S H M K Q → r x y H Q
def O2p (r : R2) (R1 R2 : Rep) (M : SH) (R : Rep) : Prop := ∀ K : KR, K R M → O2 r R1 R2 M K
def O1 (r : V → Hp → VK → Prop) (R1 : Rep) (M : SH) (K : KR) : Prop := ∀ x S H Q, Same S H → MOk S H M → R1.p S x → Out S H M K Q → r x H Q
def O1p (r : V → Hp → VK → Prop) (R1 : Rep) (M : SH) (R : Rep) : Prop := ∀ K : KR, K R M → O1 r R1 M K
def Ol (r : List V → Hp → VK → Prop) (Rs : List Rep) (M : SH) (K : KR) : Prop := ∀ xs S H Q, Same S H → MOk S H M → All2 S Rs xs → Out S H M K Q → r xs H Q
def Olp (r : List V → Hp → VK → Prop) (Rs : List Rep) (M : SH) (R : Rep) : Prop := ∀ K : KR, K R M → Ol r Rs M K
/-- a method of a built-in type -/
def Om (r : V → List V → Hp → VK → Prop) (R1 : Rep) (Rs : List Rep) (M : SH) (K : KR) : Prop := ∀ x xs S H Q, Same S H → MOk S H M → R1.p S x → All2 S Rs xs → Out S H M K Q → r x xs H Q
def Omp (r : V → List V → Hp → VK → Prop) (R1 : Rep) (Rs : List Rep) (M : SH) (R : Rep) : Prop := ∀ K : KR, K R M → Om r R1 Rs M K

section
variable {E : XK} {K : PySem.W.Frag} {Γ : Ct} {M : SH} {k : KR} {X : KX} {R R1 R2 : Rep} {te ta tb : TE} {t u : TT} {r : L2.R2}
theorem Ep.ev (h : Ep E te Γ M R) (q : k R M) : Ev E te Γ M k X := h k X q
theorem Etp.et {kb : Bool → SH → Prop} {b : Bool} (h : Etp E t Γ M b) (q : kb b M) : Et E t Γ M kb X := h kb X q
theorem Ep.to (h : Ep E te Γ M R) (e : R = R1) : Ep E te Γ M R1 := e ▸ h
theorem Etp.to {b c : Bool} (h : Etp E t Γ M b) (e : b = c) : Etp E t Γ M c := e ▸ h
theorem Ep.wk (h : Ep E te Γ M R) (e : ∀ S v, R.p S v → R1.p S v) : Ep E te Γ M R1 := fun k X q σ S H Q I o ox =>
  h (fun R' M' => R' = R ∧ M' = M) X ⟨rfl, rfl⟩ σ S H Q I (fun v S2 H2 R' M2 ⟨e1, e2⟩ st p => by
    subst e1; subst e2
    exact o v S2 H2 R1 _ q st (e _ _ p)) ox
theorem Ev.mono {k' : KR} (h : Ev E te Γ M k X) (e : ∀ R M, k R M → k' R M) : Ev E te Γ M k' X := fun σ S H Q I o ox =>
  h σ S H Q I (fun v S2 H2 R M2 q st p => o v S2 H2 R M2 (e _ _ q) st p) ox

/-! ### names, constants -/
theorem ev_var {i : Nat} (h : Γ[i]? = some (some R)) (q : k R M) : Ev E (tVar i) Γ M k X := fun σ S H Q I o _ => by
  obtain ⟨v, h1, h2⟩ := I.sl i R h
  exact ⟨v, h1, o v S H R M q (Stp.refl I.ex I.m) h2⟩
theorem ep_var {i : Nat} (h : Γ[i]? = some (some R)) : Ep E (tVar i) Γ M R := fun _ _ q => ev_var h q
theorem ep_c {v : V} (h : ∀ S, R.p S v) : Ep E (tC v) Γ M R := fun _ _ q σ S H Q I o _ => o v S H R M q (Stp.refl I.ex I.m) (h S)
theorem ep_int {i : Int} : Ep E (tC (.int i)) Γ M (iInt i) := ep_c fun _ => rfl
theorem ep_str {z : Str} : Ep E (tC (.str z)) Γ M (aStr z) := ep_c fun _ => rfl
theorem ep_bl {b : Bool} : Ep E (tC (.bl b)) Γ M (iBl b) := ep_c fun _ => rfl
theorem ep_non : Ep E (tC .non) Γ M iNon := ep_c fun _ => rfl

/-! ### operators -/
theorem ev_op (h : Ev E ta Γ M (fun R1 M1 => Ev E tb Γ M1 (fun R2 M2 => O2 r R1 R2 M2 k) X) X) : Ev E (tOp r ta tb) Γ M k X := fun σ S H Q I o ox =>
  h σ S H _ I (fun x S1 H1 R1 M1 h1 st1 p1 => h1 σ S1 H1 _ (I.step st1) (fun y S2 H2 R2 M2 h2 st2 p2 =>
    h2 x y S2 H2 Q st2.e st2.m (R1.m st2.s p1) p2 (o.step (st1.trans st2))) (ox.step st1)) ox
theorem ep_op (ha : Ep E ta Γ M R1) (hb : Ep E tb Γ M R2) (hr : O2p r R1 R2 M R) : Ep E (tOp r ta tb) Γ M R := fun _ _ q => ev_op (ha _ _ (hb _ _ (hr _ q)))
theorem ev_un {ru : V → Hp → VK → Prop} (h : Ev E ta Γ M (fun R1 M1 => O1 ru R1 M1 k) X) : Ev E (tUn ru ta) Γ M k X := fun σ S H Q I o ox =>
  h σ S H _ I (fun x S1 H1 R1 M1 h1 st1 p1 => h1 x S1 H1 Q st1.e st1.m p1 (o.step st1)) ox
theorem ep_un {ru : V → Hp → VK → Prop} (ha : Ep E ta Γ M R1) (hr : O1p ru R1 M R) : Ep E (tUn ru ta) Γ M R := fun _ _ q => ev_un (ha _ _ (hr _ q))
theorem o2_val (h : ∀ x y S H, Same S H → MOk S H M → R1.p S x → R2.p S y → ∃ v, R.p S v ∧ ∀ Q : VK, Q v H → r x y H Q) : O2p r R1 R2 M R := fun _ q x y S H Q e m h1 h2 o => by
  obtain ⟨v, p, g⟩ := h x y S H e m h1 h2
  exact g Q (o v S H R M q (Stp.refl e m) p)
theorem o1_val {ru : V → Hp → VK → Prop} (h : ∀ x S H, Same S H → MOk S H M → R1.p S x → ∃ v, R.p S v ∧ ∀ Q : VK, Q v H → ru x H Q) : O1p ru R1 M R := fun _ q x S H Q e m h1 o => by
  obtain ⟨v, p, g⟩ := h x S H e m h1
  exact g Q (o v S H R M q (Stp.refl e m) p)
theorem ol_val {rl : List V → Hp → VK → Prop} {Rs : List Rep} (h : ∀ xs S H, Same S H → MOk S H M → All2 S Rs xs → ∃ v, R.p S v ∧ ∀ Q : VK, Q v H → rl xs H Q) : Olp rl Rs M R := fun _ q xs S H Q e m h1 o => by
  obtain ⟨v, p, g⟩ := h xs S H e m h1
  exact g Q (o v S H R M q (Stp.refl e m) p)
theorem o_I0 {g : Int → Int → V} {i j : Int} (hR : ∀ S, R.p S (g i j)) : O2p (rI0 g) (iInt i) (iInt j) M R := o2_val fun x y S H _ _ h1 h2 => by
  cases h1; cases h2
  exact ⟨g i j, hR S, fun Q q => ⟨i, j, rfl, rfl, q⟩⟩
theorem o_I {C : Int → Int → Prop} {g : Int → Int → V} {i j : Int} (hc : C i j) (hR : ∀ S, R.p S (g i j)) : O2p (rI C g) (iInt i) (iInt j) M R := o2_val fun x y S H _ _ h1 h2 => by
  cases h1; cases h2
  exact ⟨g i j, hR S, fun Q q => ⟨i, j, rfl, rfl, hc, q⟩⟩
variable {i j : Int}
theorem o_add : O2p (rI0 fun i j => .int (i + j)) (iInt i) (iInt j) M (iInt (i + j)) := o_I0 fun _ => rfl
theorem o_sub : O2p (rI0 fun i j => .int (i - j)) (iInt i) (iInt j) M (iInt (i - j)) := o_I0 fun _ => rfl
theorem o_lt : O2p (rI0 fun i j => .bl (decide (i < j))) (iInt i) (iInt j) M (iBl (decide (i < j))) := o_I0 fun _ => rfl
theorem o_le : O2p (rI0 fun i j => .bl (decide (i ≤ j))) (iInt i) (iInt j) M (iBl (decide (i ≤ j))) := o_I0 fun _ => rfl
theorem o_gt : O2p (rI0 fun i j => .bl (decide (j < i))) (iInt i) (iInt j) M (iBl (decide (j < i))) := o_I0 fun _ => rfl
theorem o_ge : O2p (rI0 fun i j => .bl (decide (j ≤ i))) (iInt i) (iInt j) M (iBl (decide (j ≤ i))) := o_I0 fun _ => rfl
theorem o_mul (hc : CMul i j) : O2p (rI CMul fun i j => .int (i * j)) (iInt i) (iInt j) M (iInt (i * j)) := o_I hc fun _ => rfl
theorem o_fdivW (hc : CDivW i j) : O2p (rI CDivW fun i j => .int (i / j)) (iInt i) (iInt j) M (iInt (i / j)) := o_I hc fun _ => rfl
theorem o_mod (hc : 0 < j) : O2p (rI (fun _ j => 0 < j) fun i j => .int (i % j)) (iInt i) (iInt j) M (iInt (i % j)) := o_I hc fun _ => rfl
theorem o_pow (hc : CPow i j) : O2p (rI CPow fun i j => .int (i ^ j.toNat)) (iInt i) (iInt j) M (iInt (i ^ j.toNat)) := o_I hc fun _ => rfl
theorem o_neg : O1p (rU fun i => .int (-i)) (iInt i) M (iInt (-i)) := o1_val fun x S H _ _ h1 => by
  cases h1
  exact ⟨_, rfl, fun Q q => ⟨i, rfl, q⟩⟩
/-! == and != of flat things -/
theorem o_eqI : O2p rEq (iInt i) (iInt j) M (iBl (decide (i = j))) := o2_val fun x y S H _ _ h1 h2 => by
  cases h1; cases h2
  exact ⟨_, rfl, fun Q q => ⟨rfl, by rw [show decide (V.int i = V.int j) = decide (i = j) by rw [dec_int, Bool.beq_eq_decide_eq]]; exact q⟩⟩
theorem o_neI : O2p rNe (iInt i) (iInt j) M (iBl (!decide (i = j))) := o2_val fun x y S H _ _ h1 h2 => by
  cases h1; cases h2
  exact ⟨_, rfl, fun Q q => ⟨rfl, by rw [show decide (V.int i = V.int j) = decide (i = j) by rw [dec_int, Bool.beq_eq_decide_eq]]; exact q⟩⟩
theorem o_eqS {a b : Str} : O2p rEq (aStr a) (aStr b) M (iBl (decide (a = b))) := o2_val fun x y S H _ _ h1 h2 => by
  cases h1; cases h2
  exact ⟨_, rfl, fun Q q => ⟨rfl, by rw [show decide (V.str a = V.str b) = decide (a = b) by rw [dec_str, Bool.beq_eq_decide_eq]]; exact q⟩⟩
theorem o_neS {a b : Str} : O2p rNe (aStr a) (aStr b) M (iBl (!decide (a = b))) := o2_val fun x y S H _ _ h1 h2 => by
  cases h1; cases h2
  exact ⟨_, rfl, fun Q q => ⟨rfl, by rw [show decide (V.str a = V.str b) = decide (a = b) by rw [dec_str, Bool.beq_eq_decide_eq]]; exact q⟩⟩
theorem o_eqB {a b : Bool} : O2p rEq (iBl a) (iBl b) M (iBl (a == b)) := o2_val fun x y S H _ _ h1 h2 => by
  cases h1; cases h2
  exact ⟨_, rfl, fun Q q => ⟨rfl, by rw [dec_bl]; exact q⟩⟩
theorem o_neB {a b : Bool} : O2p rNe (iBl a) (iBl b) M (iBl (!(a == b))) := o2_val fun x y S H _ _ h1 h2 => by
  cases h1; cases h2
  exact ⟨_, rfl, fun Q q => ⟨rfl, by rw [dec_bl]; exact q⟩⟩
/-! texts -/
theorem o_addS {a b : Str} (h : a.length + b.length ≤ 16000000) : O2p (fun x y H Q => ∃ i j, x = .str i ∧ y = .str j ∧ i.length + j.length ≤ sizeLine ∧ Q (.str (i ++ j)) H) (aStr a) (aStr b) M (aStr (a ++ b)) := o2_val fun x y S H _ _ h1 h2 => by
  cases h1; cases h2
  exact ⟨_, rfl, fun Q q => ⟨a, b, rfl, rfl, by rw [sizeLine_eq]; omega, q⟩⟩
theorem o_inSign {c : Nat} {z : Str} : O2p (fun x y H Q => ∃ (c : Nat) (z : Str), x = .str ⟨#[c]⟩ ∧ y = .str z ∧ Q (.bl (decide (c ∈ z.cps.toList))) H) (aStr ⟨#[c]⟩) (aStr z) M (iBl (decide (c ∈ z.cps.toList))) := o2_val fun x y S H _ _ h1 h2 => by
  cases h1; cases h2
  exact ⟨_, rfl, fun Q q => ⟨c, z, rfl, rfl, q⟩⟩

/-! ### tests -/
theorem et_test {kb : Bool → SH → Prop} (h : Ev E te Γ M (fun R M1 => ∃ b, R = iBl b ∧ kb b M1) X) : Et E (tTest te) Γ M kb X := fun σ S H Q I o ox =>
  h σ S H _ I (fun v S2 H2 R M2 ⟨b, e, q⟩ st p => by
    subst e; cases p
    exact ⟨b, rfl, o b S2 H2 M2 q st⟩) ox
theorem et_tB {kb : Bool → SH → Prop} (h : Ev E te Γ M (fun R M1 => ∃ b, R = iBl b ∧ kb b M1) X) : Et E (tB te) Γ M kb X := fun σ S H Q I o ox =>
  h σ S H _ I (fun v S2 H2 R M2 ⟨b, e, q⟩ st p => by
    subst e; cases p
    exact ⟨b, rfl, o b S2 H2 M2 q st⟩) ox
theorem etp_test {b : Bool} (h : Ep E te Γ M (iBl b)) : Etp E (tTest te) Γ M b := fun _ _ q => et_test (h _ _ ⟨b, rfl, q⟩)
theorem et_and {kb : Bool → SH → Prop} (h : Et E t Γ M (fun b M1 => if b = true then Et E u Γ M1 kb X else kb false M1) X) : Et E (tAnd t u) Γ M kb X := fun σ S H Q I o ox =>
  h σ S H _ I (fun b S2 H2 M2 q st => by
    cases b with
    | true =>
      have q' : Et E u Γ M2 kb X := by simpa using q
      show u σ H2 Q
      exact q' σ S2 H2 Q (I.step st) (fun c S3 H3 M3 q3 st3 => o c S3 H3 M3 q3 (st.trans st3)) (ox.step st)
    | false =>
      have q' : kb false M2 := by simpa using q
      exact o false S2 H2 M2 q' st) ox
theorem et_or {kb : Bool → SH → Prop} (h : Et E t Γ M (fun b M1 => if b = true then kb true M1 else Et E u Γ M1 kb X) X) : Et E (tOr t u) Γ M kb X := fun σ S H Q I o ox =>
  h σ S H _ I (fun b S2 H2 M2 q st => by
    cases b with
    | false =>
      have q' : Et E u Γ M2 kb X := by simpa using q
      show u σ H2 Q
      exact q' σ S2 H2 Q (I.step st) (fun c S3 H3 M3 q3 st3 => o c S3 H3 M3 q3 (st.trans st3)) (ox.step st)
    | true =>
      have q' : kb true M2 := by simpa using q
      exact o true S2 H2 M2 q' st) ox
theorem et_not {kb : Bool → SH → Prop} (h : Et E t Γ M (fun b M1 => kb (!b) M1) X) : Et E (tNot t) Γ M kb X := fun σ S H Q I o ox =>
  h σ S H _ I (fun b S2 H2 M2 q st => o (!b) S2 H2 M2 q st) ox
theorem etp_and {a b : Bool} (h1 : Etp E t Γ M a) (h2 : a = true → Etp E u Γ M b) : Etp E (tAnd t u) Γ M (a && b) := fun _ _ q => et_and (h1 _ _ (by
  cases a with
  | true => simpa using h2 rfl _ _ q
  | false => simpa using q))
theorem etp_or {a b : Bool} (h1 : Etp E t Γ M a) (h2 : a = false → Etp E u Γ M b) : Etp E (tOr t u) Γ M (a || b) := fun _ _ q => et_or (h1 _ _ (by
  cases a with
  | false => simpa using h2 rfl _ _ q
  | true => simpa using q))
theorem etp_not {a : Bool} (h1 : Etp E t Γ M a) : Etp E (tNot t) Γ M (!a) := fun _ _ q => et_not (h1 _ _ q)
/-! and, or, not as values -/
theorem ev_andV (h : Ev E ta Γ M (fun R M1 => ∃ b, R = iBl b ∧ if b = true then Ev E tb Γ M1 k X else k (iBl false) M1) X) : Ev E (tAndV ta tb) Γ M k X := fun σ S H Q I o ox =>
  h σ S H _ I (fun v S2 H2 R M2 ⟨b, e, q⟩ st p => by
    subst e; cases p
    refine ⟨b, rfl, ?_⟩
    cases b with
    | true =>
      have q' : Ev E tb Γ M2 k X := by simpa using q
      show tb σ H2 Q
      exact q' σ S2 H2 Q (I.step st) (o.step st) (ox.step st)
    | false =>
      have q' : k (iBl false) M2 := by simpa using q
      exact o _ S2 H2 (iBl false) M2 q' st rfl) ox
theorem ev_orV (h : Ev E ta Γ M (fun R M1 => ∃ b, R = iBl b ∧ if b = true then k (iBl true) M1 else Ev E tb Γ M1 k X) X) : Ev E (tOrV ta tb) Γ M k X := fun σ S H Q I o ox =>
  h σ S H _ I (fun v S2 H2 R M2 ⟨b, e, q⟩ st p => by
    subst e; cases p
    refine ⟨b, rfl, ?_⟩
    cases b with
    | false =>
      have q' : Ev E tb Γ M2 k X := by simpa using q
      show tb σ H2 Q
      exact q' σ S2 H2 Q (I.step st) (o.step st) (ox.step st)
    | true =>
      have q' : k (iBl true) M2 := by simpa using q
      exact o _ S2 H2 (iBl true) M2 q' st rfl) ox
theorem ep_andV {a b : Bool} (h1 : Ep E ta Γ M (iBl a)) (h2 : a = true → Ep E tb Γ M (iBl b)) : Ep E (tAndV ta tb) Γ M (iBl (a && b)) := fun _ _ q => ev_andV (h1 _ _ ⟨a, rfl, by
  cases a with
  | true => simpa using h2 rfl _ _ q
  | false => simpa using q⟩)
theorem ev_if (h : Et E t Γ M (fun b M1 => if b = true then Ev E ta Γ M1 k X else Ev E tb Γ M1 k X) X) : Ev E (tIf t ta tb) Γ M k X := fun σ S H Q I o ox =>
  h σ S H _ I (fun b S2 H2 M2 q st => by
    cases b with
    | true =>
      have q' : Ev E ta Γ M2 k X := by simpa using q
      show ta σ H2 Q
      exact q' σ S2 H2 Q (I.step st) (o.step st) (ox.step st)
    | false =>
      have q' : Ev E tb Γ M2 k X := by simpa using q
      show tb σ H2 Q
      exact q' σ S2 H2 Q (I.step st) (o.step st) (ox.step st)) ox
/-- a chain a op b op' c -/
theorem ev_chain {r' : L2.R2} {tc : TE} (h : Ev E ta Γ M (fun R1 M1 => Ev E tb Γ M1 (fun R2 M2 => O2 r R1 R2 M2 fun R3 M3 => ∃ b, R3 = iBl b ∧ if b = true then Ev E tc Γ M3 (fun R4 M4 => O2 r' R2 R4 M4 k) X else k (iBl false) M3) X) X) : Ev E (tChain r r' ta tb tc) Γ M k X := fun σ S H Q I o ox =>
  h σ S H _ I (fun x S1 H1 R1 M1 h1 st1 p1 => h1 σ S1 H1 _ (I.step st1) (fun y S2 H2 R2 M2 h2 st2 p2 =>
    h2 x y S2 H2 _ st2.e st2.m (R1.m st2.s p1) p2 fun z S3 H3 R3 M3 ⟨b, e, q⟩ st3 p3 => by
      subst e; cases p3
      refine ⟨b, rfl, ?_⟩
      have s3 := (st1.trans st2).trans st3
      cases b with
      | true =>
        have q' : Ev E tc Γ M3 (fun R4 M4 => O2 r' R2 R4 M4 k) X := by simpa using q
        rw [if_pos rfl]
        exact q' σ S3 H3 _ (I.step s3) (fun w S4 H4 R4 M4 h4 st4 p4 => h4 y w S4 H4 Q st4.e st4.m (R2.m (st3.s.trans st4.s) p2) p4 (o.step (s3.trans st4))) (ox.step s3)
      | false =>
        have q' : k (iBl false) M3 := by simpa using q
        rw [if_neg Bool.false_ne_true]
        exact o _ S3 H3 (iBl false) M3 q' s3 rfl) (ox.step st1)) ox
theorem ep_chain {r' : L2.R2} {tc : TE} {R4 : Rep} {a b : Bool} (ha : Ep E ta Γ M R1) (hb : Ep E tb Γ M R2) (hr : O2p r R1 R2 M (iBl a)) (hc : a = true → Ep E tc Γ M R4) (hr' : a = true → O2p r' R2 R4 M (iBl b)) : Ep E (tChain r r' ta tb tc) Γ M (iBl (a && b)) := fun _ _ q =>
  ev_chain (ha _ _ (hb _ _ (hr _ ⟨a, rfl, by
    cases a with
    | true => simpa using hc rfl _ _ (hr' rfl _ q)
    | false => simpa using q⟩)))

/-! ### arguments -/
variable {tr : TA} {Rs : List Rep}
theorem ea_nil {ka : List Rep → SH → Prop} (q : ka [] M) : Ea E tNil Γ M ka X := fun σ S H Q I o _ => o [] S H [] M q (Stp.refl I.ex I.m) True.intro
theorem ea_cons {ka : List Rep → SH → Prop} (h : Ev E ta Γ M (fun R M1 => Ea E tr Γ M1 (fun Rs M2 => ka (R :: Rs) M2) X) X) : Ea E (tCons ta tr) Γ M ka X := fun σ S H Q I o ox =>
  h σ S H _ I (fun x S1 H1 R1 M1 h1 st1 p1 => h1 σ S1 H1 _ (I.step st1) (fun xs S2 H2 Rs M2 h2 st2 p2 => o (x :: xs) S2 H2 (R1 :: Rs) M2 h2 (st1.trans st2) ⟨R1.m st2.s p1, p2⟩) (ox.step st1)) ox
theorem eap_nil : Eap E tNil Γ M [] := fun _ _ q => ea_nil q
theorem eap_cons (h : Ep E ta Γ M R) (h2 : Eap E tr Γ M Rs) : Eap E (tCons ta tr) Γ M (R :: Rs) := fun _ _ q => ea_cons (h _ _ (h2 _ _ q))
/-! displays -/
theorem sz_le {n : Nat} (h : n ≤ 1000000) : n ≤ sizeLine := by rw [sizeLine_eq]; omega
theorem sz_lt {n : Nat} (h : n ≤ 1000000) : n < sizeLine := by rw [sizeLine_eq]; omega
theorem ev_lst (h : Ea E tr Γ M (fun Rs M1 => Rs.length ≤ 1000000 ∧ k (iLst Rs) M1) X) : Ev E (tLst tr) Γ M k X := fun σ S H Q I o ox =>
  h σ S H _ I (fun xs S1 H1 Rs M1 ⟨hl, q⟩ st p => ⟨sz_le (by rw [p.len]; exact hl), fun a ha => o (.ref a) (upd S1 a (.lst xs)) _ (iLst Rs) M1 q (st.trans (Stp.newS st.e st.m ha))
    ⟨a, xs, rfl, upd_same, p.mono (Same.newS (Same.refl _) (st.e.free ha))⟩⟩) ox
theorem ev_tup (h : Ea E tr Γ M (fun Rs M1 => Rs.length ≤ 1000000 ∧ k (aTup K Rs) M1) X) : Ev E (tTup tr) Γ M k X := fun σ S H Q I o ox =>
  h σ S H _ I (fun xs S1 H1 Rs M1 ⟨hl, q⟩ st p => ⟨sz_le (by rw [p.len]; exact hl), fun a ha => o (.ref a) (upd S1 a (.tup xs)) _ (aTup K Rs) M1 q (st.trans (Stp.newS st.e st.m ha))
    ⟨a, xs, rfl, SqT.of upd_same, p.mono (Same.newS (Same.refl _) (st.e.free ha))⟩⟩) ox
/-- a list that is to be changed -/
theorem ev_lstM (h : Ea E tr Γ M (fun Rs M1 => Rs.length ≤ 1000000 ∧ ∀ a, k (iRef a) (M1 ++ [(a, mLst Rs)])) X) : Ev E (tLst tr) Γ M k X := fun σ S H Q I o ox =>
  h σ S H _ I (fun xs S1 H1 Rs M1 ⟨hl, q⟩ st p => ⟨sz_le (by rw [p.len]; exact hl), fun a ha => o (.ref a) S1 _ (iRef a) _ (q a) (st.trans (Stp.newM st.e st.m ha ⟨xs, rfl, p⟩)) rfl⟩) ox

/-! ### subscripts -/
theorem atI_map {α β : Type} {f : α → β} {l : List α} {i : Int} {x : α} (h : atI l i = some x) : atI (l.map f) i = some (f x) := by
  obtain ⟨j, h1, h2, h3, h4, h5⟩ := atI_get h
  unfold atI at h ⊢
  rw [List.length_map]
  cases e : ixN l.length i with
  | none => rw [e] at h; cases h
  | some j' =>
    rw [e] at h
    have h' : l[j']? = some x := h
    show (l.map f)[j']? = some (f x)
    rw [List.getElem?_map, h']
    rfl
theorem All2.atI {S : Hp} {rs : List Rep} {vs : List V} (p : All2 S rs vs) {i : Int} {r : Rep} (h : L2.atI rs i = some r) : ∃ v, L2.atI vs i = some v ∧ r.p S v := by
  unfold L2.atI at h ⊢
  rw [p.len]
  cases e : ixN rs.length i with
  | none => rw [e] at h; cases h
  | some j =>
    rw [e] at h
    obtain ⟨v, h1, h2⟩ := p.get (i := j) h
    exact ⟨v, h1, h2⟩
theorem o_ixL {rs : List Rep} (h : atI rs i = some R) : O2p (rIxL K) (iLst rs) (iInt i) M R := o2_val fun x y S H e _ h1 h2 => by
  obtain ⟨a, xs, rfl, q1, q2⟩ := h1
  cases h2
  obtain ⟨v, h3, h4⟩ := q2.atI h
  exact ⟨v, h4, fun Q q => ⟨a, xs, i, v, rfl, rfl, SqL.of (e _ _ q1), h3, q⟩⟩
theorem o_ixT {rs : List Rep} (h : atI rs i = some R) : O2p (rIxT K) (aTup K rs) (iInt i) M R := o2_val fun x y S H e _ h1 h2 => by
  obtain ⟨a, xs, rfl, q1, q2⟩ := h1
  cases h2
  obtain ⟨v, h3, h4⟩ := q2.atI h
  exact ⟨v, h4, fun Q q => ⟨a, xs, i, v, rfl, rfl, Same.sqt e q1, h3, q⟩⟩
theorem o_ixS {z : Str} {c : Nat} (hz : z.length ≤ 1000000) (h : atI z.cps.toList i = some c) : O2p rIxS (aStr z) (iInt i) M (aStr ⟨#[c]⟩) := o2_val fun x y S H e _ h1 h2 => by
  cases h1; cases h2
  exact ⟨_, rfl, fun Q q => ⟨z, i, c, rfl, rfl, sz_le hz, h, q⟩⟩
theorem o_ixM {a : Addr} {rs : List Rep} (hm : (a, mLst rs) ∈ M) (h : atI rs i = some R) : O2p (rIxL K) (iRef a) (iInt i) M R := o2_val fun x y S H e m h1 h2 => by
  cases h1; cases h2
  obtain ⟨_, o, ho, xs, rfl, q2⟩ := m.at_ _ _ hm
  obtain ⟨v, h3, h4⟩ := q2.atI h
  exact ⟨v, h4, fun Q q => ⟨a, xs, i, v, rfl, rfl, SqL.of ho, h3, q⟩⟩
theorem o_or1 {r r' : L2.R2} (h : O2p r R1 R2 M R) : O2p (fun x y H Q => r x y H Q ∨ r' x y H Q) R1 R2 M R := fun k q x y S H Q e m h1 h2 o => .inl (h k q x y S H Q e m h1 h2 o)
theorem o_or2 {r r' : L2.R2} (h : O2p r' R1 R2 M R) : O2p (fun x y H Q => r x y H Q ∨ r' x y H Q) R1 R2 M R := fun k q x y S H Q e m h1 h2 o => .inr (h k q x y S H Q e m h1 h2 o)

/-! ### built-ins by name -/
theorem ev_cb {rl : List V → Hp → VK → Prop} (h : Ea E tr Γ M (fun Rs M1 => Ol rl Rs M1 k) X) : Ev E (tCB rl tr) Γ M k X := fun σ S H Q I o ox =>
  h σ S H _ I (fun xs S1 H1 Rs M1 h1 st p => h1 xs S1 H1 Q st.e st.m p (o.step st)) ox
theorem ep_cb {rl : List V → Hp → VK → Prop} (h : Eap E tr Γ M Rs) (hr : Olp rl Rs M R) : Ep E (tCB rl tr) Γ M R := fun _ _ q => ev_cb (h _ _ (hr _ q))
def rLn (K : PySem.W.Frag) : List V → Hp → VK → Prop := fun xs H Q => ∃ x n, xs = [x] ∧ LenV K x H n ∧ Q (.int n) H
theorem all2_1 {S : Hp} {R : Rep} {xs : List V} (h : All2 S [R] xs) : ∃ v, xs = [v] ∧ R.p S v := by
  match xs, h with
  | [v], h => exact ⟨v, rfl, h.1⟩
  | [], h => exact h.elim
  | _ :: _ :: _, h => exact h.2.elim
theorem all2_2 {S : Hp} {R R' : Rep} {xs : List V} (h : All2 S [R, R'] xs) : ∃ v w, xs = [v, w] ∧ R.p S v ∧ R'.p S w := by
  match xs, h with
  | [v, w], h => exact ⟨v, w, rfl, h.1, h.2.1⟩
  | [], h => exact h.elim
  | [_], h => exact h.2.elim
  | _ :: _ :: _ :: _, h => exact h.2.2.elim
theorem c_lenL {rs : List Rep} : Olp (rLn K) [iLst rs] M (iInt rs.length) := ol_val fun xs S H e _ h => by
  obtain ⟨v, rfl, a, ys, rfl, q1, q2⟩ := all2_1 h
  exact ⟨.int rs.length, rfl, fun Q q => ⟨_, rs.length, rfl, .inl ⟨ys, SqL.of (e _ _ q1), q2.len.symm⟩, q⟩⟩
theorem c_lenT {rs : List Rep} : Olp (rLn K) [aTup K rs] M (iInt rs.length) := ol_val fun xs S H e _ h => by
  obtain ⟨v, rfl, a, ys, rfl, q1, q2⟩ := all2_1 h
  exact ⟨.int rs.length, rfl, fun Q q => ⟨_, rs.length, rfl, .inr ⟨ys, Same.sqt e q1, q2.len.symm⟩, q⟩⟩
theorem c_lenS {z : Str} (hz : z.length ≤ 1000000) : Olp (rLn K) [aStr z] M (iInt z.length) := ol_val fun xs S H e _ h => by
  obtain ⟨v, rfl, h1⟩ := all2_1 h
  cases h1
  exact ⟨_, rfl, fun Q q => ⟨_, z.length, rfl, ⟨sz_le hz, rfl⟩, q⟩⟩
theorem c_max2 : Olp (fun xs H Q => ∃ i j, xs = [.int i, .int j] ∧ Q (.int (if j > i then j else i)) H) [iInt i, iInt j] M (iInt (max i j)) := ol_val fun xs S H e _ h => by
  obtain ⟨v, w, rfl, h1, h2⟩ := all2_2 h
  cases h1; cases h2
  refine ⟨_, rfl, fun Q q => ⟨i, j, rfl, ?_⟩⟩
  have : (if j > i then j else i) = max i j := by
    split <;> omega
  rw [this]
  exact q
end
end L3

namespace L3
open PySem L2

/-! ### statements -/
structure EndT where
  nx : Ct → SH → Prop
  rt : KR
  bk : Ct → SH → Prop := fun _ _ => False
  ct : Ct → SH → Prop := fun _ _ => False
  ex : KX := X0
abbrev KC := Ct → SH → Prop
def OutS (S H : Hp) (M : SH) (k : KC) (q : L2.St → Hp → Prop) : Prop := ∀ σ2 S2 H2 Γ2 M2, k Γ2 M2 → Stp S H S2 H2 M M2 → Nv S2 H2 σ2 Γ2 M2 → q σ2 H2
theorem OutS.step {S H S1 H1 : Hp} {M M1 : SH} {k : KC} {q : L2.St → Hp → Prop} (o : OutS S H M k q) (st : Stp S H S1 H1 M M1) : OutS S1 H1 M1 k q :=
  fun σ2 S2 H2 Γ2 M2 a st2 I => o σ2 S2 H2 Γ2 M2 a (st.trans st2) I
structure EndOk (S H : Hp) (M : SH) (D : EndT) (D0 : Ends) (E : XK) : Prop where
  nx : OutS S H M D.nx D0.nx
  rt : Out S H M D.rt D0.rt
  bk : OutS S H M D.bk D0.bk
  ct : OutS S H M D.ct D0.ct
  ex : OutX S H M D.ex E
theorem EndOk.step {S H S1 H1 : Hp} {M M1 : SH} {D : EndT} {D0 : Ends} {E : XK} (o : EndOk S H M D D0 E) (st : Stp S H S1 H1 M M1) : EndOk S1 H1 M1 D D0 E :=
  ⟨o.nx.step st, o.rt.step st, o.bk.step st, o.ct.step st, o.ex.step st⟩
def St (E : XK) (t : TS) (Γ : Ct) (M : SH) (D : EndT) : Prop := ∀ σ S H D0, Nv S H σ Γ M → EndOk S H M D D0 E → t D0 σ H

/-! ### targets -/
def Tg (g : TG) (R : Rep) (Γ : Ct) (M : SH) (vs : List Nat) (k : KC) : Prop := ∀ v σ S H Q, Nv S H σ Γ M → R.p S v → (∀ σ2 S2 H2 Γ2 M2, k Γ2 M2 → Stp S H S2 H2 M M2 → Nv S2 H2 σ2 Γ2 M2 → (vs ≠ [] → wipe σ2 vs = wipe σ vs) → Q σ2 H2) → g v σ H Q
def Tgs (g : TGs) (Rs : List Rep) (Γ : Ct) (M : SH) (vs : List Nat) (k : KC) : Prop := ∀ xs σ S H Q, Nv S H σ Γ M → All2 S Rs xs → (∀ σ2 S2 H2 Γ2 M2, k Γ2 M2 → Stp S H S2 H2 M M2 → Nv S2 H2 σ2 Γ2 M2 → (vs ≠ [] → wipe σ2 vs = wipe σ vs) → Q σ2 H2) → g xs σ H Q
theorem wipe_set {σ : L2.St} {j : Nat} {x : Option V} : ∀ {vs : List Nat}, j ∈ vs → wipe (σ.set j x) vs = wipe σ vs
  | [], h => by cases h
  | v :: vs, h => by
    unfold wipe
    by_cases hv : j = v
    · subst hv
      by_cases h2 : j ∈ vs
      · rw [wipe_set h2]
      · have aux : ∀ {vs : List Nat}, j ∉ vs → wipe (σ.set j x) vs = (wipe σ vs).set j x := by
          intro vs
          induction vs with
          | nil => intro _; rfl
          | cons w ws ih =>
            intro hn
            unfold wipe
            rw [ih fun z => hn (List.mem_cons_of_mem _ z), List.set_comm _ _ (fun z => hn (by rw [z]; exact List.mem_cons_self ..))]
        rw [aux h2, List.set_set]
    · rcases List.mem_cons.mp h with e | h
      · exact absurd e hv
      · rw [wipe_set h]
section
variable {E : XK} {K : PySem.W.Frag} {Γ : Ct} {M : SH} {k : KC} {X : KX} {R R1 R2 : Rep} {te ta tb : TE} {vs : List Nat} {D : EndT} {t u : TS} {c : TT}
theorem tg_name {j : Nat} (q : k (Γ.set j (some R)) M) (hj : vs = [] ∨ j ∈ vs := by first | exact .inl rfl | exact .inr (by decide)) : Tg (gName j) R Γ M vs k := fun v σ S H Q I p o =>
  o _ S H _ M q (Stp.refl I.ex I.m) (I.set j p) fun hv => wipe_set (hj.resolve_left hv)
theorem tgs_nil (q : k Γ M) : Tgs gNil [] Γ M vs k := fun xs σ S H Q I p o => by
  match xs, p with
  | [], _ => exact ⟨rfl, o σ S H Γ M q (Stp.refl I.ex I.m) I fun _ => rfl⟩
  | _ :: _, p => exact p.elim
theorem tgs_cons {g : TG} {gs : TGs} {Rs : List Rep} (h : Tg g R Γ M vs fun Γ1 M1 => Tgs gs Rs Γ1 M1 vs k) : Tgs (gCons g gs) (R :: Rs) Γ M vs k := fun xs σ S H Q I p o => by
  match xs, p with
  | [], p => exact p.elim
  | x :: xs, p =>
    refine ⟨x, xs, rfl, h x σ S H _ I p.1 fun σ1 S1 H1 Γ1 M1 q st I1 w1 => q xs σ1 S1 H1 Q I1 (All2.mono st.s p.2) fun σ2 S2 H2 Γ2 M2 q2 st2 I2 w2 => o σ2 S2 H2 Γ2 M2 q2 (st.trans st2) I2 fun z => (w2 z).trans (w1 z)⟩
theorem tg_tup {gs : TGs} {Rs : List Rep} {n : Nat} (hn : Rs.length = n) (h : Tgs gs Rs Γ M vs k) : Tg (gTup K n gs) (aTup K Rs) Γ M vs k := fun v σ S H Q I p o => by
  obtain ⟨a, xs, rfl, q1, q2⟩ := p
  exact ⟨a, xs, rfl, Same.sqt I.ex q1, by rw [q2.len]; exact hn, h xs σ S H Q I q2 o⟩

/-! ### simple statements -/
theorem st_seq (h : St E t Γ M { D with nx := fun Γ1 M1 => St E u Γ1 M1 D }) : St E (tSeq t u) Γ M D := fun σ S H D0 I o =>
  h σ S H { D0 with nx := u D0 } I ⟨fun σ2 S2 H2 Γ2 M2 q st I2 => q σ2 S2 H2 D0 I2 (o.step st), o.rt, o.bk, o.ct, o.ex⟩
theorem st_next (q : D.nx Γ M) : St E tNext Γ M D := fun σ S H D0 I o => o.nx σ S H Γ M q (Stp.refl I.ex I.m) I
theorem st_brk (q : D.bk Γ M) : St E tBreak Γ M D := fun σ S H D0 I o => o.bk σ S H Γ M q (Stp.refl I.ex I.m) I
theorem st_cont (q : D.ct Γ M) : St E tCont Γ M D := fun σ S H D0 I o => o.ct σ S H Γ M q (Stp.refl I.ex I.m) I
theorem st_asg {j : Nat} (h : Ev E te Γ M (fun R M1 => D.nx (Γ.set j (some R)) M1) D.ex) : St E (tAsg te (gName j)) Γ M D := fun σ S H D0 I o =>
  h σ S H _ I (fun v S2 H2 R M2 q st p => o.nx _ S2 H2 _ M2 q st ((I.step st).set j p)) o.ex
/-- any target -/
theorem st_asgT {g : TG} (h : Ev E te Γ M (fun R M1 => Tg g R Γ M1 vs D.nx) D.ex) : St E (tAsg te g) Γ M D := fun σ S H D0 I o =>
  h σ S H _ I (fun v S2 H2 R M2 q st p => q v σ S2 H2 _ (I.step st) p fun σ3 S3 H3 Γ3 M3 q3 st3 I3 _ => o.nx σ3 S3 H3 Γ3 M3 q3 (st.trans st3) I3) o.ex
theorem st_drop (h : Ev E te Γ M (fun _ M1 => D.nx Γ M1) D.ex) : St E (tDrop te) Γ M D := fun σ S H D0 I o =>
  h σ S H _ I (fun v S2 H2 R M2 q st p => o.nx σ S2 H2 Γ M2 q st (I.step st)) o.ex
theorem st_ret (h : Ev E te Γ M D.rt D.ex) : St E (tRet te) Γ M D := fun σ S H D0 I o => h σ S H _ I o.rt o.ex
theorem st_retN (h : D.rt iNon M) : St E tRetN Γ M D := fun σ S H D0 I o => o.rt .non S H iNon M h (Stp.refl I.ex I.m) rfl
theorem st_if (h : Et E c Γ M (fun b M1 => if b = true then St E t Γ M1 D else St E u Γ M1 D) D.ex) : St E (tIfS c t u) Γ M D := fun σ S H D0 I o =>
  h σ S H _ I (fun b S2 H2 M2 q st => by
    cases b with
    | true =>
      have q' : St E t Γ M2 D := by simpa using q
      exact q' σ S2 H2 D0 (I.step st) (o.step st)
    | false =>
      have q' : St E u Γ M2 D := by simpa using q
      exact q' σ S2 H2 D0 (I.step st) (o.step st)) o.ex
theorem st_ifp {b : Bool} (h : Etp E c Γ M b) (h1 : b = true → St E t Γ M D) (h2 : b = false → St E u Γ M D) : St E (tIfS c t u) Γ M D := st_if (h _ _ (by
  cases b with
  | true => simpa using h1 rfl
  | false => simpa using h2 rfl))
theorem st_par {i j : Nat} {ta : TA} (h : Ea E ta Γ M (fun Rs M1 => ∃ R1 R2, Rs = [R1, R2] ∧ D.nx ((Γ.set i (some R1)).set j (some R2)) M1) D.ex) : St E (tPar i j ta) Γ M D := fun σ S H D0 I o =>
  h σ S H _ I (fun xs S2 H2 Rs M2 ⟨R1, R2, e, q⟩ st p => by
    subst e
    obtain ⟨v, w, rfl, p1, p2⟩ := all2_2 p
    exact ⟨v, w, rfl, o.nx _ S2 H2 _ M2 q st (((I.step st).set i p1).set j p2)⟩) o.ex
/-- a word between a statement and the rest -/
theorem st_mono {D' : EndT} (h : St E t Γ M D') (h1 : ∀ Γ M, D'.nx Γ M → D.nx Γ M) (h2 : ∀ R M, D'.rt R M → D.rt R M) (h3 : ∀ Γ M, D'.bk Γ M → D.bk Γ M) (h4 : ∀ Γ M, D'.ct Γ M → D.ct Γ M) (h5 : ∀ x M, D'.ex x M → D.ex x M) : St E t Γ M D := fun σ S H D0 I o =>
  h σ S H D0 I ⟨fun a b c d e q => o.nx a b c d e (h1 _ _ q), fun a b c d e q => o.rt a b c d e (h2 _ _ q), fun a b c d e q => o.bk a b c d e (h3 _ _ q), fun a b c d e q => o.ct a b c d e (h4 _ _ q), fun a b c d e f q => o.ex a b c d e f (h5 _ _ q)⟩
theorem st_cut (J : KC) (h : St E t Γ M { D with nx := J }) (h2 : ∀ Γ1 M1, J Γ1 M1 → St E u Γ1 M1 D) : St E (tSeq t u) Γ M D :=
  st_seq (st_mono h (fun Γ1 M1 q => h2 Γ1 M1 q) (fun _ _ q => q) (fun _ _ q => q) (fun _ _ q => q) (fun _ _ q => q))
/-- what is known of slots may be forgotten -/
theorem st_ctx {Γ' : Ct} (h : St E t Γ M D) (hl : Γ'.length = Γ.length) (hw : ∀ (i : Nat) (R : Rep), Γ[i]? = some (some R) → Γ'[i]? = some (some R)) : St E t Γ' M D := fun σ S H D0 I o =>
  h σ S H D0 (I.weak hl.symm hw) o

/-! ### what is walked -/
def TW (J : It) (n : Nat) (S1 : Hp) (rs : Nat → Rep → Prop) : Prop := ∃ G Y, Walk J n G Y ∧ (∀ Sx H, Same S1 Sx → Same Sx H → G H) ∧
  ∀ i H x H', i < n → Y i H x H' → ∀ Sx Mx, Same S1 Sx → Same Sx H → MOk Sx H Mx → ∃ S' r, Stp Sx H S' H' Mx Mx ∧ rs i r ∧ r.p S' x
def Ti (E : XK) (wi : TI) (Γ : Ct) (M : SH) (k : Nat → (Nat → Rep → Prop) → SH → Prop) (X : KX) : Prop := ∀ σ S H R, Nv S H σ Γ M → (∀ J S1 H1 n rs M1, k n rs M1 → Stp S H S1 H1 M M1 → TW J n S1 rs → R J H1) → OutX S H M X E → wi σ H R
def Tip (E : XK) (wi : TI) (Γ : Ct) (M : SH) (n : Nat) (rs : Nat → Rep → Prop) : Prop := ∀ (k : Nat → (Nat → Rep → Prop) → SH → Prop) (X : KX), k n rs M → Ti E wi Γ M k X
theorem tw_list {S1 : Hp} {a : Addr} {xs : List V} {rl : List Rep} (h : S1 a = some (.lst xs)) (p : All2 S1 rl xs) : TW (Itl K a) rl.length S1 (fun i r => rl[i]? = some r) := by
  refine ⟨_, _, by have w := walk_list (K := K) (a := a) (xs := xs); rw [p.len] at w; exact w, fun Sx H e1 e2 => SqL.of ((e1.trans e2) _ _ h), fun i H x H' hi y Sx Mx e1 e2 m => ?_⟩
  obtain ⟨rfl, hx⟩ := y
  obtain ⟨r, h1, h2⟩ := p.getV hx
  exact ⟨Sx, r, Stp.refl e2 m, h1, r.m e1 h2⟩
theorem tw_tup {S1 : Hp} {a : Addr} {xs : List V} {rl : List Rep} (h : SqT K S1 a xs) (p : All2 S1 rl xs) : TW (Itt K a) rl.length S1 (fun i r => rl[i]? = some r) := by
  refine ⟨_, _, by have w := walk_tup (K := K) (a := a) (xs := xs); rw [p.len] at w; exact w, fun Sx H e1 e2 => Same.sqt (e1.trans e2) h, fun i H x H' hi y Sx Mx e1 e2 m => ?_⟩
  obtain ⟨rfl, hx⟩ := y
  obtain ⟨r, h1, h2⟩ := p.getV hx
  exact ⟨Sx, r, Stp.refl e2 m, h1, r.m e1 h2⟩
theorem tw_range {S1 : Hp} {lo : Int} {n : Nat} : TW (Itr lo n) n S1 (fun i r => r = iInt (lo + (i : Nat))) :=
  ⟨_, _, walk_range, fun _ _ _ _ => True.intro, fun i H x H' hi y Sx Mx e1 e2 m => by
    obtain ⟨rfl, rfl⟩ := y
    exact ⟨Sx, _, Stp.refl e2 m, rfl, rfl⟩⟩
theorem tw_str {S1 : Hp} {z : Str} : TW (Its z) z.cps.size S1 (fun i r => ∃ c, z.cps[i]? = some c ∧ r = aStr ⟨#[c]⟩) :=
  ⟨_, _, walk_str, fun _ _ _ _ => True.intro, fun i H x H' hi y Sx Mx e1 e2 m => by
    obtain ⟨rfl, c, h1, rfl⟩ := y
    exact ⟨Sx, _, Stp.refl e2 m, ⟨c, h1, rfl⟩, rfl⟩⟩
theorem tw_pair {J : It} {n : Nat} {S1 : Hp} {G : Hp → Prop} {f g : Nat → Option V} {rs qs : Nat → Rep → Prop} (w : Walk J n G (YPair f g)) (hG : ∀ Sx H, Same S1 Sx → Same Sx H → G H)
    (hf : ∀ i x, i < n → f i = some x → ∃ r, rs i r ∧ r.p S1 x) (hg : ∀ i x, i < n → g i = some x → ∃ r, qs i r ∧ r.p S1 x) : TW J n S1 (fun i r => ∃ r1 r2, rs i r1 ∧ qs i r2 ∧ r = aTup K [r1, r2]) :=
  ⟨G, _, w, hG, fun i H x H' hi y Sx Mx e1 e2 m => by
    obtain ⟨T, u, v, rfl, hT, rfl, h1, h2⟩ := y
    obtain ⟨r1, a1, b1⟩ := hf i u hi h1
    obtain ⟨r2, a2, b2⟩ := hg i v hi h2
    have e3 : Same S1 (upd Sx T (.tup [u, v])) := e1.trans (Same.newS (Same.refl _) (e2.free hT))
    exact ⟨upd Sx T (.tup [u, v]), _, Stp.newS e2 m hT, ⟨r1, r2, a1, a2, rfl⟩, T, [u, v], rfl, SqT.of upd_same, r1.m e3 b1, r2.m e3 b2, True.intro⟩⟩
theorem ti_list {tl : TE} {ki : Nat → (Nat → Rep → Prop) → SH → Prop} (h : Ev E tl Γ M (fun R M1 => ∃ rl, R = iLst rl ∧ ki rl.length (fun i r => rl[i]? = some r) M1) X) : Ti E (iList K tl) Γ M ki X := fun σ S H R I o ox =>
  h σ S H _ I (fun v S2 H2 R' M2 ⟨rl, e, q⟩ st p => by
    subst e
    obtain ⟨a, xs, rfl, p1, p2⟩ := p
    exact ⟨a, rfl, ⟨xs, SqL.of (st.e _ _ p1)⟩, o _ S2 H2 _ _ M2 q st (tw_list p1 p2)⟩) ox
theorem ti_tup {tl : TE} {ki : Nat → (Nat → Rep → Prop) → SH → Prop} (h : Ev E tl Γ M (fun R M1 => ∃ rl, R = aTup K rl ∧ ki rl.length (fun i r => rl[i]? = some r) M1) X) : Ti E (L2.iTup K tl) Γ M ki X := fun σ S H R I o ox =>
  h σ S H _ I (fun v S2 H2 R' M2 ⟨rl, e, q⟩ st p => by
    subst e
    obtain ⟨a, xs, rfl, p1, p2⟩ := p
    exact ⟨a, rfl, ⟨xs, Same.sqt st.e p1⟩, o _ S2 H2 _ _ M2 q st (tw_tup p1 p2)⟩) ox
end
end L3

namespace L3
open PySem L2 RZ PyProof.Rows
section
variable {E : XK} {K : PySem.W.Frag} {Γ : Ct} {M : SH} {k : KR} {X : KX} {R R1 R2 : Rep} {te ta tb tl : TE} {vs : List Nat} {D : EndT} {t u : TS} {c tt : TT} {tr : TA} {wi : TI} {n : Nat} {rs : Nat → Rep → Prop}
theorem tip_list {rl : List Rep} (h : Ep E tl Γ M (iLst rl)) : Tip E (iList K tl) Γ M rl.length (fun i r => rl[i]? = some r) := fun _ _ q => ti_list (h _ _ ⟨rl, rfl, q⟩)
theorem tip_tup {rl : List Rep} (h : Ep E tl Γ M (aTup K rl)) : Tip E (L2.iTup K tl) Γ M rl.length (fun i r => rl[i]? = some r) := fun _ _ q => ti_tup (h _ _ ⟨rl, rfl, q⟩)
theorem ti_rng1 {ki : Nat → (Nat → Rep → Prop) → SH → Prop} (h : Ea E tr Γ M (fun Rs M1 => ∃ m : Nat, Rs = [iInt m] ∧ m ≤ 1000000 ∧ ki m (fun i r => r = iInt (i : Nat)) M1) X) : Ti E (iRng1 tr) Γ M ki X := fun σ S H R I o ox =>
  h σ S H _ I (fun xs S2 H2 Rs M2 ⟨m, e, hm, q⟩ st p => by
    subst e
    obtain ⟨v, rfl, p1⟩ := all2_1 p
    cases p1
    refine ⟨(m : Int), rfl, by omega, by omega, o _ S2 H2 m _ M2 q st ?_⟩
    have w := tw_range (S1 := S2) (lo := 0) (n := m)
    simp only [Int.zero_add] at w
    exact w) ox
theorem tip_rng1 {m : Nat} (h : Ep E ta Γ M (iInt m)) (hm : m ≤ 1000000) : Tip E (iRng1 (tCons ta tNil)) Γ M m (fun i r => r = iInt (i : Nat)) := fun _ _ q => ti_rng1 (eap_cons h eap_nil _ _ ⟨m, rfl, hm, q⟩)
theorem ti_rng2 {ki : Nat → (Nat → Rep → Prop) → SH → Prop} (h : Ea E tr Γ M (fun Rs M1 => ∃ lo hi : Int, Rs = [iInt lo, iInt hi] ∧ -1000000 ≤ lo ∧ lo ≤ 1000000 ∧ -1000000 ≤ hi ∧ hi ≤ 1000000 ∧ ki (hi - lo).toNat (fun i r => r = iInt (lo + (i : Nat))) M1) X) : Ti E (iRng2 tr) Γ M ki X := fun σ S H R I o ox =>
  h σ S H _ I (fun xs S2 H2 Rs M2 ⟨lo, hi, e, h1, h2, h3, h4, q⟩ st p => by
    subst e
    obtain ⟨v, w, rfl, p1, p2⟩ := all2_2 p
    cases p1; cases p2
    exact ⟨lo, hi, rfl, ⟨by omega, by omega, by omega, by omega⟩, o _ S2 H2 _ _ M2 q st tw_range⟩) ox
theorem tip_str {z : Str} (h : Ep E te Γ M (aStr z)) : Tip E (L2.iStr te) Γ M z.cps.size (fun i r => ∃ c, z.cps[i]? = some c ∧ r = aStr ⟨#[c]⟩) := fun ki X q σ S H R I o ox =>
  h (fun R' M' => R' = aStr z ∧ M' = M) X ⟨rfl, rfl⟩ σ S H _ I (fun v S2 H2 R' M2 ⟨e1, e2⟩ st p => by
    subst e1; subst e2; cases p
    exact ⟨z, rfl, o _ S2 H2 _ _ _ q st tw_str⟩) ox
theorem tip_zipL {r1 r2 : List Rep} (h : Ep E ta Γ M (iLst r1)) (h' : Ep E tb Γ M (iLst r2)) (hn : n = min r1.length r2.length) : Tip E (iZipA K (tCons ta (tCons tb tNil))) Γ M n (fun i r => ∃ q1 q2, r1[i]? = some q1 ∧ r2[i]? = some q2 ∧ r = aTup K [q1, q2]) := fun ki X q σ S H R I o ox =>
  eap_cons h (eap_cons h' eap_nil) (fun Rs M' => Rs = [iLst r1, iLst r2] ∧ M' = M) X ⟨rfl, rfl⟩ σ S H _ I (fun xs S2 H2 Rs M2 ⟨e1, e2⟩ st p => by
    subst e1; subst e2
    obtain ⟨v, w, rfl, ⟨a, ys, rfl, p1, p2⟩, b, zs, rfl, p3, p4⟩ := all2_2 p
    refine ⟨a, b, ys, zs, rfl, .inl ⟨SqL.of (st.e _ _ p1), SqL.of (st.e _ _ p3), o _ S2 H2 _ _ _ q st ?_⟩⟩
    exact tw_pair (walk_zip (by rw [p2.len, p4.len]; exact hn)) (fun Sx H e1 e2 => ⟨SqL.of ((e1.trans e2) _ _ p1), SqL.of ((e1.trans e2) _ _ p3)⟩) (fun i x hi hx => p2.getV hx) (fun i x hi hx => p4.getV hx)) ox

/-! ### loops -/
theorem st_for {g : TG} (h : Ti E wi Γ M (fun n rs M1 => ∃ J : Nat → KC, J 0 Γ M1 ∧ (∀ i r Γ1 M1, i < n → rs i r → J i Γ1 M1 → Tg g r Γ1 M1 [] fun Γ2 M2 => St E t Γ2 M2 { D with nx := J (i + 1), ct := J (i + 1), bk := D.nx }) ∧ ∀ Γ1 M1, J n Γ1 M1 → D.nx Γ1 M1) D.ex) : St E (tFor wi g t) Γ M D := fun σ S H D0 I o =>
  h σ S H _ I (fun J S1 H1 n rs M1 ⟨V, v0, vs, vd⟩ st w => by
    obtain ⟨G, Y, wk, hG, hY⟩ := w
    refine for_it wk (fun i σ' H' => ∃ Sx Γx Mx, Nv Sx H' σ' Γx Mx ∧ Stp S1 H1 Sx H' M1 Mx ∧ V i Γx Mx) ⟨S1, Γ, M1, I.step st, Stp.refl st.e st.m, v0⟩ (fun i σ' H' _ ⟨Sx, Γx, Mx, Ix, sx, _⟩ => hG Sx H' sx.s Ix.ex) ?_ ?_
    · rintro i x σ' H' H'' hi ⟨Sx, Γx, Mx, Ix, sx, vx⟩ y
      obtain ⟨S', r, s', hr, pr⟩ := hY i H' x H'' hi y Sx Mx sx.s Ix.ex Ix.m
      refine vs i r Γx Mx hi hr vx x σ' S' H'' _ (Ix.step s') pr fun σ2 S2 H2 Γ2 M2 q st2 I2 _ => ?_
      have s2 := (sx.trans s').trans st2
      exact q σ2 S2 H2 _ I2 ⟨fun σ3 S3 H3 Γ3 M3 q3 st3 I3 => ⟨S3, Γ3, M3, I3, s2.trans st3, q3⟩, (o.step (st.trans s2)).rt, (o.step (st.trans s2)).nx, fun σ3 S3 H3 Γ3 M3 q3 st3 I3 => ⟨S3, Γ3, M3, I3, s2.trans st3, q3⟩, (o.step (st.trans s2)).ex⟩
    · rintro σ' H' ⟨Sx, Γx, Mx, Ix, sx, vx⟩
      exact o.nx σ' Sx H' Γx Mx (vd Γx Mx vx) (st.trans sx) Ix) o.ex

/-! ### comprehensions -/
def wipeC (Γ : Ct) : List Nat → Ct
  | [] => Γ
  | v :: vs => (wipeC Γ vs).set v none
theorem Nv.un {S H : Hp} {σ : L2.St} (I : Nv S H σ Γ M) (j : Nat) : Nv S H (σ.set j none) (Γ.set j none) M := by
  refine ⟨I.ex, by simp [I.len], fun i Q e => ?_, I.m⟩
  by_cases hj : j = i
  · subst hj
    have hl : j < Γ.length := by
      have := (List.getElem?_eq_some_iff.mp e).1
      simpa using this
    rw [List.getElem?_set_self hl] at e
    cases e
  · rw [List.getElem?_set_ne hj] at e ⊢
    exact I.sl i Q e
theorem Nv.wipe {S H : Hp} {σ : L2.St} (I : Nv S H σ Γ M) : ∀ vs : List Nat, Nv S H (L2.wipe σ vs) (wipeC Γ vs) M
  | [] => I
  | v :: vs => (Nv.wipe I vs).un v
/-- what is made so far stands at D, mutable -/
theorem ev_lc {g : TG} (hv : vs ≠ []) (h : Ti E wi Γ M (fun n rs M1 => n ≤ 1000000 ∧ ∃ J : Nat → List Rep → SH → Prop, J 0 [] M1 ∧ (∀ i r acc M2, i < n → rs i r → acc.length ≤ i → J i acc M2 →
      Tg g r (wipeC Γ vs) M2 vs fun Γ3 M3 => Et E tt Γ3 M3 (fun b M4 => if b = true then Ev E te Γ3 M4 (fun R M5 => J (i + 1) (acc ++ [R]) M5) X0 else J (i + 1) acc M4) X0) ∧ ∀ acc M2, acc.length ≤ n → J n acc M2 → k (iLst acc) M2) X) : Ev E (tLc wi g tt te vs) Γ M k X := fun σ S H Q I o ox =>
  h σ S H _ I (fun Jt S1 H1 n rs M1 ⟨hn, V, v0, vs', vd⟩ st w Dl hD => by
    obtain ⟨G, Y, wk, hG, hY⟩ := w
    have s0 := st.trans (Stp.newM (o := .lst []) (P := mLst []) st.e st.m hD ⟨[], rfl, True.intro⟩)
    refine lc_it wk (fun i H' => ∃ Sx Mx acc, Same Sx H' ∧ Stp S H Sx H' M (Mx ++ [(Dl, mLst acc)]) ∧ Same S1 Sx ∧ acc.length ≤ i ∧ V i acc Mx) ⟨S1, M1, [], s0.e, s0, Same.refl _, Nat.zero_le _, v0⟩ (fun i H' _ ⟨Sx, Mx, acc, ex, _, s1, _⟩ => hG Sx H' s1 ex) ?_ ?_
    · rintro i x H' H'' hi ⟨Sx, Mx, acc, ex, sx, s1, la, vx⟩ y
      obtain ⟨S', r, s', hr, pr⟩ := hY i H' x H'' hi y Sx (Mx ++ [(Dl, mLst acc)]) s1 ex sx.m
      have I' : Nv S' H'' (L2.wipe σ vs) (wipeC Γ vs) Mx := by
        have := (I.step (sx.trans s')).wipe vs
        exact ⟨this.ex, this.len, this.sl, this.m.left⟩
      have m' : MOk S' H'' (Mx ++ [(Dl, mLst acc)]) := s'.m
      refine vs' i r acc Mx hi hr la vx x (L2.wipe σ vs) S' H'' _ I' pr fun σ2 S2 H2 Γ2 M2 q st2 I2 w2 => ⟨?_, ?_⟩
      · rw [w2 hv]
        have aux : ∀ us : List Nat, (∀ u ∈ us, u ∈ vs) → L2.wipe (L2.wipe σ vs) us = L2.wipe σ vs := by
          have un : ∀ u ∈ vs, (L2.wipe σ vs).set u none = L2.wipe σ vs := by
            intro u hu
            have gen : ∀ ws : List Nat, u ∈ ws → (L2.wipe σ ws).set u none = L2.wipe σ ws := by
              intro ws
              induction ws with
              | nil => intro z; cases z
              | cons w ws ih =>
                intro z
                show ((L2.wipe σ ws).set w none).set u none = (L2.wipe σ ws).set w none
                by_cases e : w = u
                · subst e; rw [List.set_set]
                · rcases List.mem_cons.mp z with z | z
                  · exact absurd z.symm e
                  · rw [List.set_comm _ _ e, ih z]
            exact gen vs hu
          intro us
          induction us with
          | nil => intro _; rfl
          | cons u us ih =>
            intro hu
            show (L2.wipe (L2.wipe σ vs) us).set u none = L2.wipe σ vs
            rw [ih fun z hz => hu z (List.mem_cons_of_mem _ hz)]
            exact un u (hu u (List.mem_cons_self ..))
        exact aux vs fun _ h => h
      · have sf2 := st2.frame m'
        refine q σ2 S2 H2 _ I2 (fun b S3 H3 M3 q3 st3 => ?_) (fun _ _ _ _ _ _ z => z.elim)
        have sf3 := st3.frame sf2.m
        cases b with
        | true =>
          rw [if_pos rfl] at q3
          rw [if_pos rfl]
          refine q3 σ2 S3 H3 _ (I2.step st3) (fun z S4 H4 R4 M4 q4 st4 p4 => ?_) (fun _ _ _ _ _ _ z => z.elim)
          have sf4 := st4.frame sf3.m
          have tot := (((sx.trans s').trans sf2).trans sf3).trans sf4
          obtain ⟨_, ob, ho, xs, rfl, pa⟩ := tot.m.at_ Dl (mLst acc) (List.mem_append_right _ (List.mem_singleton.mpr rfl))
          have wr := Stp.wrM (A := M4) (B := []) (a := Dl) (P := mLst acc) (P' := mLst (acc ++ [R4])) (o := .lst (xs ++ [z])) tot.e tot.m ⟨_, rfl, pa.app (All2.one p4)⟩
          refine ⟨xs, ho, by rw [pa.len]; exact sz_lt (by omega), S4, M4, acc ++ [R4], wr.e, tot.trans wr, ?_, by simp; omega, q4⟩
          exact s1.trans (s'.s.trans (sf2.s.trans (sf3.s.trans sf4.s)))
        | false =>
          rw [if_neg Bool.false_ne_true] at q3
          rw [if_neg Bool.false_ne_true]
          exact ⟨S3, M3, acc, sf3.e, ((sx.trans s').trans sf2).trans sf3, s1.trans (s'.s.trans (sf2.s.trans sf3.s)), by omega, q3⟩
    · rintro H' ⟨Sx, Mx, acc, ex, sx, s1, la, vx⟩
      obtain ⟨_, ob, ho, xs, rfl, pa⟩ := sx.m.at_ Dl (mLst acc) (List.mem_append_right _ (List.mem_singleton.mpr rfl))
      have fz := Stp.fz (A := Mx) (B := []) ex sx.m ho
      have fin := sx.trans fz
      rw [List.append_nil] at fin
      exact o (.ref Dl) _ H' (iLst acc) Mx (vd acc Mx la vx) fin ⟨Dl, xs, rfl, upd_same, pa.mono fz.s⟩) ox
theorem et_yes {kb : Bool → SH → Prop} (q : kb true M) : Et E tYes Γ M kb X := fun σ S H Q I o _ => o true S H M q (Stp.refl I.ex I.m)
theorem etp_yes : Etp E tYes Γ M true := fun _ _ q => et_yes q
/-- the turns below n with f, told by v -/
def given {α : Type} (n : Nat) (f : Nat → Bool) (v : Nat → α) : List α := ((List.range n).filter f).map v
theorem given_yes {α : Type} {n : Nat} {f : Nat → Bool} {v : Nat → α} (h : f n = true) : given (n + 1) f v = given n f v ++ [v n] := by
  unfold given
  rw [List.range_succ, List.filter_append, List.map_append, List.filter_cons, if_pos h]
  rfl
theorem given_no {α : Type} {n : Nat} {f : Nat → Bool} {v : Nat → α} (h : f n = false) : given (n + 1) f v = given n f v := by
  unfold given
  rw [List.range_succ, List.filter_append, List.map_append, List.filter_cons, if_neg (by rw [h]; decide)]
  simp
theorem given_list {α β : Type} (l : List α) (f : α → Bool) (v : α → β) (d : α) : given l.length (fun i => f (l.getD i d)) (fun i => v (l.getD i d)) = (l.filter f).map v := by
  have gen : ∀ m, m ≤ l.length → given m (fun i => f (l.getD i d)) (fun i => v (l.getD i d)) = ((l.take m).filter f).map v := by
    intro m
    induction m with
    | zero => intro _; rfl
    | succ m ih =>
      intro hm
      have ih' := ih (by omega)
      have hlt : m < l.length := by omega
      have e1 : l.getD m d = l[m] := by simp [hlt]
      have e2 : l.take (m + 1) = l.take m ++ [l[m]] := by rw [List.take_succ]; simp [hlt]
      cases hf : f l[m] with
      | true => rw [given_yes (by rw [e1]; exact hf), ih', e2, List.filter_append, List.map_append, e1]; simp [hf]
      | false => rw [given_no (by rw [e1]; exact hf), ih', e2, List.filter_append, List.map_append]; simp [hf]
  rw [gen l.length (Nat.le_refl _), List.take_length]
theorem ep_lc {g : TG} (hv : vs ≠ []) (hi : Tip E wi Γ M n rs) (hn : n ≤ 1000000) (f : Nat → Bool) (v : Nat → Rep)
    (h : ∀ i r, i < n → rs i r → Tg g r (wipeC Γ vs) M vs fun Γ3 M3 => M3 = M ∧ Etp E tt Γ3 M (f i) ∧ (f i = true → Ep E te Γ3 M (v i))) : Ep E (tLc wi g tt te vs) Γ M (iLst (given n f v)) := fun k X q =>
  ev_lc hv (hi _ _ ⟨hn, fun i acc M2 => given i f v = acc ∧ M = M2, ⟨rfl, rfl⟩, fun i r acc M2 hlt hr _ ⟨e1, e2⟩ => by
    subst e1; subst e2
    refine fun x σ S H Q I p o => h i r hlt hr x σ S H Q I p fun σ2 S2 H2 Γ2 M3 ⟨e3, h1, h2⟩ st I2 w2 => ?_
    subst e3
    refine o σ2 S2 H2 Γ2 _ (h1 _ _ ?_) st I2 w2
    cases hf : f i with
    | true => simpa using h2 hf _ _ ⟨given_yes hf, rfl⟩
    | false => simpa using given_no (v := v) hf, fun acc M2 _ ⟨e1, e2⟩ => by
    subst e1; subst e2
    exact q⟩)
/-- over a list of data, the target one name -/
theorem ep_lcL {α β : Type} {l : List α} {e : α → Rep} {j : Nat} {p : α → Bool} {q : α → β} {e' : β → Rep} (hi : Ep E tl Γ M (iLst (l.map e))) (hn : l.length ≤ 1000000) (hj : j ∈ vs)
    (ht : ∀ x ∈ l, Etp E tt ((wipeC Γ vs).set j (some (e x))) M (p x)) (he : ∀ x ∈ l, p x = true → Ep E te ((wipeC Γ vs).set j (some (e x))) M (e' (q x))) : Ep E (tLc (iList K tl) (gName j) tt te vs) Γ M (iLst (((l.filter p).map q).map e')) := by
  cases l with
  | nil =>
    refine Ep.to (R := iLst (given (([] : List α).map e).length (fun _ => true) (fun _ => iNon))) (ep_lc (fun z => by rw [z] at hj; cases hj) (tip_list hi) (by simp) (fun _ => true) (fun _ => iNon) (fun i r hi _ => by simp at hi)) ?_
    rfl
  | cons d l' =>
    refine Ep.to (R := iLst (given ((d :: l').map e).length (fun i => p ((d :: l').getD i d)) (fun i => e' (q ((d :: l').getD i d))))) (ep_lc (fun z => by rw [z] at hj; cases hj) (tip_list hi) (by simpa using hn) (fun i => p ((d :: l').getD i d)) (fun i => e' (q ((d :: l').getD i d))) (fun i r hi hr => ?_)) ?_
    · rw [List.getElem?_map] at hr
      have hi' : i < (d :: l').length := by simpa using hi
      rw [List.getElem?_eq_getElem hi'] at hr
      have hx : (d :: l').getD i d = (d :: l')[i] := by rw [List.getD_eq_getElem?_getD, List.getElem?_eq_getElem hi']; rfl
      have hm : (d :: l')[i] ∈ (d :: l') := List.getElem_mem hi'
      cases hr
      rw [hx]
      exact tg_name ⟨rfl, ht _ hm, fun z => he _ hm z⟩ (.inr hj)
    · congr 1
      have := given_list (d :: l') p (fun x => e' (q x)) d
      rw [List.length_map, this, List.map_map]
      rfl
/-- .. over a tuple -/
theorem ep_lcT {α β : Type} {l : List α} {e : α → Rep} {j : Nat} {p : α → Bool} {q : α → β} {e' : β → Rep} (hi : Ep E tl Γ M (aTup K (l.map e))) (hn : l.length ≤ 1000000) (hj : j ∈ vs)
    (ht : ∀ x ∈ l, Etp E tt ((wipeC Γ vs).set j (some (e x))) M (p x)) (he : ∀ x ∈ l, p x = true → Ep E te ((wipeC Γ vs).set j (some (e x))) M (e' (q x))) : Ep E (tLc (L2.iTup K tl) (gName j) tt te vs) Γ M (iLst (((l.filter p).map q).map e')) := by
  cases l with
  | nil =>
    refine Ep.to (R := iLst (given (([] : List α).map e).length (fun _ => true) (fun _ => iNon))) (ep_lc (fun z => by rw [z] at hj; cases hj) (tip_tup hi) (by simp) (fun _ => true) (fun _ => iNon) (fun i r hi _ => by simp at hi)) ?_
    rfl
  | cons d l' =>
    refine Ep.to (R := iLst (given ((d :: l').map e).length (fun i => p ((d :: l').getD i d)) (fun i => e' (q ((d :: l').getD i d))))) (ep_lc (fun z => by rw [z] at hj; cases hj) (tip_tup hi) (by simpa using hn) (fun i => p ((d :: l').getD i d)) (fun i => e' (q ((d :: l').getD i d))) (fun i r hi hr => ?_)) ?_
    · rw [List.getElem?_map] at hr
      have hi' : i < (d :: l').length := by simpa using hi
      rw [List.getElem?_eq_getElem hi'] at hr
      have hx : (d :: l').getD i d = (d :: l')[i] := by rw [List.getD_eq_getElem?_getD, List.getElem?_eq_getElem hi']; rfl
      have hm : (d :: l')[i] ∈ (d :: l') := List.getElem_mem hi'
      cases hr
      rw [hx]
      exact tg_name ⟨rfl, ht _ hm, fun z => he _ hm z⟩ (.inr hj)
    · congr 1
      have := given_list (d :: l') p (fun x => e' (q x)) d
      rw [List.length_map, this, List.map_map]
      rfl

/-! ### promises, typed -/
abbrev TSp := List Rep → SH → KR → KX → Prop
def spT (ts : TSp) : Sp := fun vs H Q E => ∃ S Rs M k X, ts Rs M k X ∧ Same S H ∧ MOk S H M ∧ All2 S Rs vs ∧ Out S H M k Q ∧ OutX S H M X E
theorem spT_in {ts : TSp} {S H : Hp} {vs : List V} {Rs : List Rep} {Mf Fr : SH} {E' : XK} {Q : VK} (h : ts Rs Mf (fun R M2 => k R (M2 ++ Fr)) (fun x M2 => X x (M2 ++ Fr))) (e : Same S H) (m : MOk S H (Mf ++ Fr)) (p : All2 S Rs vs) (o : Out S H (Mf ++ Fr) k Q) (ox : OutX S H (Mf ++ Fr) X E') : spT ts vs H Q E' :=
  ⟨S, Rs, Mf, _, _, h, e, m.left, p, fun v S2 H2 R M2 q st pr => o v S2 H2 R _ q (st.frame m) pr, fun c d S2 H2 x M2 q st px => ox c d S2 H2 x _ q (st.frame m) px⟩
/-- .. that raises nothing here -/
theorem ev_call0 {ts : TSp} {dvs : List V} {Ds : List Rep} (hd : ∀ S, All2 S Ds dvs) (h : Ea E tr Γ M (fun Rs M1 => ∃ Mf Fr, M1 = Mf ++ Fr ∧ ts (Rs ++ Ds) Mf (fun R M2 => k R (M2 ++ Fr)) X0) X) : Ev E (tCall (spT ts) dvs E0 tr) Γ M k X := fun σ S H Q I o ox =>
  h σ S H _ I (fun xs S1 H1 Rs M1 ⟨Mf, Fr, e, q⟩ st p => by
    subst e
    exact spT_in (X := X0) q st.e st.m (p.app (hd S1)) (o.step st) (fun _ _ _ _ _ _ z => z.elim)) ox
/-- a def that only reckons: no mutable object, nothing raised -/
def pureTs {α : Type} (args : α → List Rep) (pre : α → Prop) (res : α → Rep) : TSp := fun Rs M k _ => ∃ x, Rs = args x ∧ pre x ∧ M = [] ∧ k (res x) []
section
variable {P : Program} {w : World} {mg : Str → Option Value} {base : Heap}
def startC (N : List Str) (Rs : List Rep) : Ct := Rs.map some ++ List.replicate (N.length - Rs.length) none
theorem nv_start {S H : Hp} {N : List Str} {Rs : List Rep} {vs : List V} (e : Same S H) (m : MOk S H M) (p : All2 S Rs vs) : Nv S H (L2.start N vs) (startC N Rs) M := by
  refine ⟨e, by simp [L2.start, startC, p.len], fun i R h => ?_, m⟩
  unfold startC at h
  unfold L2.start
  have hl := p.len
  by_cases hi : i < Rs.length
  · rw [List.getElem?_append_left (by simpa using hi), List.getElem?_map] at h
    rw [List.getElem?_append_left (by simpa [hl] using hi), List.getElem?_map]
    cases q : Rs[i]? with
    | none => rw [q] at h; cases h
    | some r =>
      rw [q] at h
      cases h
      obtain ⟨v, h1, h2⟩ := p.get q
      exact ⟨v, by rw [h1]; rfl, h2⟩
  · rw [List.getElem?_append_right (by simpa using hi), List.getElem?_replicate] at h
    split at h <;> cases h
theorem okT {x qual : Str} {st : Stmt} {f : Addr} {fd : FuncData} {N ps : List Str} {kk : Nat} {ts : TSp} (F : Fun K x qual st f fd) (S : FnScope N ps (defScope st)) (len : ∀ Rs M k X, ts Rs M k X → Rs.length = ps.length)
    (hbody : ∀ (cdv : Value) (A : Around) (outer : List PySem.Env) (s : Shared) (H : Hp) (E : XK), Room kk (A.deeper (envOfC qual (defScope st) s.heap.objs.size f cdv)) →
      ∃ t, PSs (cxOf CX0 P w K mg base N qual (defScope st) f cdv A outer s H E).nox (defBody st) t ∧ ∀ Rs M k X, ts Rs M k X → St E t (startC N Rs) M { nx := fun _ M' => k iNon M', rt := k, ex := X }) : FnOk P w K mg base CX0 (kk + 1) f fd ps (spT ts) := by
  refine F.ok S (fun vs H Q E h => ?_) (fun cdv A outer s H vs Q E hr h => ?_)
  · obtain ⟨_, Rs, M, k, X, h1, _, _, p, _⟩ := h
    exact p.len.trans (len Rs M k X h1)
  · obtain ⟨t, h1, h2⟩ := hbody cdv A outer s H E hr
    obtain ⟨S0, Rs, M, k, X, h3, e, m, p, o, ox⟩ := h
    exact ⟨t, h1, h2 Rs M k X h3 _ S0 H _ (nv_start e m p) ⟨fun σ2 S2 H2 Γ2 M2 q st I2 => o .non S2 H2 iNon M2 q st rfl, o, fun _ _ _ _ _ z => z.elim, fun _ _ _ _ _ z => z.elim, ox⟩⟩
theorem okTX {x qual : Str} {st : Stmt} {f : Addr} {fd : FuncData} {N ps : List Str} {kk : Nat} {ts : TSp} (F : Fun K x qual st f fd) (S : FnScope N ps (defScope st)) (len : ∀ Rs M k X, ts Rs M k X → Rs.length = ps.length)
    (hbody : ∀ (cdv : Value) (A : Around) (outer : List PySem.Env) (s : Shared) (H : Hp) (E : XK), Room kk (A.deeper (envOfC qual (defScope st) s.heap.objs.size f cdv)) →
      ∃ t, PSs (cxOf (L2.CX P w) P w K mg base N qual (defScope st) f cdv A outer s H E) (defBody st) t ∧ ∀ Rs M k X, ts Rs M k X → St E t (startC N Rs) M { nx := fun _ M' => k iNon M', rt := k, ex := X }) : FnOk P w K mg base (L2.CX P w) (kk + 1) f fd ps (spT ts) := by
  refine F.okX S (fun vs H Q E h => ?_) (fun cdv A outer s H vs Q E hr h => ?_)
  · obtain ⟨_, Rs, M, k, X, h1, _, _, p, _⟩ := h
    exact p.len.trans (len Rs M k X h1)
  · obtain ⟨t, h1, h2⟩ := hbody cdv A outer s H E hr
    obtain ⟨S0, Rs, M, k, X, h3, e, m, p, o, ox⟩ := h
    exact ⟨t, h1, h2 Rs M k X h3 _ S0 H _ (nv_start e m p) ⟨fun σ2 S2 H2 Γ2 M2 q st I2 => o .non S2 H2 iNon M2 q st rfl, o, fun _ _ _ _ _ z => z.elim, fun _ _ _ _ _ z => z.elim, ox⟩⟩
end
end
end L3

namespace L3
open PySem L2 RZ PyProof.Rows

/-! ### data -/
mutual
def iDat (K : PySem.W.Frag) : PyData → Rep
  | .none => iNon
  | .bool b => iBl b
  | .int i => iInt i
  | .str s => aStr s
  | .list ds => iLst (iDats K ds)
  | .tuple ds => aTup K (iDats K ds)
  | .dict _ => ⟨fun _ _ => False, fun _ h => h⟩
def iDats (K : PySem.W.Frag) : List PyData → List Rep
  | [] => []
  | d :: ds => iDat K d :: iDats K ds
end
theorem iDats_map (K : PySem.W.Frag) : ∀ ds : List PyData, iDats K ds = ds.map (iDat K)
  | [] => by simp [iDats]
  | d :: ds => by simp [iDats, iDats_map K ds]
theorem dat_list (K : PySem.W.Frag) (ds : List PyData) : iLst (ds.map (iDat K)) = iDat K (.list ds) := by rw [iDat, iDats_map]
theorem dat_tuple (K : PySem.W.Frag) (ds : List PyData) : aTup K (ds.map (iDat K)) = iDat K (.tuple ds) := by rw [iDat, iDats_map]
theorem dat_int (K : PySem.W.Frag) (i : Int) : iInt i = iDat K (.int i) := by rw [iDat]
theorem dat_str (K : PySem.W.Frag) (s : Str) : aStr s = iDat K (.str s) := by rw [iDat]
theorem dat_bl (K : PySem.W.Frag) (b : Bool) : iBl b = iDat K (.bool b) := by rw [iDat]
theorem dat_non (K : PySem.W.Frag) : iNon = iDat K .none := by rw [iDat]
theorem dat_lst {K : PySem.W.Frag} {rs : List Rep} {ds : List PyData} (h : rs = ds.map (iDat K)) : iLst rs = iDat K (.list ds) := by rw [h, dat_list]
theorem dat_tup {K : PySem.W.Frag} {rs : List Rep} {ds : List PyData} (h : rs = ds.map (iDat K)) : aTup K rs = iDat K (.tuple ds) := by rw [h, dat_tuple]
theorem dat_maps {α : Type} {K : PySem.W.Frag} {r : α → Rep} {g : α → PyData} (h : ∀ x, r x = iDat K (g x)) (l : List α) : l.map r = (l.map g).map (iDat K) := by
  rw [List.map_map]
  exact List.map_congr_left fun x _ => h x
theorem dats_cons {K : PySem.W.Frag} {r : Rep} {rs : List Rep} {d : PyData} {ds : List PyData} (h : r = iDat K d) (hs : rs = ds.map (iDat K)) : r :: rs = (d :: ds).map (iDat K) := by rw [h, hs]; rfl
theorem dats_nil {K : PySem.W.Frag} : ([] : List Rep) = ([] : List PyData).map (iDat K) := rfl
mutual
theorem iDat_dp (K : PySem.W.Frag) {S : Hp} : ∀ (d : PyData) {v : V}, (iDat K d).p S v → Dp K S v d
  | .none, v, h => by
    unfold iDat at h
    cases h
    exact .non
  | .bool b, v, h => by
    unfold iDat at h
    cases h
    exact .bl b
  | .int i, v, h => by
    unfold iDat at h
    cases h
    exact .int i
  | .str s, v, h => by
    unfold iDat at h
    cases h
    exact .str s
  | .list ds, v, h => by
    unfold iDat at h
    obtain ⟨a, xs, rfl, h1, h2⟩ := h
    exact .lst (SqL.of h1) (iDats_dp K ds h2)
  | .tuple ds, v, h => by
    unfold iDat at h
    obtain ⟨a, xs, rfl, h1, h2⟩ := h
    exact .tup h1 (iDats_dp K ds h2)
  | .dict _, v, h => by
    unfold iDat at h
    exact h.elim
theorem iDats_dp (K : PySem.W.Frag) {S : Hp} : ∀ (ds : List PyData) {vs : List V}, All2 S (iDats K ds) vs → DpAll K S vs ds
  | [], [], _ => .nil
  | [], _ :: _, h => by
    unfold iDats at h
    exact h.elim
  | d :: ds, [], h => by
    unfold iDats at h
    exact h.elim
  | d :: ds, v :: vs, h => by
    unfold iDats at h
    exact .cons (iDat_dp K d h.1) (iDats_dp K ds h.2)
end
section
variable {E : XK} {K : PySem.W.Frag} {Γ : Ct} {M : SH} {k : KR} {X : KX} {R R1 R2 : Rep} {te ta tb tl : TE} {vs : List Nat} {D : EndT} {t u : TS} {c tt : TT} {tr : TA}
mutual
theorem Dp.mono {K : PySem.W.Frag} {S S' : Hp} (e : Same S S') : ∀ {v : V} {d : PyData}, Dp K S v d → Dp K S' v d
  | _, _, .non => .non
  | _, _, .bl b => .bl b
  | _, _, .int i => .int i
  | _, _, .str x => .str x
  | _, _, .lst h hs => .lst (Same.sql e h) (DpAll.mono e hs)
  | _, _, .tup h hs => .tup (Same.sqt e h) (DpAll.mono e hs)
theorem DpAll.mono {K : PySem.W.Frag} {S S' : Hp} (e : Same S S') : ∀ {vs : List V} {ds : List PyData}, DpAll K S vs ds → DpAll K S' vs ds
  | _, _, .nil => .nil
  | _, _, .cons h hs => .cons (Dp.mono e h) (DpAll.mono e hs)
end
theorem o_neD {d e : PyData} (h1 : SeqAt.shaped d = true) (h2 : SeqAt.shaped e = true) : O2p (rNeD K) (iDat K d) (iDat K e) M (iBl (!PyData.eqv d e)) := o2_val fun x y S H ex _ p1 p2 =>
  ⟨_, rfl, fun Q q => ⟨d, e, Dp.mono ex (iDat_dp K d p1), Dp.mono ex (iDat_dp K e p2), h1, h2, q⟩⟩
theorem O2p.as (h : O2p r R1 R2 M R) {R1' R2' : Rep} (e1 : R1' = R1) (e2 : R2' = R2) : O2p r R1' R2' M R := by rw [e1, e2]; exact h

/-! ### new lists and tuples by operators -/
theorem o2_newL {r : L2.R2} {rs : List Rep} (h : ∀ x y S H, Same S H → MOk S H M → R1.p S x → R2.p S y → ∃ xs, All2 S rs xs ∧ ∀ Q : VK, (∀ p, H p = none → Q (.ref p) (upd H p (.lst xs))) → r x y H Q) : O2p r R1 R2 M (iLst rs) := fun _ q x y S H Q e m h1 h2 o => by
  obtain ⟨xs, p, g⟩ := h x y S H e m h1 h2
  exact g Q fun a ha => o (.ref a) (upd S a (.lst xs)) _ (iLst rs) M q (Stp.newS e m ha) ⟨a, xs, rfl, upd_same, p.mono (Same.newS (Same.refl _) (e.free ha))⟩
theorem o_cat {r1 r2 : List Rep} (h : r1.length + r2.length ≤ 1000000) : O2p rCat (iLst r1) (iLst r2) M (iLst (r1 ++ r2)) := o2_newL fun x y S H e _ h1 h2 => by
  obtain ⟨a, xs, rfl, q1, q2⟩ := h1
  obtain ⟨b, ys, rfl, q3, q4⟩ := h2
  exact ⟨xs ++ ys, q2.app q4, fun Q q => ⟨a, b, xs, ys, rfl, rfl, e _ _ q1, e _ _ q3, by rw [q2.len, q4.len]; exact sz_le h, q⟩⟩
theorem ol_newL {rl : List V → Hp → VK → Prop} {Rs rs : List Rep} (h : ∀ xs S H, Same S H → MOk S H M → All2 S Rs xs → ∃ ys, All2 S rs ys ∧ ∀ Q : VK, (∀ p, H p = none → Q (.ref p) (upd H p (.lst ys))) → rl xs H Q) : Olp rl Rs M (iLst rs) := fun _ q xs S H Q e m h1 o => by
  obtain ⟨ys, p, g⟩ := h xs S H e m h1
  exact g Q fun a ha => o (.ref a) (upd S a (.lst ys)) _ (iLst rs) M q (Stp.newS e m ha) ⟨a, ys, rfl, upd_same, p.mono (Same.newS (Same.refl _) (e.free ha))⟩
theorem ol_newT {rl : List V → Hp → VK → Prop} {Rs rs : List Rep} (h : ∀ xs S H, Same S H → MOk S H M → All2 S Rs xs → ∃ ys, All2 S rs ys ∧ ∀ Q : VK, (∀ p, H p = none → Q (.ref p) (upd H p (.tup ys))) → rl xs H Q) : Olp rl Rs M (aTup K rs) := fun _ q xs S H Q e m h1 o => by
  obtain ⟨ys, p, g⟩ := h xs S H e m h1
  exact g Q fun a ha => o (.ref a) (upd S a (.tup ys)) _ (aTup K rs) M q (Stp.newS e m ha) ⟨a, ys, rfl, SqT.of upd_same, p.mono (Same.newS (Same.refl _) (e.free ha))⟩
def rListOf (K : PySem.W.Frag) : List V → Hp → VK → Prop := fun xs H Q => ∃ p ys, xs = [.ref p] ∧ (SqL K H p ys ∨ SqT K H p ys) ∧ ∀ l, H l = none → Q (.ref l) (upd H l (.lst ys))
def rTupOf (K : PySem.W.Frag) : List V → Hp → VK → Prop := fun xs H Q => ∃ p ys, xs = [.ref p] ∧ ((SqL K H p ys ∧ ∀ l, H l = none → Q (.ref l) (upd H l (.tup ys))) ∨ (SqT K H p ys ∧ Q (.ref p) H))
theorem c_listL {rs : List Rep} : Olp (rListOf K) [iLst rs] M (iLst rs) := ol_newL fun xs S H e _ h => by
  obtain ⟨v, rfl, a, ys, rfl, q1, q2⟩ := all2_1 h
  exact ⟨ys, q2, fun Q q => ⟨a, ys, rfl, .inl (SqL.of (e _ _ q1)), q⟩⟩
theorem c_listT {rs : List Rep} : Olp (rListOf K) [aTup K rs] M (iLst rs) := ol_newL fun xs S H e _ h => by
  obtain ⟨v, rfl, a, ys, rfl, q1, q2⟩ := all2_1 h
  exact ⟨ys, q2, fun Q q => ⟨a, ys, rfl, .inr (Same.sqt e q1), q⟩⟩
theorem c_tupL {rs : List Rep} : Olp (rTupOf K) [iLst rs] M (aTup K rs) := ol_newT fun xs S H e _ h => by
  obtain ⟨v, rfl, a, ys, rfl, q1, q2⟩ := all2_1 h
  exact ⟨ys, q2, fun Q q => ⟨a, ys, rfl, .inl ⟨SqL.of (e _ _ q1), q⟩⟩⟩
theorem c_tupT {rs : List Rep} : Olp (rTupOf K) [aTup K rs] M (aTup K rs) := ol_val fun xs S H e _ h => by
  obtain ⟨v, rfl, a, ys, rfl, q1, q2⟩ := all2_1 h
  exact ⟨.ref a, ⟨a, ys, rfl, q1, q2⟩, fun Q q => ⟨a, ys, rfl, .inr ⟨Same.sqt e q1, q⟩⟩⟩
/-- list(..) as a new object that is to be changed -/
theorem ev_listM {rs : List Rep} (h : Ev E ta Γ M (fun R M1 => (R = iLst rs ∨ R = aTup K rs) ∧ ∀ a, k (iRef a) (M1 ++ [(a, mLst rs)])) X) : Ev E (tCB (rListOf K) (tCons ta tNil)) Γ M k X := fun σ S H Q I o ox =>
  h σ S H _ I (fun v S1 H1 R M1 ⟨hR, q⟩ st p => by
    rcases hR with e | e
    · subst e
      obtain ⟨a, xs, rfl, q1, q2⟩ := p
      exact ⟨a, xs, rfl, .inl (SqL.of (st.e _ _ q1)), fun l hl => o (.ref l) S1 _ (iRef l) _ (q l) (st.trans (Stp.newM st.e st.m hl ⟨xs, rfl, q2⟩)) rfl⟩
    · subst e
      obtain ⟨a, xs, rfl, q1, q2⟩ := p
      exact ⟨a, xs, rfl, .inr (Same.sqt st.e q1), fun l hl => o (.ref l) S1 _ (iRef l) _ (q l) (st.trans (Stp.newM st.e st.m hl ⟨xs, rfl, q2⟩)) rfl⟩) ox

/-! ### slices -/
def Eo (E : XK) (to : TO) (Γ : Ct) (M : SH) (o : Option Int) : Prop := ∀ σ S H (Q : Option Int → Hp → Prop), Nv S H σ Γ M → (∀ S2 H2, Stp S H S2 H2 M M → Q o H2) → to σ H Q
theorem eo_none : Eo E tNoPart Γ M none := fun σ S H Q I o => o S H (Stp.refl I.ex I.m)
theorem eo_someX {i : Int} (h : Ep E te Γ M (iInt i)) : Eo E (tPart te) Γ M (some i) := fun σ S H Q I o =>
  h (fun R M' => R = iInt i ∧ M' = M) X0 ⟨rfl, rfl⟩ σ S H _ I (fun v S2 H2 R M2 ⟨e1, e2⟩ st p => by
    subst e1; subst e2; cases p
    exact ⟨i, rfl, o S2 H2 st⟩) (fun _ _ _ _ _ _ z => z.elim)
/-- what a slice leaves -/
def cutL {α : Type} (l : List α) (lo hi : Option Int) : List α := (l.drop (HT.sIx l.length 0 lo)).take (HT.sIx l.length l.length hi - HT.sIx l.length 0 lo)
theorem All2.cut {S : Hp} {rs : List Rep} {xs : List V} (h : All2 S rs xs) (lo hi : Option Int) : All2 S (cutL rs lo hi) (cutV xs lo hi) := by
  unfold cutL cutV
  rw [h.len]
  exact (h.drop _).take _
theorem cutL_map {α β : Type} (f : α → β) (l : List α) (lo hi : Option Int) : cutL (l.map f) lo hi = (cutL l lo hi).map f := by
  unfold cutL
  rw [List.length_map, List.map_take, List.map_drop]
theorem ep_sl {r : V → Option Int → Option Int → Hp → VK → Prop} {tlo thi : TO} {lo hi : Option Int} (h : Ep E te Γ M R1) (h1 : Eo E tlo Γ M lo) (h2 : Eo E thi Γ M hi) (hr : ∀ k : KR, k R M → ∀ x S H Q, Same S H → MOk S H M → R1.p S x → Out S H M k Q → r x lo hi H Q) : Ep E (tSl r te tlo thi) Γ M R := fun k X q σ S H Q I o ox =>
  h (fun R' M' => R' = R1 ∧ M' = M) X ⟨rfl, rfl⟩ σ S H _ I (fun v S1 H1 R' M1 ⟨e1, e2⟩ st p => by
    subst e1; subst e2
    exact h1 σ S1 H1 _ (I.step st) fun S2 H2 st2 => h2 σ S2 H2 _ (I.step (st.trans st2)) fun S3 H3 st3 =>
      hr k q v S3 H3 Q st3.e st3.m (R'.m (st2.s.trans st3.s) p) (o.step ((st.trans st2).trans st3))) ox
theorem s_list {rs : List Rep} {lo hi : Option Int} : ∀ k : KR, k (iLst (cutL rs lo hi)) M → ∀ x S H Q, Same S H → MOk S H M → (iLst rs).p S x → Out S H M k Q → rSlL K x lo hi H Q := fun k q x S H Q e m p o => by
  obtain ⟨a, xs, rfl, q1, q2⟩ := p
  exact ⟨a, xs, rfl, SqL.of (e _ _ q1), fun b hb => o (.ref b) (upd S b (.lst (cutV xs lo hi))) _ _ M q (Stp.newS e m hb) ⟨b, _, rfl, upd_same, (q2.cut lo hi).mono (Same.newS (Same.refl _) (e.free hb))⟩⟩
theorem s_scr {ns : List Int} {lo hi : Option Int} : ∀ k : KR, k (iLst ((cutL ns lo hi).map iInt)) M → ∀ x S H Q, Same S H → MOk S H M → (iScr K ns).p S x → Out S H M k Q → rSlL K x lo hi H Q := fun k q x S H Q e m p o => by
  obtain ⟨a, rfl, q1⟩ := p
  refine ⟨a, _, rfl, Same.sql e q1, fun b hb => o (.ref b) (upd S b (.lst (cutV (ns.map V.int) lo hi))) _ _ M q (Stp.newS e m hb) ⟨b, _, rfl, upd_same, ?_⟩⟩
  rw [← cutL_map]
  exact ((All2.unflat (S := S) (r := iInt) (g := V.int) (fun _ => rfl) ns).cut lo hi).mono (Same.newS (Same.refl _) (e.free hb))

/-! ### all, any, in -/
theorem c_all {bs : List Bool} : Olp (rAll K) [iLst (bs.map iBl)] M (iBl (bs.all id)) := ol_val fun xs S H e _ h => by
  obtain ⟨v, rfl, a, ys, rfl, q1, q2⟩ := all2_1 h
  rw [All2.flat (r := iBl) (g := V.bl) (fun _ _ h => h) q2] at q1
  exact ⟨_, rfl, fun Q q => ⟨a, bs, rfl, SqL.of (e _ _ q1), q⟩⟩
theorem c_any {bs : List Bool} : Olp (rAny K) [iLst (bs.map iBl)] M (iBl (bs.any id)) := ol_val fun xs S H e _ h => by
  obtain ⟨v, rfl, a, ys, rfl, q1, q2⟩ := all2_1 h
  rw [All2.flat (r := iBl) (g := V.bl) (fun _ _ h => h) q2] at q1
  exact ⟨_, rfl, fun Q q => ⟨a, bs, rfl, SqL.of (e _ _ q1), q⟩⟩
theorem inV_str (x : Str) : ∀ l : List Str, inV (.str x) (l.map V.str) = decide (x ∈ l)
  | [] => by simp [inV]
  | y :: l => by
    have ih := inV_str x l
    unfold inV at ih ⊢
    rw [List.map_cons, List.any_cons, ih]
    have e : eqV (V.str y) (V.str x) = decide (x = y) := by
      unfold eqV
      by_cases h : x = y
      · subst h; simp
      · have h' : ¬ y = x := fun z => h z.symm
        simp [h, h']
    rw [e]
    by_cases h : x = y
    · simp [h]
    · simp [h]
theorem all_flat_str (l : List Str) : (l.map V.str).all flatV = true := by
  rw [List.all_eq_true]
  intro v hv
  obtain ⟨x, _, rfl⟩ := List.mem_map.mp hv
  rfl

/-! ### texts -/
theorem ev_tM1 {r : V → List V → Hp → VK → Prop} (h : Ev E ta Γ M (fun R M1 => ∃ z, R = aStr z ∧ Ev E te Γ M1 (fun R2 M2 => Om r (aStr z) [R2] M2 k) X) X) : Ev E (tM1 r ta te) Γ M k X := fun σ S H Q I o ox =>
  h σ S H _ I (fun v S1 H1 R1 M1 ⟨z, e, q⟩ st p => by
    subst e
    have p' := p
    cases p
    exact ⟨⟨z, rfl⟩, q σ S1 H1 _ (I.step st) (fun y S2 H2 R2 M2 q2 st2 p2 => q2 _ _ S2 H2 Q st2.e st2.m ((aStr z).m st2.s p') ⟨p2, True.intro⟩ (o.step (st.trans st2))) (ox.step st)⟩) ox
theorem op_mulS {X : Cx} : OpR X (binaryOp .Mult) (fun x y H Q => ∃ z n, x = .str z ∧ y = .int n ∧ MulOk z n ∧ Q (.str (Txt.mul z n)) H) := by
  intro pins s σ H x y v u Q I rx ry h
  obtain ⟨z, n, rfl, rfl, hm, q⟩ := h
  obtain ⟨t, rfl⟩ := rx
  obtain ⟨t', rfl⟩ := ry
  exact SB.mul hm fun t2 k => ⟨.str _, H, I.tok k, ⟨_, rfl⟩, q⟩
theorem mulOk_01 {z : Str} {n : Int} (h0 : 0 ≤ n) (h1 : n ≤ 1) : MulOk z n := by
  refine ⟨by simp; omega, fun h2 h3 => ?_, fun h2 h3 => ?_⟩
  · have : n = 1 := by omega
    subst this
    simp at h3
  · have : n = 1 := by omega
    subst this
    simp at h3
theorem o_mulS {z : Str} {n : Int} (h : MulOk z n) : O2p (fun x y H Q => ∃ z n, x = .str z ∧ y = .int n ∧ MulOk z n ∧ Q (.str (Txt.mul z n)) H) (aStr z) (iInt n) M (aStr (Txt.mul z n)) := o2_val fun x y S H _ _ h1 h2 => by
  cases h1; cases h2
  exact ⟨_, rfl, fun Q q => ⟨z, n, rfl, rfl, h, q⟩⟩

/-! ### mutable lists -/
/-- f(l, ..) of a list's method -/
theorem ev_bm {T : String} {r : V → List V → Hp → VK → Prop} (h : Ev E ta Γ M (fun R1 M1 => (∀ x S H, Same S H → MOk S H M1 → R1.p S x → tyV K T x H) ∧ Ea E tr Γ M1 (fun Rs M2 => Om r R1 Rs M2 k) X) X) : Ev E (tBM K T r ta tr) Γ M k X := fun σ S H Q I o ox =>
  h σ S H _ I (fun v S1 H1 R1 M1 ⟨ty, q⟩ st p => ⟨ty v S1 H1 st.e st.m p, q σ S1 H1 _ (I.step st) (fun ys S2 H2 Rs M2 q2 st2 p2 => q2 v ys S2 H2 Q st2.e st2.m (R1.m st2.s p) p2 (o.step (st.trans st2))) (ox.step st)⟩) ox
theorem ev_bm0 {T : String} {r : V → List V → Hp → VK → Prop} (h : Ev E ta Γ M (fun R1 M1 => (∀ x S H, Same S H → MOk S H M1 → R1.p S x → tyV K T x H) ∧ Om r R1 [] M1 k) X) : Ev E (tBM0 K T r ta) Γ M k X := fun σ S H Q I o ox =>
  h σ S H _ I (fun v S1 H1 R1 M1 ⟨ty, q⟩ st p => ⟨ty v S1 H1 st.e st.m p, q v [] S1 H1 Q st.e st.m p True.intro (o.step st)⟩) ox
theorem ty_mLst {a : Addr} {rs : List Rep} (hm : (a, mLst rs) ∈ M) : ∀ x S H, Same S H → MOk S H M → (iRef a).p S x → tyV K "list" x H := fun x S H e m p => by
  cases p
  obtain ⟨_, o, ho, xs, rfl, _⟩ := m.at_ _ _ hm
  exact .inl ⟨rfl, xs, SqL.of ho⟩
theorem ty_lst {rs : List Rep} : ∀ x S H, Same S H → MOk S H M → (iLst rs).p S x → tyV K "list" x H := fun x S H e m p => by
  obtain ⟨a, xs, rfl, q1, q2⟩ := p
  exact .inl ⟨rfl, xs, SqL.of (e _ _ q1)⟩
/-- l.append(e), l at place A of the symbolic heap -/
theorem om_append {A B : SH} {a : Addr} {rs : List Rep} (hl : rs.length < 1000000) (q : k iNon (A ++ (a, mLst (rs ++ [R])) :: B)) : Om rAppend (iRef a) [R] (A ++ (a, mLst rs) :: B) k := fun x xs S H Q e m h1 h2 o => by
  cases h1
  obtain ⟨v, rfl, p⟩ := all2_1 h2
  obtain ⟨_, ob, ho, ys, rfl, py⟩ := m.at_ a (mLst rs) (by simp)
  exact ⟨a, ys, v, rfl, rfl, ho, by rw [py.len]; exact sz_lt (by omega), o .non S _ iNon _ q (Stp.wrM e m ⟨_, rfl, py.app (All2.one p)⟩) rfl⟩
theorem om_clear {A B : SH} {a : Addr} {rs : List Rep} (q : k iNon (A ++ (a, mLst []) :: B)) : Om rClear (iRef a) [] (A ++ (a, mLst rs) :: B) k := fun x xs S H Q e m h1 h2 o => by
  cases h1
  have : xs = [] := by
    cases xs with
    | nil => rfl
    | cons _ _ => exact h2.elim
  subst this
  obtain ⟨_, ob, ho, ys, rfl, py⟩ := m.at_ a (mLst rs) (by simp)
  exact ⟨a, ys, rfl, rfl, ho, o .non S _ iNon _ q (Stp.wrM e m ⟨_, rfl, True.intro⟩) rfl⟩
/-- l[i] = v -/
theorem tg_subM {A B : SH} {a : Addr} {rs : List Rep} {to ti : TE} {i : Int} {j : Nat} {kc : KC} (ho : Ep E0 to Γ (A ++ (a, mLst rs) :: B) (iRef a)) (hi : Ep E0 ti Γ (A ++ (a, mLst rs) :: B) (iInt i)) (hj : ixN rs.length i = some j) (q : kc Γ (A ++ (a, mLst (rs.set j R)) :: B)) : Tg (gSub to ti rSetL) R Γ (A ++ (a, mLst rs) :: B) vs kc := fun v σ S H Q I p o =>
  ho (fun R' M' => R' = iRef a ∧ M' = A ++ (a, mLst rs) :: B) X0 ⟨rfl, rfl⟩ σ S H _ I (fun x S1 H1 R1 M1 ⟨e1, e2⟩ st p1 => by
    subst e1; subst e2; cases p1
    exact hi (fun R' M' => R' = iInt i ∧ M' = A ++ (a, mLst rs) :: B) X0 ⟨rfl, rfl⟩ σ S1 H1 _ (I.step st) (fun y S2 H2 R2 M2 ⟨e1, e2⟩ st2 p2 => by
      subst e1; subst e2; cases p2
      have s2 := st.trans st2
      obtain ⟨_, ob, hob, ys, rfl, py⟩ := s2.m.at_ a (mLst rs) (by simp)
      have w := Stp.wrM (P' := mLst (rs.set j R)) s2.e s2.m ⟨_, rfl, py.set (R.m s2.s p) j⟩
      exact ⟨a, ys, i, j, rfl, rfl, hob, by rw [py.len]; exact hj, o σ S2 _ Γ _ q (s2.trans w) (I.step (s2.trans w)) fun _ => rfl⟩) (fun _ _ _ _ _ _ z => z.elim)) (fun _ _ _ _ _ _ z => z.elim)

/-! ### the symbolic heap: opened, closed, made stable -/
/-- the slots' and the heap's words weakened -/
theorem Stp.wkL {S H S2 H2 : Hp} {A B M2 : SH} {a : Addr} {P P' : MRep} (st : Stp S H S2 H2 (A ++ (a, P') :: B) M2) : Stp S H S2 H2 (A ++ (a, P) :: B) M2 := by
  have e : dm (A ++ (a, P) :: B) = dm (A ++ (a, P') :: B) := by simp [dm]
  exact ⟨st.s, st.e, fun b h1 h2 => by rw [e]; exact st.new b h1 h2, fun b o h1 h2 => st.fr b o (by rw [← e]; exact h1) h2, st.m, fun b hb => by rw [e]; exact st.dn b hb⟩
theorem MOk.re {S H : Hp} {A B : SH} {a : Addr} {P P' : MRep} (m : MOk S H (A ++ (a, P) :: B)) (h : ∀ o, P.p S o → P'.p S o) : MOk S H (A ++ (a, P') :: B) := by
  have e : dm (A ++ (a, P) :: B) = dm (A ++ (a, P') :: B) := by simp [dm]
  refine ⟨fun b Q hq => ?_, by rw [← e]; exact m.nd⟩
  rcases List.mem_append.mp hq with hq | hq
  · exact m.at_ b Q (List.mem_append_left _ hq)
  · rcases List.mem_cons.mp hq with hq | hq
    · cases hq
      obtain ⟨z, o, ho, p⟩ := m.at_ a P (by simp)
      exact ⟨z, o, ho, h o p⟩
    · exact m.at_ b Q (List.mem_append_right _ (List.mem_cons_of_mem _ hq))
theorem st_open {α : Type} {A B : SH} {a : Addr} {P : MRep} (P' : α → MRep) (h : ∀ S o, P.p S o → ∃ x, (P' x).p S o) (q : ∀ x, St E t Γ (A ++ (a, P' x) :: B) D) : St E t Γ (A ++ (a, P) :: B) D := fun σ S H D0 I o => by
  obtain ⟨_, ob, ho, p⟩ := I.m.at_ a P (by simp)
  obtain ⟨x, px⟩ := h S ob p
  have m' : MOk S H (A ++ (a, P' x) :: B) := by
    have e : dm (A ++ (a, P) :: B) = dm (A ++ (a, P' x) :: B) := by simp [dm]
    have m := I.m
    refine ⟨fun b Q hq => ?_, by rw [← e]; exact m.nd⟩
    rcases List.mem_append.mp hq with hq | hq
    · exact m.at_ b Q (List.mem_append_left _ hq)
    · rcases List.mem_cons.mp hq with hq | hq
      · cases hq
        exact ⟨(m.at_ a P (by simp)).1, ob, ho, px⟩
      · exact m.at_ b Q (List.mem_append_right _ (List.mem_cons_of_mem _ hq))
  exact q x σ S H D0 ⟨I.ex, I.len, I.sl, m'⟩ ⟨fun a b c d e k st I2 => o.nx a b c d e k st.wkL I2, fun a b c d e k st p => o.rt a b c d e k st.wkL p, fun a b c d e k st I2 => o.bk a b c d e k st.wkL I2, fun a b c d e k st I2 => o.ct a b c d e k st.wkL I2, fun a b c d e f k st p => o.ex a b c d e f k st.wkL p⟩
/-- the ends may be said of a weaker heap -/
def KR.dn (k : KR) : KR := fun R M => ∃ A B a, ∃ P P' : MRep, M = A ++ (a, P) :: B ∧ (∀ S o, P.p S o → P'.p S o) ∧ k R (A ++ (a, P') :: B)
theorem out_dn {S H : Hp} {Q : VK} (o : Out S H M k Q) : Out S H M (KR.dn k) Q := fun v S2 H2 R M2 ⟨A, B, a, P, P', e, h, q⟩ st p => by
  subst e
  refine o v S2 H2 R _ q ⟨st.s, st.e, st.new, st.fr, st.m.re (h S2), fun b hb => ?_⟩ p
  have e : dm (A ++ (a, P') :: B) = dm (A ++ (a, P) :: B) := by simp [dm]
  exact st.dn b (by rw [← e]; exact hb)
/-- a mutable list whose name is read as a value is stable from then on -/
theorem ev_fzL {A B : SH} (h : Ev E te Γ M (fun R M1 => ∃ a rs A B, R = iRef a ∧ M1 = A ++ (a, mLst rs) :: B ∧ k (iLst rs) (A ++ B)) X) : Ev E te Γ M k X := fun σ S H Q I o ox =>
  h σ S H Q I (fun v S2 H2 R M2 ⟨a, rs, A, B, e1, e2, q⟩ st p => by
    subst e1; subst e2; cases p
    obtain ⟨_, ob, ho, xs, rfl, px⟩ := st.m.at_ a (mLst rs) (by simp)
    have f := Stp.fz st.e st.m ho
    exact o (.ref a) _ H2 (iLst rs) _ q (st.trans f) ⟨a, xs, rfl, upd_same, px.mono f.s⟩) ox
/-- .. slot i holds a stable list from then on -/
theorem st_fzS {A B : SH} {a : Addr} {rs : List Rep} {i : Nat} (hi : Γ[i]? = some (some (iRef a))) (h : St E t (Γ.set i (some (iLst rs))) (A ++ B) D) : St E t Γ (A ++ (a, mLst rs) :: B) D := fun σ S H D0 I o => by
  obtain ⟨_, ob, ho, xs, rfl, px⟩ := I.m.at_ a (mLst rs) (by simp)
  have f := Stp.fz I.ex I.m ho
  have I2 := I.step f
  obtain ⟨v, h1, h2⟩ := I.sl i _ hi
  cases h2
  have I3 : Nv (upd S a (.lst xs)) H σ (Γ.set i (some (iLst rs))) (A ++ B) := by
    refine ⟨I2.ex, by rw [List.length_set]; exact I2.len, fun j R e => ?_, I2.m⟩
    by_cases hj : i = j
    · subst hj
      have hl : i < Γ.length := (List.getElem?_eq_some_iff.mp hi).1
      rw [List.getElem?_set_self hl] at e
      cases e
      exact ⟨.ref a, h1, a, xs, rfl, upd_same, px.mono f.s⟩
    · rw [List.getElem?_set_ne hj] at e
      exact I2.sl j R e
  exact h σ _ H D0 I3 (o.step f)
theorem ite_b {b : Bool} {P Q : Prop} (h1 : b = true → P) (h2 : b = false → Q) : if b = true then P else Q := by
  cases b with
  | true => simpa using h1 rfl
  | false => simpa using h2 rfl
end

/-- a comprehension's target of two names -/
theorem blk_tup2 {X : Cx} {i j : Nat} {x y : Str} {scope : Scope} {px py tpos : Pos} {kk : Nat} (hN : X.N.Nodup) (hc : X.calm = true := by rfl) (hi : X.N[i]? = some x := by rfl) (hj : X.N[j]? = some y := by rfl)
    (hx : ∀ C cl, (compEnvC scope cl C X.env).scope.names.lookup x = some .local := by intro _ _; rfl) (hy : ∀ C cl, (compEnvC scope cl C X.env).scope.names.lookup y = some .local := by intro _ _; rfl) (s : Shared) (H : Hp) (C : Addr) (cl : List (Str × Addr)) (fp : List Addr) :
    PG (X.blk s H scope (compEnvC scope cl C X.env) fp) (.Tuple [.Name x px, .Name y py] kk tpos) (gTup X.K 2 (gCons (gName i) (gCons (gName j) gNil))) :=
  pg_tup (X := X.blk s H scope (compEnvC scope cl C X.env) fp) hc (pgs_cons (pg_name hN hi (.inl (hx C cl)) (.inr (hx C cl))) (pgs_cons (pg_name hN hj (.inl (hy C cl)) (.inr (hy C cl))) pgs_nil))
/-- a module's constant -/
theorem pe_gc {X : Cx} {x : Str} {v : V} {pos : Pos} (hg : Gl X x) (h : ∃ u, X.mg x = some u ∧ RelV v u) (hd : (x == ("__debug__" : Str)) = false := by decide) : PE X (.Name x pos) (tC v) := by
  obtain ⟨u, h1, h2⟩ := h
  exact pe_glob hg h1 h2 hd
/-! ### what may be called by its name -/
structure Cl (P : Program) (w : World) (K : PySem.W.Frag) (mg : Str → Option Value) (base : Heap) (CX : CXT) (k : Nat) (x : Str) (ts : TSp) (dvs : List V) : Prop where
  ex : ∃ (f : Addr) (fd : FuncData) (ps : List Str) (ds : List Value), FnOk P w K mg base CX k f fd ps (spT ts) ∧ mg x = some (.ref f) ∧ PySem.W.keepIn K (.ref f) = true ∧ Binds K fd ps ds ∧ Vals dvs ds
section
variable {X : Cx} {CX : CXT} {k j : Nat} {x : Str} {ts : TSp} {dvs : List V} {p pos : Pos} {e : Expr} {es : List Expr} {t : TA} {E : XK}
theorem pe_cl (c : Cl X.prog X.w X.K X.mg X.base CX k x ts dvs) (hr : Room j X.A) (hk : k ≤ j) (hx : Passes CX X E) (hg : Gl X x) (ha : PA X (e :: es) t)
    (hdb : (x == ("__debug__" : Str)) = false := by decide) (he : starEach (e :: es) X.env = (false, eval e X.env) :: starEach es X.env := by rfl) (hpl : (backTo pos (starEach es X.env)).any (·.1) = false := by rfl) :
    PE X (.Call (.Name x p) (e :: es) [] pos) (tCall (spT ts) dvs E t) := by
  obtain ⟨f, fd, ps, ds, F, hm, kp, b, d⟩ := c.ex
  exact pe_call F (hr.mono hk) hg hm kp b d hx ha hdb he hpl
end
section
variable {P : Program} {w : World} {K : PySem.W.Frag} {mg : Str → Option Value} {base : Heap}
/-- a def of the top without defaults -/
structure Df (K : PySem.W.Frag) (mg : Str → Option Value) (x : Str) (st : Stmt) (ps : List Str) (f : Addr) (fd : FuncData) : Prop where
  fn : Fun K x x st f fd
  mg : mg x = some (.ref f)
  bd : Binds K fd ps []
theorem cl_of {x : Str} {st : Stmt} {ps : List Str} {f : Addr} {fd : FuncData} {CX : CXT} {k : Nat} {ts : TSp} (d : Df K mg x st ps f fd) (F : FnOk P w K mg base CX k f fd ps (spT ts)) : Cl P w K mg base CX k x ts [] :=
  ⟨f, fd, ps, [], F, d.mg, d.fn.kp, d.bd, .nil⟩
theorem Cl.imp {x : Str} {CX : CXT} {k : Nat} {ts ts' : TSp} {dvs : List V} (c : Cl P w K mg base CX k x ts dvs) (h : ∀ Rs M k X, ts' Rs M k X → ts Rs M k X) : Cl P w K mg base CX k x ts' dvs := by
  obtain ⟨f, fd, ps, ds, F, hm, kp, b, d⟩ := c.ex
  refine ⟨f, fd, ps, ds, F.imp fun vs H Q E q => ?_, hm, kp, b, d⟩
  obtain ⟨S, Rs, M, k, X, h1, r⟩ := q
  exact ⟨S, Rs, M, k, X, h _ _ _ _ h1, r⟩
theorem Cl.mono {x : Str} {CX : CXT} {k j : Nat} {ts : TSp} {dvs : List V} (c : Cl P w K mg base CX k x ts dvs) (h : k ≤ j) : Cl P w K mg base CX j x ts dvs := by
  obtain ⟨f, fd, ps, ds, F, hm, kp, b, d⟩ := c.ex
  exact ⟨f, fd, ps, ds, F.mono h, hm, kp, b, d⟩
end
/-- the built-in names that the program's top leaves alone -/
structure Bt (mg : Str → Option Value) : Prop where
  len : mg "len" = none
  range : mg "range" = none
  list : mg "list" = none
  tuple : mg "tuple" = none
  max : mg "max" = none
  min : mg "min" = none
  all : mg "all" = none
  any : mg "any" = none
  zip : mg "zip" = none
  enumerate : mg "enumerate" = none
  isinstance : mg "isinstance" = none
  str : mg "str" = none
  int : mg "int" = none
  bool : mg "bool" = none
  sorted : mg "sorted" = none
  sum : mg "sum" = none
  repr : mg "repr" = none
  dict : mg "dict" = none
  set : mg "set" = none
/-! ### comprehensions over a text, over a range -/
section
variable {E : XK} {K : PySem.W.Frag} {Γ : Ct} {M : SH} {te ta tb tl : TE} {vs : List Nat} {tt : TT}
theorem given_all {α β : Type} (l : List α) (v : α → β) (d : α) : given l.length (fun _ => true) (fun i => v (l.getD i d)) = l.map v := by
  have := given_list l (fun _ => true) v d
  rw [this]
  congr 1
  simp
theorem ep_lcS {β : Type} {z : Str} {j : Nat} {g : Nat → β} {e' : β → Rep} (hi : Ep E tl Γ M (aStr z)) (hz : z.length ≤ 1000000) (hj : j ∈ vs)
    (he : ∀ c ∈ z.cps.toList, Ep E te ((wipeC Γ vs).set j (some (aStr ⟨#[c]⟩))) M (e' (g c))) : Ep E (tLc (L2.iStr tl) (gName j) tYes te vs) Γ M (iLst ((z.cps.toList.map g).map e')) := by
  refine Ep.to (R := iLst (given z.cps.size (fun _ => true) (fun i => e' (g (z.cps.toList.getD i 0))))) (ep_lc (fun z => by rw [z] at hj; cases hj) (tip_str hi) hz (fun _ => true) (fun i => e' (g (z.cps.toList.getD i 0))) (fun i r hi hr => ?_)) ?_
  · obtain ⟨c, hc, rfl⟩ := hr
    have h1 : z.cps.toList[i]? = some c := by rw [Array.getElem?_toList]; exact hc
    have h2 : z.cps.toList.getD i 0 = c := by rw [List.getD_eq_getElem?_getD, h1]; rfl
    rw [h2]
    exact tg_name ⟨rfl, etp_yes, fun _ => he c (List.mem_of_getElem? h1)⟩ (.inr hj)
  · congr 1
    have := given_all z.cps.toList (fun c => e' (g c)) 0
    rw [Array.length_toList] at this
    rw [this, List.map_map]
    rfl
end
end L3

namespace L3
open PySem L2 RZ PyProof.Rows
/-! ### the box of draws -/
structure BoxV where
  ns : List Int
  pos : Int
  big : Int
  seed : Int
  cnt : Int
  h1 : 0 ≤ pos
  h2 : 0 ≤ big
  h3 : 0 ≤ seed
  h4 : seed < 2147483629
  h5 : ns.length ≤ 1000
def BoxV.l (x : BoxV) : List Rep := [iLst (x.ns.map iInt), iInt x.pos, iInt x.big, iInt x.seed, iInt x.cnt]
def mBox : MRep := ⟨fun S o => ∃ x : BoxV, (mLst x.l).p S o, fun e ⟨x, h⟩ => ⟨x, (mLst x.l).m e h⟩, fun ⟨x, h⟩ => (mLst x.l).nt h⟩
def tsDraw : TSp := fun Rs M k _ => ∃ b n, Rs = [iRef b, iInt n] ∧ 0 < n ∧ n < 2 ^ 100 ∧ M = [(b, mBox)] ∧ ∀ r : Int, 0 ≤ r → r < n → k (iInt r) [(b, mBox)]
def tsBox (K : PySem.W.Frag) : TSp := fun Rs M k _ => ∃ ns, Rs = [iScr K ns] ∧ ns.length ≤ 63 ∧ M = [] ∧ ∀ b, k (iRef b) [(b, mBox)]
section
variable {E : XK} {K : PySem.W.Frag} {Γ : Ct} {M : SH} {k : KR} {X : KX} {R R1 R2 : Rep} {te ta tb tl : TE} {vs : List Nat} {D : EndT} {t u : TS} {c tt : TT} {tr : TA}
theorem o_ixH {i : Int} {a : Addr} {rs : List Rep} {F : SH} (h : atI rs i = some R) : O2p (rIxL K) (iRef a) (iInt i) ((a, mLst rs) :: F) R := o_ixM (List.mem_cons_self ..) h
theorem st_dn (h : St E t Γ M { D with rt := KR.dn D.rt }) : St E t Γ M D := fun σ S H D0 I o => h σ S H D0 I ⟨o.nx, out_dn o.rt, o.bk, o.ct, o.ex⟩
theorem kdn {A B : SH} {a : Addr} {P P' : MRep} (h : ∀ S o, P.p S o → P'.p S o) (q : k R (A ++ (a, P') :: B)) : KR.dn k R (A ++ (a, P) :: B) := ⟨A, B, a, P, P', rfl, h, q⟩
/-- a call with the box and nothing else that is mutable, as the rest stands -/
theorem ev_callB {ts : TSp} {b : Addr} {F : SH} (h : Ea E tr Γ M (fun Rs M1 => ∃ F, M1 = (b, mBox) :: F ∧ ts Rs [(b, mBox)] (fun R M2 => k R (M2 ++ F)) X0) X) : Ev E (tCall (spT ts) [] E0 tr) Γ M k X :=
  ev_call0 (Ds := []) (fun _ => True.intro) (fun σ S H Q I o ox => h σ S H Q I (fun vs S2 H2 Rs M2 ⟨F, e, q⟩ st p => o vs S2 H2 Rs M2 ⟨[(b, mBox)], F, e, by rw [List.append_nil]; exact q⟩ st p) ox)
/-- a draw -/
theorem ev_draw {b : Addr} {n : Int} {F : SH} (h0 : Γ[0]? = Γ[0]?) (hb : Ep E ta Γ ((b, mBox) :: F) (iRef b)) (hn : Ep E tb Γ ((b, mBox) :: F) (iInt n)) (h1 : 0 < n) (h2 : n < 2 ^ 100) (q : ∀ r : Int, 0 ≤ r → r < n → k (iInt r) ((b, mBox) :: F)) :
    Ev E (tCall (spT tsDraw) [] E0 (tCons ta (tCons tb tNil))) Γ ((b, mBox) :: F) k X :=
  ev_callB (b := b) (F := F) (eap_cons hb (eap_cons hn eap_nil) _ _ ⟨F, rfl, b, n, rfl, h1, h2, rfl, fun r a b => q r a b⟩)
theorem at_some {α : Type} (l : List α) {r : Int} (h0 : 0 ≤ r) (h1 : r < l.length) : ∃ x, atI l r = some x ∧ x ∈ l := by
  have h : r.toNat < l.length := by omega
  refine ⟨l[r.toNat], ?_, List.getElem_mem h⟩
  have := atI_nat (xs := l) (j := r.toNat) (v := l[r.toNat]) (by simp)
  rwa [show ((r.toNat : Nat) : Int) = r by omega] at this
end
/-- draw one of a list, a tuple, a text -/
def tsOf (K : PySem.W.Frag) : TSp := fun Rs M k _ =>
  (∃ b rs, Rs = [iRef b, iLst rs] ∧ 0 < rs.length ∧ rs.length ≤ 1000000 ∧ M = [(b, mBox)] ∧ ∀ r ∈ rs, k r [(b, mBox)]) ∨
  (∃ b rs, Rs = [iRef b, aTup K rs] ∧ 0 < rs.length ∧ rs.length ≤ 1000000 ∧ M = [(b, mBox)] ∧ ∀ r ∈ rs, k r [(b, mBox)]) ∨
  (∃ b z, Rs = [iRef b, aStr z] ∧ 0 < z.length ∧ z.length ≤ 1000000 ∧ M = [(b, mBox)] ∧ ∀ c ∈ z.cps.toList, k (aStr ⟨#[c]⟩) [(b, mBox)])
end L3

namespace L3
open PySem L2 RZ PyProof.Rows
/-! ### isinstance -/
def iTy (n : String) : Rep := ⟨fun _ v => v = .ty n, fun _ h => h⟩
def iTupS (rs : List Rep) : Rep := ⟨fun S v => ∃ a xs, v = .ref a ∧ S a = some (.tup xs) ∧ All2 S rs xs, fun e ⟨a, xs, h1, h2, h3⟩ => ⟨a, xs, h1, e _ _ h2, h3.mono e⟩⟩
section
variable {E : XK} {K : PySem.W.Frag} {Γ : Ct} {M : SH} {k : KR} {X : KX} {R R1 R2 : Rep} {te ta tb tl : TE} {vs : List Nat} {D : EndT} {t u : TS} {c tt : TT} {tr : TA}
theorem ep_ty {n : String} : Ep E (tC (.ty n)) Γ M (iTy n) := ep_c fun _ => rfl
/-- R tells the type -/
def IsT (K : PySem.W.Frag) (R : Rep) (T : String) : Prop := ∀ S H v, Same S H → R.p S v → TyX K H v (.type T)
theorem isT_int {i : Int} : IsT K (iInt i) "int" := fun S H v _ p => by cases p; exact .base (.int i)
theorem isT_lst {rs : List Rep} : IsT K (iLst rs) "list" := fun S H v e p => by
  obtain ⟨a, xs, rfl, h, _⟩ := p
  exact .base (.lst (e _ _ h))
theorem isT_tup {rs : List Rep} : IsT K (aTup K rs) "tuple" := fun S H v e p => by
  obtain ⟨a, xs, rfl, h, _⟩ := p
  rcases h with (h | ⟨o, h⟩) | ⟨o, its, n, h, hc, _⟩
  · exact .base (.tup (e _ _ h))
  · exact .fTuple (e _ _ h)
  · exact .kTuple h hc
theorem c_isi {T n : String} {b : Bool} (h : IsT K R T) (hb : kitB T n = some b) : Olp (rIsi K) [R, iTy n] M (iBl b) := ol_val fun xs S H e _ p => by
  obtain ⟨v, w, rfl, p1, p2⟩ := all2_2 p
  cases p2
  exact ⟨_, rfl, fun Q q => ⟨v, .ty n, _, _, b, rfl, .ty n, h S H v e p1, kit_ty hb, q⟩⟩
end
/-! ### data that the law's own likeness takes -/
inductive Fit : Nat → PyData → Prop
  | non {n : Nat} : Fit (n + 1) .none
  | bl {n : Nat} (b : Bool) : Fit (n + 1) (.bool b)
  | int {n : Nat} (i : Int) : Fit (n + 1) (.int i)
  | str {n : Nat} (s : Str) : Fit (n + 1) (.str s)
  | list {n : Nat} {ds : List PyData} (hl : ds.length ≤ 1000000) (h : ∀ d ∈ ds, Fit n d) : Fit (n + 1) (.list ds)
  | tup {n : Nat} {ds : List PyData} (hl : ds.length ≤ 1000000) (h : ∀ d ∈ ds, Fit n d) : Fit (n + 1) (.tuple ds)
def tsLike (K : PySem.W.Frag) (n : Nat) : TSp := pureTs (fun d : PyData => [iDat K d, iDat K d]) (Fit n) (fun _ => iBl true)
end L3

namespace L3
open PySem L2 RZ PyProof.Rows
/-! ### a list or a tuple, walked -/
def iSeq (K : PySem.W.Frag) (tl : TE) : TI := fun σ H R => tl σ H fun x H1 => (∃ a, x = .ref a ∧ (∃ xs, SqL K H1 a xs) ∧ R (Itl K a) H1) ∨ ∃ a, x = .ref a ∧ (∃ xs, SqT K H1 a xs) ∧ R (Itt K a) H1
section
variable {X : Cx} {tg : Expr}
theorem walk_new {pins : List (Addr × Obj)} {σ : L2.St} {H : Hp} {s : Shared} {R : It → Hp → Prop} {J : It} {o : Obj} {tn : Nat → Heap → Prop} (I : Inv X pins σ H s) (T : Turn X.prog X.w X.K tg J [s.heap.objs.size] s.heap.objs.size tn) (h0 : tn 0 (s.heap.push o)) (q : R J H) :
    PIE X pins σ tg R (.ref s.heap.objs.size) { s with heap := s.heap.push o } := by
  have Ik : Inv X pins σ H { s with heap := s.heap.push o, toks := s.toks } := I.kept fun _ _ z => Heap.get?_push_of_some _ z
  refine ⟨_, _, _, J, H, rfl, Ik, T, h0, ?_, q⟩
  intro c hc
  rw [List.mem_singleton.mp hc]
  exact I.fpOk (Nat.le_refl _) (I.hok.fresh (Nat.le_refl _))
theorem pi_seq {l : Expr} {tl : TE} (hl : PE X l tl) : PI X tg l (iSeq X.K tl) := ⟨fun pins s σ H R I h => by
  refine thn (hl.run pins s σ H _ I h) fun v s1 hx => ?_
  obtain ⟨x, H1, I1, r1, hc⟩ := hx
  rcases hc with ⟨a, rfl, ⟨xs, hs⟩, q⟩ | ⟨a, rfl, ⟨xs, hs⟩, q⟩
  · cases r1
    obtain ⟨its, _, pl, _⟩ := I1.list hs
    exact wpAny_pyIter_list pl.isList (walk_new I1 (turn_list a _) ⟨_, Heap.get?_push_size _ rfl, rfl, rfl⟩ q)
  · cases r1
    obtain ⟨its, _, pt, _⟩ := I1.tuple hs
    exact wpAny_pyIter_tuple (show s1.heap.IsTuple a its.toArray from pt) (walk_new I1 (turn_tuple a _) ⟨_, Heap.get?_push_size _ rfl, rfl, rfl⟩ q)⟩
end
section
variable {E : XK} {K : PySem.W.Frag} {Γ : Ct} {M : SH} {k : KR} {X : KX} {R R1 R2 : Rep} {te ta tb tc tl : TE} {vs : List Nat} {D : EndT} {t u : TS} {c tt : TT} {tr : TA}
/-- a list or a tuple of these -/
def aSeq (K : PySem.W.Frag) (rs : List Rep) : Rep := ⟨fun S v => (iLst rs).p S v ∨ (aTup K rs).p S v, fun e h => h.elim (fun z => .inl ((iLst rs).m e z)) (fun z => .inr ((aTup K rs).m e z))⟩
theorem seq_l {rs : List Rep} (S : Hp) (v : V) (h : (iLst rs).p S v) : (aSeq K rs).p S v := .inl h
theorem seq_t {rs : List Rep} (S : Hp) (v : V) (h : (aTup K rs).p S v) : (aSeq K rs).p S v := .inr h
theorem tip_seq {rl : List Rep} (h : Ep E tl Γ M (aSeq K rl)) : Tip E (iSeq K tl) Γ M rl.length (fun i r => rl[i]? = some r) := fun ki X q σ S H R I o ox =>
  h (fun R' M' => R' = aSeq K rl ∧ M' = M) X ⟨rfl, rfl⟩ σ S H _ I (fun v S2 H2 R' M2 ⟨e1, e2⟩ st p => by
    subst e1; subst e2
    rcases p with ⟨a, xs, rfl, p1, p2⟩ | ⟨a, xs, rfl, p1, p2⟩
    · exact .inl ⟨a, rfl, ⟨xs, SqL.of (st.e _ _ p1)⟩, o _ S2 H2 _ _ _ q st (tw_list p1 p2)⟩
    · exact .inr ⟨a, rfl, ⟨xs, Same.sqt st.e p1⟩, o _ S2 H2 _ _ _ q st (tw_tup p1 p2)⟩) ox
theorem c_lenQ {rs : List Rep} : Olp (rLn K) [aSeq K rs] M (iInt rs.length) := fun k q xs S H Q e m h o => by
  obtain ⟨v, rfl, h1⟩ := all2_1 h
  rcases h1 with h1 | h1
  · exact c_lenL k q [v] S H Q e m ⟨h1, True.intro⟩ o
  · exact c_lenT k q [v] S H Q e m ⟨h1, True.intro⟩ o
theorem o_ixQ {rs : List Rep} {i : Int} (h : atI rs i = some R) : O2p (rIx K) (aSeq K rs) (iInt i) M R := fun k q x y S H Q e m h1 h2 o => by
  rcases h1 with h1 | h1
  · exact Or.inl (o_ixL (K := K) h k q x y S H Q e m h1 h2 o)
  · exact Or.inr (Or.inl (o_ixT h k q x y S H Q e m h1 h2 o))
theorem c_tupQ {rs : List Rep} : Olp (rTupOf K) [aSeq K rs] M (aTup K rs) := fun k q xs S H Q e m h o => by
  obtain ⟨v, rfl, h1⟩ := all2_1 h
  rcases h1 with h1 | h1
  · exact c_tupL k q [v] S H Q e m ⟨h1, True.intro⟩ o
  · exact c_tupT k q [v] S H Q e m ⟨h1, True.intro⟩ o
theorem c_listQ {rs : List Rep} : Olp (rListOf K) [aSeq K rs] M (iLst rs) := fun k q xs S H Q e m h o => by
  obtain ⟨v, rfl, h1⟩ := all2_1 h
  rcases h1 with h1 | h1
  · exact c_listL k q [v] S H Q e m ⟨h1, True.intro⟩ o
  · exact c_listT k q [v] S H Q e m ⟨h1, True.intro⟩ o
theorem o_rep2 {rs : List Rep} (h : rs.length ≤ 400000) : O2p rRep (iLst rs) (iInt 2) M (iLst (rs ++ rs)) := o2_newL fun x y S H e _ h1 h2 => by
  obtain ⟨a, xs, rfl, q1, q2⟩ := h1
  cases h2
  refine ⟨xs ++ xs, q2.app q2, fun Q q => ⟨a, 2, xs, rfl, rfl, e _ _ q1, by decide, by decide, ?_, fun p hp => ?_⟩⟩
  · rw [q2.len]; exact sz_le (by show rs.length * 2 ≤ 1000000; omega)
  · have : (List.replicate (2 : Int).toNat xs).flatten = xs ++ xs := by
      show (List.replicate 2 xs).flatten = xs ++ xs
      simp [List.replicate]
    rw [this]
    exact q p hp
/-! ### ranges with a step -/
theorem ti_rng3 {ki : Nat → (Nat → Rep → Prop) → SH → Prop} (h : Ea E tr Γ M (fun Rs M1 => ∃ (i j c : Int) (n : Nat), Rs = [iInt i, iInt j, iInt c] ∧ RgC i j c n ∧ ki n (fun t r => r = iInt (i + (t : Nat) * c)) M1) X) : Ti E (iRng3 tr) Γ M ki X := fun σ S H R I o ox =>
  h σ S H _ I (fun xs S2 H2 Rs M2 ⟨i, j, c, n, e, hr, q⟩ st p => by
    subst e
    match xs, p with
    | [], p => exact p.elim
    | [_], p => exact p.2.elim
    | [_, _], p => exact p.2.2.elim
    | _ :: _ :: _ :: _ :: _, p => exact p.2.2.2.elim
    | [v1, v2, v3], p =>
      obtain ⟨p1, p2, p3, _⟩ := p
      cases p1; cases p2; cases p3
      exact ⟨i, j, c, n, rfl, hr, o _ S2 H2 n _ M2 q st ⟨_, _, walk_rangeC, fun _ _ _ _ => True.intro, fun t H x H' _ y Sx Mx _ e2 m => by
        obtain ⟨rfl, rfl⟩ := y
        exact ⟨Sx, _, Stp.refl e2 m, rfl, rfl⟩⟩⟩) ox
end
end L3

namespace L3
open PySem L2 RZ PyProof.Rows
section
variable {E : XK} {K : PySem.W.Frag} {Γ : Ct} {M : SH} {k : KR} {X : KX} {R R1 R2 : Rep} {te ta tb tc tl : TE} {vs : List Nat} {D : EndT} {t u : TS} {c tt : TT} {tr : TA}
theorem ev_int {i : Int} (q : k (iInt i) M) : Ev E (tC (.int i)) Γ M k X := ep_int _ _ q
theorem ev_str {z : Str} (q : k (aStr z) M) : Ev E (tC (.str z)) Γ M k X := ep_str _ _ q
theorem ev_bl {b : Bool} (q : k (iBl b) M) : Ev E (tC (.bl b)) Γ M k X := ep_bl _ _ q
theorem ev_non (q : k iNon M) : Ev E (tC .non) Γ M k X := ep_non _ _ q
theorem ev_ty {n : String} (q : k (iTy n) M) : Ev E (tC (.ty n)) Γ M k X := ep_ty _ _ q
theorem ev_notV (h : Ev E ta Γ M (fun R M1 => ∃ b, R = iBl b ∧ k (iBl (!b)) M1) X) : Ev E (tNotV ta) Γ M k X := fun σ S H Q I o ox =>
  h σ S H _ I (fun v S2 H2 R M2 ⟨b, e, q⟩ st p => by
    subst e; cases p
    exact ⟨b, rfl, o _ S2 H2 (iBl (!b)) _ q st rfl⟩) ox
theorem ev_call_at {sp : Sp} {dvs : List V} {E' : XK} (h : Ev E (tCall sp dvs E' tr) Γ M k X) : Ev E (tCall sp dvs E' tr) Γ M k X := h
theorem ev_varM {i : Nat} (h : ∃ R, Γ[i]? = some (some R) ∧ k R M) : Ev E (tVar i) Γ M k X := let ⟨_, h1, h2⟩ := h; ev_var h1 h2
theorem k_at {i : Nat} {P : Rep → Prop} (h : Γ[i]? = some (some R)) (q : P R) : ∃ R, Γ[i]? = some (some R) ∧ P R := ⟨R, h, q⟩
/-- the words of the walk -/
theorem k_b {b : Bool} {P : Bool → Prop} (h : P b) : ∃ c, iBl b = iBl c ∧ P c := ⟨b, rfl, h⟩
theorem k_len {n : Nat} {P : Prop} (hn : n ≤ 1000000) (h : P) : n ≤ 1000000 ∧ P := ⟨hn, h⟩
theorem k_par {P : Rep → Rep → Prop} (h : P R1 R2) : ∃ A B, [R1, R2] = [A, B] ∧ P A B := ⟨_, _, rfl, h⟩
theorem k_str {z : Str} {P : Str → Prop} (h : P z) : ∃ c, aStr z = aStr c ∧ P c := ⟨z, rfl, h⟩
theorem k_lst {rs : List Rep} {P : List Rep → Prop} (h : P rs) : ∃ c, iLst rs = iLst c ∧ P c := ⟨rs, rfl, h⟩
theorem k_tup {rs : List Rep} {P : List Rep → Prop} (h : P rs) : ∃ c, aTup K rs = aTup K c ∧ P c := ⟨rs, rfl, h⟩
theorem k_t {P Q : Prop} (h : P) : if true = true then P else Q := by simpa using h
theorem k_f {P Q : Prop} (h : Q) : if false = true then P else Q := by simpa using h
theorem k_nt {P Q : Prop} (h : Q) : if (!true) = true then P else Q := by simpa using h
theorem k_nf {P Q : Prop} (h : P) : if (!false) = true then P else Q := by simpa using h
theorem cmul_at {a b : Int} (h : CMul a b) : CMul a b := h
theorem nle_at {a b : Nat} (h : a ≤ b) : a ≤ b := h
theorem ile_at {a b : Int} (h : a ≤ b) : a ≤ b := h
theorem ilt_at {a b : Int} (h : a < b) : a < b := h
theorem ol_at {rl : List V → Hp → VK → Prop} {Rs : List Rep} (h : Ol rl Rs M k) : Ol rl Rs M k := h
theorem o1_at {r : V → Hp → VK → Prop} (h : O1 r R1 M k) : O1 r R1 M k := h
theorem o2_at {r : L2.R2} (h : O2 r R1 R2 M k) : O2 r R1 R2 M k := h
theorem ep_at (h : ∀ (k : KR) (X : KX), k R M → Ev E te Γ M k X) : Ep E te Γ M R := h
theorem etp_at {b : Bool} (h : ∀ (k : Bool → SH → Prop) (X : KX), k b M → Et E c Γ M k X) : Etp E c Γ M b := h
theorem eap_at {Rs : List Rep} (h : ∀ (k : List Rep → SH → Prop) (X : KX), k Rs M → Ea E tr Γ M k X) : Eap E tr Γ M Rs := h
/-- weaker words of arguments -/
def LeS (a b : List Rep) : Prop := ∀ S vs, All2 S a vs → All2 S b vs
theorem leS_rfl {a : List Rep} : LeS a a := fun _ _ h => h
theorem leS_nil : LeS [] [] := fun _ _ h => h
theorem leS_cons {a b : List Rep} (h : ∀ S v, R1.p S v → R2.p S v) (h2 : LeS a b) : LeS (R1 :: a) (R2 :: b) := fun S vs p => by
  match vs, p with
  | [], p => exact p.elim
  | v :: vs, p => exact ⟨h S v p.1, h2 S vs p.2⟩
/-- a call of a def that only reckons -/
theorem ev_callP0 {α : Type} {args : α → List Rep} {pre : α → Prop} {res : α → Rep} (h : Ea E tr Γ M (fun Rs M1 => ∃ x, LeS Rs (args x) ∧ pre x ∧ k (res x) M1) X) : Ev E (tCall (spT (pureTs args pre res)) [] E0 tr) Γ M k X :=
  ev_call0 (Ds := []) (fun _ => True.intro) fun σ S H Q I o ox => h σ S H Q I (fun vs S2 H2 Rs M2 ⟨x, e, hp, q⟩ st p => o vs S2 H2 (args x) M2 ⟨[], M2, rfl, x, by rw [List.append_nil], hp, rfl, q⟩ st (e S2 vs p)) ox
/-- a def that changes nothing, with several ends -/
def pureK (sp : List Rep → (Rep → Prop) → Prop) : TSp := fun Rs M k _ => M = [] ∧ sp Rs fun R => k R []
theorem ev_callK {sp : List Rep → (Rep → Prop) → Prop} (h : Ea E tr Γ M (fun Rs M1 => ∃ Rs', LeS Rs Rs' ∧ sp Rs' fun R => k R M1) X) : Ev E (tCall (spT (pureK sp)) [] E0 tr) Γ M k X :=
  ev_call0 (Ds := []) (fun _ => True.intro) fun σ S H Q I o ox => h σ S H Q I (fun vs S2 H2 Rs M2 ⟨Rs', e, q⟩ st p => o vs S2 H2 Rs' M2 ⟨[], M2, rfl, rfl, by rw [List.append_nil]; exact q⟩ st (e S2 vs p)) ox
/-- a def that draws, and changes nothing else -/
def boxK (sp : List Rep → (Rep → Prop) → Prop) : TSp := fun Rs M k _ => ∃ b Rs', Rs = iRef b :: Rs' ∧ M = [(b, mBox)] ∧ sp Rs' fun R => k R [(b, mBox)]
theorem ev_callB2 {sp : List Rep → (Rep → Prop) → Prop} (h : Ea E tr Γ M (fun Rs M1 => ∃ b Rs0 F, Rs = iRef b :: Rs0 ∧ M1 = (b, mBox) :: F ∧ ∃ Rs', LeS Rs0 Rs' ∧ sp Rs' fun R => k R M1) X) : Ev E (tCall (spT (boxK sp)) [] E0 tr) Γ M k X :=
  ev_call0 (Ds := []) (fun _ => True.intro) fun σ S H Q I o ox => h σ S H Q I (fun vs S2 H2 Rs M2 ⟨b, Rs0, F, e, eM, Rs', le, q⟩ st p => o vs S2 H2 (iRef b :: Rs') M2 ⟨[(b, mBox)], F, by rw [eM]; rfl, b, Rs', by rw [List.append_nil], rfl, by rw [eM] at q; exact q⟩ st (by
    subst e
    match vs, p with
    | [], p => exact p.elim
    | v :: vs, p => exact ⟨p.1, le S2 vs p.2⟩)) ox
theorem k_box {b : Addr} {Rs : List Rep} {F : SH} {P : Addr → List Rep → SH → Prop} (h : P b Rs F) : ∃ c Rs0 G, iRef b :: Rs = iRef c :: Rs0 ∧ (b, mBox) :: F = (c, mBox) :: G ∧ P c Rs0 G := ⟨b, Rs, F, rfl, rfl, h⟩
def tsOf2 (K : PySem.W.Frag) : TSp := boxK fun Rs q =>
  (∃ rs, Rs = [iLst rs] ∧ 0 < rs.length ∧ rs.length ≤ 1000000 ∧ ∀ r ∈ rs, q r) ∨
  (∃ rs, Rs = [aTup K rs] ∧ 0 < rs.length ∧ rs.length ≤ 1000000 ∧ ∀ r ∈ rs, q r) ∨
  (∃ z : Str, Rs = [aStr z] ∧ 0 < z.length ∧ z.length ≤ 1000000 ∧ ∀ c ∈ z.cps.toList, q (aStr ⟨#[c]⟩))
/-- a call, all of the symbolic heap handed over -/
theorem ev_callT {ts : TSp} (h : Ea E tr Γ M (fun Rs M1 => ∃ Mf Fr, M1 = Mf ++ Fr ∧ ts Rs Mf (fun R M2 => k R (M2 ++ Fr)) X0) X) : Ev E (tCall (spT ts) [] E0 tr) Γ M k X :=
  ev_call0 (Ds := []) (fun _ => True.intro) fun σ S H Q I o ox => h σ S H Q I (fun vs S2 H2 Rs M2 ⟨Mf, Fr, e, q⟩ st p => o vs S2 H2 Rs M2 ⟨Mf, Fr, e, by rw [List.append_nil]; exact q⟩ st p) ox
/-- a draw, the box first in the heap -/
theorem ev_draw0 (h : Ea E tr Γ M (fun Rs M1 => ∃ b n F, Rs = [iRef b, iInt n] ∧ M1 = (b, mBox) :: F ∧ 0 < n ∧ n < 2 ^ 100 ∧ ∀ r : Int, 0 ≤ r → r < n → k (iInt r) M1) X) : Ev E (tCall (spT tsDraw) [] E0 tr) Γ M k X :=
  ev_callT fun σ S H Q I o ox => h σ S H Q I (fun vs S2 H2 Rs M2 ⟨b, n, F, e, eM, h1, h2, q⟩ st p => o vs S2 H2 Rs M2 ⟨[(b, mBox)], F, by rw [eM]; rfl, b, n, e, h1, h2, rfl, fun r r0 r1 => by
    have := q r r0 r1
    rw [eM] at this
    exact this⟩ st p) ox
theorem k_draw {b : Addr} {n : Int} {F : SH} {P : Addr → Int → SH → Prop} (hn : 0 < n ∧ n < 2 ^ 100) (h : P b n F) : ∃ c m G, [iRef b, iInt n] = [iRef c, iInt m] ∧ (b, mBox) :: F = (c, mBox) :: G ∧ 0 < m ∧ m < 2 ^ 100 ∧ P c m G := ⟨b, n, F, rfl, rfl, hn.1, hn.2, h⟩
theorem k_nat {n : Int} {P : Int → Prop} (h : ∀ r : Nat, (r : Int) < n → P r) : ∀ r : Int, 0 ≤ r → r < n → P r := fun r h0 h1 => by
  obtain ⟨m, rfl⟩ := Int.eq_ofNat_of_zero_le h0
  exact h m h1
theorem ev_rev (h : Ev E te Γ M (fun R M1 => ∃ rs, R = iLst rs ∧ k (iLst rs.reverse) M1) X) : Ev E (tRevL K te) Γ M k X := fun σ S H Q I o ox =>
  h σ S H _ I (fun v S1 H1 R' M1 ⟨rs, e, q⟩ st p => by
    subst e
    obtain ⟨a, xs, rfl, q1, q2⟩ := p
    exact ⟨a, xs, rfl, SqL.of (st.e _ _ q1), fun b hb => o (.ref b) (upd S1 b (.lst xs.reverse)) _ (iLst rs.reverse) _ q (st.trans (Stp.newS st.e st.m hb)) ⟨b, _, rfl, upd_same, q2.rev.mono (Same.newS (Same.refl _) (st.e.free hb))⟩⟩) ox
end
/-! ### loops with a word of their own; slots forgotten -/
inductive Wk : Ct → Ct → Prop
  | nil : Wk [] []
  | no {c : Option Rep} {a b : Ct} : Wk a b → Wk (none :: a) (c :: b)
  | so {R : Rep} {a b : Ct} : Wk a b → Wk (some R :: a) (some R :: b)
theorem Wk.len {a b : Ct} (h : Wk a b) : b.length = a.length := by
  induction h with
  | nil => rfl
  | no _ ih => simp [ih]
  | so _ ih => simp [ih]
theorem Wk.at {a b : Ct} (h : Wk a b) : ∀ (i : Nat) (R : Rep), a[i]? = some (some R) → b[i]? = some (some R) := by
  induction h with
  | nil => intro i R e; simp at e
  | no _ ih =>
    intro i R e
    cases i with
    | zero => simp at e
    | succ i => simpa using ih i R (by simpa using e)
  | so _ ih =>
    intro i R e
    cases i with
    | zero => simpa using e
    | succ i => simpa using ih i R (by simpa using e)
theorem Wk.refl : ∀ a : Ct, Wk a a
  | [] => .nil
  | none :: a => .no (Wk.refl a)
  | some _ :: a => .so (Wk.refl a)
section
variable {E : XK} {K : PySem.W.Frag} {Γ Γ0 : Ct} {M : SH} {k : KR} {X : KX} {R : Rep} {te : TE} {vs : List Nat} {D : EndT} {t : TS} {c : TT} {wi : TI} {g : TG}
theorem st_wk (w : Wk Γ0 Γ) (h : St E t Γ0 M D) : St E t Γ M D := st_ctx h w.len w.at
theorem tg_wk {kc : KC} (w : Wk Γ0 Γ) (h : Tg g R Γ0 M vs kc) : Tg g R Γ M vs kc := fun v σ S H Q I p o => h v σ S H Q (I.weak w.len.symm w.at) p o
def LJ {α : Type} (P : α → Prop) (G : α → Ct) (N : α → SH) : KC := fun Γ M => ∃ a, P a ∧ Wk (G a) Γ ∧ M = N a
theorem lj {α : Type} {P : α → Prop} {G : α → Ct} {N : α → SH} (a : α) (h1 : P a) (h2 : Wk (G a) Γ) (h3 : M = N a) : LJ P G N Γ M := ⟨a, h1, h2, h3⟩
/-- what is walked, the words of the loop behind it -/
def FJ (E : XK) (g : TG) (t : TS) (D : EndT) (α : Type) (Γ : Ct) (n : Nat) (rs : Nat → Rep → Prop) (M : SH) : Prop :=
  ∃ (P : Nat → α → Prop) (G : α → Ct) (N : α → SH), LJ (P 0) G N Γ M ∧ (∀ i r a, i < n → rs i r → P i a → Tg g r (G a) (N a) [] fun Γ2 M2 => St E t Γ2 M2 { D with nx := LJ (P (i + 1)) G N, ct := LJ (P (i + 1)) G N, bk := D.nx }) ∧ ∀ a Γ1, P n a → Wk (G a) Γ1 → D.nx Γ1 (N a)
theorem st_forG (α : Type) (h : Ti E wi Γ M (FJ E g t D α Γ) D.ex) : St E (tFor wi g t) Γ M D := st_for fun σ S H R I o ox =>
  h σ S H R I (fun J S1 H1 n rs M1 ⟨P, G, N, h0, h1, h2⟩ st w => o J S1 H1 n rs M1 ⟨fun i => LJ (P i) G N, h0, fun i r Γ1 M1 hi hr ⟨a, ha, hw, hm⟩ => by
    subst hm
    exact tg_wk hw (h1 i r a hi hr ha), fun Γ1 M1 ⟨a, ha, hw, hm⟩ => by
    subst hm
    exact h2 a Γ1 ha hw⟩ st w) ox
end
theorem atI_0 {α : Type} {x : α} {l : List α} : atI (x :: l) 0 = some x := atI_nat (xs := x :: l) (j := 0) (v := x) (by simp)
/-! ### likeness -/
def FitAll (n : Nat) (ds : List PyData) : Prop := ∀ d ∈ ds, Fit n d
theorem fitA_nil {n : Nat} : FitAll n [] := fun _ h => by cases h
theorem fitA_cons {n : Nat} {d : PyData} {ds : List PyData} (h : Fit n d) (h2 : FitAll n ds) : FitAll n (d :: ds) := fun x hx => by
  rcases List.mem_cons.mp hx with e | e
  · rw [e]; exact h
  · exact h2 x e
theorem fit_l {n : Nat} {ds : List PyData} (h : FitAll n ds) (hl : ds.length ≤ 1000000) : Fit (n + 1) (.list ds) := .list hl h
theorem fit_t {n : Nat} {ds : List PyData} (h : FitAll n ds) (hl : ds.length ≤ 1000000) : Fit (n + 1) (.tuple ds) := .tup hl h
/-- the written part, as the trees name it -/
theorem cxK {CX : CXT} {P : Program} {w : World} {K : PySem.W.Frag} {mg : Str → Option Value} {base : Heap} {N : List Str} {qual : Str} {scope : Scope} {f : Addr} {cd : Value} {A : Around} {outer : List PySem.Env} {s : Shared} {H : Hp} {E : XK} : (cxOf CX P w K mg base N qual scope f cd A outer s H E).nox.K = K := rfl
theorem cxKX {CX : CXT} {P : Program} {w : World} {K : PySem.W.Frag} {mg : Str → Option Value} {base : Heap} {N : List Str} {qual : Str} {scope : Scope} {f : Addr} {cd : Value} {A : Around} {outer : List PySem.Env} {s : Shared} {H : Hp} {E : XK} : (cxOf CX P w K mg base N qual scope f cd A outer s H E).K = K := rfl
end L3

namespace L3
open PySem PySem.Spec PySem.W L2 RZ PyProof.Rows
/-! ### first, *rest = a list or a tuple -/
/-- what the spreading of one head and a rest asks of the thing spread: it is iterable, its iterator gives x, then all the others -/
structure Spread (P : Program) (w : World) (A : Around) (E : Value → Shared → Prop) (s : Shared) (v x : Value) (rest : List Value) : Prop where
  ok : ∀ Q : Bool → Shared → Prop, Q false s → wpAny (model P w) A (notIterableAtAll v) Q E s
  go : ∃ (J0 J1 : Addr → Heap → Prop),
    (∀ Q : Value → Shared → Prop, (∀ (it : Addr) (h : Heap), (∀ b o, s.heap.get? b = some o → h.get? b = some o) → J0 it h → Q (.ref it) { s with heap := h }) → wpAny (model P w) A (pyIter v) Q E s) ∧
    (∀ (it : Addr) (h0 : Heap) (Q : List Value → Shared → Prop), (∀ b o, s.heap.get? b = some o → h0.get? b = some o) → J0 it h0 → (∀ h : Heap, (∀ b o, s.heap.get? b = some o → h.get? b = some o) → J1 it h → Q [x] { s with heap := h }) → wpAny (model P w) A (draw (.ref it) 1) Q E { s with heap := h0 }) ∧
    (∀ (it : Addr) (h1 : Heap) (Q : List Value → Shared → Prop), (∀ b o, s.heap.get? b = some o → h1.get? b = some o) → J1 it h1 → (∀ (h : Heap) (tk : Nat), (∀ b o, s.heap.get? b = some o → h.get? b = some o) → Q rest { s with heap := h, toks := tk }) → wpAny (model P w) A (collect (.ref it)) Q E { s with heap := h1 })
theorem Spread.run {P : Program} {w : World} {A : Around} {E : Value → Shared → Prop} {s : Shared} {v x : Value} {rest : List Value} (sp : Spread P w A E s v x rest) (hz : rest.length ≤ 16000) {Q : List Value → Shared → Prop}
    (h : ∀ (h' : Heap) (tk : Nat), (∀ b o, s.heap.get? b = some o → h'.get? b = some o) → Q [x, .ref h'.objs.size] { s with heap := h'.push { cls := .type "list", data := .seq rest.toArray }, toks := tk }) : wpAny (model P w) A (unpackItems v 2 (some 1)) Q E s := by
  obtain ⟨J0, J1, g0, g1, g2⟩ := sp.go
  have hlast : ∀ (h1 : Heap) (tk : Nat), (∀ b o, s.heap.get? b = some o → h1.get? b = some o) →
      wpAny (model P w) A (newList (rest.take (rest.length - 0)) >>= fun d => pure ([x] ++ [d] ++ rest.drop (rest.length - 0))) Q E { s with heap := h1, toks := tk } := fun h1 tk k1 => by
    rw [Nat.sub_zero, List.take_length, List.drop_length]
    exact wpAny_bind (wpAny_newList (s := { s with heap := h1, toks := tk }) (wpAny_pure (h h1 tk k1)) (by rw [sizeLine_eq]; omega))
  unfold unpackItems
  refine wpAny_bind (sp.ok _ ?_)
  rw [if_neg Bool.false_ne_true]
  refine wpAny_bind (wpAny_holding (g0 _ fun it h0 k0 j0 => ?_))
  refine wpAny_bind (wpAny_holding (g1 it h0 _ k0 j0 fun h1 k1 j1 => ?_))
  rw [if_neg (show ¬ [x].length < 1 from Nat.lt_irrefl 1)]
  refine wpAny_bind (wpAny_holding (g2 it h1 _ k1 j1 fun h2 tk k2 => ?_))
  show wpAny _ _ (if rest.length < 0 then _ else _) _ _ _
  rw [if_neg (Nat.not_lt_zero _)]
  exact hlast h2 tk k2
section
variable {P : Program} {w : World} {A : Around} {E : Value → Shared → Prop} {s : Shared} {l : Addr} {items : Array Value} {x : Value} {rest : List Value}
end
def gStar (K : PySem.W.Frag) (t : TGs) : TG := fun v σ H Q => ∃ a x xs, v = .ref a ∧ (SqL K H a (x :: xs) ∨ SqT K H a (x :: xs)) ∧ xs.length ≤ 16000 ∧ ∀ p, H p = none → t [x, .ref p] σ (upd H p (.lst xs)) Q
section
variable {X : Cx} {e0 e1 : Expr} {t : TGs} {sp pos : Pos} {kk : Nat}
end
section
variable {K : PySem.W.Frag} {Γ : Ct} {M : SH} {R : Rep} {vs : List Nat} {k : KC} {g0 g1 : TG}
theorem tg_star_at {gs : TGs} (h : Tg (gStar K gs) R Γ M vs k) : Tg (gStar K gs) R Γ M vs k := h
theorem tg_star {rs : List Rep} (hl : rs.length ≤ 16000) (h : Tgs (gCons g0 (gCons g1 gNil)) [R, iLst rs] Γ M vs k) (R' : Rep) (hR : R' = iLst (R :: rs) ∨ R' = aTup K (R :: rs) ∨ R' = aSeq K (R :: rs)) : Tg (gStar K (gCons g0 (gCons g1 gNil))) R' Γ M vs k := fun v σ S H Q I p o => by
  have go : ∀ a (xs : List V), v = .ref a → (SqL K H a xs ∨ SqT K H a xs) → All2 S (R :: rs) xs → gStar K (gCons g0 (gCons g1 gNil)) v σ H Q := by
    intro a xs e hq p2
    match xs, p2 with
    | [], p2 => exact p2.elim
    | x :: xs, p2 =>
      refine ⟨a, x, xs, e, hq, by rw [All2.len p2.2]; exact hl, fun q hq => ?_⟩
      have st := Stp.newS (o := .lst xs) I.ex I.m hq
      exact h [x, .ref q] σ _ _ Q (I.step st) ⟨R.m st.s p2.1, ⟨q, xs, rfl, upd_same, All2.mono st.s p2.2⟩, True.intro⟩ fun σ2 S2 H2 Γ2 M2 q2 st2 I2 w2 => o σ2 S2 H2 Γ2 M2 q2 (st.trans st2) I2 w2
  rcases hR with e | e | e
  · subst e
    obtain ⟨a, xs, e, q1, q2⟩ := p
    exact go a xs e (.inl (SqL.of (I.ex _ _ q1))) q2
  · subst e
    obtain ⟨a, xs, e, q1, q2⟩ := p
    exact go a xs e (.inr (Same.sqt I.ex q1)) q2
  · subst e
    rcases p with ⟨a, xs, e, q1, q2⟩ | ⟨a, xs, e, q1, q2⟩
    · exact go a xs e (.inl (SqL.of (I.ex _ _ q1))) q2
    · exact go a xs e (.inr (Same.sqt I.ex q1)) q2
end
end L3

namespace L3
open PySem L2 RZ PyProof.Rows
section
variable {E : XK} {K : PySem.W.Frag} {Γ : Ct} {M : SH} {k : KR} {X : KX} {R R1 R2 : Rep} {te ta tb tc tl : TE} {vs : List Nat} {D : EndT} {t u : TS} {c tt : TT} {tr : TA}
/-! ### slices, read from the left -/
def EoC (E : XK) (to : TO) (Γ : Ct) (M : SH) (ko : Option Int → SH → Prop) : Prop := ∀ σ S H (Q : Option Int → Hp → Prop), Nv S H σ Γ M → (∀ o S2 H2 M2, ko o M2 → Stp S H S2 H2 M M2 → Q o H2) → to σ H Q
theorem eoc_none {ko : Option Int → SH → Prop} (h : ko none M) : EoC E tNoPart Γ M ko := fun σ S H Q I o => o none S H M h (Stp.refl I.ex I.m)
theorem eoc_some {ko : Option Int → SH → Prop} (h : Ev E te Γ M (fun R M1 => ∃ i, R = iInt i ∧ ko (some i) M1) X0) : EoC E (tPart te) Γ M ko := fun σ S H Q I o =>
  h σ S H _ I (fun v S2 H2 R M2 ⟨i, e, q⟩ st p => by
    subst e; cases p
    exact ⟨i, rfl, o (some i) S2 H2 M2 q st⟩) (fun _ _ _ _ _ _ z => z.elim)
theorem k_int {i : Int} {P : Int → Prop} (h : P i) : ∃ j, iInt i = iInt j ∧ P j := ⟨i, rfl, h⟩
def Os (r : V → Option Int → Option Int → Hp → VK → Prop) (R : Rep) (lo hi : Option Int) (M : SH) (k : KR) : Prop := ∀ x S H Q, Same S H → MOk S H M → R.p S x → Out S H M k Q → r x lo hi H Q
theorem ev_slC {r : V → Option Int → Option Int → Hp → VK → Prop} {tlo thi : TO} (h : Ev E te Γ M (fun R1 M1 => EoC E tlo Γ M1 fun lo M2 => EoC E thi Γ M2 fun hi M3 => Os r R1 lo hi M3 k) X) : Ev E (tSl r te tlo thi) Γ M k X := fun σ S H Q I o ox =>
  h σ S H _ I (fun v S1 H1 R' M1 q st p => q σ S1 H1 _ (I.step st) fun lo S2 H2 M2 q2 st2 => q2 σ S2 H2 _ (I.step (st.trans st2)) fun hi S3 H3 M3 q3 st3 =>
    q3 v S3 H3 Q st3.e st3.m (R'.m (st2.s.trans st3.s) p) (o.step ((st.trans st2).trans st3))) ox
theorem os_list {rs : List Rep} {lo hi : Option Int} (q : k (iLst (cutL rs lo hi)) M) : Os (rSlL K) (iLst rs) lo hi M k := fun x S H Q e m p o => s_list k q x S H Q e m p o
theorem os_tup {rs : List Rep} {lo hi : Option Int} (q : k (aTup K (cutL rs lo hi)) M) : Os (rSlA K) (aTup K rs) lo hi M k := fun x S H Q e m p o => by
  obtain ⟨a, xs, rfl, h1, h2⟩ := p
  refine ⟨a, xs, rfl, Same.sqt e h1, fun ⟨c1, c2⟩ => ?_, fun _ b hb => ?_⟩
  · refine o (.ref a) S H _ M q (Stp.refl e m) ⟨a, xs, rfl, h1, ?_⟩
    have e2 : cutL rs lo hi = rs := by
      unfold cutL
      rw [← h2.len, c1, c2, Nat.sub_zero, List.drop_zero]
      exact List.take_of_length_le (by rw [h2.len]; exact Nat.le_refl _)
    rw [e2]
    exact h2
  · exact o (.ref b) (upd S b (.tup (cutV xs lo hi))) _ _ M q (Stp.newS e m hb) ⟨b, _, rfl, SqT.of upd_same, (h2.cut lo hi).mono (Same.newS (Same.refl _) (e.free hb))⟩
theorem cutL_drop {α : Type} (l : List α) (n : Nat) : cutL l (some (n : Int)) none = l.drop n := by
  unfold cutL
  rw [HT.sIx_nat, HT.sIx_none]
  by_cases h : n ≤ l.length
  · rw [Nat.min_eq_left h]
    exact List.take_of_length_le (by rw [List.length_drop]; omega)
  · rw [Nat.min_eq_right (by omega), List.drop_of_length_le (Nat.le_refl _), List.drop_of_length_le (by omega)]
    simp
theorem cutL_take {α : Type} (l : List α) (n : Nat) : cutL l none (some (n : Int)) = l.take n := by
  unfold cutL
  rw [HT.sIx_nat, HT.sIx_none, List.drop_zero, Nat.sub_zero]
  by_cases h : n ≤ l.length
  · rw [Nat.min_eq_left h]
  · rw [Nat.min_eq_right (by omega), List.take_of_length_le (Nat.le_refl _), List.take_of_length_le (by omega)]
theorem Wk.trans {a b : Ct} (h : Wk a b) : ∀ {c : Ct}, Wk b c → Wk a c := by
  induction h with
  | nil => intro c h; exact h
  | no _ ih =>
    intro c h
    cases h with
    | no h => exact .no (ih h)
    | so h => exact .no (ih h)
  | so _ ih =>
    intro c h
    cases h with
    | so h => exact .so (ih h)
theorem k_ofL {rs : List Rep} {q : Rep → Prop} (h0 : 0 < rs.length) (h1 : rs.length ≤ 1000000) (h : ∀ r ∈ rs, q r) : ∃ Rs', LeS [iLst rs] Rs' ∧ ((∃ rs, Rs' = [iLst rs] ∧ 0 < rs.length ∧ rs.length ≤ 1000000 ∧ ∀ r ∈ rs, q r) ∨
  (∃ rs, Rs' = [aTup K rs] ∧ 0 < rs.length ∧ rs.length ≤ 1000000 ∧ ∀ r ∈ rs, q r) ∨
  (∃ z : Str, Rs' = [aStr z] ∧ 0 < z.length ∧ z.length ≤ 1000000 ∧ ∀ c ∈ z.cps.toList, q (aStr ⟨#[c]⟩))) := ⟨_, leS_rfl, .inl ⟨rs, rfl, h0, h1, h⟩⟩
theorem k_ofT {rs : List Rep} {q : Rep → Prop} (h0 : 0 < rs.length) (h1 : rs.length ≤ 1000000) (h : ∀ r ∈ rs, q r) : ∃ Rs', LeS [aTup K rs] Rs' ∧ ((∃ rs, Rs' = [iLst rs] ∧ 0 < rs.length ∧ rs.length ≤ 1000000 ∧ ∀ r ∈ rs, q r) ∨
  (∃ rs, Rs' = [aTup K rs] ∧ 0 < rs.length ∧ rs.length ≤ 1000000 ∧ ∀ r ∈ rs, q r) ∨
  (∃ z : Str, Rs' = [aStr z] ∧ 0 < z.length ∧ z.length ≤ 1000000 ∧ ∀ c ∈ z.cps.toList, q (aStr ⟨#[c]⟩))) := ⟨_, leS_rfl, .inr (.inl ⟨rs, rfl, h0, h1, h⟩)⟩
theorem k_ofS {z : Str} {q : Rep → Prop} (h0 : 0 < z.length) (h1 : z.length ≤ 1000000) (h : ∀ c ∈ z.cps.toList, q (aStr ⟨#[c]⟩)) : ∃ Rs', LeS [aStr z] Rs' ∧ ((∃ rs, Rs' = [iLst rs] ∧ 0 < rs.length ∧ rs.length ≤ 1000000 ∧ ∀ r ∈ rs, q r) ∨
  (∃ rs, Rs' = [aTup K rs] ∧ 0 < rs.length ∧ rs.length ≤ 1000000 ∧ ∀ r ∈ rs, q r) ∨
  (∃ z : Str, Rs' = [aStr z] ∧ 0 < z.length ∧ z.length ≤ 1000000 ∧ ∀ c ∈ z.cps.toList, q (aStr ⟨#[c]⟩))) := ⟨_, leS_rfl, .inr (.inr ⟨z, rfl, h0, h1, h⟩)⟩
theorem k_map {α : Type} {f : α → Rep} {l : List α} {P : Rep → Prop} (h : ∀ x ∈ l, P (f x)) : ∀ r ∈ l.map f, P r := fun r hr => by
  obtain ⟨x, hx, rfl⟩ := List.mem_map.mp hr
  exact h x hx
/-! ### tuples put together -/
theorem o_catT {r1 r2 : List Rep} (h : r1.length + r2.length ≤ 1000000) : O2p (rCatA K) (aTup K r1) (aTup K r2) M (aTup K (r1 ++ r2)) := fun k q x y S H Q e m h1 h2 o => by
  obtain ⟨a, xs, rfl, q1, q2⟩ := h1
  obtain ⟨b, ys, rfl, q3, q4⟩ := h2
  have q5 := q2.app q4
  refine ⟨a, b, xs, ys, rfl, rfl, Same.sqt e q1, Same.sqt e q3, by rw [q2.len, q4.len]; exact sz_le h, fun hx => ?_, fun _ hy => ?_, fun _ _ p hp => ?_⟩
  · subst hx
    exact o (.ref b) S H _ M q (Stp.refl e m) ⟨b, ys, rfl, q3, q5⟩
  · subst hy
    rw [List.append_nil] at q5
    exact o (.ref a) S H _ M q (Stp.refl e m) ⟨a, xs, rfl, q1, q5⟩
  · exact o (.ref p) (upd S p (.tup (xs ++ ys))) _ _ M q (Stp.newS e m hp) ⟨p, _, rfl, SqT.of upd_same, q5.mono (Same.newS (Same.refl _) (e.free hp))⟩
/-! ### lists that are changed, by their place in the symbolic heap -/
theorem at_split : ∀ {M : SH} {i : Nat} {a : Addr} {P P' : MRep}, M[i]? = some (a, P) → M = M.take i ++ (a, P) :: M.drop (i + 1) ∧ M.set i (a, P') = M.take i ++ (a, P') :: M.drop (i + 1)
  | [], i, a, P, P', h => by simp at h
  | x :: M, 0, a, P, P', h => by
    have e : x = (a, P) := by simpa using h
    subst e
    exact ⟨rfl, rfl⟩
  | x :: M, i + 1, a, P, P', h => by
    obtain ⟨h1, h2⟩ := at_split (M := M) (i := i) (P' := P') (by simpa using h)
    exact ⟨by simpa using h1, by simpa using h2⟩
theorem at_mem {M : SH} {i : Nat} {x : Addr × MRep} (h : M[i]? = some x) : x ∈ M := List.mem_of_getElem? h
theorem ev_append (h : Ev E ta Γ M (fun R1 M1 => ∃ (a : Addr) (i : Nat) (rs : List Rep), R1 = iRef a ∧ M1[i]? = some (a, mLst rs) ∧ Ea E tr Γ M1 (fun Rs M2 => ∃ (R : Rep) (j : Nat) (rs : List Rep), Rs = [R] ∧ M2[j]? = some (a, mLst rs) ∧ rs.length < 1000000 ∧ k iNon (M2.set j (a, mLst (rs ++ [R])))) X) X) : Ev E (tBM K "list" rAppend ta tr) Γ M k X :=
  ev_bm fun σ S H Q I o ox => h σ S H Q I (fun v S2 H2 R M2 ⟨a, i, rs, e, hm, q⟩ st p => by
    subst e
    refine o v S2 H2 (iRef a) M2 ⟨ty_mLst (at_mem hm), fun σ S H Q I o ox => q σ S H Q I (fun vs S2 H2 Rs M2 ⟨R, j, rs, e, hj, hl, q⟩ st p => ?_) ox⟩ st p
    subst e
    refine o vs S2 H2 [R] M2 ?_ st p
    obtain ⟨e1, e2⟩ := at_split (P' := mLst (rs ++ [R])) hj
    rw [e2] at q
    rw [e1]
    exact om_append hl q) ox
theorem k_app {a : Addr} {M : SH} {i : Nat} {rs : List Rep} {P : Addr → Prop} (hm : M[i]? = some (a, mLst rs)) (h : P a) : ∃ (b : Addr) (i : Nat) (rs : List Rep), iRef a = iRef b ∧ M[i]? = some (b, mLst rs) ∧ P b := ⟨a, i, rs, rfl, hm, h⟩
theorem k_app2_at {a : Addr} {M : SH} {P : Rep → Nat → List Rep → Prop} (h : ∃ (R' : Rep) (j : Nat) (rs : List Rep), [R] = [R'] ∧ M[j]? = some (a, mLst rs) ∧ rs.length < 1000000 ∧ P R' j rs) : ∃ (R' : Rep) (j : Nat) (rs : List Rep), [R] = [R'] ∧ M[j]? = some (a, mLst rs) ∧ rs.length < 1000000 ∧ P R' j rs := h
theorem nlt_at {a b : Nat} (h : a < b) : a < b := h
theorem k_app2 {a : Addr} {M : SH} {j : Nat} {rs : List Rep} {P : Rep → Nat → List Rep → Prop} (hm : M[j]? = some (a, mLst rs)) (hl : rs.length < 1000000) (h : P R j rs) : ∃ (R' : Rep) (j : Nat) (rs : List Rep), [R] = [R'] ∧ M[j]? = some (a, mLst rs) ∧ rs.length < 1000000 ∧ P R' j rs := ⟨R, j, rs, rfl, hm, hl, h⟩
/-- x = [], a list that is to be changed -/
theorem st_asgM {j : Nat} (h : ∀ a, D.nx (Γ.set j (some (iRef a))) (M ++ [(a, mLst [])])) : St E (tAsg (tLst tNil) (gName j)) Γ M D := st_asg (ev_lstM (ea_nil ⟨by simp, fun a => h a⟩))
/-- a list that was changed is told, and stays from then on -/
theorem ev_told (h : Ev E te Γ M (fun R M1 => ∃ (a : Addr) (i : Nat) (rs : List Rep), R = iRef a ∧ M1[i]? = some (a, mLst rs) ∧ k (iLst rs) (M1.eraseIdx i)) X) : Ev E te Γ M k X := ev_fzL (A := []) (B := []) fun σ S H Q I o ox => h σ S H Q I (fun v S2 H2 R M2 ⟨a, i, rs, e, hm, q⟩ st p => by
  refine o v S2 H2 R M2 ⟨a, rs, M2.take i, M2.drop (i + 1), e, (at_split (P' := mLst rs) hm).1, ?_⟩ st p
  rwa [← List.eraseIdx_eq_take_drop_succ]) ox
theorem st_told {i j : Nat} {a : Addr} {rs : List Rep} (hj : Γ[j]? = some (some (iRef a))) (hm : M[i]? = some (a, mLst rs)) (h : St E t (Γ.set j (some (iLst rs))) (M.eraseIdx i) D) : St E t Γ M D := by
  have e := (at_split (P' := mLst rs) hm).1
  rw [e]
  refine st_fzS (i := j) hj ?_
  rwa [← List.eraseIdx_eq_take_drop_succ]
/-! ### calls with defaults, by keywords -/
theorem ev_callPD {α : Type} {args : α → List Rep} {pre : α → Prop} {res : α → Rep} {dvs : List V} {Ds : List Rep} (hd : ∀ S, All2 S Ds dvs) (h : Ea E tr Γ M (fun Rs M1 => ∃ x, LeS (Rs ++ Ds) (args x) ∧ pre x ∧ k (res x) M1) X) : Ev E (tCall (spT (pureTs args pre res)) dvs E0 tr) Γ M k X := fun σ S H Q I o ox =>
  h σ S H _ I (fun xs S1 H1 Rs M1 ⟨x, le, hp, q⟩ st p => by
    refine spT_in (Mf := []) (Fr := M1) (Rs := args x) (X := X0) (k := k) ⟨x, rfl, hp, rfl, q⟩ st.e st.m (le S1 _ (p.app (hd S1))) (o.step st) (fun _ _ _ _ _ _ z => z.elim)) ox
theorem ev_callKP {α : Type} {args : α → List Rep} {pre : α → Prop} {res : α → Rep} {n m : Nat} {tk : TA} {gV : List V → List V → List V} {gR : List Rep → List Rep → List Rep} (hg : ∀ S Rs Zs vs zs, All2 S Rs vs → All2 S Zs zs → All2 S (gR Rs Zs) (gV vs zs))
    (h : Ea E tr Γ M (fun Rs M1 => Rs.length = n ∧ Ea E tk Γ M1 (fun Zs M2 => Zs.length = m ∧ ∃ x, LeS (gR Rs Zs) (args x) ∧ pre x ∧ k (res x) M2) X) X) : Ev E (tCallN n m (spT (pureTs args pre res)) gV E0 tr tk) Γ M k X := fun σ S H Q I o ox =>
  h σ S H _ I (fun vs S1 H1 Rs M1 ⟨e1, q⟩ st p => q σ S1 H1 _ (I.step st) (fun zs S2 H2 Zs M2 ⟨e2, x, le, hp, q2⟩ st2 p2 => by
    refine ⟨p.len.trans e1, p2.len.trans e2, ?_⟩
    refine spT_in (Mf := []) (Fr := M2) (Rs := args x) (X := X0) (k := k) ⟨x, rfl, hp, rfl, q2⟩ st2.e st2.m (le S2 _ (hg S2 Rs Zs vs zs (p.mono st2.s) p2)) (o.step (st.trans st2)) (fun _ _ _ _ _ _ z => z.elim)) (ox.step st)) ox
theorem ev_callPDi {α : Type} {args : α → List Rep} {pre : α → Prop} {res : α → Rep} {i : Int} (h : Ea E tr Γ M (fun Rs M1 => ∃ x, LeS (Rs ++ [iInt i]) (args x) ∧ pre x ∧ k (res x) M1) X) : Ev E (tCall (spT (pureTs args pre res)) [.int i] E0 tr) Γ M k X :=
  ev_callPD (Ds := [iInt i]) (fun _ => ⟨rfl, True.intro⟩) h
theorem ev_callN_at {n m : Nat} {sp : Sp} {gV : List V → List V → List V} {tk : TA} (h : Ev E (tCallN n m sp gV E0 tr tk) Γ M k X) : Ev E (tCallN n m sp gV E0 tr tk) Γ M k X := h
theorem k_leneq {a b : Nat} {P : Prop} (e : a = b) (h : P) : a = b ∧ P := ⟨e, h⟩
theorem all2_gapp (S : Hp) (Rs Zs : List Rep) (vs zs : List V) (h : All2 S Rs vs) (h2 : All2 S Zs zs) : All2 S (Rs ++ Zs) (vs ++ zs) := h.app h2
end
/-! ### what may be called by its name, keywords handed over -/
structure ClN (P : Program) (w : World) (K : PySem.W.Frag) (mg : Str → Option Value) (base : Heap) (CX : CXT) (k : Nat) (x : Str) (ts : TSp) (n : Nat) (ks : List Str) (gV : List V → List V → List V) : Prop where
  ex : ∃ (f : Addr) (fd : FuncData) (ps : List Str) (g : List Value → List Value → List Value), FnOk P w K mg base CX k f fd ps (spT ts) ∧ mg x = some (.ref f) ∧ PySem.W.keepIn K (.ref f) = true ∧ KBn K fd ps n ks g gV
section
variable {X : Cx} {CX : CXT} {k j n : Nat} {x : Str} {ts : TSp} {p pos : Pos} {e : Expr} {es : List Expr} {t tk : TA} {E : XK} {ks : List Str} {gV : List V → List V → List V} {kws : List Keyword}
end
/-! ### texts as data -/
theorem shaped_str {z : Str} (h : ∀ c ∈ z.cps.toList, c < 1114112) : PyData.canLay0 (.str z) = true := by
  unfold PyData.canLay0
  show z.cps.all (· < 0x110000) = true
  rw [Array.all_eq_true']
  intro c hc
  exact decide_eq_true (h c (Array.mem_toList_iff.mpr hc))
theorem canAll {ds : List PyData} (h : ∀ d ∈ ds, PyData.canLay0 d = true) : PyData.canLayAll0 ds = true := by
  induction ds with
  | nil => rfl
  | cons d ds ih =>
    unfold PyData.canLayAll0
    rw [h d (List.mem_cons_self ..), ih fun x hx => h x (List.mem_cons_of_mem _ hx)]
    rfl
def Shp (n : Nat) (d : PyData) : Prop := PyData.canLay0 d = true ∧ PyData.depth d ≤ n
theorem depthAll_le {n : Nat} {ds : List PyData} (h : ∀ d ∈ ds, PyData.depth d ≤ n) : PyData.depthAll ds ≤ n := by
  induction ds with
  | nil => exact Nat.zero_le _
  | cons d ds ih =>
    unfold PyData.depthAll
    exact Nat.max_le.mpr ⟨h d (List.mem_cons_self ..), ih fun x hx => h x (List.mem_cons_of_mem _ hx)⟩
def StrOk (z : Str) : Prop := ∀ c ∈ z.cps.toList, c < 1114112
theorem shp_str {n : Nat} {z : Str} (h : StrOk z) : Shp n (.str z) := ⟨shaped_str h, by unfold PyData.depth; exact Nat.zero_le _⟩
theorem shp_list {n : Nat} {ds : List PyData} (h : ∀ d ∈ ds, Shp n d) : Shp (n + 1) (.list ds) := ⟨by unfold PyData.canLay0; exact canAll fun d hd => (h d hd).1, by unfold PyData.depth; exact Nat.succ_le_succ (depthAll_le fun d hd => (h d hd).2)⟩
theorem shp_tup {n : Nat} {ds : List PyData} (h : ∀ d ∈ ds, Shp n d) : Shp (n + 1) (.tuple ds) := ⟨by unfold PyData.canLay0; exact canAll fun d hd => (h d hd).1, by unfold PyData.depth; exact Nat.succ_le_succ (depthAll_le fun d hd => (h d hd).2)⟩
theorem Shp.ok {d : PyData} (h : Shp 64 d) : SeqAt.shaped d = true := by
  unfold SeqAt.shaped
  rw [Bool.and_eq_true]
  exact ⟨h.1, decide_eq_true h.2⟩
end L3

namespace L3
open PySem L2 RZ PyProof.Rows
/-! ### objects of own classes -/
abbrev FR := List (Str × Rep)
structure InsOk (S : Hp) (fs : FR) (vs : List (Str × V)) : Prop where
  nm : vs.map (·.1) = fs.map (·.1)
  al : All2 S (fs.map (·.2)) (vs.map (·.2))
theorem InsOk.mono {S S' : Hp} {fs : FR} {vs : List (Str × V)} (h : InsOk S fs vs) (e : Same S S') : InsOk S' fs vs := ⟨h.nm, h.al.mono e⟩
def iObj (C : Addr) (fs : FR) : Rep := ⟨fun S v => ∃ a dx vs, v = .ref a ∧ S a = some (.ins C dx vs) ∧ InsOk S fs vs, fun e ⟨a, dx, vs, h1, h2, h3⟩ => ⟨a, dx, vs, h1, e _ _ h2, h3.mono e⟩⟩
def mObj (C : Addr) (fs : FR) : MRep := ⟨fun S o => ∃ dx vs, o = .ins C dx vs ∧ InsOk S fs vs, fun e ⟨dx, vs, h1, h2⟩ => ⟨dx, vs, h1, h2.mono e⟩, fun ⟨dx, vs, h1, _⟩ ys z => by rw [h1] at z; cases z⟩
theorem InsOk.look {S : Hp} : ∀ {fs : FR} {vs : List (Str × V)}, InsOk S fs vs → ∀ f, (fs.lookup f = none → vs.lookup f = none) ∧ ∀ R, fs.lookup f = some R → ∃ v, vs.lookup f = some v ∧ R.p S v
  | [], [], _, f => ⟨fun _ => rfl, fun R e => by cases e⟩
  | [], _ :: _, h, f => by have := h.nm; simp at this
  | _ :: _, [], h, f => by have := h.nm; simp at this
  | (g, R) :: fs, (g', v) :: vs, h, f => by
    have e : g' = g := by have := h.nm; simp at this; exact this.1
    subst e
    have ih := InsOk.look (fs := fs) (vs := vs) ⟨by have := h.nm; simp at this; exact this, h.al.2⟩ f
    rw [List.lookup_cons, List.lookup_cons]
    by_cases hf : (f == g') = true
    · rw [hf]
      refine ⟨fun z => (nomatch z), fun R' z => ?_⟩
      have e : R = R' := Option.some.inj z
      subst e
      exact ⟨v, rfl, h.al.1⟩
    · rw [show (f == g') = false by simpa using hf]
      exact ih
def putR (f : Str) (R : Rep) : FR → FR
  | [] => [(f, R)]
  | (g, Q) :: r => if g = f then (g, R) :: r else (g, Q) :: putR f R r
theorem InsOk.put {S : Hp} {f : Str} {R : Rep} {v : V} (hR : R.p S v) : ∀ {fs : FR} {vs : List (Str × V)}, InsOk S fs vs → InsOk S (putR f R fs) (putF f v vs)
  | [], [], _ => ⟨rfl, hR, True.intro⟩
  | [], _ :: _, h => by have := h.nm; simp at this
  | _ :: _, [], h => by have := h.nm; simp at this
  | (g, Q) :: fs, (g', x) :: vs, h => by
    have e : g' = g := by have := h.nm; simp at this; exact this.1
    subst e
    have t : InsOk S fs vs := ⟨by have := h.nm; simp at this; exact this, h.al.2⟩
    unfold putR putF
    by_cases hf : g' = f
    · rw [if_pos hf, if_pos hf]
      exact ⟨by simpa using t.nm, hR, t.al⟩
    · rw [if_neg hf, if_neg hf]
      have ih := InsOk.put (f := f) hR t
      exact ⟨by simpa using ih.nm, h.al.1, ih.al⟩
theorem InsOk.len {S : Hp} {fs : FR} {vs : List (Str × V)} (h : InsOk S fs vs) : vs.length = fs.length := by
  have := congrArg List.length h.nm
  simpa using this
theorem Stp.wrAt {S H : Hp} {M : SH} {j : Nat} {a : Addr} {P P' : MRep} {o : HO} (hj : M[j]? = some (a, P)) (e : Same S H) (m : MOk S H M) (hP : P'.p S o) : Stp S H S (upd H a o) M (M.set j (a, P')) := by
  obtain ⟨e1, e2⟩ := at_split (P' := P') hj
  rw [e2]
  generalize M.take j = A at *
  generalize M.drop (j + 1) = B at *
  subst e1
  exact Stp.wrM e m hP
/-- an object, stable or in the symbolic heap -/
def HasO (M : SH) (R : Rep) (C : Addr) (fs : FR) : Prop := R = iObj C fs ∨ ∃ (a : Addr) (i : Nat), R = iRef a ∧ M[i]? = some (a, mObj C fs)
theorem HasO.get {M : SH} {R : Rep} {C : Addr} {fs : FR} (h : HasO M R C fs) {S H : Hp} {v : V} (e : Same S H) (m : MOk S H M) (p : R.p S v) : ∃ a dx vs, v = .ref a ∧ H a = some (.ins C dx vs) ∧ InsOk S fs vs := by
  rcases h with h | ⟨a, i, h, hm⟩
  · subst h
    obtain ⟨a, dx, vs, h1, h2, h3⟩ := p
    exact ⟨a, dx, vs, h1, e _ _ h2, h3⟩
  · subst h
    cases p
    obtain ⟨_, o, ho, dx, vs, rfl, h3⟩ := m.at_ _ _ (at_mem hm)
    exact ⟨a, dx, vs, rfl, ho, h3⟩
section
variable {E : XK} {K : PySem.W.Frag} {Γ : Ct} {M : SH} {k : KR} {X : KX} {R R1 R2 : Rep} {te ta tb tc tl tv : TE} {vs : List Nat} {D : EndT} {t u : TS} {c tt : TT} {tr : TA} {C : Addr} {f : Str}
theorem ev_fld (hc : Cls K C) (hn : NoAttr K C f) (h : Ev E ta Γ M (fun R M1 => ∃ fs, HasO M1 R C fs ∧ ∃ Rf, fs.lookup f = some Rf ∧ k Rf M1) X) : Ev E (tFld K ta f) Γ M k X := fun σ S H Q I o ox =>
  h σ S H _ I (fun v S1 H1 R M1 ⟨fs, ho, Rf, hf, q⟩ st p => by
    obtain ⟨a, dx, vs, e, ha, hi⟩ := ho.get st.e st.m p
    obtain ⟨w, hw, pw⟩ := (hi.look f).2 Rf hf
    exact ⟨a, C, dx, vs, w, e, ha, hc, hn, hw, o w S1 H1 Rf M1 q st pw⟩) ox
theorem k_fldS {fs : FR} {Rf : Rep} {P : Rep → Prop} (hf : fs.lookup f = some Rf) (h : P Rf) : ∃ fs', HasO M (iObj C fs) C fs' ∧ ∃ Rf, fs'.lookup f = some Rf ∧ P Rf := ⟨fs, .inl rfl, Rf, hf, h⟩
theorem k_fldM {fs : FR} {Rf : Rep} {a : Addr} {i : Nat} {P : Rep → Prop} (hm : M[i]? = some (a, mObj C fs)) (hf : fs.lookup f = some Rf) (h : P Rf) : ∃ fs', HasO M (iRef a) C fs' ∧ ∃ Rf, fs'.lookup f = some Rf ∧ P Rf := ⟨fs, .inr ⟨a, i, rfl, hm⟩, Rf, hf, h⟩
theorem st_fld (hc : Cls K C) (hn : NoAttr K C f) (h : Ev E tv Γ M (fun R1 M1 => Ev E ta Γ M1 (fun R2 M2 => ∃ (a : Addr) (j : Nat) (fs : FR), R2 = iRef a ∧ M2[j]? = some (a, mObj C fs) ∧ fs.length < 1000 ∧ D.nx Γ (M2.set j (a, mObj C (putR f R1 fs)))) D.ex) D.ex) : St E (sFld K ta tv f) Γ M D := fun σ S H D0 I o =>
  h σ S H _ I (fun v S1 H1 R1 M1 q1 st1 p1 => q1 σ S1 H1 _ (I.step st1) (fun x S2 H2 R2 M2 ⟨a, j, fs, e, hj, hl, q⟩ st2 p2 => by
    subst e
    cases p2
    have st := st1.trans st2
    obtain ⟨_, ob, ho, dx, vs, rfl, hi⟩ := st.m.at_ _ _ (at_mem hj)
    have wr := Stp.wrAt (P' := mObj C (putR f R1 fs)) (o := .ins C dx (putF f v vs)) hj st.e st.m ⟨dx, _, rfl, hi.put (R1.m st2.s p1)⟩
    exact ⟨a, C, dx, vs, rfl, ho, hc, hn, by rw [hi.len]; exact hl, o.nx σ S2 _ Γ _ q (st.trans wr) ((I.step st).step wr)⟩) (o.ex.step st1)) o.ex
/-! ### methods that change nothing; making -/
theorem erase_perm : ∀ {M : SH} {i : Nat} {x : Addr × MRep}, M[i]? = some x → M.Perm (x :: M.eraseIdx i)
  | [], i, x, h => by simp at h
  | y :: M, 0, x, h => by
    have e : y = x := by simpa using h
    subst e
    exact List.Perm.refl _
  | y :: M, i + 1, x, h => by
    have ih := erase_perm (M := M) (i := i) (x := x) (by simpa using h)
    exact (List.Perm.cons y ih).trans (List.Perm.swap x y _)
/-- a def, a method that changes nothing that is there -/
def roK (sp : SH → List Rep → (Rep → Prop) → Prop) : TSp := fun Rs M k _ => sp M Rs fun R => k R M
theorem ev_callRO {sp : SH → List Rep → (Rep → Prop) → Prop} (h : Ea E tr Γ M (fun Rs M1 => ∃ Rs', LeS Rs Rs' ∧ sp M1 Rs' fun R => k R M1) X) : Ev E (tCall (spT (roK sp)) [] E0 tr) Γ M k X := fun σ S H Q I o ox =>
  h σ S H _ I (fun xs S1 H1 Rs M1 ⟨Rs', le, q⟩ st p => by
    rw [List.append_nil]
    exact ⟨S1, Rs', M1, k, X0, q, st.e, st.m, le S1 _ p, o.step st, fun _ _ _ _ _ _ z => z.elim⟩) ox
def methK (C : Addr) (sp : SH → FR → List Rep → (Rep → Prop) → Prop) : TSp := fun Rs M k _ => ∃ R Rs' fs, Rs = R :: Rs' ∧ HasO M R C fs ∧ sp M fs Rs' fun R => k R M
theorem ev_methK {m : Str} {sp : SH → FR → List Rep → (Rep → Prop) → Prop} (h : Ev E ta Γ M (fun R M1 => ∃ fs, HasO M1 R C fs ∧ fs.lookup m = none ∧ Ea E tr Γ M1 (fun Rs M2 => HasO M2 R C fs ∧ ∃ Rs', LeS Rs Rs' ∧ sp M2 fs Rs' fun R' => k R' M2) X) X) : Ev E (tMeth C m (spT (methK C sp)) [] E0 ta tr) Γ M k X := fun σ S H Q I o ox =>
  h σ S H _ I (fun v S1 H1 R M1 ⟨fs, ho, hm, q⟩ st p => by
    obtain ⟨a, dx, vs, e, ha, hi⟩ := ho.get st.e st.m p
    refine ⟨a, dx, vs, e, ha, (hi.look m).1 hm, q σ S1 H1 _ (I.step st) (fun xs S2 H2 Rs M2 ⟨ho2, Rs', le, q2⟩ st2 p2 => ?_) (ox.step st)⟩
    rw [List.append_nil]
    exact ⟨S2, R :: Rs', M2, k, X0, ⟨R, Rs', fs, rfl, ho2, q2⟩, st2.e, st2.m, ⟨R.m st2.s p, le S2 _ p2⟩, o.step (st.trans st2), fun _ _ _ _ _ _ z => z.elim⟩) ox
def initK (C : Addr) (sp : List Rep → (FR → Prop) → Prop) : TSp := fun Rs M k _ => ∃ a Rs', Rs = iRef a :: Rs' ∧ M = [(a, mObj C [])] ∧ ∃ Z : FR → Prop, sp Rs' Z ∧ ∀ fs, Z fs → k iNon [(a, mObj C fs)]
theorem ev_make {sp : List Rep → (FR → Prop) → Prop} {dvs : List V} {Ds : List Rep} (hd : ∀ S, All2 S Ds dvs) (h : Ea E tr Γ M (fun Rs M1 => ∃ Rs', LeS (Rs ++ Ds) Rs' ∧ sp Rs' fun fs => k (iObj C fs) M1) X) : Ev E (tMake C (spT (initK C sp)) dvs E0 tr) Γ M k X := fun σ S H Q I o ox =>
  h σ S H _ I (fun xs S1 H1 Rs M1 ⟨Rs', le, q⟩ st p x dx hx hdx hne => by
    have s1 := Stp.newS (o := .own x) st.e st.m hdx
    have hx1 : upd H1 dx (.own x) x = none := by rw [upd_ne (Ne.symm hne)]; exact hx
    have s2 := Stp.newM (P := mObj C []) (o := .ins C dx []) s1.e s1.m hx1 ⟨dx, [], rfl, rfl, True.intro⟩
    have st2 := (st.trans s1).trans s2
    have pm : (M1 ++ [(x, mObj C [])]).Perm ([(x, mObj C [])] ++ M1) := List.perm_append_comm
    refine spT_in (ts := initK C sp) (Mf := [(x, mObj C [])]) (Fr := M1) (Rs := iRef x :: Rs') (X := X0) (k := fun R' M' => R' = iNon ∧ ∃ fs, M' = [(x, mObj C fs)] ++ M1 ∧ k (iObj C fs) M1) ⟨x, Rs', rfl, rfl, _, q, fun fs z => ⟨rfl, fs, rfl, z⟩⟩ s2.e (st2.m.perm pm) ⟨rfl, le _ _ ((p.mono s1.s).app (hd _))⟩ (fun w S3 H3 R3 M3 ⟨e3, fs, e4, q3⟩ st3 p3 => ?_) (fun _ _ _ _ _ _ z => z.elim)
    subst e3
    subst e4
    cases p3
    obtain ⟨_, ob, ho, dx', vs, rfl, hi⟩ := st3.m.at_ x (mObj C fs) (by simp)
    have fz := Stp.fz (A := []) (B := M1) (P := mObj C fs) st3.e st3.m ho
    exact ⟨rfl, o (.ref x) _ H3 (iObj C fs) M1 q3 ((st2.trans (st3.permL pm)).trans fz) ⟨x, dx', vs, rfl, upd_same, hi.mono fz.s⟩⟩) ox
/-! ### a list, however it stands -/
def HasL (K : PySem.W.Frag) (M : SH) (R : Rep) (rs : List Rep) : Prop := R = iLst rs ∨ R = aTup K rs ∨ R = aSeq K rs ∨ ∃ (a : Addr) (i : Nat), R = iRef a ∧ M[i]? = some (a, mLst rs)
theorem HasL.get {rs : List Rep} (h : HasL K M R rs) {S H : Hp} {v : V} (e : Same S H) (m : MOk S H M) (p : R.p S v) : ∃ a xs, v = .ref a ∧ (SqL K H a xs ∨ SqT K H a xs) ∧ All2 S rs xs := by
  rcases h with h | h | h | ⟨a, i, h, hm⟩
  · subst h
    obtain ⟨a, xs, e1, q1, q2⟩ := p
    exact ⟨a, xs, e1, .inl (SqL.of (e _ _ q1)), q2⟩
  · subst h
    obtain ⟨a, xs, e1, q1, q2⟩ := p
    exact ⟨a, xs, e1, .inr (Same.sqt e q1), q2⟩
  · subst h
    rcases p with ⟨a, xs, e1, q1, q2⟩ | ⟨a, xs, e1, q1, q2⟩
    · exact ⟨a, xs, e1, .inl (SqL.of (e _ _ q1)), q2⟩
    · exact ⟨a, xs, e1, .inr (Same.sqt e q1), q2⟩
  · subst h
    cases p
    obtain ⟨_, o, ho, xs, rfl, q2⟩ := m.at_ _ _ (at_mem hm)
    exact ⟨a, xs, rfl, .inl (SqL.of ho), q2⟩
theorem o_inG {x : Str} {l : List Str} (h : HasL K M R (l.map aStr)) : O2p (rIn K false) (aStr x) R M (iBl (decide (x ∈ l))) := o2_val fun v y S H e m h1 h2 => by
  cases h1
  obtain ⟨a, xs, rfl, q1, q2⟩ := h.get e m h2
  rw [All2.flat (r := aStr) (g := V.str) (fun _ _ h => h) q2] at q1
  exact ⟨_, rfl, fun Q q => ⟨a, _, rfl, q1, rfl, all_flat_str l, by rw [if_neg Bool.false_ne_true, inV_str]; exact q⟩⟩
theorem o_ninG {x : Str} {l : List Str} (h : HasL K M R (l.map aStr)) : O2p (rIn K true) (aStr x) R M (iBl (!decide (x ∈ l))) := o2_val fun v y S H e m h1 h2 => by
  cases h1
  obtain ⟨a, xs, rfl, q1, q2⟩ := h.get e m h2
  rw [All2.flat (r := aStr) (g := V.str) (fun _ _ h => h) q2] at q1
  exact ⟨_, rfl, fun Q q => ⟨a, _, rfl, q1, rfl, all_flat_str l, by rw [if_pos rfl, inV_str]; exact q⟩⟩
theorem c_lenG {rs : List Rep} (h : HasL K M R rs) : Olp (rLn K) [R] M (iInt rs.length) := ol_val fun xs S H e m p => by
  obtain ⟨v, rfl, p1⟩ := all2_1 p
  obtain ⟨a, ys, rfl, q1, q2⟩ := h.get e m p1
  rcases q1 with q1 | q1
  · exact ⟨_, rfl, fun Q q => ⟨_, rs.length, rfl, .inl ⟨ys, q1, q2.len.symm⟩, q⟩⟩
  · exact ⟨_, rfl, fun Q q => ⟨_, rs.length, rfl, .inr ⟨ys, q1, q2.len.symm⟩, q⟩⟩
/-! ### dicts whose keys are pairs of texts, all True -/
def pkV (p : Str × Str) : List Key × V := ([.inr p.1, .inr p.2], .bl true)
def iPD (ps : List (Str × Str)) : Rep := ⟨fun S v => ∃ a, v = .ref a ∧ S a = some (.dT (ps.map pkV)), fun e ⟨a, h1, h2⟩ => ⟨a, h1, e _ _ h2⟩⟩
def mPD (ps : List (Str × Str)) : MRep := ⟨fun _ o => o = .dT (ps.map pkV), fun _ h => h, fun h ys z => by rw [h] at z; cases z⟩
def HasP (M : SH) (R : Rep) (ps : List (Str × Str)) : Prop := R = iPD ps ∨ ∃ (a : Addr) (i : Nat), R = iRef a ∧ M[i]? = some (a, mPD ps)
theorem HasP.get {ps : List (Str × Str)} (h : HasP M R ps) {S H : Hp} {v : V} (e : Same S H) (m : MOk S H M) (p : R.p S v) : ∃ a, v = .ref a ∧ H a = some (.dT (ps.map pkV)) := by
  rcases h with h | ⟨a, i, h, hm⟩
  · subst h
    obtain ⟨a, h1, h2⟩ := p
    exact ⟨a, h1, e _ _ h2⟩
  · subst h
    cases p
    obtain ⟨_, o, ho, q⟩ := m.at_ _ _ (at_mem hm)
    cases q
    exact ⟨a, rfl, ho⟩
theorem valV_pk (p : Str × Str) : ∀ ps : List (Str × Str), (valV (ps.map pkV) [Sum.inr p.1, Sum.inr p.2]).isSome = decide (p ∈ ps)
  | [] => by simp [valV]
  | q :: ps => by
    rw [List.map_cons]
    by_cases e : q = p
    · subst e
      rw [show valV (pkV q :: ps.map pkV) [Sum.inr q.1, Sum.inr q.2] = some (pkV q).2 from valV_pos (p := pkV q) rfl]
      simp
    · have ne : ¬ (pkV q).1 = [Sum.inr p.1, Sum.inr p.2] := fun z => e (by
        have : ([Sum.inr q.1, Sum.inr q.2] : List Key) = [Sum.inr p.1, Sum.inr p.2] := z
        simp at this
        exact Prod.ext this.1 this.2)
      rw [valV_neg ne, valV_pk p ps]
      have : ¬ p = q := fun z => e z.symm
      simp [this]
def putP (ps : List (Str × Str)) (p : Str × Str) : List (Str × Str) := if p ∈ ps then ps else ps ++ [p]
theorem putK_pk (ps : List (Str × Str)) (p : Str × Str) : putK (ps.map pkV) [Sum.inr p.1, Sum.inr p.2] (.bl true) = (putP ps p).map pkV := by
  unfold putK putP
  rw [valV_any, valV_pk]
  by_cases h : p ∈ ps
  · rw [if_pos (by simpa using h), if_pos h, List.map_map]
    refine List.map_congr_left fun q _ => ?_
    show (if (pkV q).1 = _ then ((pkV q).1, V.bl true) else pkV q) = pkV q
    split <;> rfl
  · rw [if_neg (by simpa using h), if_neg h, List.map_append]
    rfl
theorem ev_dinP {tx ty td : TE} (h : Ea E (tCons tx (tCons ty tNil)) Γ M (fun Rs M1 => ∃ a b, Rs = [aStr a, aStr b] ∧ Ev E td Γ M1 (fun R M2 => ∃ ps, HasP M2 R ps ∧ k (iBl (decide ((a, b) ∈ ps))) M2) X) X) : Ev E (tDIn (tTup (tCons tx (tCons ty tNil))) td) Γ M k X := fun σ S H Q I o ox => by
  unfold tDIn tTup
  exact h σ S H _ I (fun xs S1 H1 Rs M1 ⟨a, b, e, q⟩ st p => by
    subst e
    obtain ⟨v, w, rfl, p1, p2⟩ := all2_2 p
    cases p1; cases p2
    refine ⟨sz_le (by simp), fun T hT => ?_⟩
    have s2 := Stp.newS (o := .tup [.str a, .str b]) st.e st.m hT
    exact q σ _ _ _ (I.step (st.trans s2)) (fun y S3 H3 R M3 ⟨ps, hp, q3⟩ st3 p3 => by
      obtain ⟨d, rfl, hd⟩ := hp.get st3.e st3.m p3
      have eb : H3 T = some (.tup ([Sum.inr a, Sum.inr b].map kV)) := st3.e _ _ (st3.s _ _ upd_same)
      refine ⟨d, _, rfl, DGet.t hd eb, ?_⟩
      rw [valV_pk (a, b)]
      exact (o.step (st.trans s2)) _ S3 H3 _ M3 q3 st3 rfl) (ox.step (st.trans s2))) ox
theorem ev_dnewT (h : ∀ a, k (iRef a) (M ++ [(a, mPD [])])) : Ev E tDNewT Γ M k X := fun σ S H Q I o ox p hp =>
  o (.ref p) S _ (iRef p) _ (h p) (Stp.newM (P := mPD []) I.ex I.m hp rfl) rfl
/-- d[a, b] = True -/
theorem tg_putP {to tx ty : TE} {kc : KC} (h : Ev E0 to Γ M (fun R M1 => ∃ d, R = iRef d ∧ Ea E0 (tCons tx (tCons ty tNil)) Γ M1 (fun Rs M2 => ∃ (a b : Str) (i : Nat) (ps : List (Str × Str)), Rs = [aStr a, aStr b] ∧ M2[i]? = some (d, mPD ps) ∧ ps.length < 1000000 ∧ kc Γ (M2.set i (d, mPD (putP ps (a, b))))) X0) X0) : Tg (gSub to (tTup (tCons tx (tCons ty tNil))) rSetD) (iBl true) Γ M vs kc := fun v σ S H Q I p o => by
  cases p
  refine h σ S H _ I (fun x S1 H1 R M1 ⟨d, e, q⟩ st p1 => ?_) (fun _ _ _ _ _ _ z => z.elim)
  subst e
  cases p1
  refine q σ S1 H1 _ (I.step st) (fun xs S2 H2 Rs M2 ⟨a, b, i, ps, e, hm, hl, q2⟩ st2 p2 => ?_) (fun _ _ _ _ _ _ z => z.elim)
  subst e
  obtain ⟨v, w, rfl, p3, p4⟩ := all2_2 p2
  cases p3; cases p4
  refine ⟨sz_le (by simp), fun T hT => ?_⟩
  have s12 := st.trans st2
  have s3 := Stp.newS (o := .tup [.str a, .str b]) s12.e s12.m hT
  obtain ⟨_, o', ho, qd⟩ := s3.m.at_ _ _ (at_mem hm)
  cases qd
  have w := Stp.wrAt (P' := mPD (putP ps (a, b))) (o := .dT (putK (ps.map pkV) [Sum.inr a, Sum.inr b] (.bl true))) hm s3.e s3.m (congrArg HO.dT (putK_pk ps (a, b)))
  refine ⟨d, _, rfl, DPut.t (k := [Sum.inr a, Sum.inr b]) ho (upd_same) (by rw [List.length_map]; exact sz_lt (by omega)), ?_⟩
  exact o σ _ _ Γ _ q2 ((s12.trans s3).trans w) (I.step ((s12.trans s3).trans w)) fun _ => rfl
theorem st_asg2 {g1 g2 : TG} (h : Ev E te Γ M (fun R M1 => Tg g1 R Γ M1 [] fun Γ1 M2 => Tg g2 R Γ1 M2 [] D.nx) D.ex) : St E (tAsg2 te g1 g2) Γ M D := fun σ S H D0 I o =>
  h σ S H _ I (fun v S2 H2 R M2 q st p => q v σ S2 H2 _ (I.step st) p fun σ3 S3 H3 Γ3 M3 q3 st3 I3 _ => q3 v σ3 S3 H3 _ I3 (R.m st3.s p) fun σ4 S4 H4 Γ4 M4 q4 st4 I4 _ => o.nx σ4 S4 H4 Γ4 M4 q4 ((st.trans st3).trans st4) I4) o.ex
/-! ### what was changed, and stays from then on: told by a field -/
theorem InsOk.re {S : Hp} {f : Str} {R R' : Rep} (hr : ∀ v, R.p S v → R'.p S v) : ∀ {fs : FR} {vs : List (Str × V)}, InsOk S fs vs → fs.lookup f = some R → InsOk S (putR f R' fs) vs
  | [], _, _, hf => by cases hf
  | _ :: _, [], h, _ => by have := h.nm; simp at this
  | (g, Q) :: fs, (g', x) :: vs, h, hf => by
    have e : g' = g := by have := h.nm; simp at this; exact this.1
    subst e
    have t : InsOk S fs vs := ⟨by have := h.nm; simp at this; exact this, h.al.2⟩
    rw [List.lookup_cons] at hf
    unfold putR
    by_cases hg : g' = f
    · subst hg
      rw [show (g' == g') = true from beq_self_eq_true g'] at hf
      have e : Q = R := Option.some.inj hf
      subst e
      rw [if_pos rfl]
      exact ⟨by simpa using t.nm, hr x h.al.1, t.al⟩
    · rw [show (f == g') = false from beq_eq_false_iff_ne.mpr fun z => hg z.symm] at hf
      rw [if_neg hg]
      have ih := InsOk.re hr t hf
      exact ⟨by simpa using ih.nm, h.al.1, ih.al⟩
theorem Stp.re {S H : Hp} {M : SH} {j : Nat} {a : Addr} {P P' : MRep} (hj : M[j]? = some (a, P)) (e : Same S H) (m : MOk S H M) (h : ∀ o, P.p S o → P'.p S o) : Stp S H S H M (M.set j (a, P')) := by
  obtain ⟨e1, e2⟩ := at_split (P' := P') hj
  rw [e2]
  generalize M.take j = A at *
  generalize M.drop (j + 1) = B at *
  subst e1
  have ed : dm (A ++ (a, P) :: B) = dm (A ++ (a, P') :: B) := by simp [dm]
  exact ⟨Same.refl _, e, fun b h1 h2 => absurd h1 h2, fun _ _ _ h => h, m.re h, fun b hb => .inl (by rw [ed]; exact hb)⟩
theorem Stp.fzAt {S H : Hp} {M : SH} {i : Nat} {a : Addr} {P : MRep} {o : HO} (hi : M[i]? = some (a, P)) (e : Same S H) (m : MOk S H M) (ho : H a = some o) : Stp S H (upd S a o) H M (M.eraseIdx i) := by
  have e1 := (at_split (P' := P) hi).1
  rw [List.eraseIdx_eq_take_drop_succ]
  generalize M.take i = A at *
  generalize M.drop (i + 1) = B at *
  subst e1
  exact Stp.fz e m ho
theorem Nv.cont {S H S2 H2 : Hp} {σ : L2.St} {M M2 : SH} (I : Nv S H σ Γ M) (st : Stp S H S2 H2 M M2) {t : TS} {D0 : Ends} (o : EndOk S H M D D0 E) (h : St E t Γ M2 D) (hH : H2 = H) : t D0 σ H := by
  have := h σ S2 H2 D0 (I.step st) (o.step st)
  rw [hH] at this
  exact this
theorem st_fzF {i j : Nat} {l x : Addr} {rs : List Rep} {fs : FR} {f : Str} (hl : M[i]? = some (l, mLst rs)) (hx : (M.eraseIdx i)[j]? = some (x, mObj C fs)) (hf : fs.lookup f = some (iRef l)) (h : St E t Γ ((M.eraseIdx i).set j (x, mObj C (putR f (iLst rs) fs))) D) : St E t Γ M D := fun σ S H D0 I o => by
  obtain ⟨_, ob, ho, xs, rfl, px⟩ := I.m.at_ l (mLst rs) (at_mem hl)
  have f1 := Stp.fzAt hl I.ex I.m ho
  have f2 := Stp.re (P' := mObj C (putR f (iLst rs) fs)) hx f1.e f1.m fun o ⟨dx, vs, e, hi⟩ => ⟨dx, vs, e, hi.re (fun v p => by cases p; exact ⟨l, xs, rfl, upd_same, px.mono f1.s⟩) hf⟩
  exact I.cont (f1.trans f2) o h rfl
theorem st_fzP {i j : Nat} {l x : Addr} {ps : List (Str × Str)} {fs : FR} {f : Str} (hl : M[i]? = some (l, mPD ps)) (hx : (M.eraseIdx i)[j]? = some (x, mObj C fs)) (hf : fs.lookup f = some (iRef l)) (h : St E t Γ ((M.eraseIdx i).set j (x, mObj C (putR f (iPD ps) fs))) D) : St E t Γ M D := fun σ S H D0 I o => by
  obtain ⟨_, ob, ho, px⟩ := I.m.at_ l (mPD ps) (at_mem hl)
  cases px
  have f1 := Stp.fzAt hl I.ex I.m ho
  have f2 := Stp.re (P' := mObj C (putR f (iPD ps) fs)) hx f1.e f1.m fun o ⟨dx, vs, e, hi⟩ => ⟨dx, vs, e, hi.re (fun v p => by cases p; exact ⟨l, rfl, upd_same⟩) hf⟩
  exact I.cont (f1.trans f2) o h rfl
end
end L3

namespace L3
open PySem L2 RZ PyProof.Rows
/-! ### methods, classes, as they may be called -/
structure ClM (P : Program) (w : World) (K : PySem.W.Frag) (mg : Str → Option Value) (base : Heap) (CX : CXT) (k : Nat) (C : Addr) (m : Str) (ts : TSp) (dvs : List V) : Prop where
  cl : Cls K C
  ex : ∃ (f : Addr) (fd : FuncData) (ps : List Str) (ds : List Value), FnOk P w K mg base CX k f fd ps (spT ts) ∧ Meth K C m f ∧ Binds K fd ps ds ∧ Vals dvs ds
structure ClI (P : Program) (w : World) (K : PySem.W.Frag) (mg : Str → Option Value) (base : Heap) (CX : CXT) (k : Nat) (C : Addr) (x : Str) (ts : TSp) (dvs : List V) : Prop where
  ex : ∃ (f : Addr) (fd : FuncData) (ps : List Str) (ds : List Value), FnOk P w K mg base CX k f fd ps (spT ts) ∧ Mk K C f ∧ mg x = some (.ref C) ∧ Binds K fd ps ds ∧ Vals dvs ds
structure ClIN (P : Program) (w : World) (K : PySem.W.Frag) (mg : Str → Option Value) (base : Heap) (CX : CXT) (k : Nat) (C : Addr) (x : Str) (ts : TSp) (n : Nat) (ks : List Str) (gV : List V → List V → List V) : Prop where
  ex : ∃ (f : Addr) (fd : FuncData) (ps : List Str) (g : List Value → List Value → List Value), FnOk P w K mg base CX k f fd ps (spT ts) ∧ Mk K C f ∧ mg x = some (.ref C) ∧ KBn K fd ps (n + 1) ks g gV
section
variable {X : Cx} {CX : CXT} {k j n : Nat} {C : Addr} {x m : Str} {ts : TSp} {dvs : List V} {p pos apos : Pos} {o e : Expr} {es : List Expr} {t tk : TA} {ta : TE} {E : XK} {ks : List Str} {gV : List V → List V → List V} {kws : List Keyword}
theorem pe_clM {pl : Sem Bool} (c : ClM X.prog X.w X.K X.mg X.base CX k C m ts dvs) (hr : Room j X.A) (hk : k ≤ j) (hx : Passes CX X E) (he : PE X o ta) (ha : PA X (e :: es) t)
    (hst : starEach (e :: es) X.env = (false, eval e X.env) :: starEach es X.env := by rfl) (hpl : (backTo pos (starEach es X.env)).any (·.1) = false := by rfl)
    (ht : eval (.Call (.Attribute o m apos) (e :: es) [] pos) X.env = (do
      let ov ← eval o X.env
      standAt apos.atName
      let (f, first) ← holding [ov] (getMethod ov m pl)
      callWith pos f first (backTo pos (starEach (e :: es) X.env)) (backToKw pos (keywordEach [] X.env))) := by rfl) :
    PE X (.Call (.Attribute o m apos) (e :: es) [] pos) (tMeth C m (spT ts) dvs E ta t) := by
  obtain ⟨f, fd, ps, ds, F, hm, b, d⟩ := c.ex
  exact pe_meth he c.cl hm F (hr.mono hk) b d hx ha hst hpl ht
theorem pe_clM0 {pl : Sem Bool} (c : ClM X.prog X.w X.K X.mg X.base CX k C m ts dvs) (hr : Room j X.A) (hk : k ≤ j) (hx : Passes CX X E) (he : PE X o ta)
    (ht : eval (.Call (.Attribute o m apos) [] [] pos) X.env = (do
      let ov ← eval o X.env
      standAt apos.atName
      let (f, first) ← holding [ov] (getMethod ov m pl)
      callWith pos f first (backTo pos (starEach [] X.env)) (backToKw pos (keywordEach [] X.env))) := by rfl) :
    PE X (.Call (.Attribute o m apos) [] [] pos) (tMeth C m (spT ts) dvs E ta tNil) := by
  obtain ⟨f, fd, ps, ds, F, hm, b, d⟩ := c.ex
  exact pe_meth0 he c.cl hm F (hr.mono hk) b d hx ht
theorem pe_clI (c : ClI X.prog X.w X.K X.mg X.base CX k C x ts dvs) (hr : Room j X.A) (hk : k + 1 ≤ j) (hx : Passes CX X E) (hg : Gl X x) (ha : PA X (e :: es) t)
    (hdb : (x == ("__debug__" : Str)) = false := by decide) (he : starEach (e :: es) X.env = (false, eval e X.env) :: starEach es X.env := by rfl) (hpl : (backTo pos (starEach es X.env)).any (·.1) = false := by rfl) :
    PE X (.Call (.Name x p) (e :: es) [] pos) (tMake C (spT ts) dvs E t) := by
  obtain ⟨f, fd, ps, ds, F, M, hm, b, d⟩ := c.ex
  exact pe_make M F (hr.mono hk) hg hm b d hx ha hdb he hpl
theorem castOp {K : PySem.W.Frag} {g : Value → Value → Sem Value} {r : PySem.W.Frag → L2.R2} (h : X.K = K) (o : OpR X g (r X.K)) : OpR X g (r K) := h ▸ o
theorem castIx {K : PySem.W.Frag} {r : PySem.W.Frag → L2.R2} (h : X.K = K) (o : IxR X (r X.K)) : IxR X (r K) := h ▸ o
theorem castCall {K : PySem.W.Frag} {v : Value} {r : PySem.W.Frag → List V → Hp → VK → Prop} (h : X.K = K) (o : CallR X v (r X.K)) : CallR X v (r K) := h ▸ o
theorem pe_fldK {K : PySem.W.Frag} {f : Str} (h : X.K = K) (he : PE X e ta) (hb : attributeBase e f X.env (eval e X.env) = eval e X.env) : PE X (.Attribute e f pos) (tFld K ta f) := h ▸ pe_fld he hb
theorem pt_orr {e : Expr} {t1 t2 : TT} (h1 : PT X e t1) (h2 : PT X e t2) : PT X e (fun σ H Q => t1 σ H Q ∨ t2 σ H Q) := ⟨fun pins s σ H Q I h => h.elim (h1.run pins s σ H Q I) (h2.run pins s σ H Q I)⟩
end
section
variable {P : Program} {w : World} {K : PySem.W.Frag} {mg : Str → Option Value} {base : Heap}
theorem okTD {x qual : Str} {params : Arguments} {body : List Stmt} {scope : Scope} {dvs : List V} {kws : List (Str × V)} {f : Addr} {fd : FuncData} {N ps : List Str} {kk : Nat} {ts : TSp} (F : FunD K x qual params body scope dvs kws f fd) (S : FnScope N ps scope) (len : ∀ Rs M k X, ts Rs M k X → Rs.length = ps.length)
    (hbody : ∀ (cdv : Value) (A : Around) (outer : List PySem.Env) (s : Shared) (H : Hp) (E : XK), Room kk (A.deeper (envOfC qual scope s.heap.objs.size f cdv)) →
      ∃ t, PSs (cxOf CX0 P w K mg base N qual scope f cdv A outer s H E).nox body t ∧ ∀ Rs M k X, ts Rs M k X → St E t (startC N Rs) M { nx := fun _ M' => k iNon M', rt := k, ex := X }) : FnOk P w K mg base CX0 (kk + 1) f fd ps (spT ts) := by
  refine F.ok S (fun vs H Q E h => ?_) (fun cdv A outer s H vs Q E hr h => ?_)
  · obtain ⟨_, Rs, M, k, X, h1, _, _, p, _⟩ := h
    exact p.len.trans (len Rs M k X h1)
  · obtain ⟨t, h1, h2⟩ := hbody cdv A outer s H E hr
    obtain ⟨S0, Rs, M, k, X, h3, e, m, p, o, ox⟩ := h
    exact ⟨t, h1.nox, h2 Rs M k X h3 _ S0 H _ (nv_start e m p) ⟨fun σ2 S2 H2 Γ2 M2 q st I2 => o .non S2 H2 iNon M2 q st rfl, o, fun _ _ _ _ _ z => z.elim, fun _ _ _ _ _ z => z.elim, ox⟩⟩
end
section
variable {E : XK} {K : PySem.W.Frag} {Γ : Ct} {M : SH} {k : KR} {X : KX} {R R1 R2 : Rep} {te ta tb tc tl tv : TE} {vs : List Nat} {D : EndT} {t u : TS} {c tt : TT} {tr : TA} {C : Addr} {f : Str}
theorem et_or1 {t1 t2 : TT} {kb : Bool → SH → Prop} (h : Et E t1 Γ M kb X) : Et E (fun σ H Q => t1 σ H Q ∨ t2 σ H Q) Γ M kb X := fun σ S H Q I o ox => .inl (h σ S H Q I o ox)
theorem et_or2 {t1 t2 : TT} {kb : Bool → SH → Prop} (h : Et E t2 Γ M kb X) : Et E (fun σ H Q => t1 σ H Q ∨ t2 σ H Q) Γ M kb X := fun σ S H Q I o ox => .inr (h σ S H Q I o ox)
theorem ev_meth_at {sp : Sp} {dvs : List V} {E' : XK} {m : Str} (h : Ev E (tMeth C m sp dvs E' ta tr) Γ M k X) : Ev E (tMeth C m sp dvs E' ta tr) Γ M k X := h
theorem ev_make_at {sp : Sp} {dvs : List V} {E' : XK} (h : Ev E (tMake C sp dvs E' tr) Γ M k X) : Ev E (tMake C sp dvs E' tr) Γ M k X := h
theorem ev_make3 {sp : List Rep → (FR → Prop) → Prop} (h : Ea E tr Γ M (fun Rs M1 => ∃ Rs', LeS Rs Rs' ∧ sp Rs' fun fs => k (iObj C fs) M1) X) : Ev E (tMake C (spT (initK C sp)) [] E0 tr) Γ M k X :=
  ev_make (Ds := []) (fun _ => True.intro) fun σ S H Q I o ox => h σ S H Q I (fun vs S2 H2 Rs M2 ⟨Rs', le, q⟩ st p => o vs S2 H2 Rs M2 ⟨Rs', by rw [List.append_nil]; exact le, q⟩ st p) ox
theorem k_methS {m : Str} {fs : FR} {P : FR → Prop} (hm : fs.lookup m = none) (h : P fs) : ∃ fs', HasO M (iObj C fs) C fs' ∧ fs'.lookup m = none ∧ P fs' := ⟨fs, .inl rfl, hm, h⟩
theorem k_methM {m : Str} {fs : FR} {a : Addr} {i : Nat} {P : FR → Prop} (hi : M[i]? = some (a, mObj C fs)) (hm : fs.lookup m = none) (h : P fs) : ∃ fs', HasO M (iRef a) C fs' ∧ fs'.lookup m = none ∧ P fs' := ⟨fs, .inr ⟨a, i, rfl, hi⟩, hm, h⟩
theorem k_ho2S {fs : FR} {P : Prop} (h : P) : HasO M (iObj C fs) C fs ∧ P := ⟨.inl rfl, h⟩
theorem k_ho2M {fs : FR} {a : Addr} {i : Nat} {P : Prop} (hi : M[i]? = some (a, mObj C fs)) (h : P) : HasO M (iRef a) C fs ∧ P := ⟨.inr ⟨a, i, rfl, hi⟩, h⟩
theorem k_ho3 {fs : FR} {P : Prop} (hi : HasO M R C fs) (h : P) : HasO M R C fs ∧ P := ⟨hi, h⟩
theorem k_fldG {fs : FR} {Rf : Rep} {P : Rep → Prop} (ho : HasO M R C fs) (hf : fs.lookup f = some Rf) (h : P Rf) : ∃ fs', HasO M R C fs' ∧ ∃ Rf, fs'.lookup f = some Rf ∧ P Rf := ⟨fs, ho, Rf, hf, h⟩
theorem k_methG {m : Str} {fs : FR} {P : FR → Prop} (ho : HasO M R C fs) (hm : fs.lookup m = none) (h : P fs) : ∃ fs', HasO M R C fs' ∧ fs'.lookup m = none ∧ P fs' := ⟨fs, ho, hm, h⟩
theorem k_set {a : Addr} {j : Nat} {fs : FR} {P : Addr → Nat → FR → Prop} (hm : M[j]? = some (a, mObj C fs)) (hl : fs.length < 1000) (h : P a j fs) : ∃ (b : Addr) (j : Nat) (fs : FR), iRef a = iRef b ∧ M[j]? = some (b, mObj C fs) ∧ fs.length < 1000 ∧ P b j fs := ⟨a, j, fs, rfl, hm, hl, h⟩
theorem k_pd {ps : List (Str × Str)} {P : List (Str × Str) → Prop} (hp : HasP M R ps) (h : P ps) : ∃ ps', HasP M R ps' ∧ P ps' := ⟨ps, hp, h⟩
theorem k_ss {a b : Str} {P : Str → Str → Prop} (h : P a b) : ∃ c d, [aStr a, aStr b] = [aStr c, aStr d] ∧ P c d := ⟨a, b, rfl, h⟩
/-! ### dicts whose keys are texts -/
structure DkOk (S : Hp) (kvs : FR) (vs : List (Key × V)) : Prop where
  nm : vs.map (·.1) = kvs.map fun p => (Sum.inr p.1 : Key)
  al : All2 S (kvs.map (·.2)) (vs.map (·.2))
theorem DkOk.mono {S S' : Hp} {kvs : FR} {vs : List (Key × V)} (h : DkOk S kvs vs) (e : Same S S') : DkOk S' kvs vs := ⟨h.nm, h.al.mono e⟩
theorem DkOk.len {S : Hp} {kvs : FR} {vs : List (Key × V)} (h : DkOk S kvs vs) : vs.length = kvs.length := by
  have := congrArg List.length h.nm
  simpa using this
theorem DkOk.look {S : Hp} : ∀ {kvs : FR} {vs : List (Key × V)}, DkOk S kvs vs → ∀ z : Str, (kvs.lookup z = none → valV vs (.inr z) = none) ∧ ∀ R, kvs.lookup z = some R → ∃ v, valV vs (.inr z) = some v ∧ R.p S v
  | [], [], _, z => ⟨fun _ => rfl, fun R e => by cases e⟩
  | [], _ :: _, h, z => by have := h.nm; simp at this
  | _ :: _, [], h, z => by have := h.nm; simp at this
  | (g, R) :: kvs, (g', v) :: vs, h, z => by
    have e : g' = .inr g := by have := h.nm; simp at this; exact this.1
    subst e
    have ih := DkOk.look (kvs := kvs) (vs := vs) ⟨by have := h.nm; simp at this; exact this, h.al.2⟩ z
    rw [List.lookup_cons]
    by_cases hf : g = z
    · subst hf
      rw [beq_self_eq_true]
      refine ⟨fun z => (nomatch z), fun R' z => ?_⟩
      have e : R = R' := Option.some.inj z
      subst e
      exact ⟨v, valV_pos rfl, h.al.1⟩
    · rw [show (z == g) = false from beq_eq_false_iff_ne.mpr fun w => hf w.symm]
      rw [valV_neg (p := ((Sum.inr g : Key), v)) (fun w => hf (Sum.inr.inj w))]
      exact ih
def iDF (kvs : FR) : Rep := ⟨fun S v => ∃ a o vs, v = .ref a ∧ S a = some (.frz o (.dK vs)) ∧ DkOk S kvs vs, fun e ⟨a, o, vs, h1, h2, h3⟩ => ⟨a, o, vs, h1, e _ _ h2, h3.mono e⟩⟩
def mDK (kvs : FR) : MRep := ⟨fun S o => ∃ vs, o = .dK vs ∧ DkOk S kvs vs, fun e ⟨vs, h1, h2⟩ => ⟨vs, h1, h2.mono e⟩, fun ⟨vs, h1, _⟩ ys z => by rw [h1] at z; cases z⟩
def HasD (M : SH) (R : Rep) (kvs : FR) : Prop := R = iDF kvs ∨ ∃ (a : Addr) (i : Nat), R = iRef a ∧ M[i]? = some (a, mDK kvs)
theorem HasD.get {kvs : FR} (h : HasD M R kvs) {S H : Hp} {v : V} (e : Same S H) (m : MOk S H M) (p : R.p S v) : ∃ a vs, v = .ref a ∧ Rd H a (.dK vs) ∧ DkOk S kvs vs := by
  rcases h with h | ⟨a, i, h, hm⟩
  · subst h
    obtain ⟨a, o, vs, h1, h2, h3⟩ := p
    exact ⟨a, vs, h1, .inr ⟨o, e _ _ h2⟩, h3⟩
  · subst h
    cases p
    obtain ⟨_, o, ho, vs, rfl, h3⟩ := m.at_ _ _ (at_mem hm)
    exact ⟨a, vs, rfl, .inl ho, h3⟩
theorem ev_dinD {ty td : TE} (h : Ev E ty Γ M (fun R1 M1 => ∃ z, R1 = aStr z ∧ Ev E td Γ M1 (fun R M2 => ∃ kvs, HasD M2 R kvs ∧ k (iBl (kvs.lookup z).isSome) M2) X) X) : Ev E (tDIn ty td) Γ M k X := fun σ S H Q I o ox =>
  h σ S H _ I (fun v S1 H1 R1 M1 ⟨z, e, q⟩ st p => by
    subst e
    cases p
    exact q σ S1 H1 _ (I.step st) (fun y S2 H2 R M2 ⟨kvs, hd, q2⟩ st2 p2 => by
      obtain ⟨a, vs, rfl, hr, ok⟩ := hd.get st2.e st2.m p2
      refine ⟨a, valV vs (.inr z), rfl, .inl ⟨vs, .inr z, hr, rfl, rfl⟩, ?_⟩
      have e : (valV vs (.inr z)).isSome = (kvs.lookup z).isSome := by
        cases hl : kvs.lookup z with
        | none => rw [(ok.look z).1 hl]; rfl
        | some R => obtain ⟨w, hw, _⟩ := (ok.look z).2 R hl; rw [hw]; rfl
      rw [e]
      exact (o.step st) _ S2 H2 _ M2 q2 st2 rfl) (ox.step st)) ox
theorem ev_dgetD {ty td : TE} (h : Ev E td Γ M (fun R1 M1 => ∃ Rd : Rep, Rd = R1 ∧ Ev E ty Γ M1 (fun R2 M2 => ∃ z kvs, R2 = aStr z ∧ HasD M2 R1 kvs ∧ ∃ R, kvs.lookup z = some R ∧ k R M2) X) X) : Ev E (tDGet td ty) Γ M k X := fun σ S H Q I o ox =>
  h σ S H _ I (fun x S1 H1 R1 M1 ⟨_, _, q⟩ st p => q σ S1 H1 _ (I.step st) (fun y S2 H2 R2 M2 ⟨z, kvs, e, hd, R, hl, q2⟩ st2 p2 => by
    subst e
    cases p2
    obtain ⟨a, vs, rfl, hr, ok⟩ := hd.get st2.e st2.m (R1.m st2.s p)
    obtain ⟨w, hw, pw⟩ := (ok.look z).2 R hl
    exact ⟨a, w, rfl, .inl ⟨vs, .inr z, hr, rfl, hw.symm⟩, (o.step st) w S2 H2 R M2 q2 st2 pw⟩) (ox.step st)) ox
theorem ev_dnewK (h : ∀ a, k (iRef a) (M ++ [(a, mDK [])])) : Ev E tDNewK Γ M k X := fun σ S H Q I o ox p hp =>
  o (.ref p) S _ (iRef p) _ (h p) (Stp.newM (P := mDK []) I.ex I.m hp ⟨[], rfl, rfl, True.intro⟩) rfl
theorem st_fldM (hc : Cls K C) (hn : NoAttr K C f) (h : ∀ l, Ev E ta Γ (M ++ [(l, mLst [])]) (fun R2 M2 => ∃ (a : Addr) (j : Nat) (fs : FR), R2 = iRef a ∧ M2[j]? = some (a, mObj C fs) ∧ fs.length < 1000 ∧ D.nx Γ (M2.set j (a, mObj C (putR f (iRef l) fs)))) D.ex) : St E (sFld K ta (tLst tNil) f) Γ M D :=
  st_fld hc hn (ev_lstM (ea_nil ⟨by simp, fun l => h l⟩))
theorem st_fldT (hc : Cls K C) (hn : NoAttr K C f) (h : ∀ l, Ev E ta Γ (M ++ [(l, mPD [])]) (fun R2 M2 => ∃ (a : Addr) (j : Nat) (fs : FR), R2 = iRef a ∧ M2[j]? = some (a, mObj C fs) ∧ fs.length < 1000 ∧ D.nx Γ (M2.set j (a, mObj C (putR f (iRef l) fs)))) D.ex) : St E (sFld K ta tDNewT f) Γ M D :=
  st_fld hc hn (ev_dnewT fun l => h l)
theorem st_fldK (hc : Cls K C) (hn : NoAttr K C f) (h : ∀ l, Ev E ta Γ (M ++ [(l, mDK [])]) (fun R2 M2 => ∃ (a : Addr) (j : Nat) (fs : FR), R2 = iRef a ∧ M2[j]? = some (a, mObj C fs) ∧ fs.length < 1000 ∧ D.nx Γ (M2.set j (a, mObj C (putR f (iRef l) fs)))) D.ex) : St E (sFld K ta tDNewK f) Γ M D :=
  st_fld hc hn (ev_dnewK fun l => h l)
theorem k_ref {d : Addr} {P : Addr → Prop} (h : P d) : ∃ e, iRef d = iRef e ∧ P e := ⟨d, rfl, h⟩
theorem k_put {a b : Str} {d : Addr} {i : Nat} {ps : List (Str × Str)} {P : Str → Str → Nat → List (Str × Str) → Prop} (hm : M[i]? = some (d, mPD ps)) (hl : ps.length < 1000000) (h : P a b i ps) : ∃ (a' b' : Str) (i : Nat) (ps : List (Str × Str)), [aStr a, aStr b] = [aStr a', aStr b'] ∧ M[i]? = some (d, mPD ps) ∧ ps.length < 1000000 ∧ P a' b' i ps := ⟨a, b, i, ps, rfl, hm, hl, h⟩
/-! ### a last word at the end of a def -/
def TurnC (Γ : Ct) (M : SH) (Γ' : Ct) (M' : SH) : Prop := ∀ S H σ, Nv S H σ Γ M → ∃ S', Stp S H S' H M M' ∧ Nv S' H σ Γ' M'
def NT (kc : KC) : KC := fun Γ M => ∃ Γ' M', TurnC Γ M Γ' M' ∧ kc Γ' M'
theorem st_nt (h : St E t Γ M { D with nx := NT D.nx }) : St E t Γ M D := fun σ S H D0 I o =>
  h σ S H D0 I ⟨fun σ2 S2 H2 Γ2 M2 ⟨Γ3, M3, tn, q⟩ st I2 => let ⟨S3, st3, I3⟩ := tn S2 H2 σ2 I2; o.nx σ2 S3 H2 Γ3 M3 q (st.trans st3) I3, o.rt, o.bk, o.ct, o.ex⟩
theorem turn_fzP {i j : Nat} {l x : Addr} {ps : List (Str × Str)} {fs : FR} {f : Str} (hl : M[i]? = some (l, mPD ps)) (hx : (M.eraseIdx i)[j]? = some (x, mObj C fs)) (hf : fs.lookup f = some (iRef l)) : TurnC Γ M Γ ((M.eraseIdx i).set j (x, mObj C (putR f (iPD ps) fs))) := fun S H σ I => by
  obtain ⟨_, ob, ho, px⟩ := I.m.at_ l (mPD ps) (at_mem hl)
  cases px
  have f1 := Stp.fzAt hl I.ex I.m ho
  have f2 := Stp.re (P' := mObj C (putR f (iPD ps) fs)) hx f1.e f1.m fun o ⟨dx, vs, e, hi⟩ => ⟨dx, vs, e, hi.re (fun v p => by cases p; exact ⟨l, rfl, upd_same⟩) hf⟩
  exact ⟨_, f1.trans f2, I.step (f1.trans f2)⟩
/-! ### three at once; tests of some truth -/
theorem st_par3 {i j l : Nat} {ta : TA} (h : Ea E ta Γ M (fun Rs M1 => ∃ R1 R2 R3, Rs = [R1, R2, R3] ∧ D.nx (((Γ.set i (some R1)).set j (some R2)).set l (some R3)) M1) D.ex) : St E (tPar3 i j l ta) Γ M D := fun σ S H D0 I o =>
  h σ S H _ I (fun xs S2 H2 Rs M2 ⟨R1, R2, R3, e, q⟩ st p => by
    subst e
    match xs, p with
    | [], p => exact p.elim
    | [_], p => exact p.2.elim
    | [_, _], p => exact p.2.2.elim
    | _ :: _ :: _ :: _ :: _, p => exact p.2.2.2.elim
    | [u, v, w], p => exact ⟨u, v, w, rfl, o.nx _ S2 H2 _ M2 q st ((((I.step st).set i p.1).set j p.2.1).set l p.2.2.1)⟩) o.ex
theorem k_par3 {R3 : Rep} {P : Rep → Rep → Rep → Prop} (h : P R1 R2 R3) : ∃ A B C, [R1, R2, R3] = [A, B, C] ∧ P A B C := ⟨_, _, _, rfl, h⟩
theorem st_if_any (h : ∀ (kb : Bool → SH → Prop) (X : KX), (∀ b, kb b M) → Et E c Γ M kb X) (h1 : St E t Γ M D) (h2 : St E u Γ M D) : St E (tIfS c t u) Γ M D :=
  st_if fun σ S H Q I o ox => h (fun b M1 => M1 = M) D.ex (fun _ => rfl) σ S H Q I (fun b S2 H2 M2 e st => o b S2 H2 M2 (by
    subst e
    cases b with
    | true => simpa using h1
    | false => simpa using h2) st) ox
theorem o_ixN {α : Type} {l : List α} {g : α → Rep} {x : Int} (n : Nat) (e : x = n) (h : n < l.length) : O2p (rIxL K) (iLst (l.map g)) (iInt x) M (g l[n]) := by
  subst e
  exact o_ixL (atI_map (atI_nat (by simp [h])))
theorem o_ixNT {α : Type} {l : List α} {g : α → Rep} {x : Int} (n : Nat) (e : x = n) (h : n < l.length) : O2p (rIxT K) (aTup K (l.map g)) (iInt x) M (g l[n]) := by
  subst e
  exact o_ixT (atI_map (atI_nat (by simp [h])))
/-! ### comprehensions over a list of data -/
theorem ep_lcF {α : Type} {l : List α} {e : α → Rep} {j : Nat} {p : α → Bool} (hi : Ep E tl Γ M (iLst (l.map e))) (hn : l.length ≤ 1000000) (hj : j ∈ vs)
    (ht : ∀ x ∈ l, Etp E tt ((wipeC Γ vs).set j (some (e x))) M (p x)) (he : ∀ x ∈ l, p x = true → Ep E te ((wipeC Γ vs).set j (some (e x))) M (e x)) : Ep E (tLc (iList K tl) (gName j) tt te vs) Γ M (iLst ((l.filter p).map e)) := by
  have := ep_lcL (K := K) (q := id) (e' := e) hi hn hj ht he
  rwa [List.map_id] at this
theorem ep_lcM {α : Type} {l : List α} {e e' : α → Rep} {j : Nat} (hi : Ep E tl Γ M (iLst (l.map e))) (hn : l.length ≤ 1000000) (hj : j ∈ vs)
    (he : ∀ x ∈ l, Ep E te ((wipeC Γ vs).set j (some (e x))) M (e' x)) : Ep E (tLc (iList K tl) (gName j) tYes te vs) Γ M (iLst (l.map e')) := by
  have := ep_lcL (K := K) (p := fun _ => true) (q := id) (e' := e') (l := l) (e := e) (te := te) (tt := tYes) hi hn hj (fun _ _ => etp_yes) (fun x hx _ => he x hx)
  rwa [List.map_id, List.filter_eq_self.mpr fun _ _ => rfl] at this
/-- .. whose test draws: some of the items -/
theorem ev_lcD {α : Type} {l : List α} {e e' : α → Rep} {j : Nat} {p : α → Prop} (hi : Ep E tl Γ M (iLst (l.map e))) (hn : l.length ≤ 1000000) (hj : j ∈ vs)
    (ht : ∀ x ∈ l, ∀ (kb : Bool → SH → Prop), (p x → kb true M) → kb false M → Et E tt ((wipeC Γ vs).set j (some (e x))) M kb X0)
    (he : ∀ x ∈ l, p x → Ep E te ((wipeC Γ vs).set j (some (e x))) M (e' x)) (q : ∀ l' : List α, l'.Sublist l → (∀ x ∈ l', p x) → k (iLst (l'.map e')) M) : Ev E (tLc (iList K tl) (gName j) tt te vs) Γ M k X :=
  ev_lc (fun z => by rw [z] at hj; cases hj) (tip_list hi _ _ ⟨by simpa using hn, fun i acc M2 => ∃ l' : List α, acc = l'.map e' ∧ l'.Sublist (l.take i) ∧ (∀ x ∈ l', p x) ∧ M2 = M, ⟨[], rfl, by simp, by simp, rfl⟩, fun i r acc M2 hlt hr _ ⟨l', e1, e2, e3, e4⟩ => by
    subst e4
    have hlt' : i < l.length := by simpa using hlt
    replace hr : (l.map e)[i]? = some r := hr
    rw [List.getElem?_map, List.getElem?_eq_getElem hlt'] at hr
    have e5 : e l[i] = r := Option.some.inj hr
    subst e5
    have hm := List.getElem_mem hlt'
    have et : l.take (i + 1) = l.take i ++ [l[i]] := by rw [List.take_succ, List.getElem?_eq_getElem hlt']; rfl
    refine tg_name (ht _ hm _ (fun hp => ?_) ?_) (.inr hj)
    · refine (if_pos rfl).mpr (he _ hm hp _ _ ⟨l' ++ [l[i]], ?_, ?_, ?_, rfl⟩)
      · rw [e1]; simp
      · rw [et]; exact e2.append (List.Sublist.refl _)
      · intro x hx
        rcases List.mem_append.mp hx with h | h
        · exact e3 x h
        · rw [List.mem_singleton.mp h]; exact hp
    · refine (if_neg Bool.false_ne_true).mpr ⟨l', e1, ?_, e3, rfl⟩
      rw [et]
      exact e2.trans (List.sublist_append_left _ _), fun acc M2 _ ⟨l', e1, e2, e3, e4⟩ => by
    subst e1; subst e4
    rw [List.length_map, List.take_length] at e2
    exact q l' e2 e3⟩)
end
end L3

namespace L3
open PySem L2 RZ PyProof.Rows
theorem hu65_of {A : Around} {k : Nat} (hr : Room k A) : A.units + 65 < cLine := by have := hr.un; omega
/-! ### a pair among pairs -/
def prD (p : Str × Str) : PyData := .tuple [.str p.1, .str p.2]
theorem prD_rep (K : PySem.W.Frag) (p : Str × Str) : aTup K [aStr p.1, aStr p.2] = iDat K (prD p) := dat_tup (dats_cons (dat_str _ _) (dats_cons (dat_str _ _) dats_nil))
theorem eqv_prD (p q : Str × Str) : PyData.eqv (prD p) (prD q) = decide (p = q) := by
  unfold prD
  simp only [PyData.eqv, PyData.eqvAll, Bool.and_true]
  obtain ⟨a, b⟩ := p
  obtain ⟨c, d⟩ := q
  rw [Bool.eq_iff_iff]
  simp
theorem any_prD (p : Str × Str) (l : List (Str × Str)) : (l.map prD).any (fun z => PyData.eqv z (prD p)) = decide (p ∈ l) := by
  rw [List.any_map, Bool.eq_iff_iff]
  simp only [List.any_eq_true, Function.comp, eqv_prD, decide_eq_true_eq]
  exact ⟨fun ⟨x, h, e⟩ => e ▸ h, fun h => ⟨p, h, rfl⟩⟩
def PrOk (l : List (Str × Str)) : Prop := ∀ p ∈ l, StrOk p.1 ∧ StrOk p.2
theorem shp_prD {n : Nat} {p : Str × Str} (h : StrOk p.1 ∧ StrOk p.2) : Shp (n + 1) (prD p) := shp_tup fun d hd => by
  simp only [List.mem_cons, List.not_mem_nil, or_false] at hd
  rcases hd with rfl | rfl
  · exact shp_str h.1
  · exact shp_str h.2
theorem shp_prDs {n : Nat} {l : List (Str × Str)} (h : PrOk l) : Shp (n + 2) (.list (l.map prD)) := shp_list fun d hd => by
  obtain ⟨p, hp, rfl⟩ := List.mem_map.mp hd
  exact shp_prD (h p hp)
theorem prDs_rep (K : PySem.W.Frag) (l : List (Str × Str)) : iLst (l.map fun p => aTup K [aStr p.1, aStr p.2]) = iDat K (.list (l.map prD)) := by
  rw [← dat_list, List.map_map]
  congr 1
section
variable {E : XK} {K : PySem.W.Frag} {Γ : Ct} {M : SH} {k : KR} {X : KX} {R R1 R2 : Rep}
theorem o_inP {a b : Str} {l : List (Str × Str)} (hp : StrOk a ∧ StrOk b) (hl : PrOk l) : O2p (rInD K) (aTup K [aStr a, aStr b]) (iLst (l.map fun p => aTup K [aStr p.1, aStr p.2])) M (iBl (decide ((a, b) ∈ l))) := o2_val fun x y S H e _ h1 h2 => by
  rw [prDs_rep] at h2
  have h1' : (iDat K (prD (a, b))).p S x := by rw [← prD_rep]; exact h1
  refine ⟨_, rfl, fun Q q => ⟨prD (a, b), l.map prD, Dp.mono e (iDat_dp K _ h1'), Dp.mono e (iDat_dp K _ h2), (shp_prD hp).ok, (shp_prDs hl).ok, ?_⟩⟩
  rw [any_prD]
  exact q
end
end L3

namespace L3
open PySem PySem.Spec L2 RZ PyProof.Rows
/-! ### enumerate over a tuple -/
def IteT (K : PySem.W.Frag) (a : Addr) : It where
  go i H := ∃ (xs : List V) (x : V), SqT K H a xs ∧ xs[i]? = some x
  yld i H v H' := ∃ T x, v = .ref T ∧ H T = none ∧ H' = upd H T (.tup [.int (i : Nat), x]) ∧ ∀ xs, SqT K H a xs → xs[i]? = some x
  stop i H := ∃ xs : List V, SqT K H a xs ∧ xs.length ≤ i
def iEnumT (K : PySem.W.Frag) (ta : TA) : TI := fun σ H R => ta σ H fun vs H1 => ∃ a xs, vs = [.ref a] ∧ SqT K H1 a xs ∧ R (IteT K a) H1
section
variable {E : XK} {K : PySem.W.Frag} {Γ : Ct} {M : SH} {tl : TE}
end
end L3

namespace L3
open PySem PySem.Spec L2 RZ PyProof.Rows
/-! ### a dict that is never changed again -/
def tFz (t : TS) : TS := fun D σ H => ∃ d u, H d = some u ∧ Mut (some u) ∧ ∀ od, t D σ (upd H d (.frz od u))
theorem ps_fz {X : Cx} {st : Stmt} {t : TS} (h : PS X st t) : PS X st (tFz t) := ⟨fun pins s σ H D I ⟨d, u, hd, mu, q⟩ => let ⟨od, I2⟩ := I.lock hd mu; h.run pins s σ _ D I2 (q od)⟩
theorem Stp.frzAt {S H : Hp} {M : SH} {i : Nat} {d : Addr} {P : MRep} {u : HO} {od : Obj} (hi : M[i]? = some (d, P)) (e : Same S H) (m : MOk S H M) : Stp S H (upd S d (.frz od u)) (upd H d (.frz od u)) M (M.eraseIdx i) := by
  obtain ⟨hS, _⟩ := m.mem (a := d) (List.mem_map.mpr ⟨_, at_mem hi, rfl⟩)
  have pm := erase_perm hi
  have pq : (dm M).Perm (d :: dm (M.eraseIdx i)) := List.Perm.map (fun p : Addr × MRep => p.1) pm
  have nd : (d :: dm (M.eraseIdx i)).Nodup := (pq.nodup_iff).mp m.nd
  have out : d ∉ dm (M.eraseIdx i) := (List.nodup_cons.mp nd).1
  have sub : ∀ a ∈ dm (M.eraseIdx i), a ∈ dm M := fun a ha => (pq.mem_iff).mpr (List.mem_cons_of_mem _ ha)
  have dM : d ∈ dm M := List.mem_map.mpr ⟨_, at_mem hi, rfl⟩
  have sm : Same S (upd S d (.frz od u)) := fun b o q => by rw [upd_ne (fun z => by rw [z, hS] at q; cases q)]; exact q
  refine ⟨sm, fun b o q => ?_, fun b h1 h2 => ?_, fun b o h1 q => ?_, ⟨fun b Q hq => ?_, (List.nodup_cons.mp nd).2⟩, fun b hb => .inl (sub b hb)⟩
  · by_cases hb : b = d
    · subst hb; rw [upd_same] at q ⊢; exact q
    · rw [upd_ne hb] at q ⊢; exact e _ _ q
  · by_cases hb : b = d
    · subst hb; exact .inr dM
    · rw [upd_ne hb] at h2; exact absurd h1 h2
  · rw [upd_ne (fun z => h1 (by rw [z]; exact dM))]; exact q
  · have hb : b ≠ d := fun z => out (by rw [← z]; exact List.mem_map.mpr ⟨_, hq, rfl⟩)
    obtain ⟨z, o, q1, q2⟩ := m.at_ b Q (pm.symm.subset (List.mem_cons_of_mem _ hq))
    exact ⟨by rw [upd_ne hb]; exact z, o, by rw [upd_ne hb]; exact q1, Q.m sm q2⟩
section
variable {E : XK} {K : PySem.W.Frag} {Γ : Ct} {M : SH} {k : KR} {X : KX} {R R1 R2 : Rep} {te td tl : TE} {vs : List Nat} {D : EndT} {t u : TS} {tr : TA} {C : Addr}
/-! ### what it tells -/
theorem DkOk.at {S : Hp} {kvs : FR} {ws : List (Key × V)} (h : DkOk S kvs ws) {i : Nat} {kv : Key} {v : V} (e : ws[i]? = some (kv, v)) : ∃ p, kvs[i]? = some p ∧ kv = .inr p.1 ∧ p.2.p S v := by
  have h1 : (ws.map (·.1))[i]? = some kv := by rw [List.getElem?_map, e]; rfl
  rw [h.nm, List.getElem?_map] at h1
  cases hp : kvs[i]? with
  | none => rw [hp] at h1; cases h1
  | some p =>
    rw [hp] at h1
    have h2 : (ws.map (·.2))[i]? = some v := by rw [List.getElem?_map, e]; rfl
    obtain ⟨r, h3, h4⟩ := h.al.getV h2
    rw [List.getElem?_map, hp] at h3
    have e3 := Option.some.inj h3
    exact ⟨p, rfl, (Option.some.inj h1).symm, by rw [← e3] at h4; exact h4⟩
theorem tip_keysF {kvs : FR} (h : Ep E td Γ M (iDF kvs)) : Tip E (iKeys td) Γ M kvs.length (fun i r => ∃ p, kvs[i]? = some p ∧ r = aStr p.1) := fun ki X q σ S H R I o ox =>
  h (fun R' M' => R' = iDF kvs ∧ M' = M) X ⟨rfl, rfl⟩ σ S H _ I (fun v S2 H2 R' M2 ⟨e1, e2⟩ st p => by
    subst e1; subst e2
    obtain ⟨d, od, ws, rfl, hd, ok⟩ := p
    refine ⟨d, od, rfl, .inl ⟨ws, st.e _ _ hd, o _ S2 H2 _ _ _ q st ⟨fun H => H d = some (.frz od (.dK ws)), fun i H x H' => H' = H ∧ ∃ kv v, ws[i]? = some (kv, v) ∧ x = L2.kV kv, ?_, fun Sx H e1 e2 => (e1.trans e2) _ _ hd, ?_⟩⟩⟩
    · have w := walk_keys (d := d) (o := od) (kvs := ws)
      rw [ok.len] at w
      exact w
    · rintro i H x H' hi ⟨rfl, kv, v, hw, rfl⟩ Sx Mx e1 e2 m
      obtain ⟨p, hp, rfl, _⟩ := ok.at hw
      exact ⟨Sx, _, Stp.refl e2 m, ⟨p, hp, rfl⟩, rfl⟩) ox
end
/-! ### len, list of such a dict -/
def rLenF : List V → Hp → VK → Prop := fun xs H Q => ∃ a kvs, xs = [V.ref a] ∧ Rd H a (.dK kvs) ∧ Q (.int kvs.length) H
end L3

namespace L3
open PySem PySem.Spec L2 RZ PyProof.Rows
/-! ### what the iterator over a dict's keys gives, at the level of its own body -/
section
variable {prog : Program} {w : World} {A : Around} {E : Value → Shared → Prop} {s : Shared} {it d : Addr} {od : Obj} {es : Array DictEntry} {ep i : Nat}
end
/-! ### zip of a dict's keys and a list -/
def ItzK (K : PySem.W.Frag) (d : Addr) (od : Obj) (kvs : List (Key × V)) (b : Addr) : It where
  go i H := H d = some (.frz od (.dK kvs)) ∧ i < kvs.length ∧ ∃ (ys : List V) (y : V), SqL K H b ys ∧ ys[i]? = some y
  yld i H v H' := ∃ T x y, v = .ref T ∧ H T = none ∧ H' = upd H T (.tup [x, y]) ∧ (kvs[i]?.map fun p => L2.kV p.1) = some x ∧ ∀ ys, SqL K H b ys → ys[i]? = some y
  stop i H := H d = some (.frz od (.dK kvs)) ∧ i ≤ kvs.length ∧ ∃ ys : List V, SqL K H b ys ∧ i ≤ ys.length ∧ (i = kvs.length ∨ i = ys.length)
abbrev zk1 (h : Heap) (d n ep : Nat) : Heap := h.push { cls := .type "dict_keyiterator", data := .fields #[.ref d, .int 0 0, .int n 0, .int ep 0] }
abbrev zk2 (h : Heap) (d n ep b : Nat) : Heap := (zk1 h d n ep).push { cls := .type "list_iterator", data := .fields #[.ref b, .int 0 0] }
abbrev zk3 (h : Heap) (d n ep b : Nat) : Heap := (zk2 h d n ep b).push { cls := .type "tuple", data := .seq #[.ref h.objs.size, .ref (zk1 h d n ep).objs.size] }
abbrev zk4 (h : Heap) (d n ep b : Nat) : Heap := (zk3 h d n ep b).push { cls := .type "tuple", data := .seq #[.none, .none] }
abbrev zk5 (h : Heap) (d n ep b : Nat) : Heap := (zk4 h d n ep b).push { cls := .type "zip", data := .fields #[.none, .bool false, .bool false, .ref (zk2 h d n ep b).objs.size, .ref (zk3 h d n ep b).objs.size] }
def iZipK (K : PySem.W.Frag) (ta : TA) : TI := fun σ H R => ta σ H fun vs H1 => ∃ d b od kvs ys, vs = [.ref d, .ref b] ∧ H1 d = some (.frz od (.dK kvs)) ∧ SqL K H1 b ys ∧ R (ItzK K d od kvs b) H1
section
variable {E : XK} {K : PySem.W.Frag} {Γ : Ct} {M : SH} {k : KR} {X : KX} {R R1 R2 : Rep} {te ta tb tl td : TE} {vs : List Nat} {D : EndT} {t u : TS} {tr : TA} {C : Addr}
end
end L3

namespace L3
open PySem PySem.Spec L2 RZ PyProof.Rows
section
variable {E : XK} {K : PySem.W.Frag} {Γ : Ct} {M : SH} {k : KR} {X : KX} {R R1 R2 : Rep} {te ta tb tc tl tv : TE} {vs : List Nat} {D : EndT} {t u : TS} {c tt : TT} {tr tk : TA} {C : Addr} {f : Str} {wi : TI}
/-! ### a method that changes what is there -/
theorem ev_methM {m : Str} {ts : TSp} (h : Ev E ta Γ M (fun R M1 => ∃ fs, HasO M1 R C fs ∧ fs.lookup m = none ∧ Ea E tr Γ M1 (fun Rs M2 => ∃ Rs', LeS (R :: Rs) Rs' ∧ ts Rs' M2 k X0) X) X) : Ev E (tMeth C m (spT ts) [] E0 ta tr) Γ M k X := fun σ S H Q I o ox =>
  h σ S H _ I (fun v S1 H1 R M1 ⟨fs, ho, hm, q⟩ st p => by
    obtain ⟨a, dx, vs, e, ha, hi⟩ := ho.get st.e st.m p
    refine ⟨a, dx, vs, e, ha, (hi.look m).1 hm, q σ S1 H1 _ (I.step st) (fun xs S2 H2 Rs M2 ⟨Rs', le, q2⟩ st2 p2 => ?_) (ox.step st)⟩
    rw [List.append_nil]
    exact ⟨S2, Rs', M2, k, X0, q2, st2.e, st2.m, le S2 (v :: xs) ⟨R.m st2.s p, p2⟩, o.step (st.trans st2), fun _ _ _ _ _ _ z => z.elim⟩) ox
/-! ### dicts: list, len, whether there is none -/
theorem hd_f {kvs : FR} : HasD M (iDF kvs) kvs := .inl rfl
theorem hd_m {kvs : FR} {a : Addr} {i : Nat} (h : M[i]? = some (a, mDK kvs)) : HasD M (iRef a) kvs := .inr ⟨a, i, rfl, h⟩
theorem k_hd {kvs : FR} {P : FR → Prop} (h : HasD M R kvs) (q : P kvs) : ∃ kvs', HasD M R kvs' ∧ P kvs' := ⟨kvs, h, q⟩
theorem k_hg {z : Str} {kvs : FR} {Rf : Rep} {P : Rep → Prop} (h : HasD M R kvs) (hl : kvs.lookup z = some Rf) (q : P Rf) : ∃ z' kvs', aStr z = aStr z' ∧ HasD M R kvs' ∧ ∃ Rf, kvs'.lookup z' = some Rf ∧ P Rf := ⟨z, kvs, rfl, h, Rf, hl, q⟩
theorem k_rd {P : Prop} (q : P) : ∃ Rd : Rep, Rd = R ∧ P := ⟨R, rfl, q⟩
theorem c_lenD {kvs : FR} (h : HasD M R kvs) : Olp rLenF [R] M (iInt kvs.length) := ol_val fun xs S H e m p => by
  obtain ⟨v, rfl, p1⟩ := all2_1 p
  obtain ⟨a, ws, rfl, hr, ok⟩ := h.get e m p1
  exact ⟨_, rfl, fun Q q => ⟨a, ws, rfl, hr, by rw [ok.len]; exact q⟩⟩
def rListK : List V → Hp → VK → Prop := fun xs H Q => ∃ (a : Addr) (kvs : List (Key × V)), xs = [.ref a] ∧ Rd H a (.dK kvs) ∧ ∀ p, H p = none → Q (.ref p) (upd H p (.lst (kvs.map fun kv => L2.kV kv.1)))
theorem c_listK {kvs : FR} (h : HasD M R kvs) : Olp rListK [R] M (iLst (kvs.map fun p => aStr p.1)) := ol_newL fun xs S H e m p => by
  obtain ⟨v, rfl, p1⟩ := all2_1 p
  obtain ⟨a, ws, rfl, hr, ok⟩ := h.get e m p1
  refine ⟨ws.map fun kv => L2.kV kv.1, ?_, fun Q q => ⟨a, ws, rfl, hr, q⟩⟩
  have gen : ∀ (kvs : FR) (ws : List (Key × V)), ws.map (·.1) = kvs.map (fun p => (Sum.inr p.1 : Key)) → All2 S (kvs.map fun p => aStr p.1) (ws.map fun kv => L2.kV kv.1) := by
    intro kvs
    induction kvs with
    | nil => intro ws e; cases ws with
      | nil => exact True.intro
      | cons _ _ => simp at e
    | cons p kvs ih => intro ws e; cases ws with
      | nil => simp at e
      | cons w ws =>
        simp at e
        refine ⟨?_, ih ws (by simpa using e.2)⟩
        show L2.kV w.1 = _
        rw [e.1]
        rfl
  exact gen kvs ws ok.nm
def tDE : TE := tDNewK
def iDE : Rep := ⟨fun S v => ∃ a, v = .ref a ∧ S a = some (.dK []), fun e ⟨a, h1, h2⟩ => ⟨a, h1, e _ _ h2⟩⟩
theorem ev_dE (h : k iDE M) : Ev E tDE Γ M k X := fun σ S H Q I o ox p hp =>
  o (.ref p) (upd S p (.dK [])) _ iDE M h (Stp.newS I.ex I.m hp) ⟨p, rfl, upd_same⟩
def rNeE : L2.R2 := fun x y H Q => ∃ a b ks, x = .ref a ∧ y = .ref b ∧ Rd H a (.dK ks) ∧ Rd H b (.dK []) ∧ Q (.bl (!ks.isEmpty)) H
theorem o_neE {kvs : FR} (h : HasD M R kvs) : O2p rNeE R iDE M (iBl (!kvs.isEmpty)) := o2_val fun x y S H e m p1 p2 => by
  obtain ⟨a, ws, rfl, hr, ok⟩ := h.get e m p1
  obtain ⟨b, rfl, hb⟩ := p2
  have el : ws.isEmpty = kvs.isEmpty := by
    have := ok.len
    cases ws <;> cases kvs <;> simp_all
  exact ⟨_, rfl, fun Q q => ⟨a, b, ws, rfl, rfl, hr, .inl (e _ _ hb), by rw [el]; exact q⟩⟩
/-! ### dicts: stores, displays -/
def putD (kvs : FR) (z : Str) (R : Rep) : FR := if (kvs.lookup z).isSome then kvs.map (fun p => if p.1 = z then (p.1, R) else p) else kvs ++ [(z, R)]
theorem DkOk.put {S : Hp} {kvs : FR} {ws : List (Key × V)} (h : DkOk S kvs ws) {z : Str} {R : Rep} {v : V} (p : R.p S v) : DkOk S (putD kvs z R) (putK ws (.inr z) v) := by
  have e : (valV ws (.inr z)).isSome = (kvs.lookup z).isSome := by
    cases hl : kvs.lookup z with
    | none => rw [(h.look z).1 hl]; rfl
    | some R => obtain ⟨w, hw, _⟩ := (h.look z).2 R hl; rw [hw]; rfl
  unfold putD putK
  rw [valV_any, e]
  cases (kvs.lookup z).isSome with
  | true =>
    rw [if_pos rfl, if_pos rfl]
    have gen : ∀ (kvs : FR) (ws : List (Key × V)), ws.map (·.1) = kvs.map (fun p => (Sum.inr p.1 : Key)) → All2 S (kvs.map (·.2)) (ws.map (·.2)) → DkOk S (kvs.map fun p => if p.1 = z then (p.1, R) else p) (ws.map fun kv => if kv.1 = Sum.inr z then (kv.1, v) else kv) := by
      intro kvs
      induction kvs with
      | nil => intro ws e al; cases ws with
        | nil => exact ⟨rfl, True.intro⟩
        | cons _ _ => simp at e
      | cons q kvs ih => intro ws e al; cases ws with
        | nil => simp at e
        | cons w ws =>
          simp at e
          obtain ⟨w1, w2⟩ := w
          obtain ⟨q1, q2⟩ := q
          obtain ⟨rfl, e2⟩ := e
          have ih2 := ih ws (by simpa using e2) al.2
          by_cases hq : q1 = z
          · subst hq
            refine ⟨?_, ?_⟩
            · simp only [List.map_cons, if_true]
              rw [ih2.nm]
            · simp only [List.map_cons, if_true]
              exact ⟨p, ih2.al⟩
          · have hq2 : ¬ (Sum.inr q1 : Key) = Sum.inr z := fun e => hq (Sum.inr.inj e)
            refine ⟨?_, ?_⟩
            · simp only [List.map_cons, if_neg hq, if_neg hq2]
              rw [ih2.nm]
            · simp only [List.map_cons, if_neg hq, if_neg hq2]
              exact ⟨al.1, ih2.al⟩
    exact gen kvs ws h.nm h.al
  | false =>
    rw [if_neg Bool.false_ne_true, if_neg Bool.false_ne_true]
    refine ⟨by simp [h.nm], ?_⟩
    rw [List.map_append, List.map_append]
    exact h.al.app (All2.one p)
theorem putD_new {kvs : FR} {z : Str} {R : Rep} (h : kvs.lookup z = none) : putD kvs z R = kvs ++ [(z, R)] := by
  unfold putD; rw [h]; rfl
/-- d[z] = R -/
theorem tg_putD {to ti : TE} {kc : KC} (h : Ev E0 to Γ M (fun R1 M1 => ∃ d, R1 = iRef d ∧ Ev E0 ti Γ M1 (fun R2 M2 => ∃ (z : Str) (i : Nat) (kvs : FR), R2 = aStr z ∧ M2[i]? = some (d, mDK kvs) ∧ kvs.length < 1000000 ∧ kc Γ (M2.set i (d, mDK (putD kvs z R)))) X0) X0) : Tg (gSub to ti rSetD) R Γ M vs kc := fun v σ S H Q I p o => by
  refine h σ S H _ I (fun x S1 H1 R1 M1 ⟨d, e, q⟩ st p1 => ?_) (fun _ _ _ _ _ _ z => z.elim)
  subst e
  cases p1
  refine q σ S1 H1 _ (I.step st) (fun y S2 H2 R2 M2 ⟨z, i, kvs, e, hm, hl, q2⟩ st2 p2 => ?_) (fun _ _ _ _ _ _ z => z.elim)
  subst e
  cases p2
  have s := st.trans st2
  obtain ⟨_, o', ho, ws, rfl, ok⟩ := s.m.at_ _ _ (at_mem hm)
  have w := Stp.wrAt (P' := mDK (putD kvs z R)) (o := .dK (putK ws (.inr z) v)) hm s.e s.m ⟨_, rfl, ok.put (R.m s.s p)⟩
  exact ⟨d, _, rfl, DPut.k (k := .inr z) ho (by rw [ok.len]; exact sz_lt (by omega)), o σ _ _ Γ _ q2 (s.trans w) (I.step (s.trans w)) fun _ => rfl⟩
/-- the pairs of a display -/
def Ed (E : XK) (trs : List (TE × TE)) (Γ : Ct) (M : SH) (Kd : FR → SH → Prop) (X : KX) : Prop := ∀ σ S H Q, Nv S H σ Γ M → (∀ (ws : List (Key × V)) S2 H2 kvs M2, Kd kvs M2 → Stp S H S2 H2 M M2 → DkOk S2 kvs ws → Q (ws.map fun kv => (L2.kV kv.1, kv.2)) H2) → OutX S H M X E → tPairs trs σ H Q
theorem ed_nil {Kd : FR → SH → Prop} (h : Kd [] M) : Ed E [] Γ M Kd X := fun σ S H Q I o ox => o [] S H [] M h (Stp.refl I.ex I.m) ⟨rfl, True.intro⟩
theorem ed_cons {Kd : FR → SH → Prop} {r : List (TE × TE)} (h : Ev E ta Γ M (fun R M1 => ∃ z, R = aStr z ∧ Ev E tb Γ M1 (fun R2 M2 => Ed E r Γ M2 (fun kvs M3 => Kd ((z, R2) :: kvs) M3) X) X) X) : Ed E ((ta, tb) :: r) Γ M Kd X := fun σ S H Q I o ox =>
  h σ S H _ I (fun v S1 H1 R M1 ⟨z, e, q⟩ st p => by
    subst e
    cases p
    exact q σ S1 H1 _ (I.step st) (fun w S2 H2 R2 M2 q2 st2 p2 => q2 σ S2 H2 _ ((I.step st).step st2) (fun ws S3 H3 kvs M3 q3 st3 ok =>
      o ((.inr z, w) :: ws) S3 H3 _ M3 q3 ((st.trans st2).trans st3) ⟨by simp [ok.nm], R2.m st3.s p2, ok.al⟩) ((ox.step st).step st2)) (ox.step st)) ox
theorem merge_new : ∀ (ws acc : List (Key × V)), ((acc ++ ws).map (·.1)).Nodup → ws.foldl (fun a kv => putK a kv.1 kv.2) acc = acc ++ ws
  | [], acc, _ => by simp
  | p :: ws, acc, h => by
    have nin : ¬ p.1 ∈ acc.map (·.1) := fun hm => by
      rw [List.map_append, List.nodup_append] at h
      exact h.2.2 _ hm _ (by simp) rfl
    have e : putK acc p.1 p.2 = acc ++ [p] := by
      unfold putK
      rw [if_neg]
      intro ha
      obtain ⟨q, hq, e⟩ := List.any_eq_true.mp ha
      exact nin (List.mem_map.mpr ⟨q, hq, of_decide_eq_true e⟩)
    rw [List.foldl_cons, e, merge_new ws (acc ++ [p]) (by simpa using h)]
    simp
theorem ev_disp {trs : List (TE × TE)} (h : ∀ p, Ed E trs Γ (M ++ [(p, mDK [])]) (fun kvs M2 => ∃ i, M2[i]? = some (p, mDK []) ∧ kvs.length ≤ 15 ∧ (kvs.map (·.1)).Nodup ∧ k (iRef p) (M2.set i (p, mDK kvs))) X) : Ev E (tDisp trs) Γ M k X := fun σ S H Q I o ox p hp => by
  have s0 := Stp.newM (P := mDK []) (o := .dK []) I.ex I.m hp ⟨[], rfl, rfl, True.intro⟩
  refine h p σ S _ _ (I.step s0) (fun ws S2 H2 kvs M2 ⟨i, hm, hl, nd, q⟩ st ok => ?_) (ox.step s0)
  have s := s0.trans st
  obtain ⟨_, ob, ho, us, rfl, ok0⟩ := s.m.at_ _ _ (at_mem hm)
  have e0 : us = [] := by
    have := ok0.len
    exact List.length_eq_zero_iff.mp this
  subst e0
  refine ⟨ho, ws, rfl, by rw [ok.len]; exact hl, ?_⟩
  have en : mergeK [] ws = ws := merge_new ws [] (by
    have e1 : ws.map (·.1) = (kvs.map (·.1)).map (Sum.inr : Str → Key) := by rw [ok.nm, List.map_map]; rfl
    rw [List.nil_append, e1]
    have pw : ∀ l : List Str, l.Nodup → (l.map (Sum.inr : Str → Key)).Nodup := by
      intro l
      induction l with
      | nil => intro _; simp
      | cons a l ih =>
        intro h
        rw [List.nodup_cons] at h
        rw [List.map_cons, List.nodup_cons]
        refine ⟨fun hm => ?_, ih h.2⟩
        obtain ⟨b, hb, e⟩ := List.mem_map.mp hm
        exact h.1 (Sum.inr.inj e ▸ hb)
    exact pw _ nd)
  rw [en]
  have w := Stp.wrAt (P' := mDK kvs) (o := .dK ws) hm s.e s.m ⟨ws, rfl, ok⟩
  exact o (.ref p) S2 _ (iRef p) _ q (s.trans w) rfl
theorem st_tFzL {i j : Nat} {d : Addr} {kvs : FR} (hd : M[i]? = some (d, mDK kvs)) (hj : Γ[j]? = some (some (iRef d))) (h : St E t (Γ.set j (some (iDF kvs))) (M.eraseIdx i) D) : St E (tFz t) Γ M D := fun σ S H D0 I o => by
  obtain ⟨_, ob, ho, vs, rfl, ok⟩ := I.m.at_ d (mDK kvs) (at_mem hd)
  refine ⟨d, .dK vs, ho, True.intro, fun od => ?_⟩
  have f1 := Stp.frzAt (od := od) (u := .dK vs) hd I.ex I.m
  have I2 := I.step f1
  have sl := I.sl j (iRef d) hj
  refine h σ _ _ D0 ?_ (o.step f1)
  obtain ⟨v, hv, pv⟩ := sl
  cases pv
  have := I2.set j (R := iDF kvs) (v := .ref d) ⟨d, od, vs, rfl, upd_same, ok.mono f1.s⟩
  rwa [show σ.set j (some (.ref d)) = σ from by
    refine List.ext_getElem? fun n => ?_
    by_cases hn : j = n
    · subst hn
      obtain ⟨hlt, _⟩ := List.getElem?_eq_some_iff.mp hv
      rw [List.getElem?_set_self hlt, hv]
    · rw [List.getElem?_set_ne hn]] at this
/-! ### lists: stores, del -/
theorem ixN_of {n j : Nat} (hj : j < n) : ixN n (j : Int) = some j := by
  unfold ixN
  rw [if_pos (by omega), if_pos (by omega)]
  rfl
theorem All2.erase {S : Hp} : ∀ (n : Nat) {rs : List Rep} {xs : List V}, All2 S rs xs → All2 S (rs.eraseIdx n) (xs.eraseIdx n)
  | _, [], [], _ => True.intro
  | _, [], _ :: _, h => h.elim
  | _, _ :: _, [], h => h.elim
  | 0, _ :: _, _ :: _, h => h.2
  | n + 1, _ :: _, _ :: _, h => ⟨h.1, All2.erase n h.2⟩
theorem tg_setL {to ti : TE} {kc : KC} (h : Ev E0 to Γ M (fun R1 M1 => ∃ a, R1 = iRef a ∧ Ev E0 ti Γ M1 (fun R2 M2 => ∃ (x : Int) (n i : Nat) (rs : List Rep), R2 = iInt x ∧ x = n ∧ M2[i]? = some (a, mLst rs) ∧ n < rs.length ∧ kc Γ (M2.set i (a, mLst (rs.set n R)))) X0) X0) : Tg (gSub to ti rSetL) R Γ M vs kc := fun v σ S H Q I p o => by
  refine h σ S H _ I (fun x S1 H1 R1 M1 ⟨a, e, q⟩ st p1 => ?_) (fun _ _ _ _ _ _ z => z.elim)
  subst e
  cases p1
  refine q σ S1 H1 _ (I.step st) (fun y S2 H2 R2 M2 ⟨x, n, i, rs, e, ex, hm, hl, q2⟩ st2 p2 => ?_) (fun _ _ _ _ _ _ z => z.elim)
  subst e
  subst ex
  cases p2
  have s := st.trans st2
  obtain ⟨_, o', ho, xs, rfl, al⟩ := s.m.at_ _ _ (at_mem hm)
  have w := Stp.wrAt (P' := mLst (rs.set n R)) (o := .lst (xs.set n v)) hm s.e s.m ⟨_, rfl, All2.set (R.m s.s p) n al⟩
  exact ⟨a, xs, n, n, rfl, rfl, ho, ixN_of (by rw [al.len]; exact hl), o σ _ _ Γ _ q2 (s.trans w) (I.step (s.trans w)) fun _ => rfl⟩
theorem st_delL {to ti : TE} (h : Ev E to Γ M (fun R1 M1 => ∃ a, R1 = iRef a ∧ Ev E ti Γ M1 (fun R2 M2 => ∃ (x : Int) (n i : Nat) (rs : List Rep), R2 = iInt x ∧ x = n ∧ M2[i]? = some (a, mLst rs) ∧ n < rs.length ∧ n < 1000000 ∧ D.nx Γ (M2.set i (a, mLst (rs.eraseIdx n)))) D.ex) D.ex) : St E (tDelL to ti) Γ M D := fun σ S H D0 I o =>
  h σ S H _ I (fun x S1 H1 R1 M1 ⟨a, e, q⟩ st p1 => by
    subst e
    cases p1
    exact q σ S1 H1 _ (I.step st) (fun y S2 H2 R2 M2 ⟨x, n, i, rs, e, ex, hm, hl, hb, q2⟩ st2 p2 => by
      subst e
      subst ex
      cases p2
      have s := st.trans st2
      obtain ⟨_, o', ho, xs, rfl, al⟩ := s.m.at_ _ _ (at_mem hm)
      have w := Stp.wrAt (P' := mLst (rs.eraseIdx n)) (o := .lst (xs.eraseIdx n)) hm s.e s.m ⟨_, rfl, All2.erase n al⟩
      exact ⟨a, xs, n, n, rfl, rfl, ho, by omega, by omega, (ixN_seq (ixN_of (by rw [al.len]; exact hl))).1, o.nx σ _ _ Γ _ q2 (s.trans w) (I.step (s.trans w))⟩) (o.ex.step st)) o.ex
/-! ### == of lists of texts -/
/-! ### a comprehension whose list is to be changed -/
theorem ev_lcX {g : TG} (hv : vs ≠ []) (h : Ti E wi Γ M (fun n rs M1 => n ≤ 1000000 ∧ ∃ J : Nat → List Rep → SH → Prop, J 0 [] M1 ∧ (∀ i r acc M2, i < n → rs i r → acc.length ≤ i → J i acc M2 →
      Tg g r (wipeC Γ vs) M2 vs fun Γ3 M3 => Et E tt Γ3 M3 (fun b M4 => if b = true then Ev E te Γ3 M4 (fun R M5 => J (i + 1) (acc ++ [R]) M5) X0 else J (i + 1) acc M4) X0) ∧ ∀ acc M2, acc.length ≤ n → J n acc M2 → ∀ a, k (iRef a) (M2 ++ [(a, mLst acc)])) X) : Ev E (tLc wi g tt te vs) Γ M k X := fun σ S H Q I o ox =>
  h σ S H _ I (fun Jt S1 H1 n rs M1 ⟨hn, V, v0, vs', vd⟩ st w Dl hD => by
    obtain ⟨G, Y, wk, hG, hY⟩ := w
    have s0 := st.trans (Stp.newM (o := .lst []) (P := mLst []) st.e st.m hD ⟨[], rfl, True.intro⟩)
    refine lc_it wk (fun i H' => ∃ Sx Mx acc, Same Sx H' ∧ Stp S H Sx H' M (Mx ++ [(Dl, mLst acc)]) ∧ Same S1 Sx ∧ acc.length ≤ i ∧ V i acc Mx) ⟨S1, M1, [], s0.e, s0, Same.refl _, Nat.zero_le _, v0⟩ (fun i H' _ ⟨Sx, Mx, acc, ex, _, s1, _⟩ => hG Sx H' s1 ex) ?_ ?_
    · rintro i x H' H'' hi ⟨Sx, Mx, acc, ex, sx, s1, la, vx⟩ y
      obtain ⟨S', r, s', hr, pr⟩ := hY i H' x H'' hi y Sx (Mx ++ [(Dl, mLst acc)]) s1 ex sx.m
      have I' : Nv S' H'' (L2.wipe σ vs) (wipeC Γ vs) Mx := by
        have := (I.step (sx.trans s')).wipe vs
        exact ⟨this.ex, this.len, this.sl, this.m.left⟩
      have m' : MOk S' H'' (Mx ++ [(Dl, mLst acc)]) := s'.m
      refine vs' i r acc Mx hi hr la vx x (L2.wipe σ vs) S' H'' _ I' pr fun σ2 S2 H2 Γ2 M2 q st2 I2 w2 => ⟨?_, ?_⟩
      · rw [w2 hv]
        have un : ∀ u ∈ vs, (L2.wipe σ vs).set u none = L2.wipe σ vs := by
          intro u hu
          have gen : ∀ ws : List Nat, u ∈ ws → (L2.wipe σ ws).set u none = L2.wipe σ ws := by
            intro ws
            induction ws with
            | nil => intro z; cases z
            | cons w ws ih =>
              intro z
              show ((L2.wipe σ ws).set w none).set u none = (L2.wipe σ ws).set w none
              by_cases e : w = u
              · subst e; rw [List.set_set]
              · rcases List.mem_cons.mp z with z | z
                · exact absurd z.symm e
                · rw [List.set_comm _ _ e, ih z]
          exact gen vs hu
        have aux : ∀ us : List Nat, (∀ u ∈ us, u ∈ vs) → L2.wipe (L2.wipe σ vs) us = L2.wipe σ vs := by
          intro us
          induction us with
          | nil => intro _; rfl
          | cons u us ih =>
            intro hu
            show (L2.wipe (L2.wipe σ vs) us).set u none = L2.wipe σ vs
            rw [ih fun z hz => hu z (List.mem_cons_of_mem _ hz)]
            exact un u (hu u (List.mem_cons_self ..))
        exact aux vs fun _ h => h
      · have sf2 := st2.frame m'
        refine q σ2 S2 H2 _ I2 (fun b S3 H3 M3 q3 st3 => ?_) (fun _ _ _ _ _ _ z => z.elim)
        have sf3 := st3.frame sf2.m
        cases b with
        | true =>
          rw [if_pos rfl] at q3 ⊢
          refine q3 σ2 S3 H3 _ (I2.step st3) (fun z S4 H4 R4 M4 q4 st4 p4 => ?_) (fun _ _ _ _ _ _ z => z.elim)
          have sf4 := st4.frame sf3.m
          have tot := (((sx.trans s').trans sf2).trans sf3).trans sf4
          obtain ⟨_, ob, ho, xs, rfl, pa⟩ := tot.m.at_ Dl (mLst acc) (List.mem_append_right _ (List.mem_singleton.mpr rfl))
          have wr := Stp.wrM (A := M4) (B := []) (a := Dl) (P := mLst acc) (P' := mLst (acc ++ [R4])) (o := .lst (xs ++ [z])) tot.e tot.m ⟨_, rfl, pa.app (All2.one p4)⟩
          refine ⟨xs, ho, by rw [pa.len]; exact sz_lt (by omega), S4, M4, acc ++ [R4], wr.e, tot.trans wr, ?_, by simp; omega, q4⟩
          exact s1.trans (s'.s.trans (sf2.s.trans (sf3.s.trans sf4.s)))
        | false =>
          rw [if_neg Bool.false_ne_true] at q3 ⊢
          exact ⟨S3, M3, acc, sf3.e, ((sx.trans s').trans sf2).trans sf3, s1.trans (s'.s.trans (sf2.s.trans sf3.s)), by omega, q3⟩
    · rintro H' ⟨Sx, Mx, acc, ex, sx, s1, la, vx⟩
      exact o (.ref Dl) _ H' (iRef Dl) _ (vd acc Mx la vx Dl) sx rfl) ox
end
end L3

namespace L3
open PySem PySem.Spec L2 RZ PyProof.Rows
section
variable {E : XK} {K : PySem.W.Frag} {Γ : Ct} {M : SH} {k : KR} {X : KX} {R R1 R2 : Rep} {te ta tb : TE}
theorem hl_m {rs : List Rep} {a : Addr} {i : Nat} (h : M[i]? = some (a, mLst rs)) : HasL K M (iRef a) rs := .inr (.inr (.inr ⟨a, i, rfl, h⟩))
theorem k_setL {a : Addr} {n i : Nat} {x : Int} {rs : List Rep} {P : Nat → Nat → List Rep → Prop} (e : x = n) (hm : M[i]? = some (a, mLst rs)) (hn : n < rs.length) (h : P n i rs) : ∃ (y : Int) (n i : Nat) (rs : List Rep), iInt x = iInt y ∧ y = n ∧ M[i]? = some (a, mLst rs) ∧ n < rs.length ∧ P n i rs := ⟨x, n, i, rs, rfl, e, hm, hn, h⟩
theorem k_putD {a : Addr} {i : Nat} {z : Str} {kvs : FR} {P : Str → Nat → FR → Prop} (hm : M[i]? = some (a, mDK kvs)) (hl : kvs.length < 1000000) (h : P z i kvs) : ∃ (z' : Str) (i : Nat) (kvs : FR), aStr z = aStr z' ∧ M[i]? = some (a, mDK kvs) ∧ kvs.length < 1000000 ∧ P z' i kvs := ⟨z, i, kvs, rfl, hm, hl, h⟩
theorem o_ixM1 {rs : List Rep} {x : Int} {a : Addr} (i : Nat) (hm : M[i]? = some (a, mLst rs)) (h : atI rs x = some R) : O2p (rIxL K) (iRef a) (iInt x) M R := o_ixM (at_mem hm) h
theorem ev_dninD {ty td : TE} (h : Ev E ty Γ M (fun R1 M1 => ∃ z, R1 = aStr z ∧ Ev E td Γ M1 (fun R M2 => ∃ kvs, HasD M2 R kvs ∧ k (iBl (!(kvs.lookup z).isSome)) M2) X) X) : Ev E (tDNotIn ty td) Γ M k X := fun σ S H Q I o ox =>
  h σ S H _ I (fun v S1 H1 R1 M1 ⟨z, e, q⟩ st p => by
    subst e
    cases p
    exact q σ S1 H1 _ (I.step st) (fun y S2 H2 R M2 ⟨kvs, hd, q2⟩ st2 p2 => by
      obtain ⟨a, vs, rfl, hr, ok⟩ := hd.get st2.e st2.m p2
      refine ⟨a, valV vs (.inr z), rfl, .inl ⟨vs, .inr z, hr, rfl, rfl⟩, ?_⟩
      have e : (valV vs (.inr z)).isSome = (kvs.lookup z).isSome := by
        cases hl : kvs.lookup z with
        | none => rw [(ok.look z).1 hl]; rfl
        | some R => obtain ⟨w, hw, _⟩ := (ok.look z).2 R hl; rw [hw]; rfl
      rw [e]
      exact (o.step st) _ S2 H2 _ M2 q2 st2 rfl) (ox.step st)) ox
theorem HasO.app {C : Addr} {fs : FR} (h : HasO M R C fs) (N : SH) : HasO (M ++ N) R C fs := by
  rcases h with h | ⟨a, i, h1, h2⟩
  · exact .inl h
  · exact .inr ⟨a, i, h1, by rw [List.getElem?_append_left (List.getElem?_eq_some_iff.mp h2).1]; exact h2⟩
/-- a list that is to be changed is put under a name -/
def tAsgLM (te : TE) (g : TG) : TS := tAsg te g
theorem ps_lm {X : Cx} {st : Stmt} {g : TG} (h : PS X st (tAsg te g)) : PS X st (tAsgLM te g) := h
theorem st_asgLM {tr : TA} {j : Nat} {D : EndT} (h : Ea E tr Γ M (fun Rs M1 => Rs.length ≤ 1000000 ∧ ∀ a, D.nx (Γ.set j (some (iRef a))) (M1 ++ [(a, mLst Rs)])) D.ex) : St E (tAsgLM (tLst tr) (gName j)) Γ M D := st_asg (ev_lstM h)
theorem st_join {α : Type} {t u : TS} {D : EndT} {P : α → Prop} {G : α → Ct} {N : α → SH} (h1 : St E t Γ M { D with nx := LJ P G N }) (h2 : ∀ a, P a → St E u (G a) (N a) D) : St E (tSeq t u) Γ M D :=
  st_seq fun σ S H D0 I o => h1 σ S H D0 I ⟨fun σ2 S2 H2 Γ2 M2 ⟨a, ha, hw, hm⟩ st I2 => by
    subst hm
    exact o.nx σ2 S2 H2 Γ2 _ (st_wk hw (h2 a ha)) st I2, o.rt, o.bk, o.ct, o.ex⟩
theorem c_min2 {i j : Int} : Olp (fun xs H Q => ∃ i j, xs = [.int i, .int j] ∧ Q (.int (if j < i then j else i)) H) [iInt i, iInt j] M (iInt (min i j)) := ol_val fun xs S H e _ h => by
  obtain ⟨v, w, rfl, h1, h2⟩ := all2_2 h
  cases h1; cases h2
  refine ⟨_, rfl, fun Q q => ⟨i, j, rfl, ?_⟩⟩
  rwa [show (if j < i then j else i) = min i j by omega]
theorem at_last {x : Addr × MRep} : (M ++ [x])[M.length]? = some x := by simp
end
end L3

/-! ### l[::step], the step one or minus one -/
namespace L3
open PySem PySem.Spec L2 RZ PyProof.Rows
def tStepL (K : PySem.W.Frag) (te : TE) (ts : TO) : TE := fun σ H Q => te σ H fun x H1 => ts σ H1 fun o H2 => ∃ a xs, x = .ref a ∧ SqL K H2 a xs ∧
  ((o = some 1 ∧ ∀ p, H2 p = none → Q (.ref p) (upd H2 p (.lst xs))) ∨ (o = some (-1) ∧ ∀ p, H2 p = none → Q (.ref p) (upd H2 p (.lst xs.reverse))))
section
variable {E : XK} {K : PySem.W.Frag} {Γ : Ct} {M : SH} {k : KR} {X : KX} {R R1 R2 : Rep} {te ta tb : TE} {D : EndT} {t u : TS} {tr : TA} {vs : List Nat}
theorem ev_stepL {ts : TO} (h : Ev E te Γ M (fun R1 M1 => ∃ rs : List Rep, R1 = iLst rs ∧ EoC E ts Γ M1 fun o M2 => (o = some 1 ∧ k (iLst rs) M2) ∨ (o = some (-1) ∧ k (iLst rs.reverse) M2)) X) : Ev E (tStepL K te ts) Γ M k X := fun σ S H Q I o ox =>
  h σ S H _ I (fun v S1 H1 R' M1 ⟨rs, e, q⟩ st p => by
    subst e
    obtain ⟨a, xs, rfl, h1, h2⟩ := p
    refine q σ S1 H1 _ (I.step st) fun oo S2 H2 M2 q2 st2 => ?_
    have s := st.trans st2
    have ha : S2 a = some (.lst xs) := st2.s _ _ h1
    refine ⟨a, xs, rfl, SqL.of (s.e _ _ ha), ?_⟩
    rcases q2 with ⟨rfl, q2⟩ | ⟨rfl, q2⟩
    · refine .inl ⟨rfl, fun p hp => ?_⟩
      have w := Stp.newS (o := .lst xs) s.e s.m hp
      exact o (.ref p) _ _ _ _ q2 (s.trans w) ⟨p, xs, rfl, upd_same, (h2.mono st2.s).mono w.s⟩
    · refine .inr ⟨rfl, fun p hp => ?_⟩
      have w := Stp.newS (o := .lst xs.reverse) s.e s.m hp
      exact o (.ref p) _ _ _ _ q2 (s.trans w) ⟨p, xs.reverse, rfl, upd_same, ((h2.mono st2.s).mono w.s).rev⟩) ox
/-! ### l.index(z), t.index(z) of texts -/
def rIdxT (K : PySem.W.Frag) : V → List V → Hp → VK → Prop := fun x xs H Q => ∃ p, ∃ ys : List Str, ∃ z j, x = .ref p ∧ xs = [.str z] ∧ SqT K H p (ys.map V.str) ∧ ys[j]? = some z ∧ (∀ m, m < j → ys[m]? ≠ some z) ∧ Q (.int (j : Nat)) H
theorem idx_at [BEq α] [LawfulBEq α] : ∀ {l : List α} {z : α}, z ∈ l → l[l.idxOf z]? = some z ∧ ∀ m, m < l.idxOf z → l[m]? ≠ some z := by
  intro l z h
  have h1 := List.idxOf_lt_length_of_mem h
  refine ⟨?_, fun m hm e => ?_⟩
  · rw [List.getElem?_eq_getElem h1, List.getElem_idxOf h1]
  · have h2 : m < l.length := by omega
    rw [List.getElem?_eq_getElem h2] at e
    have h3 := Option.some.inj e
    have := List.not_of_lt_findIdx (p := (· == z)) (xs := l) (i := m) hm
    rw [h3] at this
    simp at this
theorem ev_idxL (h : Ev E ta Γ M (fun R1 M1 => ∃ l : List Str, R1 = iLst (l.map aStr) ∧ Ea E tr Γ M1 (fun Rs M2 => ∃ z, Rs = [aStr z] ∧ z ∈ l ∧ k (iInt (l.idxOf z : Nat)) M2) X) X) : Ev E (tBM K "list" (rIndex K) ta tr) Γ M k X := fun σ S H Q I o ox =>
  h σ S H _ I (fun x S1 H1 R1 M1 ⟨l, e, q⟩ st p1 => by
    subst e
    refine ⟨ty_lst x S1 H1 st.e st.m p1, q σ S1 H1 _ (I.step st) (fun xs S2 H2 Rs M2 ⟨z, e2, hz, q2⟩ st2 p2 => ?_) (ox.step st)⟩
    subst e2
    obtain ⟨v, rfl, p⟩ := all2_1 p2
    cases p
    obtain ⟨a, ys, rfl, h1, h2⟩ := p1
    have ey : ys = l.map V.str := All2.flat (r := aStr) (g := V.str) (fun _ _ h => h) h2
    subst ey
    obtain ⟨i1, i2⟩ := idx_at hz
    refine ⟨a, _, .str z, l.idxOf z, .str z, rfl, rfl, SqL.of ((st2.s.trans st2.e) _ _ h1), rfl, all_flat_str l, by rw [List.getElem?_map, i1]; rfl, ?_, fun m z' hm e => ?_, (o.step st) _ S2 H2 _ M2 q2 st2 rfl⟩
    · show (z == z) = true
      exact beq_self_eq_true z
    · rw [List.getElem?_map] at e
      cases hl : l[m]? with
      | none => rw [hl] at e; cases e
      | some w =>
        rw [hl] at e
        cases e
        show (w == z) = false
        exact beq_eq_false_iff_ne.mpr fun c => i2 m hm (by rw [hl, c])) ox
/-- a tuple made of a list, of which it is known that it has no attributes of its own -/
def aTupD (rs : List Rep) : Rep := ⟨fun S v => ∃ a ob xs, v = .ref a ∧ S a = some (.frz ob (.tup xs)) ∧ ob.dict = none ∧ All2 S rs xs, fun e ⟨a, ob, xs, h1, h2, h3, h4⟩ => ⟨a, ob, xs, h1, e _ _ h2, h3, h4.mono e⟩⟩
def rTupD (K : PySem.W.Frag) : List V → Hp → VK → Prop := fun xs H Q => ∃ p ys, xs = [.ref p] ∧ SqL K H p ys ∧ ∀ (l : Addr) (ob : Obj), H l = none → ob.dict = none → Q (.ref l) (upd H l (.frz ob (.tup ys)))
theorem c_tupD {rs : List Rep} : Olp (rTupD K) [iLst rs] M (aTupD rs) := fun _ q xs S H Q e m h1 o => by
  obtain ⟨v, rfl, a, ys, rfl, q1, q2⟩ := all2_1 h1
  exact ⟨a, ys, rfl, SqL.of (e _ _ q1), fun l ob hl hd => o (.ref l) (upd S l (.frz ob (.tup ys))) _ (aTupD rs) M q (Stp.newS e m hl) ⟨l, ob, ys, rfl, upd_same, hd, q2.mono (Same.newS (Same.refl _) (e.free hl))⟩⟩
def tBMT (r : V → List V → Hp → VK → Prop) (to : TE) (t : TA) : TE := fun σ H Q => to σ H fun x H1 => (∃ (p : Addr) (ob : Obj) (xs : List V), x = .ref p ∧ H1 p = some (.frz ob (.tup xs)) ∧ ob.dict = none) ∧ t σ H1 fun ys H2 => r x ys H2 Q
theorem ev_idxT (h : Ev E ta Γ M (fun R1 M1 => ∃ l : List Str, R1 = aTupD (l.map aStr) ∧ Ea E tr Γ M1 (fun Rs M2 => ∃ z, Rs = [aStr z] ∧ z ∈ l ∧ k (iInt (l.idxOf z : Nat)) M2) X) X) : Ev E (tBMT (rIdxT K) ta tr) Γ M k X := fun σ S H Q I o ox =>
  h σ S H _ I (fun x S1 H1 R1 M1 ⟨l, e, q⟩ st p1 => by
    subst e
    obtain ⟨a, ob, ys, rfl, h1, hd, h2⟩ := p1
    have ey : ys = l.map V.str := All2.flat (r := aStr) (g := V.str) (fun _ _ h => h) h2
    subst ey
    refine ⟨⟨a, ob, _, rfl, st.e _ _ h1, hd⟩, q σ S1 H1 _ (I.step st) (fun xs S2 H2 Rs M2 ⟨z, e2, hz, q2⟩ st2 p2 => ?_) (ox.step st)⟩
    subst e2
    obtain ⟨v, rfl, p⟩ := all2_1 p2
    cases p
    obtain ⟨i1, i2⟩ := idx_at hz
    exact ⟨a, l, z, l.idxOf z, rfl, rfl, .inl (.inr ⟨ob, (st2.s.trans st2.e) _ _ h1⟩), i1, i2, (o.step st) _ S2 H2 _ M2 q2 st2 rfl⟩) ox
theorem k_strs {f : List Rep → Rep} {l : List Str} {P : List Str → Prop} (h : P l) : ∃ l', f (l.map aStr) = f (l'.map aStr) ∧ P l' := ⟨l, rfl, h⟩
theorem k_lstR {rs : List Rep} {P : List Rep → Prop} (h : P rs) : ∃ rs', iLst rs = iLst rs' ∧ P rs' := ⟨rs, rfl, h⟩
theorem k_zin {z : Str} {l : List Str} {P : Str → Prop} (hz : z ∈ l) (h : P z) : ∃ z', [aStr z] = [aStr z'] ∧ z' ∈ l ∧ P z' := ⟨z, rfl, hz, h⟩
/-! ### dicts whose keys are numbers -/
def DiOk (S : Hp) (f : Int → Option Rep) (ws : List (Key × V)) : Prop := ∀ i R, f i = some R → ∃ v, valV ws (.inl i) = some v ∧ R.p S v
theorem DiOk.mono {S S' : Hp} {f : Int → Option Rep} {ws : List (Key × V)} (h : DiOk S f ws) (e : Same S S') : DiOk S' f ws := fun i R hf => by
  obtain ⟨v, h1, h2⟩ := h i R hf
  exact ⟨v, h1, R.m e h2⟩
def iDI (f : Int → Option Rep) : Rep := ⟨fun S v => ∃ a o ws, v = .ref a ∧ S a = some (.frz o (.dK ws)) ∧ DiOk S f ws, fun e ⟨a, o, ws, h1, h2, h3⟩ => ⟨a, o, ws, h1, e _ _ h2, h3.mono e⟩⟩
def mDI (n : Nat) (f : Int → Option Rep) : MRep := ⟨fun S o => ∃ ws, o = .dK ws ∧ ws.length ≤ n ∧ DiOk S f ws, fun e ⟨ws, h1, h2, h3⟩ => ⟨ws, h1, h2, h3.mono e⟩, fun ⟨ws, h1, _⟩ ys z => by rw [h1] at z; cases z⟩
def HasI (M : SH) (R : Rep) (f : Int → Option Rep) : Prop := R = iDI f ∨ ∃ (a : Addr) (i n : Nat), R = iRef a ∧ M[i]? = some (a, mDI n f)
theorem HasI.get {f : Int → Option Rep} (h : HasI M R f) {S H : Hp} {v : V} (e : Same S H) (m : MOk S H M) (p : R.p S v) : ∃ a ws, v = .ref a ∧ Rd H a (.dK ws) ∧ DiOk S f ws := by
  rcases h with h | ⟨a, i, n, h, hm⟩
  · subst h
    obtain ⟨a, o, vs, h1, h2, h3⟩ := p
    exact ⟨a, vs, h1, .inr ⟨o, e _ _ h2⟩, h3⟩
  · subst h
    cases p
    obtain ⟨_, o, ho, vs, rfl, _, h3⟩ := m.at_ _ _ (at_mem hm)
    exact ⟨a, vs, rfl, .inl ho, h3⟩
def tDGetI (td ty : TE) : TE := tDGet td ty
theorem ev_dgetI {ty td : TE} (h : Ev E td Γ M (fun R1 M1 => ∃ Rd : Rep, Rd = R1 ∧ Ev E ty Γ M1 (fun R2 M2 => ∃ z f, R2 = iInt z ∧ HasI M2 R1 f ∧ ∃ R, f z = some R ∧ k R M2) X) X) : Ev E (tDGetI td ty) Γ M k X := fun σ S H Q I o ox =>
  h σ S H _ I (fun x S1 H1 R1 M1 ⟨_, _, q⟩ st p => q σ S1 H1 _ (I.step st) (fun y S2 H2 R2 M2 ⟨z, f, e, hd, R, hl, q2⟩ st2 p2 => by
    subst e
    cases p2
    obtain ⟨a, vs, rfl, hr, ok⟩ := hd.get st2.e st2.m (R1.m st2.s p)
    obtain ⟨w, hw, pw⟩ := ok z R hl
    exact ⟨a, w, rfl, .inl ⟨vs, .inl z, hr, rfl, hw.symm⟩, (o.step st) w S2 H2 R M2 q2 st2 pw⟩) (ox.step st)) ox
def putI (f : Int → Option Rep) (i : Int) (R : Rep) : Int → Option Rep := fun j => if j = i then some R else f j
theorem putK_len (ws : List (Key × V)) (k : Key) (v : V) : (putK ws k v).length ≤ ws.length + 1 := by
  unfold putK; split <;> simp
theorem DiOk.put {S : Hp} {f : Int → Option Rep} {ws : List (Key × V)} (h : DiOk S f ws) {i : Int} {v : V} (p : R.p S v) : DiOk S (putI f i R) (putK ws (.inl i) v) := fun j R' hj => by
  unfold putI at hj
  by_cases e : j = i
  · rw [if_pos e] at hj
    subst e
    cases hj
    exact ⟨v, by rw [valV_put, if_pos rfl], p⟩
  · rw [if_neg e] at hj
    obtain ⟨w, h1, h2⟩ := h j R' hj
    exact ⟨w, by rw [valV_put, if_neg fun c => e (Sum.inl.inj c)]; exact h1, h2⟩
def rSetDI : V → V → V → Hp → (Hp → Prop) → Prop := rSetD
def gSubI (to ti : TE) : TG := gSub to ti rSetD
theorem tg_putI {to ti : TE} {kc : KC} (h : Ev E0 to Γ M (fun R1 M1 => ∃ d, R1 = iRef d ∧ Ev E0 ti Γ M1 (fun R2 M2 => ∃ (z : Int) (i n : Nat) (f : Int → Option Rep), R2 = iInt z ∧ M2[i]? = some (d, mDI n f) ∧ n < 1000000 ∧ kc Γ (M2.set i (d, mDI (n + 1) (putI f z R)))) X0) X0) : Tg (gSubI to ti) R Γ M vs kc := fun v σ S H Q I p o => by
  refine h σ S H _ I (fun x S1 H1 R1 M1 ⟨d, e, q⟩ st p1 => ?_) (fun _ _ _ _ _ _ z => z.elim)
  subst e
  cases p1
  refine q σ S1 H1 _ (I.step st) (fun y S2 H2 R2 M2 ⟨z, i, n, f, e, hm, hl, q2⟩ st2 p2 => ?_) (fun _ _ _ _ _ _ z => z.elim)
  subst e
  cases p2
  have s := st.trans st2
  obtain ⟨_, o', ho, ws, rfl, hn, ok⟩ := s.m.at_ _ _ (at_mem hm)
  have w := Stp.wrAt (P' := mDI (n + 1) (putI f z R)) (o := .dK (putK ws (.inl z) v)) hm s.e s.m ⟨_, rfl, by have := putK_len ws (.inl z) v; omega, ok.put (R.m s.s p)⟩
  exact ⟨d, _, rfl, DPut.k (k := .inl z) ho (sz_lt (by omega)), o σ _ _ Γ _ q2 (s.trans w) (I.step (s.trans w)) fun _ => rfl⟩
/-- {i: v} -/
def tDisp1 (tk tv : TE) : TE := tDisp [(tk, tv)]
theorem ev_disp1 (h : ∀ p, Ev E ta Γ (M ++ [(p, mDI 0 fun _ => none)]) (fun R1 M1 => ∃ z, R1 = iInt z ∧ Ev E tb Γ M1 (fun R2 M2 => ∃ i, M2[i]? = some (p, mDI 0 fun _ => none) ∧ k (iRef p) (M2.set i (p, mDI 1 (putI (fun _ => none) z R2)))) X) X) : Ev E (tDisp1 ta tb) Γ M k X := fun σ S H Q I o ox p hp => by
  have s0 := Stp.newM (P := mDI 0 fun _ => none) (o := .dK []) I.ex I.m hp ⟨[], rfl, Nat.le_refl _, fun i R e => by cases e⟩
  refine h p σ S _ _ (I.step s0) (fun v S1 H1 R1 M1 ⟨z, e, q⟩ st p1 => ?_) (ox.step s0)
  subst e
  cases p1
  refine q σ S1 H1 _ ((I.step s0).step st) (fun w S2 H2 R2 M2 ⟨i, hm, q2⟩ st2 p2 => ?_) ((ox.step s0).step st)
  have s := (s0.trans st).trans st2
  obtain ⟨_, ob, ho, us, rfl, hn, ok0⟩ := s.m.at_ _ _ (at_mem hm)
  have e0 : us = [] := List.length_eq_zero_iff.mp (by omega)
  subst e0
  refine ⟨ho, [(.inl z, w)], rfl, by simp, ?_⟩
  have en : mergeK [] [((.inl z : Key), w)] = putK [] (.inl z) w := rfl
  rw [en]
  have wr := Stp.wrAt (P' := mDI 1 (putI (fun _ => none) z R2)) (o := .dK (putK [] (.inl z) w)) hm s.e s.m ⟨_, rfl, putK_len [] (.inl z) w, DiOk.put (fun i R e => by cases e) p2⟩
  exact o (.ref p) S2 _ (iRef p) _ q2 (s.trans wr) rfl
end
end L3
namespace L3
open PySem PySem.Spec L2 RZ PyProof.Rows
section
variable {E : XK} {K : PySem.W.Frag} {Γ : Ct} {M : SH} {te tl : TE} {vs : List Nat}
theorem ep_lcG {α : Type} {l : List α} {e e' : α → Rep} {g : TG} (hi : Ep E tl Γ M (iLst (l.map e))) (hn : l.length ≤ 1000000) (hv : vs ≠ [])
    (h : ∀ x ∈ l, Tg g (e x) (wipeC Γ vs) M vs fun Γ3 M3 => M3 = M ∧ Ep E te Γ3 M (e' x)) : Ep E (tLc (iList K tl) g tYes te vs) Γ M (iLst (l.map e')) := by
  refine Ep.to (ep_lc (n := l.length) hv (by have := tip_list (K := K) hi; rwa [List.length_map] at this) hn (fun _ => true) (fun i => id ((l.map e').getD i iNon)) fun i r hi hr => ?_) (congrArg iLst ?_)
  · rw [List.getElem?_map, List.getElem?_eq_getElem hi] at hr
    cases hr
    have e1 : id ((l.map e').getD i iNon) = e' l[i] := by simp [hi]
    rw [e1]
    have hx := h _ (List.getElem_mem hi)
    intro x σ S H Q I p o
    exact hx x σ S H Q I p fun σ2 S2 H2 Γ2 M3 ⟨e3, h1⟩ st I2 w2 => o σ2 S2 H2 Γ2 M3 ⟨e3, etp_yes, fun _ => h1⟩ st I2 w2
  · have := given_all (l.map e') id iNon
    rw [List.length_map, List.map_id] at this
    exact this
end
end L3

namespace L3
open PySem PySem.Spec L2 RZ PyProof.Rows
section
variable {E : XK} {K : PySem.W.Frag} {Γ : Ct} {M : SH} {k : KR} {X : KX} {R R1 R2 : Rep} {te ta tb tl : TE} {D : EndT} {t u : TS} {tr : TA} {vs : List Nat}
theorem all2_rg (S : Hp) (a : Int) : ∀ (n : Nat), All2 S ((List.range n).map fun i => iInt (a + (i : Nat))) ((List.range n).map fun i => V.int (a + (i : Nat)))
  | 0 => True.intro
  | n + 1 => by
    rw [List.range_succ, List.map_append, List.map_append]
    exact (all2_rg S a n).app (All2.one rfl)
/-- list(range(n)), list(range(a, b)) -/
theorem ev_lRg1 (h : Ev E te Γ M (fun R M1 => ∃ n : Nat, R = iInt n ∧ n ≤ 1000000 ∧ k (iLst ((List.range n).map fun i => iInt ((i : Nat) : Int))) M1) X) : Ev E (tLstRg (tRg1 te)) Γ M k X := fun σ S H Q I o ox =>
  h σ S H _ I (fun v S2 H2 R M2 ⟨n, e, hn, q⟩ st p => by
    subst e
    cases p
    refine ⟨n, rfl, RgOk.of_le (by omega) (by omega) (by omega) (by omega), fun a ha => ?_⟩
    have w := Stp.newS (o := .lst (rgV 0 n)) st.e st.m ha
    refine o (.ref a) _ _ _ _ q (st.trans w) ⟨a, _, rfl, upd_same, ?_⟩
    have e1 : ((n : Int) - 0).toNat = n := by omega
    unfold rgV
    rw [e1]
    have := all2_rg (upd S2 a (.lst (rgV 0 n))) 0 n
    have e2 : (fun i : Nat => iInt (0 + (i : Int))) = fun i : Nat => iInt (i : Int) := by funext i; rw [Int.zero_add]
    rw [e2] at this
    exact this) ox
theorem ev_lRg2 (h : Ev E ta Γ M (fun R1 M1 => ∃ a, R1 = iInt a ∧ Ev E tb Γ M1 (fun R2 M2 => ∃ b, R2 = iInt b ∧ -1000000 ≤ a ∧ a ≤ 1000000 ∧ -1000000 ≤ b ∧ b ≤ 1000000 ∧ k (iLst ((List.range (b - a).toNat).map fun i => iInt (a + (i : Nat)))) M2) X) X) : Ev E (tLstRg (tRg2 ta tb)) Γ M k X := fun σ S H Q I o ox =>
  h σ S H _ I (fun v S1 H1 R M1 ⟨a, e, q⟩ st p => by
    subst e
    cases p
    exact q σ S1 H1 _ (I.step st) (fun w S2 H2 R2 M2 ⟨b, e, h1, h2, h3, h4, q2⟩ st2 p2 => by
      subst e
      cases p2
      refine ⟨a, b, rfl, rfl, ⟨by omega, by omega, by omega, by omega, by omega⟩, fun c hc => ?_⟩
      have s := st.trans st2
      have w := Stp.newS (o := .lst (rgV a b)) s.e s.m hc
      exact o (.ref c) _ _ _ _ q2 (s.trans w) ⟨c, _, rfl, upd_same, all2_rg _ a _⟩) (ox.step st)) ox
end
end L3

namespace L3
open PySem PySem.Spec L2 RZ PyProof.Rows
section
variable {E : XK} {K : PySem.W.Frag} {Γ : Ct} {M : SH} {k : KR} {X : KX} {R R1 R2 : Rep}
end
end L3
/-! ### l.index(z) in a comprehension -/
namespace L3
open PySem PySem.Spec L2 RZ PyProof.Rows
end L3
/-! ### the rest of a sequence by a name of its own: the goals stay small -/
namespace L3
open PySem PySem.Spec L2 RZ PyProof.Rows
section
variable {E : XK} {Γ : Ct} {M : SH} {D : EndT} {t u : TS}
theorem st_seqL (h : let r := u; St E t Γ M { D with nx := fun Γ1 M1 => St E r Γ1 M1 D }) : St E (tSeq t u) Γ M D := st_seq h
end
end L3
/-! ### what a goal is, told ahead of the rules tried at it -/
namespace L3
open PySem PySem.Spec L2 RZ PyProof.Rows
section
variable {E : XK} {K : PySem.W.Frag} {Γ : Ct} {M : SH} {D : EndT} {t u : TS} {te : TE} {tt : TT} {ta : TA} {k : KR} {X : KX} {R R1 R2 : Rep} {Rs : List Rep} {C : Addr}
theorem gSt (h : St E t Γ M D) : St E t Γ M D := h
theorem gEv (h : Ev E te Γ M k X) : Ev E te Γ M k X := h
theorem gEx {α : Sort _} {p : α → Prop} (h : ∃ x, p x) : ∃ x, p x := h
theorem gAnd {p q : Prop} (h : p ∧ q) : p ∧ q := h
theorem gIte {b : Bool} {p q : Prop} (h : if b = true then p else q) : if b = true then p else q := h
theorem gEq {α : Sort _} {x y : α} (h : x = y) : x = y := h
theorem gWk {Γ1 : Ct} (h : Wk Γ Γ1) : Wk Γ Γ1 := h
theorem gEa {ka : List Rep → SH → Prop} (h : Ea E ta Γ M ka X) : Ea E ta Γ M ka X := h
theorem gEt {kb : Bool → SH → Prop} (h : Et E tt Γ M kb X) : Et E tt Γ M kb X := h
theorem k_at_at {i : Nat} {P : Rep → Prop} (h : ∃ R, Γ[i]? = some (some R) ∧ P R) : ∃ R, Γ[i]? = some (some R) ∧ P R := h
theorem k_fld_at {f : Str} {P : Rep → Prop} (h : ∃ fs', HasO M R C fs' ∧ ∃ Rf, fs'.lookup f = some Rf ∧ P Rf) : ∃ fs', HasO M R C fs' ∧ ∃ Rf, fs'.lookup f = some Rf ∧ P Rf := h
theorem k_meth_at {m : Str} {P : FR → Prop} (h : ∃ fs', HasO M R C fs' ∧ fs'.lookup m = none ∧ P fs') : ∃ fs', HasO M R C fs' ∧ fs'.lookup m = none ∧ P fs' := h
theorem k_hg_at {z : Str} {P : Rep → Prop} (h : ∃ z' kvs', aStr z = aStr z' ∧ HasD M R kvs' ∧ ∃ Rf, kvs'.lookup z' = some Rf ∧ P Rf) : ∃ z' kvs', aStr z = aStr z' ∧ HasD M R kvs' ∧ ∃ Rf, kvs'.lookup z' = some Rf ∧ P Rf := h
theorem k_hd_at {P : FR → Prop} (h : ∃ kvs', HasD M R kvs' ∧ P kvs') : ∃ kvs', HasD M R kvs' ∧ P kvs' := h
theorem k_pd_at {P : List (Str × Str) → Prop} (h : ∃ ps', HasP M R ps' ∧ P ps') : ∃ ps', HasP M R ps' ∧ P ps' := h
theorem k_putD_at {a : Addr} {z : Str} {P : Str → Nat → FR → Prop} (h : ∃ (z' : Str) (i : Nat) (kvs : FR), aStr z = aStr z' ∧ M[i]? = some (a, mDK kvs) ∧ kvs.length < 1000000 ∧ P z' i kvs) : ∃ (z' : Str) (i : Nat) (kvs : FR), aStr z = aStr z' ∧ M[i]? = some (a, mDK kvs) ∧ kvs.length < 1000000 ∧ P z' i kvs := h
theorem k_setL_at {a : Addr} {x : Int} {P : Int → Nat → Nat → List Rep → Prop} (h : ∃ (y : Int) (n i : Nat) (rs : List Rep), iInt x = iInt y ∧ y = n ∧ M[i]? = some (a, mLst rs) ∧ n < rs.length ∧ P y n i rs) : ∃ (y : Int) (n i : Nat) (rs : List Rep), iInt x = iInt y ∧ y = n ∧ M[i]? = some (a, mLst rs) ∧ n < rs.length ∧ P y n i rs := h
theorem k_put_at {d : Addr} {a b : Str} {P : Str → Str → Nat → List (Str × Str) → Prop} (h : ∃ (a' b' : Str) (i : Nat) (ps : List (Str × Str)), [aStr a, aStr b] = [aStr a', aStr b'] ∧ M[i]? = some (d, mPD ps) ∧ ps.length < 1000000 ∧ P a' b' i ps) : ∃ (a' b' : Str) (i : Nat) (ps : List (Str × Str)), [aStr a, aStr b] = [aStr a', aStr b'] ∧ M[i]? = some (d, mPD ps) ∧ ps.length < 1000000 ∧ P a' b' i ps := h
theorem k_set_at {a : Addr} {P : Addr → Nat → FR → Prop} (h : ∃ (b : Addr) (j : Nat) (fs : FR), iRef a = iRef b ∧ M[j]? = some (b, mObj C fs) ∧ fs.length < 1000 ∧ P b j fs) : ∃ (b : Addr) (j : Nat) (fs : FR), iRef a = iRef b ∧ M[j]? = some (b, mObj C fs) ∧ fs.length < 1000 ∧ P b j fs := h
theorem k_app_at {a : Addr} {Q : Nat → List Rep → Addr → Prop} (h : ∃ (b : Addr) (i : Nat) (rs : List Rep), iRef a = iRef b ∧ M[i]? = some (b, mLst rs) ∧ Q i rs b) : ∃ (b : Addr) (i : Nat) (rs : List Rep), iRef a = iRef b ∧ M[i]? = some (b, mLst rs) ∧ Q i rs b := h
end
end L3

namespace L3
open PySem PySem.Spec L2 RZ PyProof.Rows
def dropH (S : Hp) (a : Addr) : Hp := fun b => if b = a then none else S b
section
variable {E : XK} {K : PySem.W.Frag} {Γ : Ct} {M : SH} {k : KR} {X : KX} {R R1 R2 : Rep} {te ta tb : TE} {tr : TA} {D : EndT} {t : TS}
/-- dict(l), l a list of pairs -/
def rDictP (K : PySem.W.Frag) : List V → Hp → VK → Prop := fun xs H Q => ∃ (a : Addr) (ps : List Addr) (kvs : List (Key × V)), xs = [.ref a] ∧ SqL K H a (ps.map V.ref) ∧ Paired (fun p kv => SqT K H p [kV kv.1, kv.2]) ps kvs ∧
    ∀ p, H p = none → Q (.ref p) (upd H p (.dK (mergeK [] kvs)))
theorem pairs_of {S H : Hp} (e : Same S H) : ∀ {kvs : FR} {xs : List V}, All2 S (kvs.map fun p => aTup K [aStr p.1, p.2]) xs → ∃ (ps : List Addr) (ws : List (Key × V)), xs = ps.map V.ref ∧ Paired (fun p (kv : Key × V) => SqT K H p [kV kv.1, kv.2]) ps ws ∧ DkOk S kvs ws
  | [], [], _ => ⟨[], [], rfl, .nil, rfl, True.intro⟩
  | [], _ :: _, h => h.elim
  | _ :: _, [], h => h.elim
  | (z, R) :: kvs, x :: xs, h => by
    obtain ⟨⟨a, ys, rfl, h1, h2⟩, h3⟩ := h
    obtain ⟨ps, ws, rfl, h4, h5⟩ := pairs_of e h3
    obtain ⟨v, w, rfl, p1, p2⟩ := all2_2 h2
    cases p1
    exact ⟨a :: ps, (.inr z, w) :: ws, rfl, .cons (Same.sqt e h1) h4, by simp [h5.nm], p2, h5.al⟩
theorem nd_inr : ∀ l : List Str, l.Nodup → (l.map (Sum.inr : Str → Key)).Nodup := by
  intro l
  induction l with
  | nil => intro _; simp
  | cons a l ih =>
    intro h
    rw [List.nodup_cons] at h
    rw [List.map_cons, List.nodup_cons]
    refine ⟨fun hm => ?_, ih h.2⟩
    obtain ⟨b, hb, e⟩ := List.mem_map.mp hm
    exact h.1 (Sum.inr.inj e ▸ hb)
theorem ev_dictP (h : Ev E ta Γ M (fun R M1 => ∃ kvs : FR, R = iLst (kvs.map fun p => aTup K [aStr p.1, p.2]) ∧ (kvs.map (·.1)).Nodup ∧ ∀ p, k (iRef p) (M1 ++ [(p, mDK kvs)])) X) : Ev E (tCB (rDictP K) (tCons ta tNil)) Γ M k X := fun σ S H Q I o ox =>
  h σ S H _ I (fun v S1 H1 R M1 ⟨kvs, e, nd, q⟩ st p => by
    subst e
    obtain ⟨a, xs, rfl, h1, h2⟩ := p
    obtain ⟨ps, ws, rfl, h3, ok⟩ := pairs_of st.e h2
    refine ⟨a, ps, ws, rfl, SqL.of (st.e _ _ h1), h3, fun p hp => ?_⟩
    have en : mergeK [] ws = ws := merge_new ws [] (by
      have e1 : ws.map (·.1) = (kvs.map (·.1)).map (Sum.inr : Str → Key) := by rw [ok.nm, List.map_map]; rfl
      rw [List.nil_append, e1]
      exact nd_inr _ nd)
    rw [en]
    exact o (.ref p) _ _ (iRef p) _ (q p) (st.trans (Stp.newM (P := mDK kvs) st.e st.m hp ⟨ws, rfl, ok⟩)) rfl) ox
end
end L3

namespace L3
open PySem PySem.Spec L2 RZ PyProof.Rows
/-- a comprehension's target of three names -/
theorem blk_tup3 {X : Cx} {i j l : Nat} {x y z : Str} {scope : Scope} {px py pz tpos : Pos} {kk : Nat} (hN : X.N.Nodup) (hc : X.calm = true := by rfl) (hi : X.N[i]? = some x := by rfl) (hj : X.N[j]? = some y := by rfl) (hl : X.N[l]? = some z := by rfl)
    (hx : ∀ C cl, (compEnvC scope cl C X.env).scope.names.lookup x = some .local := by intro _ _; rfl) (hy : ∀ C cl, (compEnvC scope cl C X.env).scope.names.lookup y = some .local := by intro _ _; rfl) (hz : ∀ C cl, (compEnvC scope cl C X.env).scope.names.lookup z = some .local := by intro _ _; rfl) (s : Shared) (H : Hp) (C : Addr) (cl : List (Str × Addr)) (fp : List Addr) :
    PG (X.blk s H scope (compEnvC scope cl C X.env) fp) (.Tuple [.Name x px, .Name y py, .Name z pz] kk tpos) (gTup X.K 3 (gCons (gName i) (gCons (gName j) (gCons (gName l) gNil)))) :=
  pg_tup (X := X.blk s H scope (compEnvC scope cl C X.env) fp) hc (pgs_cons (pg_name hN hi (.inl (hx C cl)) (.inr (hx C cl))) (pgs_cons (pg_name hN hj (.inl (hy C cl)) (.inr (hy C cl))) (pgs_cons (pg_name hN hl (.inl (hz C cl)) (.inr (hz C cl))) pgs_nil)))
section
variable {E : XK} {K : PySem.W.Frag} {Γ : Ct} {M : SH} {k : KR} {X : KX} {R R1 R2 : Rep} {te ta tb : TE} {tr : TA} {D : EndT} {t : TS}
/-- dict(d), a copy -/
def rDictD : List V → Hp → VK → Prop := fun xs H Q => ∃ (a : Addr) (kvs : List (Key × V)), xs = [.ref a] ∧ Rd H a (.dK kvs) ∧ ∀ p, H p = none → Q (.ref p) (upd H p (.dK kvs))
theorem ev_dictD (h : Ev E ta Γ M (fun R M1 => ∃ kvs, HasD M1 R kvs ∧ ∀ p, k (iRef p) (M1 ++ [(p, mDK kvs)])) X) : Ev E (tCB rDictD (tCons ta tNil)) Γ M k X := fun σ S H Q I o ox =>
  h σ S H _ I (fun v S1 H1 R M1 ⟨kvs, hd, q⟩ st p => by
    obtain ⟨a, ws, rfl, hr, ok⟩ := hd.get st.e st.m p
    exact ⟨a, ws, rfl, hr, fun p hp => o (.ref p) _ _ (iRef p) _ (q p) (st.trans (Stp.newM (P := mDK kvs) st.e st.m hp ⟨ws, rfl, ok⟩)) rfl⟩) ox
end
end L3

namespace L3
open PySem PySem.Spec L2 RZ PyProof.Rows
section
variable {E : XK} {K : PySem.W.Frag} {Γ : Ct} {M : SH} {D : EndT} {t : TS}
/-- made stable here, or not -/
def tFzO (t : TS) : TS := fun D σ H => t D σ H ∨ tFz t D σ H
end
end L3

namespace L3
open PySem PySem.Spec L2 RZ PyProof.Rows
section
variable {E : XK} {K : PySem.W.Frag} {Γ : Ct} {M : SH} {te tl : TE} {vs : List Nat}
theorem ep_lcTM {α : Type} {l : List α} {e e' : α → Rep} {j : Nat} (hi : Ep E tl Γ M (aTup K (l.map e))) (hn : l.length ≤ 1000000) (hj : j ∈ vs)
    (he : ∀ x ∈ l, Ep E te ((wipeC Γ vs).set j (some (e x))) M (e' x)) : Ep E (tLc (L2.iTup K tl) (gName j) tYes te vs) Γ M (iLst (l.map e')) := by
  have := ep_lcT (K := K) (p := fun _ => true) (q := id) (e' := e') (l := l) (e := e) (te := te) (tt := tYes) hi hn hj (fun _ _ => etp_yes) (fun x hx _ => he x hx)
  rwa [List.map_id, List.filter_eq_self.mpr fun _ _ => rfl] at this
end
end L3

namespace L3
open PySem PySem.Spec L2 RZ PyProof.Rows
section
variable {E : XK} {K : PySem.W.Frag} {Γ : Ct} {M : SH} {k : KR} {X : KX} {ta : TE}
/-- sorted(l), l a list of whole numbers that may be changed -/
theorem ev_sortI (h : Ev E ta Γ M (fun R M1 => ∃ (a : Addr) (i : Nat) (ns : List Int), R = iRef a ∧ M1[i]? = some (a, mLst (ns.map iInt)) ∧ ∀ ns' : List Int, ns'.Perm ns → k (iLst (ns'.map iInt)) M1) X) : Ev E (tCB (rSortedI K) (tCons ta tNil)) Γ M k X := fun σ S H Q I o ox =>
  h σ S H _ I (fun v S1 H1 R M1 ⟨a, i, ns, e, hm, q⟩ st p => by
    subst e
    cases p
    obtain ⟨_, ob, ho, ys, rfl, al⟩ := st.m.at_ a _ (at_mem hm)
    have ey : ys = ns.map V.int := All2.flat (r := iInt) (g := V.int) (fun _ _ h => h) al
    subst ey
    refine ⟨a, ns, rfl, SqL.of ho, fun ns' c hp _ hc => ?_⟩
    have w := Stp.newS (o := .lst (ns'.map V.int)) st.e st.m hc
    refine o (.ref c) _ _ _ _ (q ns' hp) (st.trans w) ⟨c, _, rfl, upd_same, ?_⟩
    have gen : ∀ (S : Hp) (l : List Int), All2 S (l.map iInt) (l.map V.int) := fun S l => by
      induction l with
      | nil => exact True.intro
      | cons x l ih => exact ⟨rfl, ih⟩
    exact gen _ ns') ox
end
end L3

namespace L3
open PySem PySem.Spec L2 RZ PyProof.Rows
section
variable {E : XK} {K : PySem.W.Frag} {Γ : Ct} {M : SH} {k : KR} {X : KX} {ta : TE}
end
end L3

/-! len(set(l)), l a list of texts that are all unlike -/
namespace L3
open PySem PySem.Spec L2 RZ PyProof.Rows
section
variable {prog : Program} {w : World} {A : Around} {R : Result → Shared → Prop} {It : Addr} {fp wr : List Addr} {G : Array GenState → Array GenState → Prop} {n : Nat} {P : Nat → Value → Prop} {St : Nat → Shared → Prop}
end
section
variable {prog : Program} {w : World} {A : Around} {E : Value → Shared → Prop} {s : Shared}
/-- a heap with a new thing behind -/
abbrev seen (s : Shared) (o : Obj) : Shared := { s with heap := s.heap.push o }
abbrev bare (led : Bool) : Obj := { cls := .type "set", dict := none, data := .set #[] 0 (.fresh 0 0 led) }
end
section
variable {X : Cx} {a : Expr} {ta : TE}
def tLenSetN (K : PySem.W.Frag) (ta : TE) : TE := fun σ H Q => ta σ H fun x H1 => ∃ (l : Addr) (zs : List Str), x = V.ref l ∧ SqL K H1 l (zs.map V.str) ∧ zs.length < 4000 ∧ zs.Nodup ∧ Q (.int zs.length) H1
end
section
variable {E : XK} {K : PySem.W.Frag} {Γ : Ct} {M : SH} {k : KR} {X : KX} {ta : TE}
end
end L3

/-! == and != by a class's own __eq__ (with any answer), == of dicts whose keys are pairs of texts, isinstance of own classes, list(d.items()) -/
namespace L3
open PySem PySem.Spec L2 RZ PyProof.Rows
/-! ### low -/
section
variable {M : Model} {prog : Program} {w : World} {A : Around} {E : Value → Shared → Prop} {s : Shared} {K : PySem.W.Frag} {x C f L : Addr} {ox : Obj} {od : Option Obj} {b tb : Value} {h₀ : Heap} {m : Str → Option Value}
theorem subIn_bt {T : String} {l : List Value} (h : fastBuiltinMro T = some l) (hl : ∀ v ∈ l, ∃ n, v = .type n) : PySem.W.subIn K (.type T) (.ref C) = some false := by
  show (fastBuiltinMro T).map (·.contains (.ref C)) = some false
  rw [h]
  show some (l.contains (.ref C)) = some false
  congr 1
  rw [← Bool.not_eq_true, List.contains_iff_mem]
  intro hm
  obtain ⟨n, e⟩ := hl _ hm
  cases e
end
/-! dicts whose keys are tuples, every value True -/
section
variable {prog : Program} {w : World} {A : Around} {E : Value → Shared → Prop} {s : Shared} {K : Type} [DecidableEq K] {knd : HeapKind prog w K} {a b : Addr} {xs ys : List (K × Addr × Value)}
end
/-! ### what is asked of a class, besides Cls -/
structure OwnQ (K : PySem.W.Frag) (C : Addr) : Prop where
  ca : PySem.W.findIn K (.ref C) "__class__" = some (some (.builtin "object.__class__"))
  cn : PySem.W.specialIn K (.builtin "object.__class__") "__get__" = some (some (.builtin "getset_descriptor.__get__"))
  ct : PySem.W.takesIn K (.builtin "object.__class__") = some true
  mo : PySem.W.mroIn K C (.type "object") = some true
  ne : PySem.W.findIn K (.ref C) "__ne__" = some (some (.builtin "object.__ne__"))
  ci : (PySem.W.clsIn K C).isSome = true
  ty : PySem.W.typeIn K (.ref C) = some (.type "type")
/-- the plain types that come here -/
def PlT (T : String) : Prop := T = "NoneType" ∨ T = "int" ∨ T = "bool" ∨ T = "str" ∨ T = "list" ∨ T = "tuple"
theorem PlT.sub {K : PySem.W.Frag} {C : Addr} {T : String} (h : PlT T) : PySem.W.subIn K (.type T) (.ref C) = some false := by
  rcases h with rfl | rfl | rfl | rfl | rfl | rfl
  · exact subIn_bt (l := [.type "NoneType", .type "object"]) (by decide +kernel) (by simp)
  · exact subIn_bt (l := [.type "int", .type "object"]) (by decide +kernel) (by simp)
  · exact subIn_bt (l := [.type "bool", .type "int", .type "object"]) (by decide +kernel) (by simp)
  · exact subIn_bt (l := [.type "str", .type "object"]) (by decide +kernel) (by simp)
  · exact subIn_bt (l := [.type "list", .type "object"]) (by decide +kernel) (by simp)
  · exact subIn_bt (l := [.type "tuple", .type "object"]) (by decide +kernel) (by simp)
section
variable {X : Cx} {CX : CXT} {pins : List (Addr × Obj)} {σ : L2.St} {H : Hp} {s : Shared} {C : Addr} {k j : Nat} {ts : TSp} {E : XK}
/-- the other side of ==: of a plain type, or an instance of the class itself -/
def Oth (K : PySem.W.Frag) (C : Addr) (H : Hp) (y : V) : Prop := (∃ T, PlT T ∧ TyX K H y (.type T)) ∨ ∃ b dy gs, y = .ref b ∧ H b = some (.ins C dy gs)
def rEqC (K : PySem.W.Frag) (C : Addr) (sp : Sp) (E : XK) : R2 := fun x y H Q => ∃ a dx fs, x = .ref a ∧ H a = some (.ins C dx fs) ∧ Oth K C H y ∧ sp [x, y] H (fun v H' => ∃ r, v = .bl r ∧ Q (.bl r) H') E
def rNeC (K : PySem.W.Frag) (C : Addr) (sp : Sp) (E : XK) : R2 := fun x y H Q => ∃ a dx fs, x = .ref a ∧ H a = some (.ins C dx fs) ∧ Oth K C H y ∧ sp [x, y] H (fun v H' => ∃ r, v = .bl r ∧ Q (.bl (!r)) H') E
/-- == of two dicts whose keys are pairs of texts -/
def rEqT : R2 := fun x y H Q => ∃ (a b : Addr) (ps qs : List (Str × Str)), x = .ref a ∧ y = .ref b ∧ H a = some (.dT (ps.map pkV)) ∧ H b = some (.dT (qs.map pkV)) ∧ Q (.bl (ps.length == qs.length && ps.all fun p => decide (p ∈ qs))) H
end
/-! ### list(d.items()), the dict frozen or not -/
def rItemsR : V → Hp → VK → Prop := fun x H Q => ∃ (d : Addr) (kvs : List (Key × V)), x = .ref d ∧ Rd H d (.dK kvs) ∧
  ∀ (H' : Hp) (p : Addr) (ts : List Addr), (∀ b o, H b = some o → H' b = some o) → H p = none → (∀ t ∈ ts, H t = none) → p ∉ ts → H' p = some (.lst (ts.map V.ref)) → Paired (fun (t : Addr) (q : Key × V) => H' t = some (.tup [kV q.1, q.2])) ts kvs → Q (.ref p) H'
def tItemsR (te : TE) : TE := fun σ H Q => te σ H fun x H1 => rItemsR x H1 Q
/-- many new objects, kept in the stable part -/
theorem Stp.grow {S H H' : Hp} {M : SH} (e : Same S H) (m : MOk S H M) (hx : ∀ b o, H b = some o → H' b = some o) (D : List Addr) (new : ∀ b ∈ D, H b = none) : Stp S H (fun b => if b ∈ D then H' b else S b) H' M M := by
  have nS : ∀ b ∈ D, S b = none := fun b hb => by
    cases q : S b with
    | none => rfl
    | some u => have := e _ _ q; rw [new b hb] at this; cases this
  have sm : Same S (fun b => if b ∈ D then H' b else S b) := fun b u q => by
    show (if b ∈ D then H' b else S b) = some u
    rw [if_neg (fun z => by rw [nS b z] at q; cases q)]
    exact q
  refine ⟨sm, fun b u q => ?_, fun b h1 h2 => ?_, fun b u _ q => hx b u q, ⟨fun b P hp => ?_, m.nd⟩, fun _ h => .inl h⟩
  · by_cases hb : b ∈ D
    · simpa only [if_pos hb] using q
    · have q' : S b = some u := by simpa only [if_neg hb] using q
      exact hx _ _ (e _ _ q')
  · by_cases hb : b ∈ D
    · exact .inl (fre_none (new b hb))
    · exact absurd (by simpa only [if_neg hb] using h1) h2
  · obtain ⟨z, u, q1, q2⟩ := m.at_ b P hp
    have hb : b ∉ D := fun w => by rw [new b w] at q1; cases q1
    exact ⟨by simpa only [if_neg hb] using z, u, hx _ _ q1, P.m sm q2⟩
section
variable {E : XK} {K : PySem.W.Frag} {Γ : Ct} {M : SH} {k : KR} {X : KX} {R R1 R2 : Rep} {te ta tb tl : TE} {vs : List Nat} {D : EndT} {t u : TS} {c tt : TT} {tr : TA} {C : Addr}
theorem items_all {S : Hp} : ∀ {ts : List Addr} {vs : List (Key × V)} {kvs : FR}, Paired (fun (t : Addr) (q : Key × V) => S t = some (.tup [kV q.1, q.2])) ts vs → DkOk S kvs vs → All2 S (kvs.map fun p => aTup K [aStr p.1, p.2]) (ts.map V.ref)
  | _, _, [], .nil, _ => True.intro
  | _, _, _ :: _, .nil, h => by have := h.nm; simp at this
  | _, _, [], .cons _ _, h => by have := h.nm; simp at this
  | t :: ts, v :: vs, p :: kvs, .cons h r, ok => by
    have nm := ok.nm
    have al := ok.al
    rw [List.map_cons, List.map_cons] at nm
    injection nm with n1 n2
    refine ⟨⟨t, _, rfl, SqT.of h, ?_, al.1, True.intro⟩, items_all r ⟨n2, al.2⟩⟩
    rw [n1]
    rfl
theorem ev_itemsR (h : Ev E te Γ M (fun R M1 => ∃ kvs, HasD M1 R kvs ∧ k (iLst (kvs.map fun p => aTup K [aStr p.1, p.2])) M1) X) : Ev E (tItemsR te) Γ M k X := fun σ S H Q I o ox =>
  h σ S H _ I (fun v S1 H1 R M1 ⟨kvs, hd, q⟩ st p => by
    obtain ⟨a, ws, rfl, hr, ok⟩ := hd.get st.e st.m p
    refine ⟨a, ws, rfl, hr, fun H' p' ts hx hp hts hpn hl hpr => ?_⟩
    have g := Stp.grow st.e st.m hx (p' :: ts) (fun b hb => by
      rcases List.mem_cons.mp hb with e | hb
      · rw [e]; exact hp
      · exact hts b hb)
    refine o (.ref p') _ H' _ M1 q (st.trans g) ⟨p', ts.map V.ref, rfl, (if_pos (List.mem_cons_self ..)).trans hl, ?_⟩
    refine items_all (vs := ws) ?_ (ok.mono g.s)
    have gen : ∀ {l : List Addr} {w : List (Key × V)}, (∀ b ∈ l, b ∈ ts) → Paired (fun (t : Addr) (q : Key × V) => H' t = some (.tup [kV q.1, q.2])) l w → Paired (fun (t : Addr) (q : Key × V) => (if t ∈ p' :: ts then H' t else S1 t) = some (.tup [kV q.1, q.2])) l w := by
      intro l w hs pr
      induction pr with
      | nil => exact .nil
      | cons h t ih =>
        refine .cons ?_ (ih fun b hb => hs b (List.mem_cons_of_mem _ hb))
        rw [if_pos (List.mem_cons_of_mem _ (hs _ (List.mem_cons_self ..)))]
        exact h
    exact gen (fun _ h => h) hpr) ox
/-! ### the typed rules -/
def OthR (K : PySem.W.Frag) (C : Addr) (M : SH) (R : Rep) : Prop := ∀ S H y, Same S H → MOk S H M → R.p S y → Oth K C H y
theorem ev_ref {a : Addr} (q : k (iRef a) M) : Ev E (tC (.ref a)) Γ M k X := fun σ S H Q I o _ => o _ S H (iRef a) M q (Stp.refl I.ex I.m) rfl
end
end L3

/-! small words: room for ==, data that is equal -/
namespace L3
open PySem L2 RZ PyProof.Rows
theorem hu1_of {A : Around} {k : Nat} (hr : Room k A) : A.units + 1 < cLine := by have := hr.un; omega
theorem eqvAll_map {α : Type} [DecidableEq α] {g : α → PyData} (h : ∀ x y, PyData.eqv (g x) (g y) = decide (x = y)) : ∀ l m : List α, PyData.eqvAll (l.map g) (m.map g) = decide (l = m)
  | [], [] => by simp [PyData.eqvAll]
  | [], _ :: _ => by simp [PyData.eqvAll]
  | _ :: _, [] => by simp [PyData.eqvAll]
  | a :: l, b :: m => by
    simp only [List.map_cons, PyData.eqvAll, h a b, eqvAll_map h l m]
    rw [Bool.eq_iff_iff]
    simp
theorem eqv_str (x y : Str) : PyData.eqv (.str x) (.str y) = decide (x = y) := by
  show (x == y) = _
  rw [Bool.eq_iff_iff]
  simp
theorem eqv_list (xs ys : List PyData) : PyData.eqv (.list xs) (.list ys) = PyData.eqvAll xs ys := by simp [PyData.eqv]
section
variable {K : PySem.W.Frag} {M : SH}
theorem o_neL {α : Type} [DecidableEq α] {g : α → PyData} {e : α → Rep} (he : ∀ x, e x = iDat K (g x)) (h : ∀ x y, PyData.eqv (g x) (g y) = decide (x = y)) {l m : List α} (hl : ∀ x ∈ l, Shp 63 (g x)) (hm : ∀ x ∈ m, Shp 63 (g x)) :
    O2p (rNeD K) (iLst (l.map e)) (iLst (m.map e)) M (iBl (!decide (l = m))) := by
  have := o_neD (K := K) (M := M) (d := .list (l.map g)) (e := .list (m.map g)) ((shp_list (fun d hd => by obtain ⟨x, hx, rfl⟩ := List.mem_map.mp hd; exact hl x hx) : Shp 64 _).ok) ((shp_list (fun d hd => by obtain ⟨x, hx, rfl⟩ := List.mem_map.mp hd; exact hm x hx) : Shp 64 _).ok)
  rw [eqv_list, eqvAll_map h] at this
  refine this.as ?_ ?_
  · exact dat_lst (dat_maps he l)
  · exact dat_lst (dat_maps he m)
end
section
variable {E : XK} {K : PySem.W.Frag} {Γ : Ct} {M : SH} {k : KR} {X : KX} {R R1 R2 : Rep} {te ta tb tl : TE} {vs : List Nat} {D : EndT} {t u : TS} {c tt : TT} {tr : TA} {wi : TI} {n : Nat} {rs : Nat → Rep → Prop}
/-- a comprehension whose list is to be changed -/
theorem ev_lcPX {g : TG} (hv : vs ≠ []) (hi : Tip E wi Γ M n rs) (hn : n ≤ 1000000) (f : Nat → Bool) (v : Nat → Rep)
    (h : ∀ i r, i < n → rs i r → Tg g r (wipeC Γ vs) M vs fun Γ3 M3 => M3 = M ∧ Etp E tt Γ3 M (f i) ∧ (f i = true → Ep E te Γ3 M (v i))) (q : ∀ a, k (iRef a) (M ++ [(a, mLst (given n f v))])) : Ev E (tLc wi g tt te vs) Γ M k X :=
  ev_lcX hv (hi _ _ ⟨hn, fun i acc M2 => given i f v = acc ∧ M = M2, ⟨rfl, rfl⟩, fun i r acc M2 hlt hr _ ⟨e1, e2⟩ => by
    subst e1; subst e2
    refine fun x σ S H Q I p o => h i r hlt hr x σ S H Q I p fun σ2 S2 H2 Γ2 M3 ⟨e3, h1, h2⟩ st I2 w2 => ?_
    subst e3
    refine o σ2 S2 H2 Γ2 _ (h1 _ _ ?_) st I2 w2
    cases hf : f i with
    | true => simpa using h2 hf _ _ ⟨given_yes hf, rfl⟩
    | false => simpa using given_no (v := v) hf, fun acc M2 _ ⟨e1, e2⟩ a => by
    subst e1; subst e2
    exact q a⟩)
theorem ev_lcLX {α β : Type} {l : List α} {e : α → Rep} {j : Nat} {p : α → Bool} {q : α → β} {e' : β → Rep} (hi : Ep E tl Γ M (iLst (l.map e))) (hn : l.length ≤ 1000000) (hj : j ∈ vs)
    (ht : ∀ x ∈ l, Etp E tt ((wipeC Γ vs).set j (some (e x))) M (p x)) (he : ∀ x ∈ l, p x = true → Ep E te ((wipeC Γ vs).set j (some (e x))) M (e' (q x)))
    (hq : ∀ a, k (iRef a) (M ++ [(a, mLst (((l.filter p).map q).map e'))])) : Ev E (tLc (iList K tl) (gName j) tt te vs) Γ M k X := by
  cases l with
  | nil =>
    exact ev_lcPX (fun z => by rw [z] at hj; cases hj) (tip_list hi) (by simp) (fun _ => true) (fun _ => iNon) (fun i r hi _ => by simp at hi) hq
  | cons d l' =>
    refine ev_lcPX (fun z => by rw [z] at hj; cases hj) (tip_list hi) (by simpa using hn) (fun i => p ((d :: l').getD i d)) (fun i => e' (q ((d :: l').getD i d))) (fun i r hi hr => ?_) ?_
    · rw [List.getElem?_map] at hr
      have hi' : i < (d :: l').length := by simpa using hi
      rw [List.getElem?_eq_getElem hi'] at hr
      have hx : (d :: l').getD i d = (d :: l')[i] := by rw [List.getD_eq_getElem?_getD, List.getElem?_eq_getElem hi']; rfl
      have hm : (d :: l')[i] ∈ (d :: l') := List.getElem_mem hi'
      cases hr
      rw [hx]
      exact tg_name ⟨rfl, ht _ hm, fun z => he _ hm z⟩ (.inr hj)
    · have := given_list (d :: l') p (fun x => e' (q x)) d
      rw [List.length_map, this, show ((d :: l').filter p).map (fun x => e' (q x)) = (((d :: l').filter p).map q).map e' by rw [List.map_map]; rfl]
      exact hq
theorem ev_lcFX {α : Type} {l : List α} {e : α → Rep} {j : Nat} {p : α → Bool} (hi : Ep E tl Γ M (iLst (l.map e))) (hn : l.length ≤ 1000000) (hj : j ∈ vs)
    (ht : ∀ x ∈ l, Etp E tt ((wipeC Γ vs).set j (some (e x))) M (p x)) (he : ∀ x ∈ l, p x = true → Ep E te ((wipeC Γ vs).set j (some (e x))) M (e x))
    (hq : ∀ a, k (iRef a) (M ++ [(a, mLst ((l.filter p).map e))])) : Ev E (tLc (iList K tl) (gName j) tt te vs) Γ M k X :=
  ev_lcLX (q := id) (e' := e) hi hn hj ht he (by rw [List.map_id]; exact hq)
end
end L3

/-! dict comprehensions with keys of any kind; dicts whose keys are tuples; two fors in a comprehension; x += e -/
namespace L3
open PySem PySem.Spec L2 RZ PyProof.Rows
/-! ### {k: v for ..}, low -/
/-- the store that a comprehension makes -/
theorem putAny {X : Cx} {pins : List (Addr × Obj)} {σ : L2.St} {H H2 : Hp} {s : Shared} {E : Value → Shared → Prop} {D : Addr} {y v : V} {ku vu : Value} {Q : Unit → Shared → Prop}
    (room : X.A.units + 1 < cLine) (inv : Inv X pins σ H s) (put : DPut H D y v H2) (ky : RelV y ku) (vy : RelV v vu) (next : ∀ s2, Inv X pins σ H2 s2 → Q () s2) :
    wpAny (model X.prog X.w) X.A (dictSet D ku vu) Q E s := by
  rcases put with ⟨kvs, key, hD, rfl, small, rfl⟩ | ⟨kvs, key, b, hD, rfl, hb, small, rfl⟩
  · exact d_dictSet inv hD small ky vy next
  · cases (show ku = Value.ref b from ky)
    obtain ⟨lz, nD, xs, rel, held⟩ := dt_of inv.hok hD
    have lx : xs.length ≤ sizeLine := Paired.length rel ▸ lz
    have lp := length_putK kvs key v
    refine wpAny_dictSet_heap (hsz := lx) (show (tupleKind (mixKind X.prog X.w)).room X.A from Nat.lt_of_succ_lt room) (key_of inv.hok hb) held (fun g held2 same => next _ ?_)
    obtain ⟨ob, ents, ep, a1, a2, a3, a4, _, a5⟩ := held2
    have mu : Mut (H D) := by rw [hD]; trivial
    refine d_write inv mu same ⟨ob, a1⟩ ⟨by omega, nD, _, ?_, ob, ents, ep, a1, a2, a3, a4, a5⟩
    exact (rel.put key hb vy).keeps fun c ys ec => (upd_ne (ne_of ec hD fun z => nomatch z)).trans ec
def tDcA (o0 : HO) (wi : TI) (g : TG) (tt : TT) (tk tv : TE) (vs : List Nat) : TE := fun σ H Q => wi σ H fun J H1 => ∀ D, H1 D = none →
  ∃ W : Nat → Nat → Hp → Prop, (∃ m, W 0 m (upd H1 D o0)) ∧ ∀ i m H, W i m H →
    (J.stop i H ∧ Q (.ref D) H) ∨ (J.go i H ∧ ∃ Z : Hp → Prop, (∀ H', Z H' → ∃ n, n < m ∧ W (i + 1) n H') ∧
      ∀ x H', J.yld i H x H' → g x (L2.wipe σ vs) H' fun σ2 H2 => L2.wipe σ2 vs = L2.wipe σ vs ∧ tt σ2 H2 fun b H3 =>
        if b = true then tk σ2 H3 fun y H4 => tv σ2 H4 fun z H5 => ∃ H6, DPut H5 D y z H6 ∧ Z H6 else Z H3)
theorem cls_empty {P : Program} {w : World} {H : Hp} {o0 : HO} (h0 : o0 = .dK [] ∨ o0 = .dT []) (h : Heap) (big : sysModules < h.objs.size) : ObjOk P w H (h.push { cls := .type "dict", data := .dict #[] }) h.objs.size o0 := by
  rcases h0 with rfl | rfl
  · exact dk_empty h big
  · exact dt_empty h big
section
variable {X : Cx} {kx vx tg iter : Expr} {ifs : List Expr} {scope : Scope} {own : List (Str × Nat)} {wi : TI} {g : TG} {tt : TT} {tk tv : TE}
/-- what a turn leaves behind: the block's context as at the turn's begin -/
theorem turnEnd {B : Cx} {ps : List (Addr × Obj)} {σ σ2 : L2.St} {H2 : Hp} {h1 : Heap} {s2 : Shared} {fp : List Addr} {it : Addr} {tg : Expr} {J : It} {tn : Nat → Heap → Prop} {i : Nat} (T : Turn B.prog B.w B.K tg J fp it tn) (t1 : tn i h1) (vs : List Nat)
    (J2 : Inv B ([] ++ pinsAt fp h1) σ2 H2 s2) (e : L2.wipe σ2 vs = L2.wipe σ vs) : Inv B [] (L2.wipe σ vs) H2 s2 ∧ tn i s2.heap ∧ ∀ b ∈ fp, H2 b = none := by
  have held : ∀ b ∈ fp, ∀ o, h1.get? b = some o → s2.heap.get? b = some o ∧ H2 b = none := fun b hb o q => by
    have z := J2.pin (b, o) (List.mem_append_right _ (List.mem_append_right _ (mem_pinsAt hb q)))
    exact ⟨z.1, z.2.1⟩
  refine ⟨(J2.unpinned (pins := [])).weak (by rw [← e, L2.wipe_length]) (fun j v q => ?_), T.keep _ _ _ t1 fun b hb o q => (held b hb o q).1, fun b hb => ?_⟩
  · rw [← e] at q
    exact (wipe_some q).1
  · obtain ⟨o, q, _⟩ := T.obj _ _ t1 b hb
    exact (held b hb o q).2
theorem dcRun {s0 : Shared} {Hb : Hp} {ce : Env} {fp : List Addr} {D it : Addr} {tn : Nat → Heap → Prop} {J : It} {σ : L2.St} {W : Nat → Nat → Hp → Prop} {R : Result → Shared → Prop} {pos : Pos} {s4 : Shared} {m0 : Nat} (vs : List Nat) (room : X.A.units + 1 < cLine) (calm : X.calm = true)
    (T : Turn X.prog X.w X.K tg J fp it tn) (pg : PG (X.blk s0 Hb scope ce fp) tg g) (pt : PTs (X.blk s0 Hb scope ce fp) ifs tt) (pk : PE (X.blk s0 Hb scope ce fp) kx tk) (pv : PE (X.blk s0 Hb scope ce fp) vx tv)
    (turn : ∀ i m H, W i m H → (J.stop i H ∧ ∀ s', Inv (X.blk s0 Hb scope ce fp) [] (L2.wipe σ vs) H s' → R (.ok .next) s') ∨ (J.go i H ∧ ∃ Z : Hp → Prop, (∀ H', Z H' → ∃ n, n < m ∧ W (i + 1) n H') ∧
      ∀ x H', J.yld i H x H' → g x (L2.wipe σ vs) H' fun σ2 H2 => L2.wipe σ2 vs = L2.wipe σ vs ∧ tt σ2 H2 fun b H3 =>
        if b = true then tk σ2 H3 fun y H4 => tv σ2 H4 fun z H5 => ∃ H6, DPut H5 D y z H6 ∧ Z H6 else Z H3))
    (I0 : Inv (X.blk s0 Hb scope ce fp) [] (L2.wipe σ vs) Hb s4) (t0 : tn 0 s4.heap) (n0 : ∀ b ∈ fp, Hb b = none) (w0 : W 0 m0 Hb) :
    codeAny (model X.prog X.w) X.A (.compLoop (.DictComp kx vx [⟨tg, iter, ifs, 0⟩] scope pos) 0 (.ref it) (.ref D) ce) R s4 := by
  let B := X.blk s0 Hb scope ce fp
  have ready : ∀ {σ' : L2.St} {H' : Hp} {s' : Shared}, Inv B [] σ' H' s' → (∀ b ∈ fp, H' b = none) → ∀ b ∈ fp, FpOk B [] H' b := fun Iv nn b hb => by
    obtain ⟨c1, c2⟩ := Iv.ok.exf b hb
    exact ⟨nn b hb, c1, Iv.ok.exfs b hb, .inl hb, fun x c e => c2 x c e, fun p hp => absurd hp (by rw [List.nil_append]; exact List.not_mem_nil)⟩
  refine compLoop_anyD (fun n s' => ∃ i H', Inv B [] (L2.wipe σ vs) H' s' ∧ tn i s'.heap ∧ (∀ b ∈ fp, H' b = none) ∧ W i n H') (fun n s5 ⟨i, H5, I5, t5, n5, w5⟩ => ?_) m0 ⟨0, Hb, I0, t0, n0, w0⟩
  have fr := ready I5 n5
  rcases turn i n H5 w5 with ⟨stop, told⟩ | ⟨go, Z, back, step⟩
  · refine thnF (T.done B rfl rfl rfl calm i [] s5 _ H5 (fun _ _ => False) I5 fr t5 stop) fun r s6 z => ?_
    obtain ⟨rfl, I6⟩ := z
    exact told s6 I6
  · refine thnF (T.item B rfl rfl rfl calm i [] s5 _ H5 (fun _ _ => False) I5 fr t5 go) fun r s6 z => ?_
    obtain ⟨u, rfl, h6⟩ := z
    refine thnF h6 fun _ s7 z => ?_
    obtain ⟨x, H7, I7, r7, y7, t7, n7⟩ := z
    have P7 := I7.pinned (ready I7 n7) (T.obj _ _ t7)
    refine thnF (pg.run _ s7 _ H7 x u _ P7 r7 (step x H7 y7)) fun _ s8 z => ?_
    obtain ⟨σ8, H8, I8, e8, q8⟩ := z
    have close : ∀ {s' : Shared} {H' : Hp}, Inv B ([] ++ pinsAt fp s7.heap) σ8 H' s' → Z H' → ∃ k, k < n ∧ ∃ i H', Inv B [] (L2.wipe σ vs) H' s' ∧ tn i s'.heap ∧ (∀ b ∈ fp, H' b = none) ∧ W i k H' := fun Iz hz => by
      obtain ⟨k, hk, w'⟩ := back _ hz
      obtain ⟨a1, a2, a3⟩ := turnEnd (B := B) (ps := []) T t7 vs Iz e8
      exact ⟨k, hk, i + 1, _, a1, a2, a3, w'⟩
    refine thnF (pt.run _ s8 σ8 H8 _ I8 q8) fun b s9 z => ?_
    obtain ⟨H9, I9, q9⟩ := z
    by_cases hb : b = true
    · rw [if_pos hb] at q9 ⊢
      refine thnF (pk.run _ s9 σ8 H9 _ I9 q9) fun ku s10 z => ?_
      obtain ⟨yk, H10, I10, r10, q10⟩ := z
      refine thnF (pv.run _ s10 σ8 H10 _ I10 q10) fun vu s11 z => ?_
      obtain ⟨yv, H11, I11, r11, H12, put, hz⟩ := z
      exact putAny (X := B) room I11 put r10 r11 fun s12 I12 => close I12 hz
    · rw [if_neg hb] at q9 ⊢
      exact close I9 q9
/-- {k: v for target in iter if ..}: the value goes to use -/
theorem dcCore {o0 : HO} {pos pos2 : Pos} {use : Option (Value → Sem Unit)} {Qf : Value → Shared → Prop} {pins : List (Addr × Obj)} {s : Shared} {σ : L2.St} {H : Hp} {Q : VK} (I : Inv X pins σ H s) (h0 : o0 = .dK [] ∨ o0 = .dT []) (room : X.A.units + 1 < cLine) (calm : X.calm = true) (nodup : X.N.Nodup) (hi : PI X tg iter wi) (ok : BlkOk X.N X.env.scope scope own)
    (pg : ∀ s H C cl fp, PG (X.blk s H scope (compEnvC scope cl C X.env) fp) tg g) (pt : ∀ s H C cl fp, PTs (X.blk s H scope (compEnvC scope cl C X.env) fp) ifs tt)
    (pk : ∀ s H C cl fp, PE (X.blk s H scope (compEnvC scope cl C X.env) fp) kx tk) (pv : ∀ s H C cl fp, PE (X.blk s H scope (compEnvC scope cl C X.env) fp) vx tv)
    (fo : ∀ x, foldedSetIterable iter X.env x = pure x) (h : tDcA o0 wi g tt tk tv (own.map (·.2)) σ H Q)
    (back : ∀ D C s' m H', Inv X pins σ H' s' → Q (.ref D) H' → s'.heap.Ns C m → FpOk X pins H' C → compPost (model X.prog X.w) X.A X.xe use Qf (.ref D) C (.ok .next) s') :
    wpAny (model X.prog X.w) X.A (comprehension (.DictComp kx vx [⟨tg, iter, ifs, 0⟩] scope pos) scope X.env pos2 newDict false (eval iter X.env) use) Qf X.xe s := by
  have cells : ∀ y ∈ scope.names, y.2 = .free → ∃ c, X.env.cells.lookup y.1 = some c := fun y hy e => I.ok.has _ ((ok.free y hy e).elim .inl .inr)
  refine wpAny_comprehension_free (use := use) rfl fo (closure_ok cells) ok.kind (fun y hy e => by rw [ok.uniq y hy, e]) ?_
  refine thn (hi.run pins s σ H _ I h) fun xv s1 hx => thn hx fun itv s2 z => ?_
  obtain ⟨it, fp, tn, J, H2, rfl, I2, T, t2, f2, q⟩ := z
  refine wpAny_newObj_type (newEnv_comp ?_)
  try dsimp only
  obtain ⟨W, ⟨m0, w0⟩, turn⟩ := q s2.heap.objs.size (I2.hok.fresh (Nat.le_refl _))
  generalize eD : s2.heap.objs.size = D at w0 turn ⊢
  have newD : H2 D = none := I2.hok.fresh (Nat.le_of_eq eD)
  have keep3 : ∀ b o, s2.heap.get? b = some o → (s2.heap.push { cls := .type "dict", data := .dict #[] }).get? b = some o := fun b o e => Heap.get?_push_of_some _ e
  have I3 : Inv X pins σ (upd H2 D o0) { s2 with heap := s2.heap.push { cls := .type "dict", data := .dict #[] } } := by
    refine I2.laid (t' := s2.toks) keep3 (Nat.le_of_eq eD) ?_
    rw [← eD]
    exact cls_empty h0 s2.heap I2.big
  suffices main : ∀ s3 : Shared, Inv X pins σ (upd H2 D o0) s3 → s3.heap = s2.heap.push { cls := .type "dict", data := .dict #[] } →
      codeAny (model X.prog X.w) X.A (.compStart (.DictComp kx vx [⟨tg, iter, ifs, 0⟩] scope pos) 0 (.ref it) (.ref D)
        (compEnvC scope (cellsFrom (s3.heap.objs.size + 1) scope.names (cloFrom X.env.cells scope.names [])) s3.heap.objs.size X.env))
        (compPost (model X.prog X.w) X.A X.xe use Qf (.ref D) s3.heap.objs.size)
        { s3 with heap := pushCells (s3.heap.push { cls := .type "dict", data := .dict #[] }) scope.names } from main _ I3 rfl
  clear I3
  intro s3 I3 h3
  have f3 : ∀ b ∈ fp, FpOk X pins (upd H2 D o0) b ∧ b < s3.heap.objs.size := fun b hb => by
    obtain ⟨o, e, _⟩ := T.obj _ _ t2 b hb
    have lt := Heap.lt_size e
    rw [eD] at lt
    refine ⟨⟨(upd_ne (Nat.ne_of_lt lt)).trans (f2 b hb).1, (f2 b hb).2⟩, ?_⟩
    rw [h3, Heap.size_push, eD]
    exact Nat.lt_succ_of_lt lt
  have t3 : tn 0 s3.heap := T.keep _ _ _ t2 fun b _ o e => by rw [h3]; exact keep3 b o e
  have I4 := block_start I3 ok nodup f3
  generalize eH : upd H2 D o0 = H3 at I3 I4 w0 f3
  generalize ec : cellsFrom (s3.heap.objs.size + 1) scope.names (cloFrom X.env.cells scope.names []) = cl at I4 ⊢
  generalize eS : ({ s3 with heap := pushCells (s3.heap.push { cls := .type "dict", data := .dict #[] }) scope.names } : Shared) = s4 at I4 ⊢
  have t4 : tn 0 s4.heap := T.keep _ _ _ t3 fun b _ o e => by rw [← eS]; exact pushCells_keeps _ _ _ _ (Heap.get?_push_of_some _ e)
  have run := dcRun (X := X) (s0 := s3) (Hb := H3) (ce := compEnvC scope cl s3.heap.objs.size X.env) (D := D) (R := compPost (model X.prog X.w) X.A X.xe use Qf (.ref D) s3.heap.objs.size) (pos := pos) (m0 := m0) (W := W) (σ := σ) (it := it) (iter := iter) (kx := kx) (vx := vx) (ifs := ifs) (own.map (·.2)) room calm T (pg _ _ _ _ _) (pt _ _ _ _ _) (pk _ _ _ _ _) (pv _ _ _ _ _) (fun i m Hx w => ?_) I4 t4 (fun b hb => (f3 b hb).1.1) w0
  · exact codeAny_compStart_dict run (T.self X.A 0 _ _ _ t4 run)
  · rcases turn i m Hx w with ⟨a, b⟩ | z
    · refine .inl ⟨a, fun s' Iz => ?_⟩
      have I7 : Inv X pins σ Hx s' := I3.call' (ch := fp) Iz.os Iz.base Iz.hok Iz.bare fun b hb => by
        obtain ⟨_, z1, _, z3, z4, z5⟩ := (f3 b hb).1
        exact ⟨z3, z1, z4, z5⟩
      have nC : Hx s3.heap.objs.size = none := Iz.free
      obtain ⟨mm, hn, _⟩ := Iz.loc
      exact back D s3.heap.objs.size s' mm Hx I7 b hn (I3.fpOk (Nat.le_refl _) nC)
    · exact .inr z
/-- as a value -/
theorem pe_dcA {o0 : HO} {pos : Pos} (h0 : o0 = .dK [] ∨ o0 = .dT []) (room : X.A.units + 1 < cLine) (calm : X.calm = true) (nodup : X.N.Nodup) (hi : PI X tg iter wi) (ok : BlkOk X.N X.env.scope scope own)
    (pg : ∀ s H C cl fp, PG (X.blk s H scope (compEnvC scope cl C X.env) fp) tg g) (pt : ∀ s H C cl fp, PTs (X.blk s H scope (compEnvC scope cl C X.env) fp) ifs tt)
    (pk : ∀ s H C cl fp, PE (X.blk s H scope (compEnvC scope cl C X.env) fp) kx tk) (pv : ∀ s H C cl fp, PE (X.blk s H scope (compEnvC scope cl C X.env) fp) vx tv)
    (fo : ∀ x, foldedSetIterable iter X.env x = pure x := by intro _; rfl) : PE X (.DictComp kx vx [⟨tg, iter, ifs, 0⟩] scope pos) (tDcA o0 wi g tt tk tv (own.map (·.2))) := by
  refine ⟨fun pins s σ H Q I h => ?_⟩
  rw [arm_eval_DictComp]
  refine dcCore I h0 room calm nodup hi ok pg pt pk pv fo h fun D C s' mm Hx I7 b hn f => ?_
  obtain ⟨g0, g1, _, g3, g4, g5⟩ := f
  exact ⟨mm, hn, fun h' sb => ⟨.ref D, Hx, I7.turned (t' := s'.toks) (fun b o hb e => (sb.2 b hb).trans e) g0 g1 g3 g4 g5, rfl, b⟩⟩
end
/-! ### typed -/
theorem wipe_self (σ : L2.St) (vs : List Nat) : L2.wipe (L2.wipe σ vs) vs = L2.wipe σ vs := by
  have one : ∀ u ∈ vs, (L2.wipe σ vs).set u none = L2.wipe σ vs := by
    intro u hu
    have gen : ∀ ws : List Nat, u ∈ ws → (L2.wipe σ ws).set u none = L2.wipe σ ws := by
      intro ws
      induction ws with
      | nil => intro z; cases z
      | cons w ws ih =>
        intro z
        show ((L2.wipe σ ws).set w none).set u none = (L2.wipe σ ws).set w none
        by_cases e : w = u
        · subst e; rw [List.set_set]
        · rcases List.mem_cons.mp z with z | z
          · exact absurd z.symm e
          · rw [List.set_comm _ _ e, ih z]
    exact gen vs hu
  have all : ∀ us : List Nat, (∀ u ∈ us, u ∈ vs) → L2.wipe (L2.wipe σ vs) us = L2.wipe σ vs := by
    intro us
    induction us with
    | nil => intro _; rfl
    | cons u us ih =>
      intro hu
      show (L2.wipe (L2.wipe σ vs) us).set u none = L2.wipe σ vs
      rw [ih fun z hz => hu z (List.mem_cons_of_mem _ hz)]
      exact one u (hu u (List.mem_cons_self ..))
  exact all vs fun _ h => h
/-- a key and a value may be put -/
def PutOk (P : MRep) (Rk Rv : Rep) (P' : MRep) : Prop := ∀ S H D y z o, Same S H → P.p S o → H D = some o → Rk.p S y → Rv.p S z → ∃ o', DPut H D y z (upd H D o') ∧ P'.p S o'
section
variable {E : XK} {K : PySem.W.Frag} {Γ : Ct} {M : SH} {k : KR} {X : KX} {R R1 R2 : Rep} {te ta tb tl tk tv : TE} {vs : List Nat} {D : EndT} {t u : TS} {c tt : TT} {tr : TA} {wi : TI} {n : Nat} {rs : Nat → Rep → Prop}
theorem ev_dcG {β : Type} {o0 : HO} {g : TG} (P : β → MRep) (b0 : β) (h00 : ∀ S, (P b0).p S o0) (hv : vs ≠ [])
    (h : Ti E wi Γ M (fun n rs M1 => ∃ J : Nat → β → SH → Prop, J 0 b0 M1 ∧ (∀ i r acc M2, i < n → rs i r → J i acc M2 →
      Tg g r (wipeC Γ vs) M2 vs fun Γ3 M3 => Et E tt Γ3 M3 (fun b M4 => if b = true then Ev E tk Γ3 M4 (fun Rk M5 => Ev E tv Γ3 M5 (fun Rv M6 => ∃ acc', PutOk (P acc) Rk Rv (P acc') ∧ J (i + 1) acc' M6) X0) X0 else J (i + 1) acc M4) X0) ∧
      ∀ acc M2, J n acc M2 → ∀ a, k (iRef a) (M2 ++ [(a, P acc)])) X) : Ev E (tDcA o0 wi g tt tk tv vs) Γ M k X := fun σ S H Q I o ox =>
  h σ S H _ I (fun Jt S1 H1 n rs M1 ⟨V, v0, vs', vd⟩ st w Dl hD => by
    obtain ⟨G, Y, wk, hG, hY⟩ := w
    have s0 := st.trans (Stp.newM (o := o0) (P := P b0) st.e st.m hD (h00 _))
    refine ⟨fun i m H' => m = n - i ∧ i ≤ n ∧ ∃ Sx Mx acc, Same Sx H' ∧ Stp S H Sx H' M (Mx ++ [(Dl, P acc)]) ∧ Same S1 Sx ∧ V i acc Mx, ⟨n, by simp, Nat.zero_le _, S1, M1, b0, s0.e, s0, Same.refl _, v0⟩, ?_⟩
    rintro i m H' ⟨rfl, hi, Sx, Mx, acc, ex, sx, s1, vx⟩
    have hq := hG Sx H' s1 ex
    by_cases hlt : i < n
    · refine .inr ⟨wk.goes i H' hlt hq, fun H'' => ∃ Sx Mx acc, Same Sx H'' ∧ Stp S H Sx H'' M (Mx ++ [(Dl, P acc)]) ∧ Same S1 Sx ∧ V (i + 1) acc Mx, fun H'' z => ⟨n - (i + 1), by omega, rfl, hlt, z⟩, fun x H'' y => ?_⟩
      obtain ⟨S', r, s', hr, pr⟩ := hY i H' x H'' hlt (wk.yields i H' x H'' hlt hq y) Sx (Mx ++ [(Dl, P acc)]) s1 ex sx.m
      have I' : Nv S' H'' (L2.wipe σ vs) (wipeC Γ vs) Mx := by
        have := (I.step (sx.trans s')).wipe vs
        exact ⟨this.ex, this.len, this.sl, this.m.left⟩
      have m' : MOk S' H'' (Mx ++ [(Dl, P acc)]) := s'.m
      refine vs' i r acc Mx hlt hr vx x (L2.wipe σ vs) S' H'' _ I' pr fun σ2 S2 H2 Γ2 M2 q st2 I2 w2 => ⟨(w2 hv).trans (wipe_self σ vs), ?_⟩
      have sf2 := st2.frame m'
      refine q σ2 S2 H2 _ I2 (fun b S3 H3 M3 q3 st3 => ?_) (fun _ _ _ _ _ _ z => z.elim)
      have sf3 := st3.frame sf2.m
      cases b with
      | false =>
        rw [if_neg Bool.false_ne_true] at q3
        rw [if_neg Bool.false_ne_true]
        exact ⟨S3, M3, acc, sf3.e, ((sx.trans s').trans sf2).trans sf3, s1.trans (s'.s.trans (sf2.s.trans sf3.s)), q3⟩
      | true =>
        rw [if_pos rfl] at q3
        rw [if_pos rfl]
        refine q3 σ2 S3 H3 _ (I2.step st3) (fun y S4 H4 R4 M4 q4 st4 p4 => ?_) (fun _ _ _ _ _ _ z => z.elim)
        have sf4 := st4.frame sf3.m
        refine q4 σ2 S4 H4 _ ((I2.step st3).step st4) (fun z S5 H5 R5 M5 q5 st5 p5 => ?_) (fun _ _ _ _ _ _ z => z.elim)
        have sf5 := st5.frame sf4.m
        have tot := ((((sx.trans s').trans sf2).trans sf3).trans sf4).trans sf5
        obtain ⟨acc', put, jn⟩ := q5
        obtain ⟨_, ob, ho, pa⟩ := tot.m.at_ Dl (P acc) (List.mem_append_right _ (List.mem_singleton.mpr rfl))
        obtain ⟨o', dp, po⟩ := put S5 H5 Dl y z ob tot.e pa ho (R4.m sf5.s p4) p5
        have wr := Stp.wrM (A := M5) (B := []) (a := Dl) (P := P acc) (P' := P acc') (o := o') tot.e tot.m po
        exact ⟨_, dp, S5, M5, acc', wr.e, tot.trans wr, s1.trans (s'.s.trans (sf2.s.trans (sf3.s.trans (sf4.s.trans sf5.s)))), jn⟩
    · have e : i = n := by omega
      subst e
      exact .inl ⟨wk.stops H' hq, o (.ref Dl) Sx H' (iRef Dl) _ (vd acc Mx vx Dl) sx rfl⟩) ox
end
end L3

/-! dicts whose keys are tuples of texts and whole numbers -/
namespace L3
open PySem PySem.Spec L2 RZ PyProof.Rows
def kR : Key → Rep
  | .inl i => iInt i
  | .inr z => aStr z
theorem kR_p {S : Hp} {q : Key} {v : V} : (kR q).p S v ↔ v = kV q := by
  cases q <;> exact Iff.rfl
theorem kRs_p {S : Hp} : ∀ {ks : List Key} {vs : List V}, All2 S (ks.map kR) vs ↔ vs = ks.map kV
  | [], [] => ⟨fun _ => rfl, fun _ => True.intro⟩
  | [], _ :: _ => ⟨fun h => h.elim, fun h => nomatch h⟩
  | _ :: _, [] => ⟨fun h => h.elim, fun h => nomatch h⟩
  | q :: ks, v :: vs => by
    constructor
    · rintro ⟨h1, h2⟩
      rw [List.map_cons, kR_p.mp h1, kRs_p.mp h2]
    · intro h
      rw [List.map_cons] at h
      injection h with h1 h2
      exact ⟨kR_p.mpr h1, kRs_p.mpr h2⟩
/-- a tuple that may be a key -/
def aKey (ks : List Key) : Rep := ⟨fun S v => ∃ b, v = .ref b ∧ S b = some (.tup (ks.map kV)), fun e ⟨b, h1, h2⟩ => ⟨b, h1, e _ _ h2⟩⟩
/-! what such a dict holds -/
abbrev KRs := List (List Key × Rep)
structure DtOk (S : Hp) (kvs : KRs) (ws : List (List Key × V)) : Prop where
  nm : ws.map (·.1) = kvs.map (·.1)
  al : All2 S (kvs.map (·.2)) (ws.map (·.2))
theorem DtOk.mono {S S' : Hp} {kvs : KRs} {ws : List (List Key × V)} (h : DtOk S kvs ws) (e : Same S S') : DtOk S' kvs ws := ⟨h.nm, h.al.mono e⟩
theorem DtOk.len {S : Hp} {kvs : KRs} {ws : List (List Key × V)} (h : DtOk S kvs ws) : ws.length = kvs.length := by
  have := congrArg List.length h.nm
  simpa using this
def lookT (kvs : KRs) (q : List Key) : Option Rep := (kvs.find? fun kv => decide (kv.1 = q)).map (·.2)
theorem lookT_pos {p : List Key × Rep} {r : KRs} {q : List Key} (e : p.1 = q) : lookT (p :: r) q = some p.2 := by simp [lookT, List.find?_cons, e]
theorem lookT_neg {p : List Key × Rep} {r : KRs} {q : List Key} (e : ¬ p.1 = q) : lookT (p :: r) q = lookT r q := by simp [lookT, List.find?_cons, e]
theorem DtOk.look {S : Hp} : ∀ {kvs : KRs} {ws : List (List Key × V)}, DtOk S kvs ws → ∀ q, (lookT kvs q = none → valV ws q = none) ∧ ∀ R, lookT kvs q = some R → ∃ v, valV ws q = some v ∧ R.p S v
  | [], [], _, q => ⟨fun _ => rfl, fun R e => by cases e⟩
  | [], _ :: _, h, _ => by have := h.nm; simp at this
  | _ :: _, [], h, _ => by have := h.nm; simp at this
  | (g, R) :: kvs, (g', v) :: ws, h, q => by
    have e : g' = g := by have := h.nm; simp at this; exact this.1
    subst e
    have ih := DtOk.look (kvs := kvs) (ws := ws) ⟨by have := h.nm; simp at this; exact this, h.al.2⟩ q
    by_cases hf : g' = q
    · rw [lookT_pos (p := (g', R)) hf, valV_pos (p := (g', v)) hf]
      refine ⟨fun z => (nomatch z), fun R' z => ?_⟩
      cases z
      exact ⟨v, rfl, h.al.1⟩
    · rw [lookT_neg (p := (g', R)) hf, valV_neg (p := (g', v)) hf]
      exact ih
theorem DtOk.isSome {S : Hp} {kvs : KRs} {ws : List (List Key × V)} (h : DtOk S kvs ws) (q : List Key) : (valV ws q).isSome = (lookT kvs q).isSome := by
  cases hl : lookT kvs q with
  | none => rw [(h.look q).1 hl]; rfl
  | some R =>
    obtain ⟨v, hv, _⟩ := (h.look q).2 R hl
    rw [hv]
    rfl
def putT (kvs : KRs) (q : List Key) (R : Rep) : KRs := if (lookT kvs q).isSome then kvs.map (fun p => if p.1 = q then (p.1, R) else p) else kvs ++ [(q, R)]
theorem DtOk.put {S : Hp} {kvs : KRs} {ws : List (List Key × V)} (h : DtOk S kvs ws) {q : List Key} {R : Rep} {v : V} (p : R.p S v) : DtOk S (putT kvs q R) (putK ws q v) := by
  unfold putT putK
  rw [valV_any, h.isSome]
  cases (lookT kvs q).isSome with
  | true =>
    rw [if_pos rfl, if_pos rfl]
    have gen : ∀ (kvs : KRs) (ws : List (List Key × V)), ws.map (·.1) = kvs.map (·.1) → All2 S (kvs.map (·.2)) (ws.map (·.2)) → DtOk S (kvs.map fun p => if p.1 = q then (p.1, R) else p) (ws.map fun kv => if kv.1 = q then (kv.1, v) else kv) := by
      intro kvs
      induction kvs with
      | nil => intro ws e al; cases ws with
        | nil => exact ⟨rfl, True.intro⟩
        | cons _ _ => simp at e
      | cons x kvs ih => intro ws e al; cases ws with
        | nil => simp at e
        | cons w ws =>
          obtain ⟨w1, w2⟩ := w
          obtain ⟨x1, x2⟩ := x
          simp only [List.map_cons, List.cons.injEq] at e
          obtain ⟨rfl, e2⟩ := e
          have ih2 := ih ws e2 al.2
          by_cases hq : w1 = q
          · refine ⟨?_, ?_⟩
            · simp only [List.map_cons, if_pos hq]
              rw [ih2.nm]
            · simp only [List.map_cons, if_pos hq]
              exact ⟨p, ih2.al⟩
          · refine ⟨?_, ?_⟩
            · simp only [List.map_cons, if_neg hq]
              rw [ih2.nm]
            · simp only [List.map_cons, if_neg hq]
              exact ⟨al.1, ih2.al⟩
    exact gen kvs ws h.nm h.al
  | false =>
    rw [if_neg Bool.false_ne_true, if_neg Bool.false_ne_true]
    refine ⟨by rw [List.map_append, List.map_append, h.nm]; rfl, ?_⟩
    rw [List.map_append, List.map_append]
    exact h.al.app (All2.one p)
def iDT (kvs : KRs) : Rep := ⟨fun S v => ∃ a o ws, v = .ref a ∧ S a = some (.frz o (.dT ws)) ∧ DtOk S kvs ws, fun e ⟨a, o, ws, h1, h2, h3⟩ => ⟨a, o, ws, h1, e _ _ h2, h3.mono e⟩⟩
def mDT (kvs : KRs) : MRep := ⟨fun S o => ∃ ws, o = .dT ws ∧ DtOk S kvs ws, fun e ⟨ws, h1, h2⟩ => ⟨ws, h1, h2.mono e⟩, fun ⟨ws, h1, _⟩ ys z => by rw [h1] at z; cases z⟩
def HasT (M : SH) (R : Rep) (kvs : KRs) : Prop := R = iDT kvs ∨ ∃ (a : Addr) (i : Nat), R = iRef a ∧ M[i]? = some (a, mDT kvs)
theorem ht_f {M : SH} {kvs : KRs} : HasT M (iDT kvs) kvs := .inl rfl
theorem ht_m {M : SH} {kvs : KRs} {a : Addr} {i : Nat} (h : M[i]? = some (a, mDT kvs)) : HasT M (iRef a) kvs := .inr ⟨a, i, rfl, h⟩
theorem HasT.get {M : SH} {R : Rep} {kvs : KRs} (h : HasT M R kvs) {S H : Hp} {v : V} (e : Same S H) (m : MOk S H M) (p : R.p S v) : ∃ a ws, v = .ref a ∧ Rd H a (.dT ws) ∧ DtOk S kvs ws := by
  rcases h with h | ⟨a, i, h, hm⟩
  · subst h
    obtain ⟨a, o, ws, h1, h2, h3⟩ := p
    exact ⟨a, ws, h1, .inr ⟨o, e _ _ h2⟩, h3⟩
  · subst h
    cases p
    obtain ⟨_, o, ho, ws, rfl, h3⟩ := m.at_ _ _ (at_mem hm)
    exact ⟨a, ws, rfl, .inl ho, h3⟩
theorem putOk_D {kvs : FR} {q : Str} {R : Rep} (h : kvs.length < 1000000) : PutOk (mDK kvs) (aStr q) R (mDK (putD kvs q R)) := fun S H D y z o e p ho ky vz => by
  obtain ⟨ws, rfl, ok⟩ := p
  cases ky
  exact ⟨_, DPut.k (k := Sum.inr q) ho (by rw [ok.len]; exact sz_lt (by omega)), _, rfl, ok.put vz⟩
section
variable {E : XK} {K : PySem.W.Frag} {Γ : Ct} {M : SH} {k : KR} {X : KX} {R R1 R2 : Rep} {te ta tb tl td ty : TE} {vs : List Nat} {D : EndT} {t u : TS} {c tt : TT} {tr : TA}
theorem ev_dinT (h : Ev E ty Γ M (fun R1 M1 => ∃ q, R1 = aKey q ∧ Ev E td Γ M1 (fun R M2 => ∃ kvs, HasT M2 R kvs ∧ k (iBl (lookT kvs q).isSome) M2) X) X) : Ev E (tDIn ty td) Γ M k X := fun σ S H Q I o ox =>
  h σ S H _ I (fun v S1 H1 R1 M1 ⟨q, e, hq⟩ st p => by
    subst e
    obtain ⟨b, rfl, hb⟩ := p
    refine hq σ S1 H1 _ (I.step st) (fun w S2 H2 R2 M2 ⟨kvs, hd, q2⟩ st2 p2 => ?_) (ox.step st)
    obtain ⟨a, ws, rfl, hr, ok⟩ := hd.get st2.e st2.m p2
    refine ⟨a, valV ws q, rfl, .inr ⟨ws, q, b, hr, rfl, st2.e _ _ (st2.s _ _ hb), rfl⟩, ?_⟩
    rw [ok.isSome]
    exact o _ S2 H2 _ M2 q2 (st.trans st2) rfl) ox
theorem ev_dninT (h : Ev E ty Γ M (fun R1 M1 => ∃ q, R1 = aKey q ∧ Ev E td Γ M1 (fun R M2 => ∃ kvs, HasT M2 R kvs ∧ k (iBl (!(lookT kvs q).isSome)) M2) X) X) : Ev E (tDNotIn ty td) Γ M k X := fun σ S H Q I o ox =>
  h σ S H _ I (fun v S1 H1 R1 M1 ⟨q, e, hq⟩ st p => by
    subst e
    obtain ⟨b, rfl, hb⟩ := p
    refine hq σ S1 H1 _ (I.step st) (fun w S2 H2 R2 M2 ⟨kvs, hd, q2⟩ st2 p2 => ?_) (ox.step st)
    obtain ⟨a, ws, rfl, hr, ok⟩ := hd.get st2.e st2.m p2
    refine ⟨a, valV ws q, rfl, .inr ⟨ws, q, b, hr, rfl, st2.e _ _ (st2.s _ _ hb), rfl⟩, ?_⟩
    rw [ok.isSome]
    exact o _ S2 H2 _ M2 q2 (st.trans st2) rfl) ox
theorem ev_dgetT (h : Ev E td Γ M (fun R1 M1 => ∃ Rd : Rep, Rd = R1 ∧ Ev E ty Γ M1 (fun R2 M2 => ∃ q kvs, R2 = aKey q ∧ HasT M2 R1 kvs ∧ ∃ R, lookT kvs q = some R ∧ k R M2) X) X) : Ev E (tDGet td ty) Γ M k X := fun σ S H Q I o ox =>
  h σ S H _ I (fun v S1 H1 R1 M1 ⟨_, _, hq⟩ st p => by
    refine hq σ S1 H1 _ (I.step st) (fun w S2 H2 R2 M2 ⟨q, kvs, e, hd, R, hl, q2⟩ st2 p2 => ?_) (ox.step st)
    subst e
    obtain ⟨b, rfl, hb⟩ := p2
    obtain ⟨a, ws, rfl, hr, ok⟩ := hd.get st2.e st2.m (R1.m st2.s p)
    obtain ⟨x, hx, px⟩ := (ok.look q).2 R hl
    exact ⟨a, x, rfl, .inr ⟨ws, q, b, hr, rfl, st2.e _ _ hb, hx.symm⟩, o x S2 H2 R M2 q2 (st.trans st2) px⟩) ox
/-- d[t] = v -/
theorem tg_putT {to ti : TE} {kc : KC} (h : Ev E0 to Γ M (fun R1 M1 => ∃ d, R1 = iRef d ∧ Ev E0 ti Γ M1 (fun R2 M2 => ∃ (q : List Key) (i : Nat) (kvs : KRs), R2 = aKey q ∧ M2[i]? = some (d, mDT kvs) ∧ kvs.length < 1000000 ∧ kc Γ (M2.set i (d, mDT (putT kvs q R)))) X0) X0) : Tg (gSub to ti rSetD) R Γ M vs kc := fun v σ S H Q I p o => by
  refine h σ S H _ I (fun w S1 H1 R1 M1 ⟨d, e, hq⟩ st1 p1 => ?_) (fun _ _ _ _ _ _ z => z.elim)
  subst e; cases p1
  refine hq σ S1 H1 _ (I.step st1) (fun w2 S2 H2 R2 M2 ⟨q, i, kvs, e, hi, hl, q2⟩ st2 p2 => ?_) (fun _ _ _ _ _ _ z => z.elim)
  subst e
  obtain ⟨b, rfl, hb⟩ := p2
  have st := st1.trans st2
  obtain ⟨_, ob, ho, ws, rfl, ok⟩ := st2.m.at_ d (mDT kvs) (at_mem hi)
  have wr := Stp.wrAt (P' := mDT (putT kvs q R)) (o := .dT (putK ws q v)) hi st2.e st2.m ⟨_, rfl, ok.put (R.m st.s p)⟩
  exact ⟨d, _, rfl, DPut.t ho (st2.e _ _ hb) (by rw [ok.len]; exact sz_lt (by omega)), o σ S2 _ Γ _ q2 (st.trans wr) ((I.step st).step wr) fun _ => rfl⟩
/-- list(d) -/
def rListT : List V → Hp → VK → Prop := fun xs H Q => ∃ d kvs, xs = [V.ref d] ∧ Rd H d (.dT kvs) ∧ ∀ p bs, H p = none → IsKeys H kvs bs → Q (.ref p) (upd H p (.lst (bs.map V.ref)))
/-! ### tuples as keys -/
theorem ev_tupK (h : Ea E tr Γ M (fun Rs M1 => ∃ ks : List Key, Rs = ks.map kR ∧ ks.length ≤ 1000000 ∧ k (aKey ks) M1) X) : Ev E (tTup tr) Γ M k X := fun σ S H Q I o ox =>
  h σ S H _ I (fun xs S1 H1 Rs M1 ⟨ks, e, hl, q⟩ st p => by
    subst e
    have ex := kRs_p.mp p
    subst ex
    exact ⟨sz_le (by rw [List.length_map]; exact hl), fun a ha => o (.ref a) (upd S1 a (.tup (ks.map kV))) _ (aKey ks) M1 q (st.trans (Stp.newS st.e st.m ha)) ⟨a, rfl, upd_same⟩⟩) ox
theorem o_ixK {ks : List Key} {i : Int} {q : Key} (h : atI ks i = some q) : O2p (rIxT K) (aKey ks) (iInt i) M (kR q) := o2_val fun x y S H e m h1 h2 => by
  have := o_ixT (K := K) (M := M) (rs := ks.map kR) (atI_map (f := kR) h) (fun R' M' => R' = kR q ∧ M' = M) ⟨rfl, rfl⟩ x y S H
  cases h2
  obtain ⟨b, rfl, hb⟩ := h1
  have hv : atI (ks.map kV) i = some (kV q) := atI_map h
  exact ⟨kV q, kR_p.mpr rfl, fun Q hq => ⟨b, _, i, kV q, rfl, rfl, SqT.of (e _ _ hb), hv, hq⟩⟩
theorem tg_tupK {gs : TGs} {ks : List Key} {n : Nat} {kc : KC} (hn : ks.length = n) (h : Tgs gs (ks.map kR) Γ M vs kc) : Tg (gTup K n gs) (aKey ks) Γ M vs kc := fun v σ S H Q I p o => by
  obtain ⟨b, rfl, hb⟩ := p
  exact ⟨b, _, rfl, SqT.of (I.ex _ _ hb), by rw [List.length_map]; exact hn, h _ σ S H Q I (kRs_p.mpr rfl) o⟩
/-! ### x += e -/
theorem st_augI {j : Nat} {g : Int → Int → Int} (h : ∃ i, Γ[j]? = some (some (iInt i)) ∧ Ev E te Γ M (fun R M1 => ∃ x, R = iInt x ∧ D.nx (Γ.set j (some (iInt (g i x)))) M1) D.ex) : St E (tAug j te (ipI g)) Γ M D := fun σ S H D0 I o => by
  obtain ⟨i, hj, h⟩ := h
  obtain ⟨v, hv, pv⟩ := I.sl j (iInt i) hj
  cases pv
  exact ⟨.int i, hv, h σ S H _ I (fun w S1 H1 R M1 ⟨x, e, q⟩ st p => by
    subst e; cases p
    exact ⟨i, x, rfl, rfl, o.nx _ S1 H1 _ M1 q st ((I.step st).set j rfl)⟩) o.ex⟩
end
end L3

/-! comprehensions with two fors -/
namespace L3
open PySem PySem.Spec L2 RZ PyProof.Rows
section
variable {E : XK} {K : PySem.W.Frag} {Γ : Ct} {M : SH} {k : KR} {X : KX} {R R1 R2 : Rep} {te ta tb tl : TE} {vs vs1 : List Nat} {tt tt1 : TT} {wi wi1 : TI} {g g1 : TG}
end
end L3

/-! tuples as keys, marked; calls of defs that change nothing, with defaults and keywords -/
namespace L3
open PySem PySem.Spec L2 RZ PyProof.Rows
def tTupK (tr : TA) : TE := tTup tr
theorem castPI {X : Cx} {tg e : Expr} {K : PySem.W.Frag} {r : PySem.W.Frag → TI} (h : X.K = K) (o : PI X tg e (r X.K)) : PI X tg e (r K) := h ▸ o
def tDInT (ty td : TE) : TE := tDIn ty td
def tDNotInT (ty td : TE) : TE := tDNotIn ty td
def tDGetT (td ty : TE) : TE := tDGet td ty
def gSubT (to ti : TE) : TG := gSub to ti rSetD
/-- none, or a whole number -/
def iOpt : Option Int → Rep
  | none => iNon
  | some i => iInt i
/-- none, or a key -/
def kOpt : Option (List Key) → Rep
  | none => iNon
  | some q => aKey q
section
variable {E : XK} {K : PySem.W.Frag} {Γ : Ct} {M : SH} {k : KR} {X : KX} {R R1 R2 : Rep} {te ta tb tl td ty : TE} {vs : List Nat} {D : EndT} {t u : TS} {c tt : TT} {tr tk : TA}
theorem ev_inT (h : Ev E ty Γ M (fun R1 M1 => ∃ q, R1 = aKey q ∧ Ev E td Γ M1 (fun R M2 => ∃ kvs, HasT M2 R kvs ∧ k (iBl (lookT kvs q).isSome) M2) X) X) : Ev E (tDInT ty td) Γ M k X := ev_dinT h
theorem ev_ninT (h : Ev E ty Γ M (fun R1 M1 => ∃ q, R1 = aKey q ∧ Ev E td Γ M1 (fun R M2 => ∃ kvs, HasT M2 R kvs ∧ k (iBl (!(lookT kvs q).isSome)) M2) X) X) : Ev E (tDNotInT ty td) Γ M k X := ev_dninT h
theorem ev_getT (h : Ev E td Γ M (fun R1 M1 => ∃ Rd : Rep, Rd = R1 ∧ Ev E ty Γ M1 (fun R2 M2 => ∃ q kvs, R2 = aKey q ∧ HasT M2 R1 kvs ∧ ∃ R, lookT kvs q = some R ∧ k R M2) X) X) : Ev E (tDGetT td ty) Γ M k X := ev_dgetT h
theorem tg_putT1 {to ti : TE} {kc : KC} (h : Ev E0 to Γ M (fun R1 M1 => ∃ d, R1 = iRef d ∧ Ev E0 ti Γ M1 (fun R2 M2 => ∃ (q : List Key) (i : Nat) (kvs : KRs), R2 = aKey q ∧ M2[i]? = some (d, mDT kvs) ∧ kvs.length < 1000000 ∧ kc Γ (M2.set i (d, mDT (putT kvs q R)))) X0) X0) : Tg (gSubT to ti) R Γ M vs kc := tg_putT h
theorem k_key {q : List Key} {P : List Key → Prop} (h : P q) : ∃ q', aKey q = aKey q' ∧ P q' := ⟨q, rfl, h⟩
theorem k_ht_at {P : KRs → Prop} (h : ∃ kvs', HasT M R kvs' ∧ P kvs') : ∃ kvs', HasT M R kvs' ∧ P kvs' := h
theorem k_ht {kvs : KRs} {P : KRs → Prop} (h : HasT M R kvs) (q : P kvs) : ∃ kvs', HasT M R kvs' ∧ P kvs' := ⟨kvs, h, q⟩
theorem k_atI_at {j : Nat} {P : Int → Prop} (h : ∃ i, Γ[j]? = some (some (iInt i)) ∧ P i) : ∃ i, Γ[j]? = some (some (iInt i)) ∧ P i := h
theorem k_atI {j : Nat} {i : Int} {P : Int → Prop} (h : Γ[j]? = some (some (iInt i))) (q : P i) : ∃ i, Γ[j]? = some (some (iInt i)) ∧ P i := ⟨i, h, q⟩
theorem k_putT_at {d : Addr} {q : List Key} {P : List Key → Nat → KRs → Prop} (h : ∃ (q' : List Key) (i : Nat) (kvs : KRs), aKey q = aKey q' ∧ M[i]? = some (d, mDT kvs) ∧ kvs.length < 1000000 ∧ P q' i kvs) : ∃ (q' : List Key) (i : Nat) (kvs : KRs), aKey q = aKey q' ∧ M[i]? = some (d, mDT kvs) ∧ kvs.length < 1000000 ∧ P q' i kvs := h
theorem k_putT {d : Addr} {i : Nat} {q : List Key} {kvs : KRs} {P : List Key → Nat → KRs → Prop} (hm : M[i]? = some (d, mDT kvs)) (hl : kvs.length < 1000000) (h : P q i kvs) : ∃ (q' : List Key) (i : Nat) (kvs : KRs), aKey q = aKey q' ∧ M[i]? = some (d, mDT kvs) ∧ kvs.length < 1000000 ∧ P q' i kvs := ⟨q, i, kvs, rfl, hm, hl, h⟩
theorem ev_tupK1 (h : Ea E tr Γ M (fun Rs M1 => ∃ ks : List Key, Rs = ks.map kR ∧ ks.length ≤ 1000000 ∧ k (aKey ks) M1) X) : Ev E (tTupK tr) Γ M k X := ev_tupK h
theorem k_keySI {z : Str} {i : Int} {P : List Key → Prop} (h : P [.inr z, .inl i]) : ∃ ks : List Key, [aStr z, iInt i] = ks.map kR ∧ ks.length ≤ 1000000 ∧ P ks := ⟨_, rfl, Nat.le_of_ble_eq_true rfl, h⟩
theorem tg_tupSI {gs : TGs} {z : Str} {i : Int} {n : Nat} {kc : KC} (hn : 2 = n) (h : Tgs gs [aStr z, iInt i] Γ M vs kc) : Tg (gTup K n gs) (aKey [.inr z, .inl i]) Γ M vs kc := tg_tupK (ks := [.inr z, .inl i]) hn h
theorem o_ixSI0 {z : Str} {i : Int} : O2p (rIxT K) (aKey [.inr z, .inl i]) (iInt 0) M (aStr z) := o_ixK (ks := [.inr z, .inl i]) (q := .inr z) rfl
theorem o_ixSI1 {z : Str} {i : Int} : O2p (rIxT K) (aKey [.inr z, .inl i]) (iInt 1) M (iInt i) := o_ixK (ks := [.inr z, .inl i]) (q := .inl i) rfl
theorem ev_callKD {sp : List Rep → (Rep → Prop) → Prop} {dvs : List V} {Ds : List Rep} (hd : ∀ S, All2 S Ds dvs) (h : Ea E tr Γ M (fun Rs M1 => ∃ Rs', LeS (Rs ++ Ds) Rs' ∧ sp Rs' fun R => k R M1) X) : Ev E (tCall (spT (pureK sp)) dvs E0 tr) Γ M k X := fun σ S H Q I o ox =>
  h σ S H _ I (fun xs S1 H1 Rs M1 ⟨Rs', le, q⟩ st p =>
    spT_in (Mf := []) (Fr := M1) (Rs := Rs') (X := X0) (k := k) ⟨rfl, q⟩ st.e st.m (le S1 _ (p.app (hd S1))) (o.step st) (fun _ _ _ _ _ _ z => z.elim)) ox
theorem ev_callKDn {sp : List Rep → (Rep → Prop) → Prop} (h : Ea E tr Γ M (fun Rs M1 => ∃ Rs', LeS (Rs ++ [iNon]) Rs' ∧ sp Rs' fun R => k R M1) X) : Ev E (tCall (spT (pureK sp)) [.non] E0 tr) Γ M k X :=
  ev_callKD (Ds := [iNon]) (fun _ => ⟨rfl, True.intro⟩) h
theorem ev_callKN {sp : List Rep → (Rep → Prop) → Prop} {n m : Nat} (h : Ea E tr Γ M (fun Rs M1 => Rs.length = n ∧ Ea E tk Γ M1 (fun Zs M2 => Zs.length = m ∧ ∃ Rs', LeS (Rs ++ Zs) Rs' ∧ sp Rs' fun R => k R M2) X) X) : Ev E (tCallN n m (spT (pureK sp)) (fun vs zs => vs ++ zs) E0 tr tk) Γ M k X := fun σ S H Q I o ox =>
  h σ S H _ I (fun vs S1 H1 Rs M1 ⟨e1, q⟩ st p => q σ S1 H1 _ (I.step st) (fun zs S2 H2 Zs M2 ⟨e2, Rs', le, q2⟩ st2 p2 => by
    refine ⟨p.len.trans e1, p2.len.trans e2, ?_⟩
    exact spT_in (Mf := []) (Fr := M2) (Rs := Rs') (X := X0) (k := k) ⟨rfl, q2⟩ st2.e st2.m (le S2 _ ((p.mono st2.s).app p2)) (o.step (st.trans st2)) (fun _ _ _ _ _ _ z => z.elim)) (ox.step st)) ox
theorem c_maxL {ns : List Int} (h : 0 < ns.length) (q : ∀ m, m ∈ ns → (∀ k ∈ ns, k ≤ m) → k (iInt m) M) : Ol (rMax K) [iLst (ns.map iInt)] M k := fun xs S H Q e m p o => by
  obtain ⟨v, rfl, a, ys, rfl, p1, p2⟩ := all2_1 p
  have : ys = ns.map V.int := All2.flat (fun _ _ h => h) p2
  subst this
  exact ⟨a, ns, rfl, SqL.of (e _ _ p1), h, fun x hx hl => o _ S H (iInt x) M (q x hx hl) (Stp.refl e m) rfl⟩
/-- min(l), l a list of whole numbers that is not empty -/
theorem c_minL {ns : List Int} (h : 0 < ns.length) (q : ∀ m, m ∈ ns → (∀ k ∈ ns, m ≤ k) → k (iInt m) M) : Ol (rMin K) [iLst (ns.map iInt)] M k := fun xs S H Q e m p o => by
  obtain ⟨v, rfl, a, ys, rfl, p1, p2⟩ := all2_1 p
  have : ys = ns.map V.int := All2.flat (fun _ _ h => h) p2
  subst this
  exact ⟨a, ns, rfl, SqL.of (e _ _ p1), h, fun x hx hl => o _ S H (iInt x) M (q x hx hl) (Stp.refl e m) rfl⟩
end
end L3

/-! {} for tuple keys, len of it -/
namespace L3
open PySem PySem.Spec L2 RZ PyProof.Rows
def tDNewTT : TE := tDNewT
section
variable {E : XK} {K : PySem.W.Frag} {Γ : Ct} {M : SH} {k : KR} {X : KX} {R R1 R2 : Rep} {te ta tb tl td ty : TE} {vs : List Nat} {D : EndT} {t u : TS} {c tt : TT} {tr tk : TA}
theorem ev_dnewTT (h : ∀ a, k (iRef a) (M ++ [(a, mDT [])])) : Ev E tDNewTT Γ M k X := fun σ S H Q I o _ => fun p hp =>
  o (.ref p) S _ (iRef p) _ (h p) (Stp.newM (o := .dT []) I.ex I.m hp ⟨[], rfl, rfl, True.intro⟩) rfl
theorem c_lenDT {a : Addr} {i : Nat} {kvs : KRs} (h : M[i]? = some (a, mDT kvs)) : Olp rLenT [iRef a] M (iInt kvs.length) := ol_val fun xs S H e m p => by
  obtain ⟨v, rfl, p1⟩ := all2_1 p
  cases p1
  obtain ⟨_, o, ho, ws, rfl, ok⟩ := m.at_ _ _ (at_mem h)
  exact ⟨_, rfl, fun Q q => ⟨a, ws, rfl, ho, by rw [ok.len]; exact q⟩⟩
end
end L3

/-! walks that come to their end while an exception is handled -/
namespace L3
open PySem PySem.Spec PyProof.Rows L2 HotX
section
variable {prog : Program} {w : World} {A : Around} {E : Value → Shared → Prop} {s : Shared}
/-- nothing is handled, or one whose context is None -/
def HdOk (A : Around) (h : Heap) : Prop := A.handled = none ∨ ∃ x1, HotAt A x1 h
theorem HotAt.kept {A : Around} {x1 : Addr} {h h' : Heap} (t : HotAt A x1 h) (k : ∀ o, h.get? x1 = some o → h'.get? x1 = some o) : HotAt A x1 h' := by
  obtain ⟨a, o, vs, h1, h2, h3⟩ := t
  exact ⟨a, o, vs, k _ h1, h2, h3⟩
end

/-! ### an except suite's rules -/
def HdX (X : Cx) : Prop := ∀ pins σ H s, Inv X pins σ H s → HdOk X.A s.heap
section
variable {X : Cx} {pos : Pos}
end
end L3

/-! [x for a, b in zip(c, d) if t] while an exception is handled -/
namespace L3
open PySem PySem.Spec PyProof.Rows L2 HotX
def ZSt (z TI TO i1 i2 a b : Addr) (i : Nat) (h : Heap) : Prop := IsZip h z TI TO .none ∧ IsPair h TI (.ref i1) (.ref i2) ∧ (∃ x y, IsPair h TO x y) ∧ h.IsListIter i1 a i ∧ h.IsListIter i2 b i
section
variable {X : Cx} {elts : List Expr} {kk : Nat} {tpos : Pos} {a b z TI TO i1 i2 : Addr} {i : Nat} {pins : List (Addr × Obj)} {s : Shared} {σ : L2.St} {H : Hp} {E : Value → Shared → Prop}
end

def ItzH (K : PySem.W.Frag) (a b : Addr) : It := ⟨(Itz K a b).go, (Itz K a b).yld, fun i H => ∃ xs ys : List V, SqL K H a xs ∧ SqL K H b ys ∧ xs.length ≤ i⟩
def iZipH (K : PySem.W.Frag) (ta : TA) : TI := fun σ H R => ta σ H fun vs H1 => ∃ a b xs ys, vs = [.ref a, .ref b] ∧ SqL K H1 a xs ∧ SqL K H1 b ys ∧ R (ItzH K a b) H1
section
variable {X : Cx} {pins : List (Addr × Obj)} {s : Shared} {σ : L2.St} {H : Hp} {Q : VK}
end
end L3

/-! exceptions of own classes over any built-in one, made with one argument or none, where __init__ stores a word (and the argument) -/
namespace L3
open PySem PySem.W PySem.Calls PyProof.Rows PySem.HandSPX Builtin Builtin.ObjectAttr
/-- own classes, then a tail -/
theorem refs_contains (rs : List Addr) (t : List Value) (Y : String) : (rs.map Value.ref ++ t).contains (.type Y) = t.contains (.type Y) := by
  induction rs with
  | nil => rfl
  | cons a r ih => rw [List.map_cons, List.cons_append, List.contains_cons, ih]; rfl
theorem refs_pass (self : Value) (rs : List Addr) {t : List Value} (h : refuseLoop self "__setattr__" t = pure ()) : refuseLoop self "__setattr__" (rs.map Value.ref ++ t) = pure () := by
  induction rs with
  | nil => exact h
  | cons a r ih => rw [List.map_cons, List.cons_append, refuseLoop_ref]; exact ih
section
variable {prog : Program} {w : World} {A : Around} {E : Value → Shared → Prop} {R : Result → Shared → Prop} {hp : Heap} {g : Array GenState} {d : Drawn} {t : Nat} {os : OsState}
variable {K : W.Frag} {name : Str} {tk : Tok} {v : Value} {x C : Addr} {fv : Array Value} {cd : ClassData}
end
end L3
namespace L3
open PySem PySem.Spec PyProof.Rows L2
/-- what the written part says of such a class -/
structure OexG (K : PySem.W.Frag) (C : Addr) (newId : String) (bmB : List Value) : Prop where
  pass : ∀ self, refuseLoop self "__setattr__" bmB = pure ()
  obj : bmB.contains (.type "object") = true
  cls : ∃ nm q N bs, ∃ rs : List Addr, ∃ sn sub ab col dd k0 k1 k2 k3 k5, K.lookup C = some (excClassObj nm q C N bs (rs.map Value.ref ++ bmB) true sn sub ab col dd k0 k1 k2 k3 k5 newId)
  sa : PySem.W.findIn K (.ref C) "__setattr__" = some (some (.builtin "object.__setattr__"))
  exC : PySem.W.subIn K (.ref C) (.type "BaseException") = some true
  tyC : PySem.W.typeIn K (.ref C) = some (.type "type")
  kC : PySem.W.keepIn K (.ref C) = true
def OexP (K : PySem.W.Frag) (C : Addr) : Prop := ∃ newId bmB, OexG K C newId bmB
theorem OexG.cd {K : PySem.W.Frag} {C : Addr} {newId : String} {bmB : List Value} (T : OexG K C newId bmB) : ∃ cd, PySem.W.clsIn K C = some cd ∧ (∀ self, refuseLoop self "__setattr__" cd.mro = pure ()) ∧ cd.mro.contains (.type "object") = true ∧ cd.mro.isEmpty = false ∧ cd.hasDict = true := by
  obtain ⟨nm, q, N, bs, rs, sn, sub, ab, col, dd, k0, k1, k2, k3, k5, hC⟩ := T.cls
  refine ⟨{ name := nm, bases := bs, mro := .ref C :: (rs.map Value.ref ++ bmB), ns := N, qualname := q, hasDict := true, slotNames := sn, subclasses := sub, abstract := ab, collection := col, hasDel := false }, by unfold PySem.W.clsIn; rw [hC] <;> rfl, fun self => ?_, ?_, rfl, rfl⟩
  · show refuseLoop self "__setattr__" (Value.ref C :: (rs.map Value.ref ++ bmB)) = pure ()
    exact refs_pass self (C :: rs) (T.pass self)
  · show (Value.ref C :: (rs.map Value.ref ++ bmB)).contains (.type "object") = true
    exact (refs_contains (C :: rs) bmB "object").trans T.obj
section
variable {X : Cx} {pins : List (Addr × Obj)} {σ : L2.St} {H : Hp} {s : Shared} {a C dx : Addr} {f : Str} {y : V} {u : Value} {fs : List (Str × V)} {Q : Unit → Shared → Prop} {E : Value → Shared → Prop} {A : Around}
/-- self.f = e -/
def tOstG (K : PySem.W.Frag) (f : Str) (to te : TE) : TS := fun D σ H => te σ H fun y H1 => to σ H1 fun x H2 => ∃ a C : Addr, x = .ref a ∧ OexP K C ∧ PySem.W.findIn K (.ref C) f = some none ∧
  ((H2 a = some (exo a C none) ∧ ∀ dx, H2 dx = none → dx ≠ a → D.nx σ (upd (upd H2 dx (exd dx [(f, y)])) a (exo a C (some dx)))) ∨
    ∃ (dx : Addr) (fs : List (Str × V)), H2 a = some (exo a C (some dx)) ∧ H2 dx = some (exd dx fs) ∧ fs.length ≤ 900 ∧ D.nx σ (upd H2 dx (exd dx ((f, y) :: fs))))
end
end L3

/-! raise C(..) -/
namespace L3
open PySem PySem.Spec PyProof.Rows L2
/-- how C(..) ends: C's own __init__ keeping sp -/
def mkQ (C : Addr) (sp : Sp) (H1 : Hp) (vs : List V) (Q : XK) : Prop := ∀ a, H1 a = none → sp (.ref a :: vs) (upd H1 a (exo a C none))
  (fun v H2 => v = .non ∧ ∃ (d : Addr) (fs : List (Str × V)), H2 a = some (exo a C (some d)) ∧ H2 d = some (exd d fs) ∧ H1 d = none ∧ Q (.ref C) (some d) (upd (del H2 a) d (.xd fs))) E0
def tMkG (C : Addr) (sp : Sp) (ta : TA) : L2.St → Hp → XK → Prop := fun σ H Q => ta σ H fun vs H1 => vs.length ≤ 1000 ∧ mkQ C sp H1 vs Q
/-- what the program's top says of such a class -/
structure ExcK (K : PySem.W.Frag) (C fI : Addr) : Prop where
  T : ∃ B newId initId bmB, ExcBaseFacts B newId initId bmB ∧ OexG K C newId bmB
  iC : PySem.W.findIn K (.ref C) "__init__" = some (some (.ref fI))
  tI : PySem.W.typeIn K (.ref fI) = some (.type "function")
section
variable {X : Cx} {pins : List (Addr × Obj)} {σ : L2.St} {H1 : Hp} {s : Shared} {C fI : Addr} {k : Nat} {fd : FuncData} {ps : List Str} {sp : Sp} {Q : XK} {us : List Value} {vs : List V}
variable {x : Str} {e : Expr} {es : List Expr} {ta : TA} {p pos : Pos}
end

/-! ### the two forms of __init__ -/
def sp1 (K : PySem.W.Frag) (C : Addr) (w fld : Str) : Sp := fun vs H Q _ => ∃ a y, vs = [.ref a, y] ∧ H a = some (exo a C none) ∧
  ∀ dx, H dx = none → dx ≠ a → Q .non (upd (upd (upd H dx (exd dx [("word", .str w)])) a (exo a C (some dx))) dx (exd dx [(fld, y), ("word", .str w)]))
def sp0 (K : PySem.W.Frag) (C : Addr) (w : Str) : Sp := fun vs H Q _ => ∃ a, vs = [.ref a] ∧ H a = some (exo a C none) ∧
  ∀ dx, H dx = none → dx ≠ a → Q .non (upd (upd H dx (exd dx [("word", .str w)])) a (exo a C (some dx)))
section
variable {P : Program} {w0 : World} {K : PySem.W.Frag} {mg : Str → Option Value} {base : Heap}
end
/-! ### as they may be raised -/
structure ClX (P : Program) (w0 : World) (K : PySem.W.Frag) (mg : Str → Option Value) (base : Heap) (x : Str) (C : Addr) (fld : Option Str) : Prop where
  ex : ∃ (fI : Addr) (fd : FuncData) (ps : List Str), ExcK K C fI ∧ FnOk P w0 K mg base CX0 1 fI fd ps (match fld with | some f => sp1 K C x f | none => sp0 K C x) ∧ Binds K fd ps []
  mg : mg x = some (.ref C)
/-- raise x(e), the def's own way out being E -/
def tRz1 (E : XK) (K : PySem.W.Frag) (C : Addr) (w fld : Str) (te : TE) : TS := fun _ σ H => tMkG C (sp1 K C w fld) (tCons te tNil) σ H fun cls d H' => E cls d H'
def tRz0 (E : XK) (K : PySem.W.Frag) (C : Addr) (w : Str) : TS := fun _ σ H => tMkG C (sp0 K C w) tNil σ H fun cls d H' => E cls d H'
section
variable {X : Cx} {E : XK} {x fld : Str} {C : Addr} {e : Expr} {te : TE} {p pos rpos : Pos} {j : Nat}
/-! ### typed -/
variable {Γ : Ct} {M : SH} {D : EndT} {K : PySem.W.Frag}
end
end L3

/-! try: .. except (A, B, C) as e: .. where what is raised is always met -/
namespace L3
open PySem PySem.Spec PyProof.Rows L2
/-- what the clause wishes -/
def wAs3 (K : PySem.W.Frag) (c1 c2 c3 : Value) (i : Nat) (ts : Addr → Value → Option Addr → TS) (D : Ends) : WX := fun cls d σ H =>
  PySem.W.exmAny K cls [c1, c2, c3] = some true ∧ ∀ a, H a = none → ts a cls d { nx := fun σ' H' => D.nx (σ'.set i none) H', rt := D.rt, bk := fun σ' H' => D.bk (σ'.set i none) H', ct := fun σ' H' => D.ct (σ'.set i none) H' } (σ.set i (some (.ref a))) H
section
variable {X : Cx} {x1 x2 x3 n : Str} {c1 c2 c3 : Value} {i k : Nat} {body suite : List Stmt} {b₀ : Stmt} {n1 n2 n3 tpos pos pos' : Pos} {tb : WX → TS} {ts : Addr → Value → Option Addr → TS}
end
end L3

/-! defs asked of the exception that is handled -/
namespace L3
open PySem PySem.Spec PyProof.Rows L2
/-- the exception at a, its dict at dd, fields by their representations -/
def XcP (a dd : Addr) (fs : List (Str × Rep)) (S : Hp) (v : V) : Prop := v = .ref a ∧ ∃ vs : List (Str × V), S dd = some (.xd vs) ∧ vs.map (·.1) = fs.map (·.1) ∧ All2 S (fs.map (·.2)) (vs.map (·.2))
def iXc (a dd : Addr) (fs : List (Str × Rep)) : Rep := ⟨XcP a dd fs, fun e ⟨h1, vs, h2, h3, h4⟩ => ⟨h1, vs, e _ _ h2, h3, All2.mono e h4⟩⟩
/-- what the class D must say, so that isinstance asks its instances rightly -/
structure XisC (K : PySem.W.Frag) (D : Addr) : Prop where
  hc : (PySem.W.clsIn K D).isSome = true
  hg : PySem.W.findIn K (.ref D) "__getattribute__" = some (some (.builtin "BaseException.__getattribute__"))
  hk : PySem.W.findIn K (.ref D) "__getattr__" = some none
  hs : PySem.W.subIn K (.ref D) (.type "BaseException") = some true
  hd : PySem.W.hasDictIn K D = true
  ha : PySem.W.findIn K (.ref D) "__class__" = some (some (.builtin "object.__class__"))
  hm : PySem.W.mroIn K D (.type "object") = some true
structure XisK (K : PySem.W.Frag) : Prop where
  hn : PySem.W.specialIn K (.builtin "object.__class__") "__get__" = some (some (.builtin "getset_descriptor.__get__"))
  ht : PySem.W.takesIn K (.builtin "object.__class__") = some true
def rIsH (K : PySem.W.Frag) (D a dd : Addr) : List V → Hp → VK → Prop := fun xs H Q => ∃ (c : V) (cv : Value) (b : Bool) (fs : List (Str × V)), xs = [.ref a, c] ∧ ClsV c cv ∧ PySem.W.kitOne K (.ref D) cv = some b ∧ H dd = some (.xd fs) ∧ Q (.bl b) H
def rIsHT (K : PySem.W.Frag) (D a dd : Addr) : List V → Hp → VK → Prop := fun xs H Q => ∃ (tp : Addr) (cs : List V) (us : List Value) (b : Bool) (fs : List (Str × V)), xs = [.ref a, .ref tp] ∧ H tp = some (.tup cs) ∧ Paired ClsV cs us ∧ PySem.W.kitAny K (.ref D) us = some b ∧ H dd = some (.xd fs) ∧ Q (.bl b) H
section
variable {X : Cx} {D a dd : Addr} {oe : Obj}
/-- e.f -/
def tXfH (K : PySem.W.Frag) (D a dd : Addr) (f : Str) (te : TE) : TE := fun σ H Q => te σ H fun x H1 => x = .ref a ∧ PySem.W.findIn K (.ref D) f = some none ∧ ∃ (fs : List (Str × V)) (v : V), H1 dd = some (.xd fs) ∧ fs.lookup f = some v ∧ Q v H1
end
end L3

/-! a lambda without parameters, called by a def that it is handed to, or deeper -/
namespace L3
open PySem PySem.Spec PyProof.Rows L2 LamX
def lamCxN (X : Cx) (A : Around) (outer : List Env) (s : Shared) (H : Hp) (E : XK) (scope : Scope) (f c' : Addr) : Cx :=
  { lamCx X A outer s H E scope f c' with xe := fun e s' => wpAny (model X.prog X.w) (A.deeper (lamEnv X scope s.heap.objs.size f c')) (leaving (lamEnv X scope s.heap.objs.size f c') e) (fun _ s'' => L2N.CX X.prog X.w outer H s E e s'') (fun e' s'' => L2N.CX X.prog X.w outer H s E e' s'') s' }
/-- x(), x a name for the lambda at f, in any def's frame entered at (s', H') since (s, H) from the frames outer -/
def Act (P : Program) (w : World) (K : PySem.W.Frag) (mg : Str → Option Value) (base : Heap) (k : Nat) (outer : List Env) (s : Shared) (H : Hp) (f c' : Addr) (q : Str) (tl : XK → Hp → VK → Prop) : Prop :=
  ∀ (CXg : CXT) (Ng : List Str) (qg : Str) (sg : Scope) (g : Addr) (cdg : Value) (A' : Around) (outer' : List Env) (s' : Shared) (H' : Hp) (Eg : XK) (pn : List (Addr × Obj)) (xe : Value → Shared → Prop) (W : WX) (a : Str) (i : Nat) (p1 p2 : Pos),
    Un (frs outer) [] H H' s.heap s'.heap → (∀ b ∈ frs outer', b ∈ frs outer ∨ s.heap.objs.size ≤ b) → L2N.Takes ((cxOf CXg P w K mg base Ng qg sg g cdg A' outer' s' H' Eg).tr pn xe) W →
    Room (k + 1) (A'.deeper (envOfC qg sg s'.heap.objs.size g cdg)) → Ng[i]? = some a → Vis sg a → (a == ("__debug__" : Str)) = false → (a == ("__classdict__" : Str)) = false →
    PE ((cxOf CXg P w K mg base Ng qg sg g cdg A' outer' s' H' Eg).tr pn xe) (.Call (.Name a p1) [] [] p2) (fun σZ HZ Q => σZ[i]? = some (some (.ref f)) ∧ HZ c' = some (CodeO c' q) ∧ tl (fun cls d H' => W cls d σZ H') HZ Q)
section
variable {X : Cx} {pins : List (Addr × Obj)} {σ : L2.St} {H : Hp} {s : Shared}
end
end L3

/-! defs that are handed the handled exception; defs that are handed a lambda -/
namespace L3
open PySem PySem.Spec PyProof.Rows L2 LamX
/-- a def asked of the handled exception p, an instance of D with the dict dd: ts p's place, D, dd -/
structure FnE (P : Program) (w : World) (K : PySem.W.Frag) (mg : Str → Option Value) (base : Heap) (k : Nat) (f : Addr) (fd : FuncData) (ps : List Str) (ts : Addr → Addr → Addr → TSp) : Prop where
  len : ∀ a D dd Rs M k X, ts a D dd Rs M k X → Rs.length = ps.length
  run : ∀ (A : Around) (outer : List Env) (s : Shared) (H : Hp) (args : Args) (us : List Value) (vs : List V) (Q : VK) (p : Addr × Obj) (D dd : Addr), L2H.RoomH k A → L2H.Hot1 A p → L2H.PinOk outer H s p → L2N.Zn (.ref D) (some dd) p.2 → (∃ vs, p.2.data = .fields vs) →
    Env0 P w K mg base A outer s H → BindsTo s fd args (ps.zip us) → Vals vs us → spT (ts p.1 D dd) vs H Q E0 → codeAny (model P w) A (.call (.ref f) args) (CR CX0 outer P w H s Q E0) s
structure ClE (P : Program) (w : World) (K : PySem.W.Frag) (mg : Str → Option Value) (base : Heap) (k : Nat) (x : Str) (ts : Addr → Addr → Addr → TSp) : Prop where
  ex : ∃ (f : Addr) (fd : FuncData) (ps : List Str), FnE P w K mg base k f fd ps ts ∧ mg x = some (.ref f) ∧ PySem.W.keepIn K (.ref f) = true ∧ Binds K fd ps []
section
variable {X : Cx} {k j : Nat} {x : Str} {ts : Addr → Addr → Addr → TSp} {p pos : Pos} {e : Expr} {es : List Expr} {t : TA} {a D dd : Addr} {oe : Obj}
end
end L3

/-! defs that are handed a lambda -/
namespace L3
open PySem PySem.Spec PyProof.Rows L2 LamX
abbrev GTT := (XK → Hp → VK → Prop) → Hp → VK → Prop
structure FnL (P : Program) (w : World) (K : PySem.W.Frag) (mg : Str → Option Value) (base : Heap) (k : Nat) (g : Addr) (TT : GTT) : Prop where
  run : ∀ (A : Around) (outer : List Env) (s : Shared) (H : Hp) (f c' : Addr) (q : Str) (tl : XK → Hp → VK → Prop) (kl : Nat) (outer0 : List Env) (s0 : Shared) (H0 : Hp) (Q : VK), Act P w K mg base kl outer0 s0 H0 f c' q tl →
    Un (frs outer0) [] H0 H s0.heap s.heap → (∀ b ∈ frs outer, b ∈ frs outer0 ∨ s0.heap.objs.size ≤ b) → s0.heap.objs.size ≤ s.heap.objs.size → Room (kl + k) A → Env0 P w K mg base A outer s H → H c' = some (CodeO c' q) → TT tl H Q →
    codeAny (model P w) A (.call (.ref g) ⟨[.ref f], []⟩) (CR CX0 outer P w H s Q E0) s
section
variable {P : Program} {w : World} {K : PySem.W.Frag} {mg : Str → Option Value} {base : Heap}
end
end L3

/-! typed: what the law's own defs ask of the handled exception -/
namespace L3
open PySem PySem.Spec PyProof.Rows L2 LamX
section
variable {E : XK} {K : PySem.W.Frag} {Γ : Ct} {M : SH} {k : KR} {X : KX} {R R1 R2 : Rep} {te ta tb : TE} {tr : TA} {n : Nat} {D a dd C : Addr} {fs : List (Str × Rep)}
end
end L3

/-! the law's own try: what was told, or the word and the field of what was raised -/
namespace L3
open PySem PySem.Spec PyProof.Rows L2 LamX
def trS : Scope := { kind := .function, names := [("_law_ask", .local), ("_law_told", .local), ("_law_word_here", .local), ("_law_field_here", .local), ("_law_e", .local), ("DarkError", .globalImplicit), ("Missing", .globalImplicit), ("Nothing", .globalImplicit), ("_law_word", .globalImplicit), ("_law_field", .globalImplicit)], isGenerator := false, isCoroutine := false }
abbrev trN : List Str := ["_law_ask", "_law_told", "_law_word_here", "_law_field_here", "_law_e"]
/-- what is raised, as it is told -/
def trE (K : PySem.W.Frag) (D1 D2 D3 : Addr) (tsW tsF : Addr → Addr → Addr → TSp) (Q : VK) : XK := fun cls d H1 => PySem.W.exmAny K cls [.ref D1, .ref D2, .ref D3] = some true ∧ ∀ a, H1 a = none → ∃ D dd, cls = .ref D ∧ d = some dd ∧
  spT (tsW a D dd) [.ref a] H1 (fun w H2 => spT (tsF a D dd) [.ref a] H2 (fun fv H3 => 3 ≤ sizeLine ∧ ∀ p, H3 p = none → Q (.ref p) (upd H3 p (.tup [.non, w, fv]))) E0) E0
def trQ (Q : VK) : VK := fun v H2 => 3 ≤ sizeLine ∧ ∀ p, H2 p = none → Q (.ref p) (upd H2 p (.tup [v, .str "", .non]))
def TTr (K : PySem.W.Frag) (D1 D2 D3 : Addr) (tsW tsF : Addr → Addr → Addr → TSp) : GTT := fun tl H Q => 3 ≤ sizeLine ∧ ∀ p0, H p0 = none → ∀ E' Q', (∀ cls d H1, trE K D1 D2 D3 tsW tsF Q cls d H1 → E' cls d H1) → (∀ v H2, trQ Q v H2 → Q' v H2) → tl E' (upd H p0 (.tup [.non, .str "", .non])) Q'
section
variable {P : Program} {w : World} {K : PySem.W.Frag} {mg : Str → Option Value} {base : Heap} {st : Stmt} {g D1 D2 D3 : Addr} {fd : FuncData} {k kw kf : Nat} {tsW tsF : Addr → Addr → Addr → TSp}
end
end L3

namespace L3
open PySem PySem.Spec PyProof.Rows L2 LamX
/-! the word and the field alone -/
def rfS : Scope := { kind := .function, names := [("_law_ask", .local), ("_law_tried", .globalImplicit)], isGenerator := false, isCoroutine := false }
def TRf (K : PySem.W.Frag) (TT : GTT) : GTT := fun tl H Q => TT tl H fun v H' => ∃ i, V.int 1 = .int i ∧ rSlA K v (some i) none H' Q
section
variable {P : Program} {w : World} {K : PySem.W.Frag} {mg : Str → Option Value} {base : Heap} {st : Stmt} {g gt : Addr} {fd : FuncData} {k kt : Nat} {TT : GTT}
theorem FnL.mono {j : Nat} (F : FnL P w K mg base k g TT) (h : k ≤ j) : FnL P w K mg base j g TT :=
  ⟨fun A outer s H f c' q tl kl outer0 s0 H0 Q act un hfs hsz hr e0 hc hT => F.run A outer s H f c' q tl kl outer0 s0 H0 Q act un hfs hsz (hr.mono (by omega)) e0 hc hT⟩
end
end L3

/-! a lambda's making, the heap behind it told in full -/
namespace L3
open PySem PySem.Spec PyProof.Rows L2 LamX
/-- the table at P as it stands, its code objects by the name q -/
def TabP (H : Hp) (P : Addr) (q : Str) (ps : Array Value) : Prop := H P = some (.tbl ps) ∧ TriplesOk ps.toList ∧ ∀ (pos : Pos) (cv : Value), codeAmong pos ps.toList = some cv → ∃ c, cv = .ref c ∧ H c = some (CodeO c q)
/-- behind it: all as it was, or one code object more, told by the table -/
def LamH (P : Addr) (q : Str) (ps : Array Value) (H H1 : Hp) (c' : Addr) : Prop :=
  (H1 = H ∧ H c' = some (CodeO c' q)) ∨ ∃ ps' : Array Value, H1 = upd (upd H P (.tbl ps')) c' (CodeO c' q) ∧ H c' = none ∧ TriplesOk ps'.toList ∧ ∀ (pos : Pos) (cv : Value), codeAmong pos ps'.toList = some cv → cv = .ref c' ∨ codeAmong pos ps.toList = some cv
section
variable {X : Cx} {pins : List (Addr × Obj)} {σ : L2.St} {H : Hp} {s : Shared}
end
/-- x(lambda: body): the table in the heap, told before and behind -/
def tLamP (P : Addr) (q : Str) (TT : GTT) (t : XK → TE) : TE := fun σ H Q => ∃ ps, TabP H P q ps ∧ ∀ H1 c', LamH P q ps H H1 c' → TT (fun E H' Q' => t E σ H' Q') H1 Q
end L3

/-! typed: _law_tried(lambda: ..) -/
namespace L3
open PySem PySem.Spec PyProof.Rows L2 LamX
def TblP (q : Str) (S : Hp) (o : HO) : Prop := ∃ ps : Array Value, o = .tbl ps ∧ TriplesOk ps.toList ∧ ∀ (pos : Pos) (cv : Value), codeAmong pos ps.toList = some cv → ∃ c, cv = .ref c ∧ S c = some (CodeO c q)
/-- a table of code objects, all of one name -/
def mTbl (q : Str) : MRep := ⟨TblP q, fun e ⟨ps, h1, h2, h3⟩ => ⟨ps, h1, h2, fun pos cv h => let ⟨c, e1, e2⟩ := h3 pos cv h; ⟨c, e1, e _ _ e2⟩⟩, fun ⟨ps, h1, _⟩ ys z => by rw [h1] at z; cases z⟩
section
variable {E : XK} {K : PySem.W.Frag} {Γ : Ct} {A B : SH} {k : KR} {X : KX} {P D1 D2 D3 : Addr} {q : Str} {t : XK → TE} {tsW tsF : Addr → Addr → Addr → TSp} {Kn : XR → Prop} {wd : XR → Str} {fl : XR → Rep}
end
end L3

/-! the program's refusals as a table: class, word, field -/
namespace L3
open PySem PySem.Spec PyProof.Rows L2 LamX
structure XCl where
  C : Addr
  w : Str
  fld : Option Str
def atX (XT : List XCl) (D : Addr) : Option XCl := XT.find? fun c => c.C == D
def wdX (XT : List XCl) (x : XR) : Str := ((atX XT x.cls).map (·.w)).getD ⟨#[]⟩
def flX (XT : List XCl) (x : XR) : Rep := match (atX XT x.cls).bind (·.fld) with
  | some f => (x.fs.lookup f).getD iNon
  | none => iNon
structure XTab (K : PySem.W.Frag) (XT : List XCl) (D1 D2 D3 : Addr) : Prop where
  U : XisK K
  is : ∀ c ∈ XT, XisC K c.C
  no : ∀ c ∈ XT, ∀ f, c.fld = some f → PySem.W.findIn K (.ref c.C) f = some none
  kit : ∀ c ∈ XT, ∀ d ∈ XT, PySem.W.kitOne K (.ref c.C) (.ref d.C) = some (c.C == d.C)
  exm : ∀ c ∈ XT, PySem.W.exmAny K (.ref c.C) [.ref D1, .ref D2, .ref D3] = some true
  nd : (XT.map (·.C)).Nodup
/-- one of the table's, with its fields -/
def KnX (XT : List XCl) (x : XR) : Prop := ∃ c, atX XT x.cls = some c ∧ x.fs.map (·.1) = (match c.fld with | none => ["word"] | some f => [f, "word"])
theorem atX_mem {XT : List XCl} {D : Addr} {c : XCl} (h : atX XT D = some c) : c ∈ XT ∧ c.C = D := ⟨List.mem_of_find?_eq_some h, by have := List.find?_some h; simpa using this⟩
theorem KnX.fst {XT : List XCl} {x : XR} (h : KnX XT x) : ∃ c ∈ XT, c.C = x.cls := by
  obtain ⟨c, h1, _⟩ := h
  exact ⟨c, (atX_mem h1).1, (atX_mem h1).2⟩
def tsWordX (XT : List XCl) : Addr → Addr → Addr → TSp := fun a D dd Rs M k X => ∃ fs, Rs = [iXc a dd fs] ∧ M = [] ∧ KnX XT ⟨D, fs⟩ ∧ k (aStr (wdX XT ⟨D, fs⟩)) []
def tsFieldX (XT : List XCl) : Addr → Addr → Addr → TSp := fun a D dd Rs M k X => ∃ fs, Rs = [iXc a dd fs] ∧ M = [] ∧ KnX XT ⟨D, fs⟩ ∧ k (flX XT ⟨D, fs⟩) []
section
variable {E : XK} {K : PySem.W.Frag} {Γ : Ct} {A B : SH} {k : KR} {X : KX} {P D1 D2 D3 : Addr} {q : Str} {t : XK → TE} {XT : List XCl}
end
end L3

/-! promises with refusals; a law with lambdas: its start, its end -/
namespace L3
open PySem PySem.Spec PyProof.Rows L2 LamX
def pureX (sp : List Rep → (Rep → Prop) → (XR → Prop) → Prop) : TSp := fun Rs M k X => M = [] ∧ sp Rs (fun R => k R []) fun x => X x []
def methX (C : Addr) (sp : SH → FR → List Rep → (Rep → Prop) → (XR → Prop) → Prop) : TSp := fun Rs M k X => ∃ R Rs' fs, Rs = R :: Rs' ∧ HasO M R C fs ∧ sp M fs Rs' (fun R => k R M) fun x => X x M
section
variable {E : XK} {K : PySem.W.Frag} {Γ : Ct} {M : SH} {k : KR} {X : KX} {te ta : TE} {tr : TA} {C : Addr}
end
section
variable {P : Program} {w : World} {K : PySem.W.Frag} {mg : Str → Option Value} {base : Heap}
/-- a def handed a lambda, by its name -/
structure ClL (P : Program) (w : World) (K : PySem.W.Frag) (mg : Str → Option Value) (base : Heap) (k : Nat) (x : Str) (TT : GTT) : Prop where
  ex : ∃ g : Addr, FnL P w K mg base k g TT ∧ mg x = some (.ref g) ∧ PySem.W.keepIn K (.ref g) = true
/-- a def whose code object is c -/
structure FunC (K : PySem.W.Frag) (x qual : Str) (st : Stmt) (f : Addr) (fd : FuncData) (c : Addr) : Prop where
  ex : ∃ (oc : Value) (od : Option Addr) (kV doc pm : Value) (an : Option Addr) (ct : Value) (osl : Array (Option Value)),
    fd = PySem.W.fnOf x qual (defArgs st) (defBody st) (defScope st) .none kV doc pm an (.ref c) ct ∧ K.lookup f = some ⟨oc, od, .func fd, osl⟩ ∧ PySem.W.codeIn K (.ref c) qual = true
/-- the law's own call, its table of code objects first in the heap -/
theorem law_inT {ts : TSp} {H : Hp} {a Pt : Addr} {q : Str} {ns : List Int} (hP : H Pt = some (.tbl #[])) (hS : SqL K H a (ns.map V.int)) (h : ts [iScr K ns] [(Pt, mTbl q)] (fun R _ => R = iBl true) X0) : spT ts [.ref a] H (fun v _ => v = .bl true) (fun _ _ _ => False) := by
  have hne : a ≠ Pt ∨ ∃ (o : Obj) (its : Array Value) (n : Nat), K.lookup a = some o ∧ o.cls = .type "list" ∧ o.dict = none ∧ o.data = .seq its n ∧ its.size ≤ sizeLine ∧ Vals (ns.map V.int) its.toList := by
    rcases hS with (z | ⟨o, z⟩) | z
    · exact .inl fun e => by rw [e, hP] at z; cases z
    · exact .inl fun e => by rw [e, hP] at z; cases z
    · exact .inr z
  have sm : Same (fun b => if b = Pt then none else H b) H := fun b o q => by
    by_cases hb : b = Pt
    · have z := (if_pos hb).symm.trans q
      cases z
    · exact (if_neg hb).symm.trans q
  refine ⟨fun b => if b = Pt then none else H b, [iScr K ns], [(Pt, mTbl q)], _, _, h, sm, ⟨fun b Q hq => ?_, by simp⟩, ⟨⟨a, rfl, ?_⟩, True.intro⟩, fun v S2 H2 R M2 e st p => by subst e; exact p, fun _ _ _ _ _ _ z => z.elim⟩
  · cases List.mem_singleton.mp hq
    exact ⟨if_pos rfl, _, hP, #[], rfl, True.intro, fun pos cv z => by cases z⟩
  · rcases hne with ne | z
    · rcases hS with (z | ⟨o, z⟩) | z
      · exact .inl (.inl ((if_neg ne).trans z))
      · exact .inl (.inr ⟨o, (if_neg ne).trans z⟩)
      · exact .inr z
    · exact .inr z
end
/-! ### what the program's top says of the refusals' classes, by looks -/
def xisB (K : PySem.W.Frag) (D : Addr) : Bool :=
  (PySem.W.clsIn K D).isSome && decide (PySem.W.findIn K (.ref D) "__getattribute__" = some (some (.builtin "BaseException.__getattribute__"))) && decide (PySem.W.findIn K (.ref D) "__getattr__" = some none) &&
  decide (PySem.W.subIn K (.ref D) (.type "BaseException") = some true) && PySem.W.hasDictIn K D && decide (PySem.W.findIn K (.ref D) "__class__" = some (some (.builtin "object.__class__"))) && decide (PySem.W.mroIn K D (.type "object") = some true)
def xtabB (K : PySem.W.Frag) (XT : List XCl) (D1 D2 D3 : Addr) : Bool :=
  decide (PySem.W.specialIn K (.builtin "object.__class__") "__get__" = some (some (.builtin "getset_descriptor.__get__"))) && decide (PySem.W.takesIn K (.builtin "object.__class__") = some true) &&
  (XT.all fun c => xisB K c.C) && (XT.all fun c => match c.fld with | none => true | some f => decide (PySem.W.findIn K (.ref c.C) f = some none)) &&
  (XT.all fun c => XT.all fun d => decide (PySem.W.kitOne K (.ref c.C) (.ref d.C) = some (c.C == d.C))) && (XT.all fun c => decide (PySem.W.exmAny K (.ref c.C) [.ref D1, .ref D2, .ref D3] = some true)) && decide ((XT.map (·.C)).Nodup)
def exkB (K : PySem.W.Frag) (C fI : Addr) (rs : List Addr) (bmB : List Value) (newId : String) (fld : Option Str) : Bool :=
  (match K.lookup C with
    | some ⟨.type "type", _, .cls cd, sl⟩ => (match sl.toList with
      | [_, _, _, _, some (.builtin n), _] => decide (n = newId)
      | _ => false) && decide (cd.mro = .ref C :: (rs.map Value.ref ++ bmB)) && !cd.hasDel && cd.hasDict
    | _ => false) &&
  decide (PySem.W.findIn K (.ref C) "__setattr__" = some (some (.builtin "object.__setattr__"))) && decide (PySem.W.subIn K (.ref C) (.type "BaseException") = some true) && decide (PySem.W.typeIn K (.ref C) = some (.type "type")) && PySem.W.keepIn K (.ref C) &&
  decide (PySem.W.findIn K (.ref C) "__init__" = some (some (.ref fI))) && decide (PySem.W.typeIn K (.ref fI) = some (.type "function")) && decide (PySem.W.findIn K (.ref C) "word" = some none) &&
  (match fld with | none => true | some f => decide (PySem.W.findIn K (.ref C) f = some none))
/-! ### one class of the table at hand -/
section
variable {XT : List XCl} {K : PySem.W.Frag} {D1 D2 D3 C : Addr} {x f : Str} {R : Rep}
end
section
variable {E : XK} {K : PySem.W.Frag} {Γ : Ct} {M : SH} {k : KR} {X : KX} {Pt D1 D2 D3 : Addr} {q : Str} {t : XK → TE} {XT : List XCl}
end
/-- the looks at the law's code object -/
theorem codeTab_of {K : PySem.W.Frag} {h : Heap} {c Pt : Addr} (X : K.In h) (e : PySem.W.codeHdIn K c Pt = true) : PySem.W.CodeHd h c Pt ∧ ∃ (cl : Value) (dd : Option Addr) (vs : Array Value) (sl : Array (Option Value)), K.lookup c = some ⟨cl, dd, .fields vs, sl⟩ ∧ vs[11]? = some (.ref Pt) := by
  refine ⟨PySem.W.codeHd_of_K X e, ?_⟩
  unfold PySem.W.codeHdIn at e
  split at e
  · rename_i dd vs sl hk
    simp only [Bool.and_eq_true] at e
    obtain ⟨⟨⟨⟨⟨e1, _⟩, _⟩, _⟩, _⟩, _⟩ := e
    split at e1
    · rename_i P' h11
      have hP : P' = Pt := beq_iff_eq.mp e1
      subst hP
      exact ⟨_, dd, vs, sl, hk, h11⟩
    · cases e1
  · cases e
theorem tab_none {K : PySem.W.Frag} {h : Heap} {Pt : Addr} (X : K.In h) (kt : PySem.W.noTabs K = true) (hP : h.get? Pt = some { cls := .none, data := .fields #[] }) : K.lookup Pt = none := by
  cases e : K.lookup Pt with
  | none => rfl
  | some o =>
    have e1 := X _ _ e
    rw [hP] at e1
    cases e1
    have h2 := List.all_eq_true.mp kt _ (PySem.W.mem_of_lookupK e)
    exact absurd (show false = true from h2) Bool.false_ne_true
abbrev lamQ : Str := ("law" : Str) ++ ".<locals>." ++ "<lambda>"
theorem funC_mk {K : PySem.W.Frag} {x qual : Str} {st : Stmt} {f c : Addr} {oc : Value} {od an : Option Addr} {osl : Array (Option Value)} {kV doc pm ct : Value} (l : K.lookup f = some ⟨oc, od, .func (PySem.W.fnOf x qual (defArgs st) (defBody st) (defScope st) .none kV doc pm an (.ref c) ct), osl⟩)
    (h : PySem.W.codeIn K (.ref c) qual = true) : FunC K x qual st f (PySem.W.fnOf x qual (defArgs st) (defBody st) (defScope st) .none kV doc pm an (.ref c) ct) c := ⟨⟨oc, od, kV, doc, pm, an, ct, osl, rfl, l, h⟩⟩
section
variable {P : Program} {w0 : World} {K : PySem.W.Frag} {mg : Str → Option Value} {base : Heap}
end
section
variable {XT : List XCl} {K : PySem.W.Frag} {D1 D2 D3 : Addr} {x : XR}
end
end L3

/-! more rules: enumerate over a list or a tuple -/
namespace L3
open PySem PySem.Spec L2 RZ PyProof.Rows
def iEnumS (K : PySem.W.Frag) (ta : TA) : TI := fun σ H R => ta σ H fun vs H1 => (∃ a xs, vs = [.ref a] ∧ SqL K H1 a xs ∧ R (Ite K a) H1) ∨ ∃ a xs, vs = [.ref a] ∧ SqT K H1 a xs ∧ R (IteT K a) H1
section
variable {E : XK} {K : PySem.W.Frag} {Γ : Ct} {M : SH} {tl : TE}
theorem c_intB {b : Bool} : Olp (fun xs H Q => (∃ i, xs = [.int i] ∧ Q (.int i) H) ∨ ∃ k, xs = [.bl k] ∧ Q (.int (if k then 1 else 0)) H) [iBl b] M (iInt (if b then 1 else 0)) := ol_val fun xs S H e _ h => by
  obtain ⟨v, rfl, h1⟩ := all2_1 h
  cases h1
  exact ⟨_, rfl, fun Q q => .inr ⟨b, rfl, q⟩⟩
end
section
variable {E : XK} {K : PySem.W.Frag} {Γ : Ct} {M : SH} {k : KR} {X : KX} {Pt D1 D2 D3 C : Addr} {q x f : Str} {t : XK → TE} {XT : List XCl} {R R0 : Rep}
end
end L3

/-! __init__ that may raise; l.insert -/
namespace L3
open PySem PySem.Spec PyProof.Rows L2
def initX (C : Addr) (sp : List Rep → (FR → Prop) → (XR → Prop) → Prop) : TSp := fun Rs M k X => ∃ a Rs', Rs = iRef a :: Rs' ∧ M = [(a, mObj C [])] ∧ ∃ (Z : FR → Prop) (ZX : XR → Prop), sp Rs' Z ZX ∧ (∀ fs, Z fs → k iNon [(a, mObj C fs)]) ∧ ∀ x, ZX x → ∀ M', X x M'
section
variable {E : XK} {K : PySem.W.Frag} {Γ : Ct} {M : SH} {k : KR} {X : KX} {R : Rep} {ta : TE} {tr tk : TA} {C : Addr}
/-! ### l.insert(i, y) -/
def rInsert : V → List V → Hp → VK → Prop := fun x vs H Q => ∃ (l : Addr) (xs : List V) (i : Int) (y : V), x = .ref l ∧ vs = [.int i, y] ∧ H l = some (.lst xs) ∧ xs.length < sizeLine ∧ 0 ≤ i ∧ i < 2 ^ 63 ∧ Q .non (upd H l (.lst (xs.take i.toNat ++ [y] ++ xs.drop i.toNat)))
theorem mt_insertM {Y : Cx} : MtM Y "list.insert" rInsert := mt_insert
theorem All2.takeN {S : Hp} : ∀ {rs : List Rep} {xs : List V} (n : Nat), All2 S rs xs → All2 S (rs.take n) (xs.take n)
  | [], [], n, _ => by simp only [List.take_nil]; exact True.intro
  | r :: rs, x :: xs, 0, _ => True.intro
  | r :: rs, x :: xs, n + 1, h => ⟨h.1, All2.takeN n h.2⟩
  | [], _ :: _, _, h => h.elim
  | _ :: _, [], _, h => h.elim
theorem All2.dropN {S : Hp} : ∀ {rs : List Rep} {xs : List V} (n : Nat), All2 S rs xs → All2 S (rs.drop n) (xs.drop n)
  | [], [], n, _ => by simp only [List.drop_nil]; exact True.intro
  | r :: rs, x :: xs, 0, h => h
  | r :: rs, x :: xs, n + 1, h => All2.dropN n h.2
  | [], _ :: _, _, h => h.elim
  | _ :: _, [], _, h => h.elim
theorem om_insert {A B : SH} {a : Addr} {rs : List Rep} {n : Nat} (hn : n ≤ 1000000) (hl : rs.length < 1000000) (q : k iNon (A ++ (a, mLst (rs.take n ++ [R] ++ rs.drop n)) :: B)) : Om rInsert (iRef a) [iInt (n : Nat), R] (A ++ (a, mLst rs) :: B) k := fun x xs S H Q e m h1 h2 o => by
  cases h1
  obtain ⟨v1, v2, rfl, p1, p2⟩ := all2_2 h2
  cases p1
  obtain ⟨_, ob, ho, ys, rfl, py⟩ := m.at_ a (mLst rs) (by simp)
  refine ⟨a, ys, n, v2, rfl, rfl, ho, by rw [py.len]; exact sz_lt (by omega), by omega, by omega, o .non S _ iNon _ q (Stp.wrM e m ⟨_, rfl, ?_⟩) rfl⟩
  rw [Int.toNat_natCast]
  exact ((All2.takeN n py).app (All2.one p2)).app (All2.dropN n py)
theorem ev_insert (h : Ev E ta Γ M (fun R1 M1 => ∃ (a : Addr) (i : Nat) (rs : List Rep), R1 = iRef a ∧ M1[i]? = some (a, mLst rs) ∧ Ea E tr Γ M1 (fun Rs M2 => ∃ (n : Nat) (R : Rep) (j : Nat) (rs : List Rep), Rs = [iInt (n : Nat), R] ∧ M2[j]? = some (a, mLst rs) ∧ n ≤ 1000000 ∧ rs.length < 1000000 ∧ k iNon (M2.set j (a, mLst (rs.take n ++ [R] ++ rs.drop n)))) X) X) : Ev E (tBM K "list" rInsert ta tr) Γ M k X :=
  ev_bm fun σ S H Q I o ox => h σ S H Q I (fun v S2 H2 R M2 ⟨a, i, rs, e, hm, q⟩ st p => by
    subst e
    refine o v S2 H2 (iRef a) M2 ⟨ty_mLst (at_mem hm), fun σ S H Q I o ox => q σ S H Q I (fun vs S2 H2 Rs M2 ⟨n, R, j, rs, e, hj, hn, hl, q⟩ st p => ?_) ox⟩ st p
    subst e
    refine o vs S2 H2 [iInt (n : Nat), R] M2 ?_ st p
    obtain ⟨e1, e2⟩ := at_split (P' := mLst (rs.take n ++ [R] ++ rs.drop n)) hj
    rw [e2] at q
    rw [e1]
    exact om_insert hn hl q) ox
end
section
variable {P : Program} {w : World} {K : PySem.W.Frag} {mg : Str → Option Value} {base : Heap}
end
end L3
namespace L3
open PySem PySem.Spec PyProof.Rows L2
/-- a def that changes nothing that is there, and may raise -/
def roX (sp : SH → List Rep → (Rep → Prop) → (XR → Prop) → Prop) : TSp := fun Rs M k X => sp M Rs (fun R => k R M) fun x => X x M
end L3
namespace L3
open PySem PySem.Spec PyProof.Rows L2
end L3

/-! a told list in a told tuple, asked and changed afterwards -/
namespace L3
open PySem PySem.Spec PyProof.Rows L2
theorem MOk.dropAt {S H : Hp} {M : SH} (i : Nat) (m : MOk S H M) : MOk S H (M.eraseIdx i) :=
  ⟨fun a P h => m.at_ a P (List.mem_of_mem_eraseIdx h), by
    exact m.nd.sublist ((List.eraseIdx_sublist ..).map _)⟩
theorem Stp.dropAt {S H : Hp} {M : SH} (i : Nat) (e : Same S H) (m : MOk S H M) : Stp S H S H M (M.eraseIdx i) where
  s := fun _ _ h => h
  e := e
  new := fun a h h2 => absurd h h2
  fr := fun a o _ h => h
  m := m.dropAt i
  dn := fun a h => .inl (((List.eraseIdx_sublist ..).map _).subset h)
theorem turn_drop {Γ : Ct} {M : SH} (i : Nat) : TurnC Γ M Γ (M.eraseIdx i) := fun S H σ I => ⟨S, Stp.dropAt i I.ex I.m, I.step (Stp.dropAt i I.ex I.m)⟩
/-- as it looks where the list at a stands for good -/
def Vw (a : Addr) (rs : List Rep) (R R' : Rep) : Prop := ∀ (S S' : Hp) (ys : List V) (v : V), Same S S' → S' a = some (.lst ys) → All2 S' rs ys → R.p S v → R'.p S' v
def VwS (a : Addr) (rs : List Rep) (Rs Rs' : List Rep) : Prop := ∀ (S S' : Hp) (ys : List V) (vs : List V), Same S S' → S' a = some (.lst ys) → All2 S' rs ys → All2 S Rs vs → All2 S' Rs' vs
section
variable {E : XK} {K : PySem.W.Frag} {Γ : Ct} {M : SH} {k : KR} {X : KX} {tr : TA}
end
end L3
namespace L3
open PySem PySem.Spec PyProof.Rows L2
/-- over a range, with a test -/
theorem ep_lcRg {E : XK} {Γ : Ct} {M : SH} {ta te : TE} {tt : TT} {vs : List Nat} {m j : Nat} {p : Nat → Bool} {e' : Nat → Rep} (hi : Ep E ta Γ M (iInt (m : Nat))) (hn : m ≤ 1000000) (hj : j ∈ vs)
    (ht : ∀ i, i < m → Etp E tt ((wipeC Γ vs).set j (some (iInt (i : Nat)))) M (p i)) (he : ∀ i, i < m → p i = true → Ep E te ((wipeC Γ vs).set j (some (iInt (i : Nat)))) M (e' i)) :
    Ep E (tLc (iRng1 (tCons ta tNil)) (gName j) tt te vs) Γ M (iLst (((List.range m).filter p).map e')) :=
  ep_lc (fun z => by rw [z] at hj; cases hj) (tip_rng1 hi hn) hn p e' fun i r hi hr => by
    subst hr
    exact tg_name ⟨rfl, ht i hi, fun z => he i hi z⟩ (.inr hj)
end L3

/-! sums of a list; a tuple as often; a dict made by a comprehension over a list of texts -/
namespace L3
open PySem PySem.Spec PyProof.Rows L2
section
variable {K : PySem.W.Frag} {M : SH}
theorem c_sumL {ns : List Int} : Olp (rSum K) [iLst (ns.map iInt)] M (iInt ns.sum) := ol_val fun xs S H e _ h => by
  obtain ⟨v, rfl, a, vs, rfl, q1, q2⟩ := all2_1 h
  rw [All2.flat (r := iInt) (g := V.int) (fun _ _ h => h) q2] at q1
  exact ⟨_, rfl, fun Q q => ⟨a, ns, rfl, SqL.of (e _ _ q1), q⟩⟩
theorem all2_flatten {S : Hp} {rs : List Rep} {vs : List V} (h : All2 S rs vs) : ∀ n : Nat, All2 S (List.replicate n rs).flatten (List.replicate n vs).flatten
  | 0 => by
    rw [List.replicate_zero, List.replicate_zero]
    exact True.intro
  | n + 1 => by
    rw [List.replicate_succ, List.replicate_succ, List.flatten_cons, List.flatten_cons]
    exact h.app (all2_flatten h n)
theorem o_repT {rs : List Rep} {i : Int} (n : Nat) (e : i = n) (h0 : rs ≠ []) (h1 : rs.length ≤ 1000) (h2 : 2 ≤ n) (h3 : n ≤ 1000) : O2p (rRepT K) (aTup K rs) (iInt i) M (aTup K (List.replicate n rs).flatten) := fun k q x y S H Q e1 m p1 p2 o => by
  subst e
  obtain ⟨a, xs, rfl, q1, q2⟩ := p1
  cases p2
  have hx : xs ≠ [] := fun z => by
    rw [z] at q2
    cases rs with
    | nil => exact h0 rfl
    | cons _ _ => exact q2.elim
  refine ⟨a, n, xs, rfl, rfl, Same.sqt e1 q1, hx, by omega, by omega, by rw [q2.len]; exact h1, fun p hp => ?_⟩
  have st := Stp.newS (o := .tup (List.replicate ((n : Int)).toNat xs).flatten) e1 m hp
  refine o _ _ _ _ _ q st ⟨p, _, rfl, .inl (.inl upd_same), ?_⟩
  rw [Int.toNat_natCast]
  exact (all2_flatten q2 n).mono st.s
end
section
variable {E : XK} {K : PySem.W.Frag} {Γ : Ct} {M : SH} {k : KR} {X : KX} {tl tk tv : TE} {vs : List Nat}
theorem look_none {α : Type} {f : α → Str} {g : α → Rep} {z : Str} : ∀ {l : List α}, z ∉ l.map f → (l.map fun x => (f x, g x)).lookup z = none
  | [], _ => rfl
  | a :: l, h => by
    rw [List.map_cons, List.lookup_cons, show (z == f a) = false from beq_eq_false_iff_ne.mpr fun e => h (by rw [e]; exact List.mem_cons_self ..)]
    exact look_none fun w => h (List.mem_cons_of_mem _ w)
/-- {key: value for x in xs}, the keys unlike -/
theorem ev_dcK {α : Type} {l : List α} {e : α → Rep} {f : α → Str} {g : α → Rep} {j : Nat} (hi : Ep E tl Γ M (iLst (l.map e))) (hn : l.length < 1000000) (hj : j ∈ vs) (hd : (l.map f).Nodup)
    (hk : ∀ x ∈ l, Ep E tk ((wipeC Γ vs).set j (some (e x))) M (aStr (f x))) (hv : ∀ x ∈ l, Ep E tv ((wipeC Γ vs).set j (some (e x))) M (g x))
    (q : ∀ a, k (iRef a) (M ++ [(a, mDK (l.map fun x => (f x, g x)))])) : Ev E (tDcA (.dK []) (iList K tl) (gName j) tYes tk tv vs) Γ M k X :=
  ev_dcG (fun L : FR => mDK L) [] (fun S => ⟨[], rfl, ⟨rfl, True.intro⟩⟩) (fun z => by rw [z] at hj; cases hj) (tip_list hi _ _ ⟨fun i L M2 => L = ((l.take i).map fun x => (f x, g x)) ∧ M2 = M, ⟨rfl, rfl⟩, fun i r L M2 hlt hr he => by
    obtain ⟨rfl, rfl⟩ := he
    have hlt' : i < l.length := by simpa using hlt
    replace hr : (l.map e)[i]? = some r := hr
    rw [List.getElem?_map, List.getElem?_eq_getElem hlt'] at hr
    cases hr
    have hm := List.getElem_mem hlt'
    refine tg_name (et_yes ?_) (.inr hj)
    refine (if_pos rfl).mpr (hk _ hm _ _ (hv _ hm _ _ ⟨_, putOk_D (by simp; omega), ?_, rfl⟩))
    have hnn : f l[i] ∉ (l.take i).map f := fun z => by
      have nd := hd
      rw [← List.take_append_drop i l, List.map_append, List.nodup_append] at nd
      refine nd.2.2 _ z _ ?_ rfl
      rw [List.drop_eq_getElem_cons hlt']
      exact List.mem_cons_self ..
    rw [putD_new (look_none hnn), List.take_succ, List.getElem?_eq_getElem hlt', List.map_append]
    rfl, fun L M2 he a => by
    obtain ⟨rfl, rfl⟩ := he
    rw [List.length_map, List.take_length]
    exact q a⟩)
/-- over a dict's keys, with a test -/
theorem ep_lcKeysF {α : Type} {l : List α} {f : α → Str} {g e' : α → Rep} {td te : TE} {tt : TT} {j : Nat} {p : α → Bool} (hi : Ep E td Γ M (iDF (l.map fun x => (f x, g x)))) (hn : l.length ≤ 1000000) (hj : j ∈ vs)
    (ht : ∀ x ∈ l, Etp E tt ((wipeC Γ vs).set j (some (aStr (f x)))) M (p x)) (he : ∀ x ∈ l, p x = true → Ep E te ((wipeC Γ vs).set j (some (aStr (f x)))) M (e' x)) : Ep E (tLc (iKeys td) (gName j) tt te vs) Γ M (iLst ((l.filter p).map e')) := fun k X q =>
  ev_lc (fun z => by rw [z] at hj; cases hj) (tip_keysF hi _ _ ⟨by simpa using hn, fun i acc M2 => acc = ((l.take i).filter p).map e' ∧ M2 = M, ⟨rfl, rfl⟩, fun i r acc M2 hlt hr _ ⟨e1, e2⟩ => by
    subst e1; subst e2
    obtain ⟨q, hq, rfl⟩ := hr
    have hlt' : i < l.length := by simpa using hlt
    rw [List.getElem?_map, List.getElem?_eq_getElem hlt'] at hq
    cases hq
    have hm := List.getElem_mem hlt'
    have et : l.take (i + 1) = l.take i ++ [l[i]] := by rw [List.take_succ, List.getElem?_eq_getElem hlt']; rfl
    refine tg_name (ht _ hm _ _ ?_) (.inr hj)
    cases hp : p l[i] with
    | true =>
      refine (if_pos rfl).mpr (he _ hm hp _ _ ⟨?_, rfl⟩)
      rw [et, List.filter_append, List.map_append, List.filter_cons, if_pos hp]
      rfl
    | false =>
      refine (if_neg Bool.false_ne_true).mpr ⟨?_, rfl⟩
      rw [et, List.filter_append, List.filter_cons, if_neg (by rw [hp]; exact Bool.false_ne_true)]
      simp, fun acc M2 _ ⟨e1, e2⟩ => by
    subst e1; subst e2
    rw [List.length_map, List.take_length]
    exact q⟩)
theorem look_nd {α : Type} {f : α → Str} {g : α → Rep} : ∀ {l : List α} {x : α}, (l.map f).Nodup → x ∈ l → (l.map fun x => (f x, g x)).lookup (f x) = some (g x)
  | a :: l, x, nd, hx => by
    rw [List.map_cons, List.nodup_cons] at nd
    rw [List.map_cons, List.lookup_cons]
    rcases List.mem_cons.mp hx with e | h
    · subst e
      rw [beq_self_eq_true]
    · rw [show (f x == f a) = false from beq_eq_false_iff_ne.mpr fun e => nd.1 (by rw [← e]; exact List.mem_map.mpr ⟨x, h, rfl⟩)]
      exact look_nd nd.2 h
end
/-- a def that is not come to -/
def tsNo : TSp := fun _ _ _ _ => False
end L3

/-! a list unpacked -/
namespace L3
open PySem PySem.Spec PyProof.Rows L2
section
variable {K : PySem.W.Frag} {Γ : Ct} {M : SH} {vs : List Nat} {kc : KC}
theorem tg_unl {gs : TGs} {Rs : List Rep} {n : Nat} (hn : Rs.length = n) (h : Tgs gs Rs Γ M vs kc) : Tg (gUnl K n gs) (iLst Rs) Γ M vs kc := fun v σ S H Q I p o => by
  obtain ⟨a, xs, rfl, q1, q2⟩ := p
  exact ⟨a, xs, rfl, SqL.of (I.ex _ _ q1), by rw [q2.len]; exact hn, h xs σ S H Q I q2 o⟩
end
end L3

/-! a def called with a list that is changed later; what comes out does not lean on it -/
namespace L3
open PySem PySem.Spec PyProof.Rows L2
def OffR (R : Rep) : Prop := ∀ (S : Hp) (a : Addr) (xs : List V) (v : V), S a = some (.lst xs) → R.p S v → R.p (dropH S a) v
def OffM (M : SH) : Prop := ∀ q ∈ M, ∀ (S : Hp) (a : Addr) (xs : List V) (o : HO), S a = some (.lst xs) → q.2.p S o → q.2.p (dropH S a) o
section
variable {E : XK} {K : PySem.W.Frag} {Γ : Ct} {M : SH} {k : KR} {X : KX} {tr : TA} {t : TSp}
end
end L3

/-! a lambda as a value: made, kept in a list, called later; with a default or without -/
namespace L3
open PySem PySem.Spec PyProof.Rows L2 LamX
/-- what a lambda's scope may have: free names, and own ones that the maker does not know -/
structure LamD (N : List Str) (sc lsc : Scope) : Prop where
  kind : lsc.kind = .function
  co : lsc.isCoroutine = false
  gen : lsc.isGenerator = false
  cel : ∀ y ∈ lsc.names, y.2 ≠ .cell
  loc : ∀ y ∈ lsc.names, y.2 = .local → y.1 ∉ N
  free : ∀ y ∈ lsc.names, y.2 = .free → sc.names.lookup y.1 = some .cell ∨ sc.names.lookup y.1 = some .free
def lamDB (N : List Str) (sc lsc : Scope) : Bool :=
  decide (lsc.kind = .function) && (!lsc.isCoroutine && (!lsc.isGenerator && lsc.names.all fun y => !decide (y.2 = .cell) && ((!decide (y.2 = .local) || !decide (y.1 ∈ N)) && (!decide (y.2 = .free) || (decide (sc.names.lookup y.1 = some .cell) || decide (sc.names.lookup y.1 = some .free))))))
section
variable {X : Cx} {pins : List (Addr × Obj)} {σ : L2.St} {H HZ : Hp} {s s1 : Shared}
theorem LamD.has {lsc : Scope} (L : LamD X.N X.env.scope lsc) (ok : X.Ok) : ∀ y ∈ lsc.names, y.2 = .free → ∃ c, X.env.cells.lookup y.1 = some c := fun y hy e =>
  ok.has _ ((L.free y hy e).elim Or.inl Or.inr)
/-- a lambda's object -/
abbrev lamOb (qual : Str) (params : Arguments) (body : Expr) (lsc : Scope) (cl : List (Str × Addr)) (dV doc pm : Value) (c' : Addr) (ctv : Value) : Obj := PySem.W.kdv_obj "<lambda>" (qual ++ "<lambda>") params (.expr body) lsc cl dV doc pm c' ctv
/-- its default, if it has one: a whole number -/
def DefIn (h : Heap) (dV : Value) : Option Int → Prop
  | none => dV = .none
  | some n => ∃ (T : Addr) (t : Tok), dV = .ref T ∧ h.get? T = some (PySem.W.kdv_tup [.int n t])
def DefAt (H : Hp) (dV : Value) : Option Int → Prop
  | none => dV = .none
  | some n => ∃ (T : Addr) (t : Tok), dV = .ref T ∧ H T = some (.frz (PySem.W.kdv_tup [.int n t]) (.ext fun _ => True))
theorem DefAt.to {dV : Value} {H' : Hp} (f : ∀ b o x, H b = some (.frz o x) → H' b = some (.frz o x)) : ∀ {d : Option Int}, DefAt H dV d → DefAt H' dV d
  | none, e => e
  | some _, ⟨T, t, e, q⟩ => ⟨T, t, e, f _ _ _ q⟩
/-- called without arguments it binds its default, if it has one -/
def BindL (params : Arguments) (body : Expr) (lsc : Scope) (d : Option Int) : Prop := ∀ (s : Shared) (q : Str) (cl : List (Str × Addr)) (dV doc pm cdv ctv : Value), DefIn s.heap dV d →
  ∃ bs : List (Str × Value), BindsTo s (PySem.W.kdv_fn "<lambda>" q params (.expr body) lsc cl dV doc pm cdv ctv) ⟨[], []⟩ bs ∧ ∀ y ∈ bs, lsc.names.lookup y.1 = some .local
/-- behind the making: all as it was, the code object told by the table, or one more -/
def LamG (P : Addr) (q : Str) (ps : Array Value) (H H1 : Hp) (c' : Addr) : Prop :=
  (H1 = H ∧ ∃ pos : Pos, codeAmong pos ps.toList = some (.ref c')) ∨ ∃ ps' : Array Value, H1 = upd (upd H P (.tbl ps')) c' (CodeO c' q) ∧ H c' = none ∧ TriplesOk ps'.toList ∧ ∀ (pos : Pos) (cv : Value), codeAmong pos ps'.toList = some cv → cv = .ref c' ∨ codeAmong pos ps.toList = some cv
end
/-- the default's tuple is laid, if there is a default -/
def DefH (H HT : Hp) (dV : Value) : Option Int → Prop
  | none => HT = H ∧ dV = .none
  | some n => ∃ (T : Addr) (t : Tok), H T = none ∧ dV = .ref T ∧ HT = upd H T (.frz (PySem.W.kdv_tup [.int n t]) (.ext fun _ => True))
/-- lambda: the value, the heap behind -/
def tMkL (P : Addr) (q : Str) (ob : Value → Value → Value → Addr → Value → Obj) (d : Option Int) : TE := fun _ H Q => ∃ ps, TabP H P q ps ∧ ∀ HT dV, DefH H HT dV d → ∀ (H2 : Hp) (c' f : Addr) (doc pm ctv : Value), LamG P q ps HT H2 c' → H2 f = none →
  Q (.ref f) (upd H2 f (.frz (ob dV doc pm c' ctv) (.ext fun _ => True)))
abbrev obL (X : Cx) (params : Arguments) (body : Expr) (lsc : Scope) : Value → Value → Value → Addr → Value → Obj := lamOb X.env.qual params body lsc (cloFrom X.env.cells lsc.names [])
section
variable {X : Cx} {c P : Addr} {params : Arguments} {body : Expr} {lsc : Scope} {lpos : Pos}
end
end L3

/-! a comprehension whose element calls lambdas of the def around it -/
namespace L3
open PySem PySem.Spec PyProof.Rows L2 LamX
/-- an element's reading, where the def's own context is known, too -/
structure EltA (X Y : Cx) (vs : List Nat) (elt : Expr) (te : TE) : Prop where
  run : ∀ (pX pY : List (Addr × Obj)) (s : Shared) (σ : L2.St) (H : Hp) (Q : VK), Inv Y pY σ H s → (∀ (p' : List (Addr × Obj)) (H' : Hp) (s' : Shared), Inv Y p' σ H' s' → Inv X pX (wipe σ vs) H' s') → te σ H Q → wpAny (model Y.prog Y.w) Y.A (eval elt Y.env) (EP Y pY σ Q) Y.xe s
section
variable {X : Cx}
end
end L3

/-! lambdas in lists, typed -/
namespace L3
open PySem PySem.Spec PyProof.Rows L2 LamX
/-- a lambda of the def: how it is written, its default, what its body reads -/
structure LamK where
  params : Arguments
  body : Expr
  lsc : Scope
  d : Option Int
  t : XK → TE
structure LamKOk (X : Cx) (kl : Nat) (l : LamK) : Prop where
  sc : LamD X.N X.env.scope l.lsc
  bd : BindL l.params l.body l.lsc l.d
  rd : ∀ (A : Around) (outer : List Env) (s : Shared) (H : Hp) (E : XK) (f c' : Addr), Room kl (A.deeper (lamEnv X l.lsc s.heap.objs.size f c')) → PE (lamCxN X A outer s H E l.lsc f c') l.body (l.t E)
abbrev obK (X : Cx) (l : LamK) : Value → Value → Value → Addr → Value → Obj := obL X l.params l.body l.lsc
/-- a told lambda -/
def iLam (q : Str) (ob : Value → Value → Value → Addr → Value → Obj) (d : Option Int) : Rep :=
  ⟨fun S v => ∃ (f c' : Addr) (dV doc pm ctv : Value), v = .ref f ∧ S f = some (.frz (ob dV doc pm c' ctv) (.ext fun _ => True)) ∧ DefAt S dV d ∧ S c' = some (CodeO c' q),
   fun e ⟨f, c', dV, doc, pm, ctv, h1, h2, h3, h4⟩ => ⟨f, c', dV, doc, pm, ctv, h1, e _ _ h2, h3.to (fun b o x z => e _ _ z), e _ _ h4⟩⟩
/-- x(a), a a name for one of the def's lambdas; their bodies read the def's names but those of vs -/
def tCallLs (q : Str) (lams : List (LamK × (Value → Value → Value → Addr → Value → Obj))) (i : Nat) (vs : List Nat) (TT : GTT) : TE := fun σ H Q => ∃ l ∈ lams, ∃ (f c' : Addr) (dV doc pm ctv : Value), σ[i]? = some (some (.ref f)) ∧
  H f = some (.frz (l.2 dV doc pm c' ctv) (.ext fun _ => True)) ∧ DefAt H dV l.1.d ∧ H c' = some (CodeO c' q) ∧ TT (fun E H' Q' => l.1.t E (wipe σ vs) H' Q') H Q
section
variable {X : Cx}
end
/-! typed -/
section
variable {E : XK} {K : PySem.W.Frag} {Γ : Ct} {M A B : SH} {k : KR} {X : KX} {P D1 D2 D3 : Addr} {q : Str} {ob : Value → Value → Value → Addr → Value → Obj} {d : Option Int} {tsW tsF : Addr → Addr → Addr → TSp} {Kn : XR → Prop} {wd : XR → Str} {fl : XR → Rep}
variable {XT : List XCl} {R0 : Rep}
end
structure LamsOk (Y : Cx) (kl : Nat) (ls : List LamK) : Prop where
  all : ∀ l ∈ ls, LamKOk Y kl l
/-! where a lambda stands in a def -/
def stAt (l : List Stmt) (n : Nat) : Stmt := l.getD n default
def forB : Stmt → List Stmt
  | .For _ _ b _ _ => b
  | _ => []
def ifB : Stmt → List Stmt
  | .If _ b _ _ => b
  | _ => []
def ifE : Stmt → List Stmt
  | .If _ _ b _ => b
  | _ => []
def asgE : Stmt → PySem.Expr
  | .Assign _ e _ => e
  | _ => default
def exprE : Stmt → PySem.Expr
  | .Expr e _ => e
  | _ => default
def lstAt (e : PySem.Expr) (n : Nat) : PySem.Expr := match e with
  | .List es _ => es.getD n default
  | _ => default
def argAt (e : PySem.Expr) (n : Nat) : PySem.Expr := match e with
  | .Call _ as _ _ => as.getD n default
  | _ => default
def lamP : PySem.Expr → Arguments
  | .Lambda p _ _ _ => p
  | _ => default
def lamB : PySem.Expr → PySem.Expr
  | .Lambda _ b _ _ => b
  | _ => default
def lamS : PySem.Expr → Scope
  | .Lambda _ _ s _ => s
  | _ => default
end L3

/-! a raising method that makes something; several told lists in what is told, asked and changed afterwards -/
namespace L3
open PySem PySem.Spec PyProof.Rows L2
section
variable {E : XK} {K : PySem.W.Frag} {Γ : Ct} {M : SH} {k : KR} {X : KX} {te ta : TE} {tr : TA} {C : Addr}
end
abbrev DL := List (Addr × List Rep)
/-- the lists of D stand in S -/
def InD (D : DL) (S : Hp) : Prop := ∀ p ∈ D, ∃ ys, S p.1 = some (.lst ys) ∧ All2 S p.2 ys
/-- as it looks where the lists of D stand for good -/
def Vd (D : DL) (R R' : Rep) : Prop := ∀ (S S' : Hp) (v : V), Same S S' → InD D S' → R.p S v → R'.p S' v
def VdS (D : DL) (Rs Rs' : List Rep) : Prop := ∀ (S S' : Hp) (vs : List V), Same S S' → InD D S' → All2 S Rs vs → All2 S' Rs' vs
theorem vd_ref {D : DL} {a : Addr} {rs : List Rep} (h : (a, rs) ∈ D) : Vd D (iRef a) (iLst rs) := fun S S' v _ h1 p => by
  cases p
  obtain ⟨ys, h2, h3⟩ := h1 _ h
  exact ⟨a, ys, rfl, h2, h3⟩
theorem vd_rfl {D : DL} {R : Rep} : Vd D R R := fun S S' v e _ p => R.m e p
theorem vd_nil {D : DL} : VdS D [] [] := fun S S' vs _ _ p => by
  cases vs with
  | nil => exact True.intro
  | cons _ _ => exact p.elim
theorem vd_cons {D : DL} {Rs Rs' : List Rep} {R R' : Rep} (h : Vd D R R') (h2 : VdS D Rs Rs') : VdS D (R :: Rs) (R' :: Rs') := fun S S' vs e h3 p => by
  cases vs with
  | nil => exact p.elim
  | cons v vs => exact ⟨h S S' v e h3 p.1, h2 S S' vs e h3 p.2⟩
theorem vd_tup {K : PySem.W.Frag} {D : DL} {Rs Rs' : List Rep} (h : VdS D Rs Rs') : Vd D (aTup K Rs) (aTup K Rs') := fun S S' v e h3 p => by
  obtain ⟨b, xs, rfl, q1, q2⟩ := p
  exact ⟨b, xs, rfl, Same.sqt e q1, h S S' xs e h3 q2⟩
theorem vd_lst {D : DL} {Rs Rs' : List Rep} (h : VdS D Rs Rs') : Vd D (iLst Rs) (iLst Rs') := fun S S' v e h3 p => by
  obtain ⟨b, xs, rfl, q1, q2⟩ := p
  exact ⟨b, xs, rfl, e _ _ q1, h S S' xs e h3 q2⟩
def frD (S H : Hp) (D : DL) : Hp := fun b => if b ∈ D.map (·.1) then H b else S b
def drD (S : Hp) (D : DL) : Hp := fun b => if b ∈ D.map (·.1) then none else S b
section
variable {E : XK} {K : PySem.W.Frag} {Γ : Ct} {M : SH} {k : KR} {X : KX} {tr : TA}
/-- a def that only reckons a truth, asked of what holds lists that are changed later -/
theorem ev_callVd {α : Type} {args : α → List Rep} {pre : α → Prop} {c : α → Bool} (h : Ea E tr Γ M (fun Rs M1 => ∃ (D : DL) (Rs' : List Rep) (x : α), (∀ p ∈ D, (p.1, mLst p.2) ∈ M1) ∧ VdS D Rs Rs' ∧ LeS Rs' (args x) ∧ pre x ∧ k (iBl (c x)) M1) X) :
    Ev E (tCall (spT (pureTs args pre fun x => iBl (c x))) [] E0 tr) Γ M k X := fun σ S H Q I o ox =>
  h σ S H _ I (fun xs S1 H1 Rs M1 ⟨D, Rs', x, hm, vw, le, hp, q⟩ st p => by
    rw [List.append_nil]
    have at0 : ∀ b, b ∈ D.map (·.1) → S1 b = none ∧ ∃ rs ys, (b, rs) ∈ D ∧ H1 b = some (.lst ys) ∧ All2 S1 rs ys := fun b hb => by
      obtain ⟨⟨b', rs⟩, hD, rfl⟩ := List.mem_map.mp hb
      obtain ⟨hS, ob, ho, ys, rfl, al⟩ := st.m.at_ b' (mLst rs) (hm (b', rs) hD)
      exact ⟨hS, rs, ys, hD, ho, al⟩
    have nin : ∀ b o, S1 b = some o → b ∉ D.map (·.1) := fun b o q z => by rw [(at0 b z).1] at q; cases q
    have sm : Same S1 (frD S1 H1 D) := fun b o q => by
      show (if b ∈ D.map (·.1) then H1 b else S1 b) = _
      rw [if_neg (nin b o q)]; exact q
    have e1 : Same (frD S1 H1 D) H1 := fun b o q => by
      by_cases hb : b ∈ D.map (·.1)
      · rw [show frD S1 H1 D b = H1 b from if_pos hb] at q; exact q
      · rw [show frD S1 H1 D b = S1 b from if_neg hb] at q; exact st.e _ _ q
    have ind : InD D (frD S1 H1 D) := fun p hp => by
      obtain ⟨hS, ob, ho, ys, rfl, al⟩ := st.m.at_ p.1 (mLst p.2) (hm p hp)
      exact ⟨ys, (show frD S1 H1 D p.1 = H1 p.1 from if_pos (List.mem_map.mpr ⟨p, hp, rfl⟩)).trans ho, al.mono sm⟩
    refine ⟨frD S1 H1 D, args x, [], fun R M2 => R = iBl (c x) ∧ M2 = [], X0, ⟨x, rfl, hp, rfl, rfl, rfl⟩, e1, ⟨fun _ _ z => (by cases z), List.nodup_nil⟩, ?_, ?_, fun _ _ _ _ _ _ z => z.elim⟩
    · exact le _ _ (vw _ _ _ sm ind p)
    · rintro v S2 H2 R M2 ⟨rfl, rfl⟩ st2 pv
      cases pv
      have f2 : ∀ b o, H1 b = some o → H2 b = some o := fun b o q => st2.fr b o (by simp [dm]) q
      have dn : ∀ {b}, b ∉ D.map (·.1) → drD S2 D b = S2 b := fun hb => if_neg hb
      have dy : ∀ {b}, b ∈ D.map (·.1) → drD S2 D b = none := fun hb => if_pos hb
      have fn_ : ∀ {b}, b ∉ D.map (·.1) → frD S1 H1 D b = S1 b := fun hb => if_neg hb
      have s2 : Same S1 (drD S2 D) := fun b o q => by
        rw [dn (nin b o q)]
        exact st2.s _ _ (sm _ _ q)
      refine (o.step st) _ (drD S2 D) H2 (iBl (c x)) M1 q ⟨s2, fun b o q => ?_, fun b h1 h2 => ?_, fun b o _ q => f2 b o q, ⟨fun b P hb => ?_, st.m.nd⟩, fun b hb => .inl hb⟩ rfl
      · by_cases hb : b ∈ D.map (·.1)
        · rw [dy hb] at q; cases q
        · rw [dn hb] at q; exact st2.e _ _ q
      · by_cases hb : b ∈ D.map (·.1)
        · rw [dy hb] at h2; exact absurd rfl h2
        · rw [dn hb] at h2
          rcases st2.new b (by rw [fn_ hb]; exact h1) h2 with z | z
          · exact .inl z
          · simp [dm] at z
      · obtain ⟨z, o2, q1, q2⟩ := st.m.at_ b P hb
        refine ⟨?_, o2, f2 _ _ q1, P.m s2 q2⟩
        by_cases hb2 : b ∈ D.map (·.1)
        · exact dy hb2
        · rw [dn hb2]
          cases hs : S2 b with
          | none => rfl
          | some u =>
            rcases st2.new b (by rw [fn_ hb2]; exact z) (by rw [hs]; exact fun c => by cases c) with w | w
            · obtain ⟨xs, e⟩ := w o2 q1
              exact absurd e (P.nt q2 xs)
            · simp [dm] at w) ox
end
/-! a list becomes stable amid an expression -/
section
variable {E : XK} {Γ Γ' : Ct} {M M' : SH} {k : KR} {X : KX} {te : TE}
end
end L3

/-! len of an object whose class has its own __len__ -/
namespace L3
open PySem PySem.Spec PyProof.Rows L2
def rLenO (C : Addr) (sp : Sp) (E : XK) : List V → Hp → VK → Prop := fun xs H Q => ∃ a dx fs, xs = [V.ref a] ∧ H a = some (.ins C dx fs) ∧ sp [V.ref a] H (fun v H' => ∃ n : Nat, v = .int n ∧ n ≤ 1000000 ∧ Q (.int n) H') E
section
variable {X : Cx} {CX : CXT} {C : Addr} {k j : Nat} {ts : TSp} {E : XK}
theorem call_lenO (c : ClM X.prog X.w X.K X.mg X.base CX k C "__len__" ts []) (hr : Room j X.A) (hk : k + 1 ≤ j) (hx : Passes CX X E) : CallR X (.builtin "len") (rLenO C (spT ts) E) := by
  intro pins s σ H xs us Q I r h
  obtain ⟨a, dx, fs, rfl, ha, hsp⟩ := h
  obtain ⟨f, fd, ps, ds, F, hm, b, d⟩ := c.ex
  obtain rfl := Vals.ref1 r
  obtain ⟨mA, J, _⟩ := ins_get I.hok ha
  obtain ⟨od, J, _⟩ := J.look
  obtain ⟨m, hF⟩ := I.fr
  have r2 : Vals [V.ref a] ([Value.ref a] ++ ds) := Vals.append (Paired.cons rfl .nil : Vals [V.ref a] [Value.ref a]) d
  have hl : ([Value.ref a] ++ ds).length = ps.length := by rw [← r2.length]; exact F.len _ _ _ _ hsp
  have hr1 : Room k X.A.in1 := Room.in1 (hr.mono hk)
  have e1 := I.env0.in1
  have hb := b s [Value.ref a] I.kIn hl
  have hrun := F.run X.A.in1 X.stack s H ⟨[Value.ref a], []⟩ ([Value.ref a] ++ ds) [V.ref a] (fun v H' => ∃ n : Nat, v = .int n ∧ n ≤ 1000000 ∧ Q (.int n) H') E hr1 e1 hb r2 hsp
  have main : wpAny (model X.prog X.w) X.A.in1 (call (.ref f) [.ref a]) (EP X pins σ (fun v H' => ∃ n : Nat, v = .int n ∧ n ≤ 1000000 ∧ Q (.int n) H')) X.xe s := by
    refine wpAny_call ?_
    refine codeAny_mono hrun fun r s' hq => ?_
    cases r with
    | error e => exact hx pins σ H s e s' I hq
    | ok fl =>
      cases fl with
      | ret w => exact I.after hq
      | next => exact False.elim hq
      | brk => exact False.elim hq
      | cont => exact False.elim hq
  refine PySem.W.len_K hF I.ok.mod.kin J hm.at_ hm.fn (wpAny_mono main (fun v s' z => ?_) fun _ _ y => y)
  obtain ⟨z, H', I', rz, n, ez, hn, q⟩ := z
  subst ez
  obtain ⟨t, rfl⟩ := (show ∃ t, v = Value.int n t from rz)
  refine ⟨⟨Int.natCast_nonneg n, ?_⟩, .int n, H', I'.tok _, ⟨_, rfl⟩, q⟩
  exact Int.lt_of_le_of_lt (Int.ofNat_le.mpr hn) (by decide +kernel)
end
theorem ol_lenO {C : Addr} {ts : TSp} {M : SH} {R : Rep} {k : KR} {fs : FR} (ho : HasO M R C fs) (q : ts [R] M (fun R' M' => ∃ n : Nat, R' = iInt n ∧ n ≤ 1000000 ∧ k (iInt n) M') X0) : Ol (rLenO C (spT ts) E0) [R] M k := fun xs S H Q e m p o => by
  obtain ⟨v, rfl, hv⟩ := all2_1 p
  obtain ⟨a, dx, vs, rfl, ha, hi⟩ := ho.get e m hv
  refine ⟨a, dx, vs, rfl, ha, S, [R], M, _, X0, q, e, m, ⟨hv, True.intro⟩, fun v S2 H2 R M2 ⟨n, eR, hn, q2⟩ st p => ?_, fun _ _ _ _ _ _ z => z.elim⟩
  subst eR; cases p
  exact ⟨n, rfl, hn, o _ S2 H2 (iInt n) M2 q2 st rfl⟩
end L3

/-! dicts whose keys are tuples: walked, made of a list of pairs -/
namespace L3
open PySem PySem.Spec PyProof.Rows L2
section
variable {E : XK} {Γ : Ct} {M : SH} {td : TE}
end
def mergeT (acc : List (List Key × V)) (ps : List (List Key × V)) : List (List Key × V) := ps.foldl (fun a p => putK a p.1 p.2) acc
abbrev PrT := Addr × Addr × List Key × V
def rDictPT (K : PySem.W.Frag) : List V → Hp → VK → Prop := fun xs H Q => ∃ (a : Addr) (L : List PrT), xs = [V.ref a] ∧ SqL K H a (L.map fun q => V.ref q.1) ∧
  (∀ q ∈ L, SqT K H q.1 [V.ref q.2.1, q.2.2.2] ∧ H q.2.1 = some (.tup (q.2.2.1.map kV))) ∧ ∀ p, H p = none → Q (.ref p) (upd H p (.dT (mergeT [] (L.map fun q => q.2.2))))
section
variable {X : Cx}
end
/-! .. typed -/
def mergeR (acc : KRs) (cs : KRs) : KRs := cs.foldl (fun a c => putT a c.1 c.2) acc
/-! a raising def called by a keyword -/
section
variable {E : XK} {K : PySem.W.Frag} {Γ : Ct} {M : SH} {k : KR} {X : KX} {tr tk : TA}
end
end L3

/-! a dict of the module, text keys, tuples of texts behind them -/
namespace L3
open PySem PySem.Spec PyProof.Rows L2
structure KdT (K : PySem.W.Frag) (w : World) (d : Addr) (l : List (Str × List Str)) : Prop where
  kd : ∃ es n, KDict K w d es n
  no : ∀ z, z ∉ l.map (·.1) → PySem.W.nsIn K d z = some none
  yes : ∀ p ∈ l, ∃ t, PySem.W.nsIn K d p.1 = some (some (.ref t)) ∧ ∀ S, (aTup K (p.2.map aStr)).p S (.ref t)
def rNinKd (K : PySem.W.Frag) (d : Addr) : L2.R2 := fun x y H Q => ∃ (z : Str) (r : Option Value), x = .str z ∧ y = .ref d ∧ PySem.W.nsIn K d z = some r ∧ Q (.bl (!r.isSome)) H
section
variable {K : PySem.W.Frag} {w : World} {M : SH} {d : Addr} {l : List (Str × List Str)}
end
end L3

/-! i, (a, b) in enumerate(zip(x, y)): zip's turn whatever became of the pair it gave out last; x, y lists or tuples -/
namespace L3
open PySem PySem.Spec PyProof.Rows L2
/-- a zip: v, f is what it keeps of the pair it gave out -/
abbrev ZipV (h : Heap) (z TI TO : Addr) (v : Value) (f : Bool) : Prop := h.get? z = some { cls := .type "zip", dict := none, data := .fields #[v, .bool f, .bool false, .ref TI, .ref TO], slots := #[] }
def VOk (v : Value) : Prop := v = .none ∨ ∃ T : Nat, v = rawInt T
/-- an iterator of a list, or of a tuple -/
def ItK (t : Bool) (h : Heap) (i l : Addr) (k : Nat) : Prop := if t then h.IsTupleIter i l k else h.IsListIter i l k
def SeK (t : Bool) (h : Heap) (l : Addr) (xs : Array Value) : Prop := if t then h.IsTuple l xs else h.IsList l xs
theorem ItK.at {t : Bool} {h h' : Heap} {i l : Addr} {k : Nat} (p : ItK t h i l k) (e : ∀ o, h.get? i = some o → h'.get? i = some o) : ItK t h' i l k := by
  cases t with
  | true => exact Heap.IsTupleIter.at p e
  | false => exact Heap.IsListIter.at p e
theorem SeK.at {t : Bool} {h h' : Heap} {l : Addr} {xs : Array Value} (p : SeK t h l xs) (e : ∀ o, h.get? l = some o → h'.get? l = some o) : SeK t h' l xs := by
  cases t with
  | true => exact Heap.IsTuple.at p e
  | false => exact Heap.IsList.at p e
theorem ItK.obj {t : Bool} {h : Heap} {i l : Addr} {k : Nat} (p : ItK t h i l k) : ∃ o, h.get? i = some o ∧ ∀ v, o.data ≠ .cell v := by
  cases t with
  | true =>
    obtain ⟨o, e, _, d⟩ : h.IsTupleIter i l k := p
    exact ⟨o, e, fun v q => by rw [d] at q; cases q⟩
  | false =>
    obtain ⟨o, e, _, d⟩ : h.IsListIter i l k := p
    exact ⟨o, e, fun v q => by rw [d] at q; cases q⟩
section
variable {prog : Program} {w : World} {A : Around} {E : Value → Shared → Prop} {s : Shared} {t t1 t2 : Bool}
/-- the cells of a zip and of the enumerate ahead of it lie apart -/
structure ZApart (z TI TO i1 i2 : Addr) : Prop where
  az : TI ≠ z ∧ TO ≠ z ∧ i1 ≠ z ∧ i2 ≠ z
  aT : TI ≠ TO ∧ i1 ≠ TO ∧ i2 ≠ TO
  aI : TI ≠ i1 ∧ TI ≠ i2 ∧ i1 ≠ i2
/-- what a zip holds at turn k -/
structure ZAt (t1 t2 : Bool) (h : Heap) (z TI TO i1 i2 l1 l2 : Addr) (k : Nat) : Prop where
  zz : ∃ v f, VOk v ∧ ZipV h z TI TO v f
  ti : IsPair h TI (.ref i1) (.ref i2)
  to : ∃ a b, IsPair h TO a b
  a1 : ItK t1 h i1 l1 k
  a2 : ItK t2 h i2 l2 k
end
theorem ZAt.at {t1 t2 : Bool} {h h' : Heap} {z TI TO i1 i2 l1 l2 : Addr} {k : Nat} (Z : ZAt t1 t2 h z TI TO i1 i2 l1 l2 k) (e : ∀ c ∈ [z, TI, TO, i1, i2], ∀ o, h.get? c = some o → h'.get? c = some o) : ZAt t1 t2 h' z TI TO i1 i2 l1 l2 k := by
  obtain ⟨⟨v, f, hv, hz⟩, ti, ⟨a, b, to⟩, a1, a2⟩ := Z
  exact ⟨⟨v, f, hv, e z (by simp) _ hz⟩, e TI (by simp) _ ti, ⟨a, b, e TO (by simp) _ to⟩, a1.at fun o q => e i1 (by simp) o q, a2.at fun o q => e i2 (by simp) o q⟩
theorem ZAt.obj {t1 t2 : Bool} {h : Heap} {z TI TO i1 i2 l1 l2 : Addr} {k : Nat} (Z : ZAt t1 t2 h z TI TO i1 i2 l1 l2 k) : ∀ c ∈ [z, TI, TO, i1, i2], ∃ o, h.get? c = some o ∧ ∀ v, o.data ≠ .cell v := by
  obtain ⟨⟨v, f, hv, hz⟩, ti, ⟨a, b, to⟩, a1, a2⟩ := Z
  intro c hc
  simp only [List.mem_cons, List.not_mem_nil, or_false] at hc
  rcases hc with rfl | rfl | rfl | rfl | rfl
  · exact ⟨_, hz, fun v q => nomatch q⟩
  · exact ⟨_, ti, fun v q => nomatch q⟩
  · exact ⟨_, to, fun v q => nomatch q⟩
  · exact a1.obj
  · exact a2.obj
/-- a list, or a tuple -/
def SqX (t : Bool) (K : PySem.W.Frag) (H : Hp) (a : Addr) (xs : List V) : Prop := if t then SqT K H a xs else SqL K H a xs
section
variable {X : Cx} {pins : List (Addr × Obj)} {s : Shared} {σ : L2.St} {H : Hp} {t : Bool} {a : Addr} {xs ys : List V}
end
/-- each pair of the two in a new pair, with its place in another new pair -/
def Iez (K : PySem.W.Frag) (t : Bool) (a b : Addr) : It :=
  ⟨fun i H => ∃ (xs ys : List V) (x y : V), SqX t K H a xs ∧ SqX t K H b ys ∧ xs[i]? = some x ∧ ys[i]? = some y,
    fun i H v H' => ∃ P T x y, v = .ref T ∧ H P = none ∧ H T = none ∧ T ≠ P ∧ H' = upd (upd H P (.tup [x, y])) T (.tup [.int (i : Nat), .ref P]) ∧ (∀ xs, SqX t K H a xs → xs[i]? = some x) ∧ ∀ ys, SqX t K H b ys → ys[i]? = some y,
    fun i H => ∃ xs ys : List V, SqX t K H a xs ∧ SqX t K H b ys ∧ (xs.length ≤ i ∨ ys.length ≤ i)⟩
def iEnumZ (K : PySem.W.Frag) (ta : TA) : TI := fun σ H R => ta σ H fun vs H1 => ∃ t a b xs ys, vs = [.ref a, .ref b] ∧ SqX t K H1 a xs ∧ SqX t K H1 b ys ∧ R (Iez K t a b) H1
end L3

/-! rows that may be lists or tuples, and enumerate(zip(row, row[1:])) -/
namespace L3
open PySem PySem.Spec PyProof.Rows L2 RZ
/-- a row: a tuple, or a list -/
def sqR (K : PySem.W.Frag) (t : Bool) (rs : List Rep) : Rep := cond t (aTup K rs) (iLst rs)
def rSlQ (K : PySem.W.Frag) : V → Option Int → Option Int → Hp → VK → Prop := fun x lo hi H Q => rSlL K x lo hi H Q ∨ rSlA K x lo hi H Q
section
variable {E : XK} {K : PySem.W.Frag} {Γ : Ct} {M : SH} {k : KR} {X : KX} {R : Rep} {te ta tb tl : TE} {vs : List Nat} {n : Nat} {t : Bool} {rs r1 r2 : List Rep}
theorem sqR_q (S : Hp) (v : V) (h : (sqR K t rs).p S v) : (aSeq K rs).p S v := by
  cases t with
  | true => exact .inr h
  | false => exact .inl h
theorem o_ixSq {i : Int} (h : atI rs i = some R) : O2p (rIx K) (sqR K t rs) (iInt i) M R := fun k q x y S H Q e m h1 h2 o => o_ixQ h k q x y S H Q e m (sqR_q _ _ h1) h2 o
end
end L3

/-! t[::-1] of a tuple -/
namespace L3
open PySem PySem.Spec PyProof.Rows L2 RZ HT
section
variable {prog : Program} {w : World} {A : Around} {E : Value → Shared → Prop} {s : Shared}
end
def tRevT (K : PySem.W.Frag) (te : TE) : TE := fun σ H Q => te σ H fun x H1 => ∃ a xs, x = .ref a ∧ SqT K H1 a xs ∧ ∀ p, H1 p = none → Q (.ref p) (upd H1 p (.tup xs.reverse))
/-! x is True -/
def rIsB (neg : Bool) : R2 := fun x y H Q => ∃ a b, x = .bl a ∧ y = .bl b ∧ Q (.bl (if neg then !decide (a = b) else decide (a = b))) H
theorem op_isNotB {X : Cx} : OpR X (compareOp .IsNot) (rIsB true) := by
  intro pins s σ H x y v u Q I rx ry h
  obtain ⟨a, b, rfl, rfl, q⟩ := h
  cases rx
  cases ry
  show wpAny _ _ ((isSame (Value.bool a) (Value.bool b)) >>= fun z => pure (Value.bool (!z))) _ _ s
  refine wpAny_bind (wpAny_isSame_plain rfl (wpAny_pure (fin_bl I q ?_)))
  cases a <;> cases b <;> rfl
theorem o_isNotB {M : SH} {a b : Bool} : O2p (rIsB true) (iBl a) (iBl b) M (iBl (!decide (a = b))) := o2_val fun x y S H e _ h1 h2 => by
  cases h1; cases h2
  exact ⟨_, rfl, fun Q q => ⟨a, b, rfl, rfl, q⟩⟩
def orL {α : Type} : List α → List α → List α
  | [], m => m
  | x :: l, _ => x :: l
end L3

/-! range(a, b) in a comprehension; repr of data where nothing is under way -/
namespace L3
open PySem PySem.Spec PyProof.Rows L2
theorem range_all (m : Nat) : (List.range m).filter (fun _ => true) = List.range m := List.filter_eq_self.mpr fun _ _ => rfl
end L3

/-! a law called where nothing is under way (the claim's caller): repr of tuples and lists is then what the data say -/
namespace L3
open PySem PySem.Spec PyProof.Rows L2 LamX
section
variable {P : Program} {w : World} {K : PySem.W.Frag} {mg : Str → Option Value} {base : Heap}
/-- the promise of a def of one argument, at calls by the claim's caller alone -/
def RunC (P : Program) (w : World) (K : PySem.W.Frag) (mg : Str → Option Value) (base : Heap) (f : Addr) (fd : FuncData) (x : Str) (sp : Sp) : Prop :=
  ∀ (s : Shared) (H : Hp) (u : Value) (v : V) (Q : VK) (E : XK), RelV v u → Env0 P w K mg base callerA [] s H → BindsTo s fd ⟨[u], []⟩ [(x, u)] → sp [v] H Q E →
    codeAny (model P w) callerA (.call (.ref f) ⟨[u], []⟩) (CR CX0 [] P w H s Q E) s
theorem runC_of {x qual y : Str} {st : Stmt} {f c : Addr} {fd : FuncData} {N : List Str} {kk : Nat} {ts : TSp} (F : FunC K x qual st f fd c) (S : FnScope N [y] (defScope st)) (room : Room (kk + 1) callerA)
    (hbody : ∀ (s : Shared) (H : Hp) (E : XK), Room kk (callerA.deeper (envOfC qual (defScope st) s.heap.objs.size f (.ref c))) →
      ∃ t, PSs (cxOf CX0 P w K mg base N qual (defScope st) f (.ref c) callerA [] s H E).nox (defBody st) t ∧ ∀ Rs M k X, ts Rs M k X → St E t (startC N Rs) M { nx := fun _ M' => k iNon M', rt := k, ex := X }) : RunC P w K mg base f fd y (spT ts) := by
  obtain ⟨oc, od, kV, doc, pm, an, ct, osl, rfl, lk, hcd⟩ := F.ex
  intro s H u v Q E rv e0 hb hsp
  have kp : ∀ b o, base.get? b = some o → s.heap.get? b = some o := fun b o e => (e0.bs b o e).1
  have KX : K.In s.heap := e0.mod.kin.keeps kp
  have free : s.heap.NoLimit := e0.mod.nolimit.keeps kp
  obtain ⟨t, h1, h2⟩ := hbody s H E (room.deeper _)
  have ht : t { nx := fun _ H' => Q .non H', rt := Q } (start N [v]) H := by
    obtain ⟨S0, Rs, M, k, X, h3, e, m, p, o, ox⟩ := hsp
    exact h2 Rs M k X h3 _ S0 H _ (nv_start e m p) ⟨fun σ2 S2 H2 Γ2 M2 q st I2 => o .non S2 H2 iNon M2 q st rfl, o, fun _ _ _ _ _ z => z.elim, fun _ _ _ _ _ z => z.elim, ox⟩
  refine codeAny_call_function room.depth (KX _ _ lk) rfl S.co S.gen rfl (PySem.W.codeRec_of KX hcd) (hb _ _ _ _ ?_)
  refine wpAny_newFunctionEnv_cells S.kind (fun ⟨n, val⟩ hy => ?_) fun env he s1 new => ?_
  · exact (S.par n (List.of_mem_zip (l₁ := [y]) (l₂ := [u]) hy).1).elim .inl fun q => .inr ⟨q, PySem.W.cellsFrom_some _ _ _ (.inl q)⟩
  subst he
  refine ⟨free.keeps new.toInCall.keep, codeAny_func ?_⟩
  have I : Inv (cxOf CX0 P w K mg base N qual (defScope st) f (.ref c) callerA [] s H E) [] (start N [v]) H s1 := inv_start S room.hd e0 rfl (.cons rv .nil) new
  refine wpAny_mono (h1.nox.run [] s1 (start N [v]) H _ I ht) (fun fl s' hs => ?_) fun e s' hs => hs
  cases fl with
  | ret u2 => obtain ⟨v2, σ2, H2, J, r2, q2⟩ := hs; exact ⟨v2, H2, J.os, J.bare, J.base, J.hok, r2, q2⟩
  | next => obtain ⟨σ2, H2, J, q2⟩ := hs; exact ⟨.non, H2, J.os, J.bare, J.base, J.hok, rfl, q2⟩
  | brk => obtain ⟨_, _, _, z⟩ := hs; exact z.elim
  | cont => obtain ⟨_, _, _, z⟩ := hs; exact z.elim
end
section
variable {P : Program} {w : World} {K : PySem.W.Frag} {mg mb : Str → Option Value} {s : Shared} {a c Pt fa : Addr} {fd : FuncData} {x : Str} {vs : List Value} {ns : List Int}
/-- the script's list -/
abbrev scrO (vs : List Value) : Obj := { cls := .type "list", data := .seq vs.toArray }
/-- the law's own table of code objects, as yet empty -/
abbrev tabO : Obj := { cls := .none, data := .fields #[] }
/-- what is tracked at the law's call: its table; the script, unless K tells of it -/
def lawH (K : PySem.W.Frag) (a Pt : Addr) (vs : List Value) (ns : List Int) : Hp := fun b =>
  if b = Pt then some (.tbl #[]) else if b = a ∧ K.lookup a = none then some (.frz (scrO vs) (.lst (ns.map V.int))) else none
theorem lawH_tab : lawH K a Pt vs ns Pt = some (.tbl #[]) := if_pos rfl
theorem lawH_off {b : Addr} (h1 : b ≠ Pt) (h2 : b ≠ a ∨ K.lookup a ≠ none) : lawH K a Pt vs ns b = none :=
  (if_neg h1).trans (if_neg fun z => h2.elim (fun q => q z.1) fun q => q z.2)
theorem lawH_scr (h1 : a ≠ Pt) (h2 : K.lookup a = none) : lawH K a Pt vs ns a = some (.frz (scrO vs) (.lst (ns.map V.int))) :=
  (if_neg h1).trans (if_pos ⟨rfl, h2⟩)
theorem law_callC (KX : K.In s.heap) (hns : s.heap.Ns mainGlobals mg) (hb : s.heap.Ns builtinsNs mb) (hbb : ∀ x : Str, x ≠ "__name__" → mb x = bootBuiltins x) (hlim : s.heap.NoLimit) (hg : s.gens = #[])
    (hT : s.heap.get? Pt = some tabO) (nT : K.lookup Pt = none) (C : PySem.W.CodeHd s.heap c Pt)
    (hbm : ∃ (bm : Addr) (ob : Obj), mg "__builtins__" = some (.ref bm) ∧ bm ≠ builtinsNs ∧ s.heap.get? bm = some ob ∧ ob.cls = .type "module" ∧ ob.dict = some builtinsNs ∧ ob.data = .plain)
    (ha : s.heap.get? a = some (scrO vs)) (hi : IntsAre vs ns) (hl : ns.length ≤ sizeLine) {ts : TSp} {q : Str}
    (F : ∀ base : Heap, K.In base → base.Ns mainGlobals mg → TabB base mg c Pt → RunC P w K mg base fa fd x (spT ts)) (hbind : BindsTo s fd ⟨[.ref a], []⟩ [(x, .ref a)])
    (hts : ts [iScr K ns] [(Pt, mTbl q)] (fun R _ => R = iBl true) X0) :
    codeAny (model P w) callerA (.call (.ref fa) ⟨[.ref a], []⟩) (fun r s' => r = .ok (.ret (.bool true)) ∧ OldK s.heap s'.heap ∧ s'.os = s.os ∧ AllBare s'.gens) s := by
  have hne : a ≠ Pt := fun e => by rw [e, hT] at ha; cases ha
  have lv : vs.length = ns.length := hi.length
  -- what is not tracked stands in the base
  have stay : ∀ {b : Addr} {o : Obj}, s.heap.get? b = some o → b ≠ Pt → (b ≠ a ∨ K.lookup a ≠ none) → (hidT s.heap (lawH K a Pt vs ns)).get? b = some o := fun e h1 h2 => hidT_get e (lawH_off h1 h2)
  have other : ∀ {b : Addr} {o : Obj}, s.heap.get? b = some o → o ≠ tabO → o ≠ scrO vs → (hidT s.heap (lawH K a Pt vs ns)).get? b = some o := fun {b o} e h1 h2 =>
    stay e (fun z => h1 (by rw [z, hT] at e; exact (Option.some.inj e).symm)) (.inl fun z => h2 (by rw [z, ha] at e; exact (Option.some.inj e).symm))
  have space : ∀ {b : Addr} {m : Str → Option Value}, s.heap.Ns b m → (hidT s.heap (lawH K a Pt vs ns)).Ns b m := fun ⟨o, es, ep, e, d, r⟩ =>
    ⟨o, es, ep, other e (fun z => by rw [z] at d; cases d) (fun z => by rw [z] at d; cases d), d, r⟩
  have kin : K.In (hidT s.heap (lawH K a Pt vs ns)) := fun b o e => stay (KX b o e) (fun z => by rw [z, nT] at e; cases e) (by
    by_cases z : b = a
    · exact .inr fun z2 => by rw [z, z2] at e; cases e
    · exact .inl z)
  have isMod : L2.Mod K mg (hidT s.heap (lawH K a Pt vs ns)) := ⟨kin, space hns, ⟨mb, space hb, hbb⟩, hlim.elim fun mc h => ⟨mc, space h.1, h.2⟩⟩
  have tab : TabB (hidT s.heap (lawH K a Pt vs ns)) mg c Pt := by
    obtain ⟨bm, ob, b1, b2, b3, b4, b5, b6⟩ := hbm
    obtain ⟨o, us, file, tf, flags, tg, inF, text, tt, e1, r1, rest⟩ := C
    obtain ⟨og, es, ep, eg, dg, _⟩ := hns
    refine ⟨⟨o, us, file, tf, flags, tg, inF, text, tt, other e1 (fun z => by rw [z] at r1; cases r1) (fun z => by rw [z] at r1; injection r1 with r1; exact absurd r1 (by decide)), r1, rest⟩,
      ⟨bm, ob, b1, b2, fun z => ?_, fun z => ?_, other b3 (fun z => by rw [z] at b6; cases b6) (fun z => by rw [z] at b6; cases b6), b4, b5, b6⟩, fun z => ?_⟩
    · rw [z, eg] at b3; cases b3; rw [dg] at b6; cases b6
    · rw [z, hT] at b3; cases b3; cases b6
    · rw [z, hT] at eg; cases eg; cases dg
  have hok : HOk P w (lawH K a Pt vs ns) s.heap := fun b u z => by
    unfold lawH at z
    split at z
    · rename_i h
      cases z
      rw [h]
      exact hT
    · split at z
      · rename_i h
        cases z
        rw [h.1]
        exact ⟨ha, by rw [List.length_map]; exact hl, vs, _, vals_ints hi, ha⟩
      · cases z
  have seq : SqL K (lawH K a Pt vs ns) a (ns.map V.int) := by
    cases hk : K.lookup a with
    | none => exact .inl (.inr ⟨_, lawH_scr hne hk⟩)
    | some o =>
      have e := KX a o hk
      rw [ha] at e
      cases e
      exact .inr ⟨_, vs.toArray, _, hk, rfl, rfl, rfl, by rw [List.size_toArray, lv]; exact hl, by simpa using vals_ints hi⟩
  have e0 : Env0 P w K mg (hidT s.heap (lawH K a Pt vs ns)) callerA [] s (lawH K a Pt vs ns) :=
    ⟨rfl, isMod, fun b o e => of_hidT e, Nat.le_of_eq (hidT_size _ _), trivial, fun b z => (nomatch (show b ∈ ([] : List Addr) from z)), hok, .of_eq hg⟩
  refine codeAny_mono (F _ kin (space hns) tab s _ (.ref a) (.ref a) _ _ rfl e0 hbind (law_inT lawH_tab seq hts)) fun r s' h => ?_
  match r, h with
  | .error e, h => exact False.elim h
  | .ok .next, h => exact False.elim h
  | .ok .brk, h => exact False.elim h
  | .ok .cont, h => exact False.elim h
  | .ok (.ret u), ⟨v, H', os, bare, un, hok', r', q'⟩ =>
    have q2 : v = .bl true := q'
    subst q2
    have r2 : u = Value.bool true := r'
    subst r2
    have kept : ∀ b o, b ≠ Pt → s.heap.get? b = some o → s'.heap.get? b = some o := fun b o hb e => by
      by_cases h : b = a ∧ K.lookup a = none
      · obtain ⟨e1, _⟩ := hok b _ (by rw [h.1]; exact lawH_scr hne h.2)
        obtain ⟨e2, _⟩ := hok' b _ (un.frzs b _ _ (by rw [h.1]; exact lawH_scr hne h.2))
        rw [e] at e1
        cases e1
        exact e2
      · exact un.keep b o e ((if_neg hb).trans (if_neg h)) (fun z => (nomatch (show b ∈ ([] : List Addr) from z))) (by simp)
    obtain ⟨more, grown⟩ := un.tbls Pt #[] lawH_tab
    have there : s'.heap.get? Pt = some { cls := .none, data := .fields (#[] ++ more) } := hok' Pt _ grown
    refine ⟨rfl, ⟨fun b o e => ?_, fun b o e => ?_⟩, os, bare⟩
    · by_cases hb : b = Pt
      · rw [hb, hT] at e
        cases e
        rw [hb]
        exact .inr (.inl ⟨(C.tab hT).isCodeTable, rfl, #[], more, rfl, by rw [there]⟩)
      · exact .inl (kept b o hb e)
    · by_cases hb : b = Pt
      · rw [hb]
        exact ⟨_, there⟩
      · exact ⟨o, kept b o hb e⟩
end
/-! ### repr -/
/-- data whose text can be told -/
structure RprOk (d : PyData) : Prop where
  ref : (∃ ds, d = .tuple ds) ∨ ∃ ds, d = .list ds
  sh : d.showable = true
  nd : d.hasDict = false
  dp : d.depth ≤ 40
  sz : d.shown.length ≤ sizeLine
def rRepr (K : PySem.W.Frag) (xs : List V) (H : Hp) (Q : VK) : Prop := ∃ v d, xs = [v] ∧ Dp K H v d ∧ RprOk d ∧ Q (.str d.shown) H
theorem cr_repr {X : Cx} (hg : X.A.guards = some []) (hu : X.A.units + 64 < cLine) : CallR X (.builtin "repr") (rRepr X.K) := by
  intro pins s σ H xs us Q I r h
  obtain ⟨v, d, rfl, hD, ok, q⟩ := h
  obtain ⟨u, rfl, rv⟩ := vals1 r
  obtain ⟨as, hr⟩ := Dp.reads I d v u hD rv
  obtain ⟨a, rfl⟩ : ∃ a, u = .ref a := by
    rcases ok.ref with ⟨ds, rfl⟩ | ⟨ds, rfl⟩ <;> cases hr <;> exact ⟨_, rfl⟩
  have := ok.dp
  exact repr_of_reads' hr ok.sh (fun z => by rw [ok.nd] at z; cases z) hg (by omega) (fun _ _ e => e) (fun h' t tk hk => ⟨.str d.shown, H, I.un (t' := tk) (Un.kept hk) (I.hok.kept hk), ⟨t, rfl⟩, q⟩) ok.sz
/-- what R stands for, as data -/
def DpM (K : PySem.W.Frag) (M : SH) (R : Rep) (d : PyData) : Prop := ∀ S H v, Same S H → MOk S H M → R.p S v → Dp K H v d
def DpsM (K : PySem.W.Frag) (M : SH) (Rs : List Rep) (ds : List PyData) : Prop := ∀ S H vs, Same S H → MOk S H M → All2 S Rs vs → DpAll K H vs ds
variable {K : PySem.W.Frag} {M : SH} {R : Rep} {Rs : List Rep} {d : PyData} {ds : List PyData}
theorem dpM_dat : DpM K M (iDat K d) d := fun _ _ _ e _ p => Dp.mono e (iDat_dp K d p)
theorem dpM_of (h : R = iDat K d) : DpM K M R d := h ▸ dpM_dat
theorem dpsM_nil : DpsM K M [] [] := fun _ _ vs _ _ p => by
  cases vs with
  | nil => exact .nil
  | cons v vs => exact p.elim
theorem dpsM_cons (h : DpM K M R d) (hs : DpsM K M Rs ds) : DpsM K M (R :: Rs) (d :: ds) := fun S H vs e m p => by
  cases vs with
  | nil => exact p.elim
  | cons v vs => exact .cons (h S H v e m p.1) (hs S H vs e m p.2)
theorem dpsM_map {α : Type} {f : α → Rep} {g : α → PyData} : ∀ {l : List α}, (∀ x ∈ l, DpM K M (f x) (g x)) → DpsM K M (l.map f) (l.map g)
  | [], _ => dpsM_nil
  | x :: _, h => dpsM_cons (h x (.head _)) (dpsM_map fun y hy => h y (.tail _ hy))
theorem dpM_tup (hs : DpsM K M Rs ds) : DpM K M (aTup K Rs) (.tuple ds) := fun S H v e m p => by
  obtain ⟨a, ys, rfl, q1, q2⟩ := p
  exact .tup (Same.sqt e q1) (hs S H ys e m q2)
theorem dpM_lst (hs : DpsM K M Rs ds) : DpM K M (iLst Rs) (.list ds) := fun S H v e m p => by
  obtain ⟨a, ys, rfl, q1, q2⟩ := p
  exact .lst (SqL.of (e _ _ q1)) (hs S H ys e m q2)
theorem dpM_ref {a : Addr} {i : Nat} (hm : M[i]? = some (a, mLst Rs)) (hs : DpsM K M Rs ds) : DpM K M (iRef a) (.list ds) := fun S H v e m p => by
  obtain ⟨_, o, h1, xs, rfl, h2⟩ := m.at_ _ _ (List.mem_of_getElem? hm)
  have p' : v = V.ref a := p
  subst p'
  exact .lst (SqL.of h1) (hs S H xs e m h2)
theorem c_repr (h : DpM K M R d) (ok : RprOk d) : Olp (rRepr K) [R] M (aStr d.shown) := fun k q xs S H Q e m p o => by
  obtain ⟨v, rfl, p1⟩ := all2_1 p
  exact ⟨v, d, rfl, h S H v e m p1, ok, o _ S H _ _ q (.refl e m) rfl⟩
/-- data that can be told, of depth n at the most and of B signs at the most -/
structure Rp (n B : Nat) (d : PyData) : Prop where
  sh : d.showable = true
  nd : d.hasDict = false
  dp : d.depth ≤ n
  sz : d.shown.length ≤ B
structure Rps (n B : Nat) (ds : List PyData) : Prop where
  sh : PyData.showableAll ds = true
  nd : PyData.hasDictAll ds = false
  dp : PyData.depthAll ds ≤ n
  sz : ((PyData.shownAll ds).map (·.length)).sum ≤ B
theorem Rp.mono {n m B C : Nat} (h : Rp n B d) (hn : n ≤ m) (hB : B ≤ C) : Rp m C d := ⟨h.sh, h.nd, Nat.le_trans h.dp hn, Nat.le_trans h.sz hB⟩
theorem rps_nil {n : Nat} : Rps n 0 [] := ⟨by simp only [PyData.showableAll], by simp only [PyData.hasDictAll], by simp only [PyData.depthAll]; omega, by simp only [PyData.shownAll, List.map_nil, List.sum_nil]; omega⟩
theorem rps_cons {n B C : Nat} (h : Rp n B d) (hs : Rps n C ds) : Rps n (B + C) (d :: ds) := by
  have h1 := h.sz; have h2 := hs.sz; have h3 := h.dp; have h4 := hs.dp
  refine ⟨by simp only [PyData.showableAll, h.sh, hs.sh, Bool.and_self], by simp only [PyData.hasDictAll, h.nd, hs.nd, Bool.or_self], by simp only [PyData.depthAll]; omega, ?_⟩
  simp only [PyData.shownAll, List.map_cons, List.sum_cons]
  omega
theorem rps_all {n B : Nat} : ∀ {xs : List PyData}, (∀ x ∈ xs, Rp n B x) → Rps n (xs.length * B) xs
  | [], _ => by rw [List.length_nil, Nat.zero_mul]; exact rps_nil
  | x :: xs, h => by
    rw [List.length_cons, Nat.succ_mul, Nat.add_comm]
    exact rps_cons (h x (.head _)) (rps_all fun y hy => h y (.tail _ hy))
theorem rp_list {n B : Nat} (h : Rps n B ds) : Rp (n + 1) (B + 2 * ds.length + 3) (.list ds) := by
  have h1 := listText_len_le (PyData.shownAll ds)
  have h2 := h.sz; have h3 := h.dp
  rw [PyData.shownAll_length] at h1
  refine ⟨by simp only [PyData.showable, h.sh], by simp only [PyData.hasDict, h.nd], by simp only [PyData.depth]; omega, ?_⟩
  rw [show (PyData.list ds).shown = listText (PyData.shownAll ds) from by simp only [PyData.shown]]
  omega
theorem rp_tup {n B : Nat} (h : Rps n B ds) : Rp (n + 1) (B + 2 * ds.length + 3) (.tuple ds) := by
  have h1 := tupleText_len_le (PyData.shownAll ds)
  have h2 := h.sz; have h3 := h.dp
  rw [PyData.shownAll_length] at h1
  refine ⟨by simp only [PyData.showable, h.sh], by simp only [PyData.hasDict, h.nd], by simp only [PyData.depth]; omega, ?_⟩
  rw [show (PyData.tuple ds).shown = tupleText (PyData.shownAll ds) from by simp only [PyData.shown]]
  omega
theorem rp_int {n : Nat} {i : Int} (h : i.natAbs < 10 ^ 12) : Rp n 13 (.int i) := by
  have e : i.natAbs.log2 < 1920 := by
    by_cases z : i.natAbs = 0
    · rw [z]; decide
    · exact (Nat.log2_lt z).mpr (Nat.lt_of_lt_of_le h (by decide +kernel))
  exact ⟨by simp only [PyData.showable, e, decide_true], by simp only [PyData.hasDict], by simp only [PyData.depth]; omega, PyData.shown_int_le h⟩
theorem rp_str {n m : Nat} {x : Str} (h : ∀ c ∈ x.cps.toList, c < 16 ^ 8) (hm : x.length ≤ m) : Rp n (10 * m + 2) (.str x) := by
  have := StrLaws.reprText_len x h
  exact ⟨by simp only [PyData.showable], by simp only [PyData.hasDict], by simp only [PyData.depth]; omega, by rw [PyData.shown_str]; omega⟩
theorem rpr_tup {n B : Nat} (h : Rps n B ds) (hn : n < 40) (hB : B + 2 * ds.length + 3 ≤ 16777216) : RprOk (.tuple ds) := by
  obtain ⟨h1, h2, h3, h4⟩ := rp_tup h
  exact ⟨.inl ⟨_, rfl⟩, h1, h2, by omega, by rw [sizeLine_eq]; omega⟩
section
variable {E : XK} {Γ : Ct} {M : SH} {k : KR} {X : KX} {tr tk : TA}
theorem st_assoc {D : EndT} {a b c : TS} (h : St E (tSeq (tSeq a b) c) Γ M D) : St E (tSeq a (tSeq b c)) Γ M D := h
theorem st_nextE {D : EndT} (q : D.nx Γ M) : St E Ends.nx Γ M D := st_next q
/-- a promise that may lay what is changed later -/
def freshK (sp : List Rep → KR → Prop) : TSp := fun Rs M k _ => M = [] ∧ sp Rs k
theorem ev_callF {sp : List Rep → KR → Prop} {Ds : List Rep} {dvs : List V} (hd : ∀ S, All2 S Ds dvs) (h : Ea E tr Γ M (fun Rs M1 => ∃ Rs', LeS (Rs ++ Ds) Rs' ∧ sp Rs' fun R M2 => k R (M2 ++ M1)) X) : Ev E (tCall (spT (freshK sp)) dvs E0 tr) Γ M k X := fun σ S H Q I o ox =>
  h σ S H _ I (fun vs S1 H1 Rs M1 ⟨Rs', le, q⟩ st p =>
    spT_in (Mf := []) (Fr := M1) (Rs := Rs') (X := X0) (k := fun R M2 => k R M2) ⟨rfl, q⟩ st.e st.m (le S1 _ (p.app (hd S1))) (o.step st) (fun _ _ _ _ _ _ z => z.elim)) ox
theorem ev_callF0 {sp : List Rep → KR → Prop} (h : Ea E tr Γ M (fun Rs M1 => ∃ Rs', LeS Rs Rs' ∧ sp Rs' fun R M2 => k R (M2 ++ M1)) X) : Ev E (tCall (spT (freshK sp)) [] E0 tr) Γ M k X :=
  ev_callF (Ds := []) (fun _ => True.intro) (by simpa only [List.append_nil] using h)
end
theorem o_ninTs {x : Str} {l : List Str} : O2p (rIn K true) (aStr x) (aTup K (l.map aStr)) M (iBl (!decide (x ∈ l))) := o2_val fun v y S H e _ h1 h2 => by
  cases h1
  obtain ⟨a, xs, rfl, q1, q2⟩ := h2
  rw [All2.flat (r := aStr) (g := V.str) (fun _ _ h => h) q2] at q1
  exact ⟨_, rfl, fun Q q => ⟨a, _, rfl, .inr (Same.sqt e q1), rfl, all_flat_str l, by rw [if_pos rfl, inV_str]; exact q⟩⟩
theorem o_ixMQ {rs : List Rep} {x : Int} {a : Addr} (i : Nat) (hm : M[i]? = some (a, mLst rs)) (h : atI rs x = some R) : O2p (rIx K) (iRef a) (iInt x) M R := fun k q x y S H Q e m h1 h2 o => .inl (o_ixM1 i hm h k q x y S H Q e m h1 h2 o)
theorem turn_trans {Γ Γ1 Γ2 : Ct} {M M1 M2 : SH} (h1 : TurnC Γ M Γ1 M1) (h2 : TurnC Γ1 M1 Γ2 M2) : TurnC Γ M Γ2 M2 := fun S H σ I => let ⟨S1, s1, I1⟩ := h1 S H σ I; let ⟨S2, s2, I2⟩ := h2 S1 H σ I1; ⟨S2, s1.trans s2, I2⟩
/-! ### over two lists at once -/
theorem ep_lcZL {E : XK} {K : PySem.W.Frag} {Γ : Ct} {M : SH} {ta tb te : TE} {vs : List Nat} {α β : Type} {l : List α} {m : List β} {e1 : α → Rep} {e2 : β → Rep} {e' : α × β → Rep} {g : TG} (hv : vs ≠ []) (h1 : Ep E ta Γ M (iLst (l.map e1))) (h2 : Ep E tb Γ M (iLst (m.map e2))) (hl : l.length ≤ 1000000)
    (h : ∀ p ∈ List.zip l m, Tg g (aTup K [e1 p.1, e2 p.2]) (wipeC Γ vs) M vs fun Γ3 M3 => M3 = M ∧ Ep E te Γ3 M (e' p)) : Ep E (tLc (RZ.iZipA K (tCons ta (tCons tb tNil))) g tYes te vs) Γ M (iLst ((List.zip l m).map e')) := by
  have nz : (List.zip l m).length = min l.length m.length := List.length_zip ..
  refine Ep.to (ep_lc (n := (List.zip l m).length) hv (tip_zipL h1 h2 (by rw [List.length_map, List.length_map, nz])) (by omega) (fun _ => true) (fun i => id (((List.zip l m).map e').getD i iNon)) fun i r hi hr => ?_) (congrArg iLst ?_)
  · obtain ⟨q1, q2, g1, g2, rfl⟩ := hr
    have i1 : i < l.length := by omega
    have i2 : i < m.length := by omega
    rw [List.getElem?_map, List.getElem?_eq_getElem i1] at g1
    rw [List.getElem?_map, List.getElem?_eq_getElem i2] at g2
    cases g1
    cases g2
    have hm : (l[i], m[i]) ∈ List.zip l m := List.mem_iff_getElem.mpr ⟨i, hi, List.getElem_zip⟩
    have e : id (((List.zip l m).map e').getD i iNon) = e' (l[i], m[i]) := by
      rw [List.getD_eq_getElem?_getD, List.getElem?_map, List.getElem?_eq_getElem hi, List.getElem_zip]
      rfl
    rw [e]
    intro x σ S H Q I p o
    exact h _ hm x σ S H Q I p fun σ2 S2 H2 Γ2 M3 ⟨e3, z⟩ st I2 w2 => o σ2 S2 H2 Γ2 M3 ⟨e3, etp_yes, fun _ => z⟩ st I2 w2
  · have := given_all ((List.zip l m).map e') id iNon
    rw [List.length_map, List.map_id] at this
    exact this
/-! ### the end -/
theorem walk_C {l : PySem.W.OpenLaw} {n : Nat} {q : Program} {loose : List Str} {XP : (Str → Option Value) → Heap → Prop} {YP : World → Heap → Prop} {d : DefRec} {K : Params → PySem.W.Frag} {y qual : Str} {ts : World → Addr → TSp}
    (hn : l.most = some n) (hn2 : n ≤ sizeLine) (hdf : d.params.defaults = []) (hrec : ((recsOf q).any fun e => e.name == d.name) = true) (hY : ∀ (w : World) (h : Heap), YP w h → (K w.params).In h)
    (F : ∀ (w : World) (mg : Str → Option Value) (fa : Addr) (h : Heap), (K w.params).In h → h.Ns mainGlobals mg → mg d.name = some (.ref fa) →
      ∃ (fd : FuncData) (c Pt : Addr), (∃ oc od sl, (K w.params).lookup fa = some ⟨oc, od, .func fd, sl⟩) ∧ fd.code = .ref c ∧ PySem.W.codeHdIn (K w.params) c Pt = true ∧ PySem.W.noTabs (K w.params) = true ∧ (∀ (s : Shared) (v : Value), BindsTo s fd ⟨[v], []⟩ [(y, v)]) ∧
        ∀ base : Heap, (K w.params).In base → base.Ns mainGlobals mg → TabB base mg c Pt → RunC l.prog w (K w.params) mg base fa fd y (spT (ts w Pt)))
    (hts : ∀ (w : World) (Pt : Addr) (ns : List Int), ns.length ≤ n → ts w Pt [iScr (K w.params) ns] [(Pt, mTbl qual)] (fun R _ => R = iBl true) X0) :
    PySem.W.WalkO q loose XP YP l.row.toRowW d [] (fun f vs => PySem.call f vs) := by
  refine Att.attach_callB hn hdf fun w s₀ s₁ mg mb fa o pm cd doc a vs ns G Y ho hd hcd hmg hobj hints hlen hbits hg => ?_
  have KX := hY w _ Y
  obtain ⟨fd, c, Pt, ⟨oc, od, sl, lk⟩, hc, kc, kt, hb, hF⟩ := F w mg fa _ KX G.T.g hmg
  obtain ⟨C, cl, dd, us, sl2, hk, h11⟩ := codeTab_of KX kc
  have hT : s₁.heap.get? Pt = some tabO := by
    obtain ⟨dL, hm, he⟩ := List.any_eq_true.mp hrec
    obtain ⟨a', o', fd', c', P', h1, h2, h3, h4, _, ⟨oc', vc, e1, _, e3, e4⟩, hP⟩ := G.T.tab dL hm
    rw [beq_iff_eq.mp he, hmg] at h1
    cases h1
    rw [KX _ _ lk] at h2
    cases h2
    cases h3
    rw [hc] at h4
    cases h4
    rw [KX _ _ hk] at e1
    cases e1
    cases e3
    rw [h11] at e4
    cases e4
    exact hP
  exact law_callC KX G.T.g G.T.b G.T.builtins G.T.nolimit hg hT (tab_none KX kt hT) C G.T.bmain hobj hints (Nat.le_trans hlen hn2) hF (hb _ _) (hts w Pt ns hlen)
end L3

/-! names -/
namespace Dk
open PySem L2 RZ L3
/-- words of a law's own that no drawn name is -/
def odds : List Str := ["strange", "stranger", "extra", "odd", "spare", "tall", "other"]
def NmOk (z : Str) : Prop := (1 ≤ z.length ∧ z ∉ odds) ∧ z.length ≤ 8 ∧ ∀ c ∈ z.cps.toList, 97 ≤ c ∧ c ≤ 122
theorem str_app (a b : Str) : (a ++ b).cps.toList = a.cps.toList ++ b.cps.toList := by
  show (a.cps ++ b.cps).toList = _
  simp
theorem str_len (a : Str) : a.length = a.cps.toList.length := by simp [Str.length]
theorem letter_at : ∀ i : Nat, i < 26 → atI ("abcdefghijklmnopqrstuvwxyz" : Str).cps.toList (i : Int) = some (97 + i) := by
  intro i hi
  have h : ∀ j : Fin 26, ("abcdefghijklmnopqrstuvwxyz" : Str).cps.toList[j.val]? = some (97 + j.val) := by decide +kernel
  exact atI_nat (h ⟨i, hi⟩)
theorem mul_01 (z : Str) : Txt.mul z 0 = Str.empty ∧ Txt.mul z 1 = z := by
  constructor
  · unfold Txt.mul; rw [if_pos (by decide)]
  · unfold Txt.mul; rw [if_neg (by decide), if_pos (by simp)]
def pk3 (p : Nat) (x y z : Str) : Str := if p = 0 then x else if p = 1 then y else z
theorem at3 {p : Nat} (h : p < 3) (x y z : Str) : atI [aStr x, aStr y, aStr z] (p : Int) = some (aStr (pk3 p x y z)) := by
  obtain rfl | rfl | rfl : p = 0 ∨ p = 1 ∨ p = 2 := by omega
  · rfl
  · rfl
  · rfl
def nmK (start step : Nat) (tail : Str) (pick k : Nat) : Str :=
  pk3 pick (⟨#[97 + (start + step * k) % 26]⟩ ++ tail) (tail ++ ⟨#[97 + (start + step * k) % 26]⟩) (⟨#[97 + (start + step * k) % 26]⟩ ++ Txt.mul tail ((k : Int) % 2))
def tails : List Str := ["", "q", "zz", "lamp", "andlamp"]
theorem tails_ok : ∀ t ∈ tails, t.length ≤ 7 ∧ ∀ c ∈ t.cps.toList, 97 ≤ c ∧ c ≤ 122 := by decide +kernel
theorem mul_mod (tail : Str) (k : Nat) : Txt.mul tail ((k : Int) % 2) = Str.empty ∨ Txt.mul tail ((k : Int) % 2) = tail := by
  rcases (show (k : Int) % 2 = 0 ∨ (k : Int) % 2 = 1 by omega) with h | h
  · rw [h]; exact .inl (mul_01 tail).1
  · rw [h]; exact .inr (mul_01 tail).2
theorem nmOk_app {a b : Str} (h1 : 1 ≤ a.length + b.length) (h2 : a.length + b.length ≤ 8) (ha : ∀ c ∈ a.cps.toList, 97 ≤ c ∧ c ≤ 122) (hb : ∀ c ∈ b.cps.toList, 97 ≤ c ∧ c ≤ 122) (hs : (a ++ b) ∉ odds) : NmOk (a ++ b) := by
  refine ⟨⟨?_, hs⟩, ?_, fun c hc => ?_⟩
  · rw [str_len, str_app, List.length_append, ← str_len, ← str_len]; exact h1
  · rw [str_len, str_app, List.length_append, ← str_len, ← str_len]; exact h2
  · rw [str_app] at hc
    rcases List.mem_append.mp hc with h | h
    · exact ha c h
    · exact hb c h
theorem no_odd : ∀ t ∈ tails, ∀ j : Fin 26, ((⟨#[97 + j.val]⟩ : Str) ++ t) ∉ odds ∧ (t ++ (⟨#[97 + j.val]⟩ : Str)) ∉ odds ∧ ((⟨#[97 + j.val]⟩ : Str) ++ Str.empty) ∉ odds := by decide +kernel
theorem nmK_ok {start step pick k : Nat} {tail : Str} (ht : tail ∈ tails) : NmOk (nmK start step tail pick k) := by
  refine bx_of ?_
  simp (disch := with_unfolding_all (
    obtain ⟨t1, t2⟩ := tails_ok tail ht
    have s1 : ∀ c ∈ (⟨#[97 + (start + step * k) % 26]⟩ : Str).cps.toList, 97 ≤ c ∧ c ≤ 122 := fun c hc => by
      have : c = 97 + (start + step * k) % 26 := by simpa using hc
      omega
    have s2 : (⟨#[97 + (start + step * k) % 26]⟩ : Str).length = 1 := rfl
    obtain ⟨o1, o2, o3⟩ := no_odd tail ht ⟨(start + step * k) % 26, Nat.mod_lt _ (by decide)⟩
    unfold nmK pk3
    split
    · exact nmOk_app (by omega) (by omega) s1 t2 o1
    · split
      · exact nmOk_app (by omega) (by omega) t2 s1 o2
      · rcases mul_mod tail k with h | h
        · rw [h]; exact nmOk_app (by omega) (by show _ + 0 ≤ 8; omega) s1 (fun c hc => by cases hc) o3
        · rw [h]; exact nmOk_app (by omega) (by omega) s1 t2 o1
    )) only [↓bx_true]

theorem nmK_inj {start step pick k k' : Nat} {tail : Str} (hs : step ∈ [1, 3, 5, 7, 9, 11]) (hk : k < 26) (hk' : k' < 26) (e : nmK start step tail pick k = nmK start step tail pick k') : k = k' := by
  refine bx_of ?_
  simp (disch := with_unfolding_all (
    have key : (start + step * k) % 26 = (start + step * k') % 26 := by
      have e2 := congrArg (fun z : Str => z.cps.toList) e
      unfold nmK pk3 at e2
      try dsimp only at e2
      split at e2
      · rw [str_app, str_app] at e2
        have : 97 + (start + step * k) % 26 = 97 + (start + step * k') % 26 := by simpa using e2
        omega
      · split at e2
        · rw [str_app, str_app] at e2
          have : 97 + (start + step * k) % 26 = 97 + (start + step * k') % 26 := by simpa using e2
          omega
        · rw [str_app, str_app] at e2
          have h3 : 97 + (start + step * k) % 26 = 97 + (start + step * k') % 26 := by
            have := congrArg List.head? e2
            simpa using this
          omega
    simp only [List.mem_cons, List.not_mem_nil, or_false] at hs
    rcases hs with rfl | rfl | rfl | rfl | rfl | rfl <;> omega
    )) only [↓bx_true]

theorem nodup_map_on {α β : Type} {f : α → β} : ∀ {l : List α}, (∀ x ∈ l, ∀ y ∈ l, f x = f y → x = y) → l.Nodup → (l.map f).Nodup
  | [], _, _ => List.nodup_nil
  | a :: l, h, n => by
    rw [List.map_cons, List.nodup_cons]
    rw [List.nodup_cons] at n
    refine ⟨fun z => ?_, nodup_map_on (fun x hx y hy => h x (List.mem_cons_of_mem _ hx) y (List.mem_cons_of_mem _ hy)) n.2⟩
    obtain ⟨y, hy, e⟩ := List.mem_map.mp z
    have := h y (List.mem_cons_of_mem _ hy) a (List.mem_cons_self ..) e
    subst this
    exact n.1 hy
end Dk

/-! houses -/
namespace Dk
open PySem L2 RZ L3
abbrev houseF (ns : List Str) (ds ss : List (Str × Str)) : FR := [("named", iLst (ns.map aStr)), ("doored", iPD ds), ("sighted", iPD ss)]
abbrev iHouse (C : Addr) (ns : List Str) (ds ss : List (Str × Str)) : Rep := iObj C (houseF ns ds ss)
abbrev prR (K : PySem.W.Frag) (p : Str × Str) : Rep := aTup K [aStr p.1, aStr p.2]
def doorsOf (ds : List (Str × Str)) : List (Str × Str) := ds.foldl (fun a p => putP (putP a (p.1, p.2)) (p.2, p.1)) []
def sightsOf (ds : List (Str × Str)) : List (Str × Str) := ds.foldl (fun a p => putP a (p.1, p.2)) []
theorem putP_len (a : List (Str × Str)) (p : Str × Str) : (putP a p).length ≤ a.length + 1 := by
  unfold putP; split <;> simp
theorem mem_putP {a : List (Str × Str)} {p q : Str × Str} : q ∈ putP a p ↔ q ∈ a ∨ q = p := by
  unfold putP
  split
  · constructor
    · exact .inl
    · rintro (h | rfl)
      · exact h
      · assumption
  · simp
theorem fold_snoc {α β : Type} (f : β → α → β) (b : β) (l : List α) (i : Nat) (h : i < l.length) : (l.take (i + 1)).foldl f b = f ((l.take i).foldl f b) l[i] := by
  rw [List.take_succ, List.getElem?_eq_getElem h, List.foldl_append]
  rfl
theorem doors_len (ds : List (Str × Str)) : ∀ i, i ≤ ds.length → (doorsOf (ds.take i)).length ≤ 2 * i := by
  refine bx_of ?_
  simp (disch := with_unfolding_all (
    intro i
    induction i with
    | zero => intro _; simp [doorsOf]
    | succ i ih =>
      intro h
      unfold doorsOf
      rw [fold_snoc _ _ _ _ (by omega)]
      have h1 := ih (by omega)
      have h2 := putP_len (doorsOf (ds.take i)) (ds[i].1, ds[i].2)
      have h3 := putP_len (putP (doorsOf (ds.take i)) (ds[i].1, ds[i].2)) (ds[i].2, ds[i].1)
      unfold doorsOf at *
      omega
    )) only [↓bx_true]

theorem sights_len (ds : List (Str × Str)) : ∀ i, i ≤ ds.length → (sightsOf (ds.take i)).length ≤ i := by
  intro i
  induction i with
  | zero => intro _; simp [sightsOf]
  | succ i ih =>
    intro h
    unfold sightsOf
    rw [fold_snoc _ _ _ _ (by omega)]
    have h1 := ih (by omega)
    have h2 := putP_len (sightsOf (ds.take i)) (ds[i].1, ds[i].2)
    unfold sightsOf at *
    omega
theorem mem_doors {q : Str × Str} (ds : List (Str × Str)) : q ∈ doorsOf ds ↔ q ∈ ds ∨ (q.2, q.1) ∈ ds := by
  refine bx_of ?_
  simp (disch := with_unfolding_all (
    have gen : ∀ (ds acc : List (Str × Str)), q ∈ ds.foldl (fun a p => putP (putP a (p.1, p.2)) (p.2, p.1)) acc ↔ q ∈ acc ∨ q ∈ ds ∨ (q.2, q.1) ∈ ds := by
      intro ds
      induction ds with
      | nil => intro acc; simp
      | cons p ds ih =>
        intro acc
        rw [List.foldl_cons, ih, mem_putP, mem_putP]
        obtain ⟨a, b⟩ := q
        obtain ⟨c, d⟩ := p
        simp only [List.mem_cons, Prod.mk.injEq]
        constructor
        · rintro (((h | h) | h) | h | h)
          · exact .inl h
          · exact .inr (.inl (.inl h))
          · exact .inr (.inr (.inl ⟨h.2, h.1⟩))
          · exact .inr (.inl (.inr h))
          · exact .inr (.inr (.inr h))
        · rintro (h | (h | h) | (h | h))
          · exact .inl (.inl (.inl h))
          · exact .inl (.inl (.inr h))
          · exact .inr (.inl h)
          · exact .inl (.inr ⟨h.2, h.1⟩)
          · exact .inr (.inr h)
    unfold doorsOf
    rw [gen]
    simp
    )) only [↓bx_true]

theorem take_nin {α : Type} : ∀ {l : List α} {i : Nat}, l.Nodup → (h : i < l.length) → l[i] ∉ l.take i
  | a :: l, 0, _, _ => by simp
  | a :: l, i + 1, n, h => by
    rw [List.nodup_cons] at n
    have hi : i < l.length := by simpa using h
    rw [List.take_succ_cons, List.getElem_cons_succ, List.mem_cons]
    rintro (e | e)
    · exact n.1 (e ▸ List.getElem_mem hi)
    · exact take_nin n.2 hi e
structure HouseOk (limit : Nat) (ns : List Str) (ds ss : List (Str × Str)) : Prop where
  n0 : 1 ≤ ns.length
  n1 : ns.length ≤ limit
  nd : ns.Nodup
  nm : ∀ z ∈ ns, NmOk z
  dl : ds.length ≤ 12 * limit
  dm : ∀ p ∈ ds, p.1 ∈ ns ∧ p.2 ∈ ns ∧ p.1 ≠ p.2
  sl : ss.length ≤ 100
  sm : ∀ p ∈ ss, p.1 ∈ ns ∧ p.2 ∈ ns ∧ p.1 ≠ p.2
abbrev iHs (K : PySem.W.Frag) (ns : List Str) (ds ss : List (Str × Str)) : Rep := aTup K [iLst (ns.map aStr), iLst (ds.map (prR K)), iLst (ss.map (prR K))]
def nearOf (ns : List Str) (ds : List (Str × Str)) (z : Str) : List Str := ns.filter fun y => decide ((z, y) ∈ ds) || decide ((y, z) ∈ ds)
def seesOf (ns : List Str) (ss : List (Str × Str)) (z : Str) : List Str := ns.filter fun y => decide ((z, y) ∈ ss)
end Dk

/-! is_name's mirror -/
namespace Dk
open PySem L2 RZ L3
def letters : Str := "abcdefghijklmnopqrstuvwxyz"
def isName (z : Str) : Bool := (decide ((1 : Int) ≤ z.length) && decide ((z.length : Int) ≤ 8)) && ((z.cps.toList.map fun c => decide (c ∈ letters.cps.toList)).all id)
end Dk

/-! wheels and rests -/
namespace Dk
/-- least common multiples of a row -/
def lcmL (l : List Nat) : Nat := l.foldl Nat.lcm 1
end Dk

/-! places on a round -/
namespace Dk
open PySem L2 RZ L3
def roomAt (l : List Str) (i : Int) : Str := l.getD (i % (l.length : Int)).toNat ⟨#[]⟩
end Dk

/-! scenes: who stands where -/
namespace Dk
open PySem L2 RZ L3
abbrev e0 : Str := ⟨#[]⟩
def swapL (l : List Str) (i j : Nat) : List Str := (l.set i (l.getD j e0)).set j (l.getD i e0)
def meet1 (sp : List Str) (i j : Nat) (l : List Str) : List Str := if sp.getD i e0 = sp.getD j e0 then swapL l i j else l
def meetIn (sp : List Str) (i : Nat) : Nat → List Str → List Str
  | 0, l => l
  | m + 1, l => meet1 sp i (i + 1 + m) (meetIn sp i m l)
def meetOut (sp : List Str) : Nat → List Str → List Str
  | 0, l => l
  | m + 1, l => meetIn sp m (sp.length - (m + 1)) (meetOut sp m l)
def easeL (n i : Nat) (l : List Str) : List Str := ((l.set i (l.getD n e0)).eraseIdx n) ++ [l.getD i e0]
abbrev Post := Str × List Str × Int
structure Sc where
  ns : List Str
  ds : List (Str × Str)
  ss : List (Str × Str)
  ps : List Post
  ls : List (Str × Int)
  meet : Bool
  rel : Int
structure ScOk (s : Sc) : Prop where
  nl : s.ns.length ≤ 8
  nn : ∀ z ∈ s.ns, StrOk z
  pl : s.ps.length ≤ 5
  pd : (s.ps.map (·.1)).Nodup
  pr : ∀ p ∈ s.ps, 1 ≤ p.2.1.length ∧ p.2.1.length ≤ 6 ∧ (∀ r ∈ p.2.1, r ∈ s.ns) ∧ 0 ≤ p.2.2 ∧ p.2.2 < p.2.1.length
  ll : s.ls.length ≤ 6
  ld : (s.ls.map (·.1)).Nodup
  lo : ∀ p ∈ s.ls, StrOk p.1
  pe : s.ps.length ≤ s.ls.length
  r0 : 0 ≤ s.rel
  r4 : s.rel ≤ 4
def firstOf (s : Sc) : List Str := s.ls.map (·.1)
def spotsOf (s : Sc) (b : Int) : List Str := s.ps.map fun p => roomAt p.2.1 (b - p.2.2)
def meetsL (s : Sc) (b : Int) (l : List Str) : List Str := if s.meet = true then meetOut (spotsOf s b) s.ps.length l else l
def easing (s : Sc) (b : Int) (n : Nat) : Prop := s.rel ≠ 0 ∧ b % s.rel = 0 ∧ 0 < s.ps.length ∧ s.ps.length < n
instance (s : Sc) (b : Int) (n : Nat) : Decidable (easing s b n) := by unfold easing; infer_instance
def easeAt (s : Sc) (b : Int) : Nat := (b / s.rel % (s.ps.length : Int)).toNat
def changeL (s : Sc) (b : Int) (l : List Str) : List Str := if easing s b l.length then easeL s.ps.length (easeAt s b) (meetsL s b l) else meetsL s b l
def rowAt (s : Sc) : Nat → List Str
  | 0 => firstOf s
  | k + 1 => changeL s ((k + 1 : Nat) : Int) (rowAt s k)
def sizesOf (s : Sc) : List Nat := s.ps.map (fun p => p.2.1.length) ++ if s.rel ≠ 0 ∧ s.ps ≠ [] ∧ s.ls.length > s.ps.length then [s.rel.toNat * s.ps.length] else []
def spanOf (s : Sc) : Nat := lcmL (sizesOf s)
/-! rows come back -/
def injL (a : List Str) : Nat → List (List Str)
  | 0 => [[]]
  | n + 1 => a.flatMap fun x => (injL (a.erase x) n).map fun l => x :: l
def ff (m : Nat) : Nat → Nat
  | 0 => 1
  | n + 1 => m * ff (m - 1) n
structure Per (s : Sc) (T : Nat) : Prop where
  pos : 0 < T
  dv : T % spanOf s = 0
  back : rowAt s T = firstOf s
  least : ∀ k, 0 < k → k < T → ¬ (k % spanOf s = 0 ∧ rowAt s k = firstOf s)
  le : T ≤ 900000
/-! what is lit -/
def reachOf (s : Sc) (w : Str) : Int := (s.ls.lookup w).getD 0
def shines (s : Sc) (b : Int) (q : Post × Str) : List Str := roomAt q.1.2.1 (b - q.1.2.2) :: if reachOf s q.2 = 1 then seesOf s.ns s.ss (roomAt q.1.2.1 (b - q.1.2.2)) else []
def shone (s : Sc) (b : Int) (row : List Str) : List Str := (s.ps.zip row).flatMap (shines s b)
def litOf (s : Sc) (row : List Str) (b : Int) : List Str := s.ns.filter fun z => decide (z ∈ shone s b row)
/-! in the program's own things -/
abbrev roundR (K : PySem.W.Frag) (p : Post) : Rep := aTup K [aTup K (p.2.1.map aStr), iInt p.2.2]
abbrev postR (K : PySem.W.Frag) (p : Post) : Rep := aTup K [aStr p.1, aTup K (p.2.1.map aStr), iInt p.2.2]
abbrev lampR (K : PySem.W.Frag) (p : Str × Int) : Rep := aTup K [aStr p.1, iInt p.2]
abbrev roundsF (K : PySem.W.Frag) (ps : List Post) : FR := ps.map fun p => (p.1, roundR K p)
abbrev lampsF (ls : List (Str × Int)) : FR := ls.map fun p => (p.1, iInt p.2)
abbrev rowsR (K : PySem.W.Frag) (s : Sc) (T : Nat) : List Rep := (List.range T).map fun k => aTupD ((rowAt s k).map aStr)
abbrev glowR (s : Sc) (T : Nat) : List Rep := (List.range T).map fun k => iLst ((litOf s (rowAt s k) (k : Nat)).map aStr)
abbrev sceneF (K : PySem.W.Frag) (C : Addr) (s : Sc) (Rr Rg : Rep) : FR := [("inside", iHouse C s.ns s.ds s.ss), ("rounds", iDF (roundsF K s.ps)), ("lamps", iDF (lampsF s.ls)), ("meeting", iBl s.meet), ("relieving", iInt s.rel), ("rows", Rr), ("glow", Rg)]
theorem look_none {α : Type} (f : α → Str) (g : α → Rep) {z : Str} : ∀ {l : List α}, z ∉ l.map f → (l.map fun q => (f q, g q)).lookup z = none
  | [], _ => rfl
  | a :: l, h => by
    rw [List.map_cons, List.mem_cons] at h
    rw [List.map_cons, List.lookup_cons, show (z == f a) = false from beq_eq_false_iff_ne.mpr fun e => h (.inl e)]
    exact look_none f g fun w => h (.inr w)
end Dk

/-! rounds that the law draws -/
namespace Dk
open PySem L2 RZ L3
def relR (ds : List (Str × Str)) (a b : Str) : Prop := a = b ∨ (a, b) ∈ ds ∨ (b, a) ∈ ds
theorem relR.symm {ds : List (Str × Str)} {a b : Str} (h : relR ds a b) : relR ds b a := by
  rcases h with h | h | h
  · exact .inl h.symm
  · exact .inr (.inr h)
  · exact .inr (.inl h)
structure RoundOk (ns : List Str) (ds : List (Str × Str)) (limit : Nat) (l : List Str) : Prop where
  l1 : 1 ≤ l.length
  l6 : l.length ≤ limit
  ln : ∀ z ∈ l, z ∈ ns
  cy : ∀ i, i < l.length → relR ds (l.getD i Str.empty) (l.getD ((i + 1) % l.length) Str.empty)
def Chain (ds : List (Str × Str)) (l : List Str) : Prop := ∀ i, i + 1 < l.length → relR ds (l.getD i Str.empty) (l.getD (i + 1) Str.empty)
theorem chain_add {ds : List (Str × Str)} {l : List Str} {z : Str} (h : Chain ds l) (hz : relR ds (l.getD (l.length - 1) Str.empty) z) : Chain ds (l ++ [z]) := by
  intro i hi
  have h1 := h i
  rw [List.length_append, List.length_singleton] at hi
  rcases Nat.lt_or_ge (i + 1) l.length with h2 | h2
  · have := h1 h2
    grind
  · have e : i = l.length - 1 := by omega
    subst e
    grind
theorem closed {ds : List (Str × Str)} {l : List Str} (h : Chain ds l) (hl : 1 ≤ l.length) (hz : relR ds (l.getD (l.length - 1) Str.empty) (l.getD 0 Str.empty)) : ∀ i, i < l.length → relR ds (l.getD i Str.empty) (l.getD ((i + 1) % l.length) Str.empty) := by
  intro i hi
  rcases Nat.lt_or_ge (i + 1) l.length with h2 | h2
  · rw [Nat.mod_eq_of_lt h2]
    exact h i h2
  · have e : i + 1 = l.length := by omega
    rw [e, Nat.mod_self, show i = l.length - 1 by omega]
    exact hz
/-- forth and back -/
def backL (l : List Str) (k : Nat) : List Str := l.take (k + 1) ++ (((l.take (k + 1)).drop 1).take (k - 1)).reverse
theorem back_len {l : List Str} {k : Nat} (h : k + 1 ≤ l.length) (hk : 1 ≤ k) : (backL l k).length = 2 * k := by
  unfold backL
  simp
  omega
theorem back_at {l : List Str} {k : Nat} (h : k + 1 ≤ l.length) (hk : 1 ≤ k) (i : Nat) (hi : i < 2 * k) : (backL l k).getD i Str.empty = l.getD (if i ≤ k then i else 2 * k - i) Str.empty := by
  unfold backL
  rw [List.getD_eq_getElem?_getD, List.getD_eq_getElem?_getD]
  split
  · rw [List.getElem?_append_left (by simp; omega), List.getElem?_take_of_lt (by omega)]
  · rw [List.getElem?_append_right (by simp; omega), List.getElem?_reverse (by simp; omega), List.getElem?_take_of_lt (by simp; omega), List.getElem?_drop, List.getElem?_take_of_lt (by simp; omega)]
    congr 2
    simp
    omega
theorem back_cy {ds : List (Str × Str)} {l : List Str} {k : Nat} (hc : Chain ds l) (h : k + 1 ≤ l.length) (hk : 1 ≤ k) : ∀ i, i < (backL l k).length → relR ds ((backL l k).getD i Str.empty) ((backL l k).getD ((i + 1) % (backL l k).length) Str.empty) := by
  refine bx_of ?_
  simp (disch := with_unfolding_all (
    intro i hi
    rw [back_len h hk] at hi ⊢
    rw [back_at h hk i hi, back_at h hk _ (Nat.mod_lt _ (by omega))]
    rcases Nat.lt_or_ge i k with h1 | h1
    · rw [Nat.mod_eq_of_lt (by omega), if_pos (by omega), if_pos (by omega)]
      exact hc i (by omega)
    · have e1 : (if i ≤ k then i else 2 * k - i) = 2 * k - i := by split <;> omega
      have e2 : (if (i + 1) % (2 * k) ≤ k then (i + 1) % (2 * k) else 2 * k - (i + 1) % (2 * k)) = 2 * k - (i + 1) := by
        rcases Nat.lt_or_ge (i + 1) (2 * k) with h2 | h2
        · rw [Nat.mod_eq_of_lt h2]
          split <;> omega
        · rw [show i + 1 = 2 * k by omega, Nat.mod_self, if_pos (by omega)]
          omega
      rw [e1, e2]
      have := hc (2 * k - (i + 1)) (by omega)
      rw [show 2 * k - (i + 1) + 1 = 2 * k - i by omega] at this
      exact this.symm
    )) only [↓bx_true]

theorem back_ok {ns : List Str} {ds : List (Str × Str)} {l : List Str} {limit : Nat} (hc : Chain ds l) (hn : ∀ z ∈ l, z ∈ ns) (h2 : 2 ≤ l.length) (h6 : l.length ≤ limit) : RoundOk ns ds limit (backL l (l.length / 2)) where
  l1 := by rw [back_len (by omega) (by omega)]; omega
  l6 := by rw [back_len (by omega) (by omega)]; omega
  ln := fun z hz => by
    unfold backL at hz
    rcases List.mem_append.mp hz with h | h
    · exact hn z (List.mem_of_mem_take h)
    · exact hn z (List.mem_of_mem_take (List.mem_of_mem_drop (List.mem_of_mem_take (List.mem_reverse.mp h))))
  cy := back_cy hc (by omega) (by omega)
def handOf (ns : List Str) (ds : List (Str × Str)) (z : Str) : List Str := ns.filter fun y => decide (y = z) || decide (y ∈ nearOf ns ds z)
theorem near_rel {ns : List Str} {ds : List (Str × Str)} {z y : Str} (h : y ∈ nearOf ns ds z) : y ∈ ns ∧ relR ds z y := by
  unfold nearOf at h
  rw [List.mem_filter, Bool.or_eq_true, decide_eq_true_eq, decide_eq_true_eq] at h
  exact ⟨h.1, .inr h.2⟩
theorem hand_rel {ns : List Str} {ds : List (Str × Str)} {z y : Str} (h : y ∈ handOf ns ds z) : relR ds z y := by
  unfold handOf at h
  rw [List.mem_filter, Bool.or_eq_true, decide_eq_true_eq, decide_eq_true_eq] at h
  rcases h.2 with h | h
  · exact .inl h.symm
  · exact (near_rel h).2
theorem hand_self {ns : List Str} {ds : List (Str × Str)} {z : Str} (h : z ∈ ns) : z ∈ handOf ns ds z := by
  unfold handOf
  rw [List.mem_filter]
  exact ⟨h, by simp⟩
theorem at_m1 {l : List Str} (h : 1 ≤ l.length) : atI (l.map aStr) (-1) = some (aStr (l.getD (l.length - 1) Str.empty)) := by
  unfold atI ixN
  rw [List.length_map, if_neg (by decide), if_pos (by omega)]
  have e : ((-1 : Int) + (l.length : Int)).toNat = l.length - 1 := by omega
  rw [e]
  show (l.map aStr)[l.length - 1]? = _
  rw [List.getElem?_map, List.getD_eq_getElem?_getD, List.getElem?_eq_getElem (by omega)]
  rfl
theorem last_in {l ns : List Str} (h : 1 ≤ l.length) (hn : ∀ z ∈ l, z ∈ ns) : l.getD (l.length - 1) Str.empty ∈ ns := by
  rw [List.getD_eq_getElem?_getD, List.getElem?_eq_getElem (by omega)]
  exact hn _ (List.getElem_mem _)
theorem cutL_mid {α : Type} (l : List α) : cutL l (some 1) (some (-1)) = (l.drop 1).take (l.length - 2) := by
  unfold cutL
  have e : HT.sIx l.length l.length (some (-1)) = l.length - 1 := by
    show (if (-1 : Int) < 0 then ((-1 : Int) + (l.length : Int)).toNat else min (-1 : Int).toNat l.length) = _
    rw [if_pos (show (-1 : Int) < 0 by decide)]
    omega
  have e1 : HT.sIx l.length 0 (some 1) = min 1 l.length := HT.sIx_nat l.length 0 1
  rw [e, e1]
  cases l with
  | nil => rfl
  | cons a l => simp
end Dk
namespace Dk
open PySem L2 RZ L3
/-- what a scene is made of, the house's doors and sights as they are told (raw) -/
structure DrOk (rooms posts size : Nat) (r : Sc) : Prop where
  ho : HouseOk rooms r.ns r.ds r.ss
  pl : r.ps.length ≤ posts
  pd : (r.ps.map (·.1)).Nodup
  pn : ∀ p ∈ r.ps, NmOk p.1
  pr : ∀ p ∈ r.ps, RoundOk r.ns r.ds size p.2.1 ∧ 0 ≤ p.2.2 ∧ p.2.2 < p.2.1.length
  ll : r.ls.length ≤ 6
  lp : r.ps.length ≤ r.ls.length
  ld : (r.ls.map (·.1)).Nodup
  ln : ∀ p ∈ r.ls, NmOk p.1 ∧ 0 ≤ p.2 ∧ p.2 ≤ 1
  r0 : 0 ≤ r.rel
  r4 : r.rel ≤ 4
abbrev madeF (K : PySem.W.Frag) (r : Sc) : FR := [("house", iHs K r.ns r.ds r.ss), ("posts", iLst (r.ps.map (postR K))), ("lamps", iLst (r.ls.map (lampR K))), ("meet", iBl r.meet), ("relief", iInt r.rel)]
def builtOf (r : Sc) : Sc := { r with ds := doorsOf r.ds, ss := sightsOf r.ss }
end Dk

/-! what a round is refused with -/
namespace Dk
open PySem L2 RZ L3
inductive RW where
  | ok | bad | no (z : Str) | walk (i : Nat)
def RW.word : RW → Str
  | .ok => "" | .bad => "BadRound" | .no _ => "NoRoom" | .walk _ => "NotAWalk"
def RW.fld : RW → PyData
  | .ok => .none | .bad => .none | .no z => .str z | .walk i => .int (i : Nat)
def roundW (ns : List Str) (hand : Str → Str → Bool) (l : List Str) : RW :=
  if 1 ≤ l.length ∧ l.length ≤ 6 then
    match l.find? (fun z => decide (z ∉ ns)) with
    | some z => .no z
    | none => match (List.range l.length).find? (fun i => !(hand (l.getD i Str.empty) (l.getD ((i + 1) % l.length) Str.empty))) with
      | some i => .walk i
      | none => .ok
  else .bad
section
variable {ns l : List Str} {hand : Str → Str → Bool}
end
/-- at hand, as a house tells it; as the law tells it -/
def handP (ds : List (Str × Str)) (a b : Str) : Bool := decide ((a, b) ∈ ds) || decide (a = b)
def handQ (ns : List Str) (ds : List (Str × Str)) (a b : Str) : Bool := decide (b ∈ handOf ns ds a)
theorem hand_pq {ns : List Str} {ds : List (Str × Str)} : ∀ a b, a ∈ ns → b ∈ ns → handP (doorsOf ds) a b = handQ ns ds a b := fun a b ha hb => by
  unfold handP handQ handOf nearOf
  rw [Bool.eq_iff_iff]
  simp only [Bool.or_eq_true, decide_eq_true_eq, mem_doors, List.mem_filter, hb, true_and]
  constructor
  · rintro ((h | h) | h)
    · exact .inr (.inl h)
    · exact .inr (.inr h)
    · exact .inl h.symm
  · rintro (h | h | h)
    · exact .inr h.symm
    · exact .inl (.inl h)
    · exact .inl (.inr h)
end Dk

/-! rounds that fit what was seen -/
namespace Dk
open PySem L2 RZ L3
abbrev Seen := Int × Str × Bool
abbrev seenR (K : PySem.W.Frag) (s : Seen) : Rep := aTup K [iInt s.1, aStr s.2.1, iBl s.2.2]
abbrev lsR (l : List Str) : Rep := iLst (l.map aStr)
abbrev llR (L : List (List Str)) : Rep := iLst (L.map lsR)
def keepS (s : Seen) (o : Str) : Bool := decide (decide (o = s.2.1) = s.2.2)
def fitAt (n : Nat) (seen : List Seen) (i : Nat) (o : Str) : Bool := seen.all fun s => !decide (s.1 % (n : Int) = (i : Int)) || keepS s o
def letOf (ns : List Str) (n : Nat) (seen : List Seen) (i : Nat) : List Str := ns.filter (fitAt n seen i)
def letsOf (ns : List Str) (n : Nat) (seen : List Seen) : List (List Str) := (List.range n).map (letOf ns n seen)
section
variable {ns : List Str} {n : Nat} {l : List Seen} {s : Seen} {i : Nat}
theorem let_nil : letOf ns n [] i = ns := List.filter_eq_self.mpr fun _ _ => rfl
theorem let_eq (h : s.1 % (n : Int) = (i : Int)) : letOf ns n (l ++ [s]) i = (letOf ns n l i).filter (keepS s) := by
  unfold letOf
  rw [List.filter_filter]
  refine List.filter_congr fun o _ => ?_
  unfold fitAt
  rw [List.all_append, List.all_cons, List.all_nil, Bool.and_true, decide_eq_true h, Bool.not_true, Bool.false_or, Bool.and_comm]
theorem let_ne (h : ¬ s.1 % (n : Int) = (i : Int)) : letOf ns n (l ++ [s]) i = letOf ns n l i := by
  unfold letOf
  refine List.filter_congr fun o _ => ?_
  unfold fitAt
  rw [List.all_append, List.all_cons, List.all_nil, decide_eq_false h, Bool.not_false, Bool.true_or, Bool.and_true, Bool.and_true]
theorem let_sub : ∀ z ∈ letOf ns n l i, z ∈ ns := fun z hz => (List.mem_filter.mp hz).1
theorem let_nd (h : ns.Nodup) : (letOf ns n l i).Nodup := h.sublist List.filter_sublist
theorem lets_len : (letsOf ns n l).length = n := by simp [letsOf]
theorem lets_at {j : Nat} (h : j < n) : (letsOf ns n l)[j]? = some (letOf ns n l j) := by
  unfold letsOf
  rw [List.getElem?_map, List.getElem?_range h]
  rfl
theorem lets_snoc (hn : 0 < n) (hi : s.1 % (n : Int) = (i : Int)) : letsOf ns n (l ++ [s]) = (letsOf ns n l).set i ((letOf ns n l i).filter (keepS s)) := by
  refine List.ext_getElem? fun j => ?_
  by_cases hj : j < n
  · rw [lets_at hj]
    by_cases e : i = j
    · subst e
      rw [List.getElem?_set_self (by rw [lets_len]; exact hj), let_eq hi]
    · rw [List.getElem?_set_ne e, lets_at hj, let_ne (by omega)]
  · rw [List.getElem?_eq_none (by rw [lets_len]; omega), List.getElem?_eq_none (by rw [List.length_set, lets_len]; omega)]
end
/-- how many rounds have at each place one of some rooms -/
def stepC (adj : Str → Str → Bool) (many : List (Str × Int)) (rooms : List Str) : List (Str × Int) := rooms.map fun r => (r, ((many.filter fun p => adj p.1 r).map (·.2)).sum)
def endC (adj : Str → Str → Bool) (z : Str) (many : List (Str × Int)) : Int := ((many.filter fun p => adj p.1 z).map (·.2)).sum
def cntFrom (adj : Str → Str → Bool) (z : Str) (rest : List (List Str)) : Int := endC adj z (rest.foldl (stepC adj) [(z, 1)])
def cntL (adj : Str → Str → Bool) (first : List Str) (rest : List (List Str)) : Int := (first.map fun z => cntFrom adj z rest).sum
def cntOf (adj : Str → Str → Bool) (L : List (List Str)) : Int := cntL adj (L.headD []) L.tail
def narrowL (L : List (List Str)) (i : Nat) (z : Str) : List (List Str) := L.take i ++ [[z]] ++ L.drop (i + 1)
def possL (adj : Str → Str → Bool) (L : List (List Str)) (i : Nat) : List Str := (L.getD i []).filter fun z => decide (cntOf adj (narrowL L i z) > 0)
section
variable {adj adj' : Str → Str → Bool} {ns : List Str}
theorem stepC_in {rooms : List Str} (hr : ∀ z ∈ rooms, z ∈ ns) (many : List (Str × Int)) : ∀ p ∈ stepC adj many rooms, p.1 ∈ ns := fun p hp => by
  obtain ⟨r, h, rfl⟩ := List.mem_map.mp hp
  exact hr r h
end
theorem lets_in {ns : List Str} {n : Nat} {l : List Seen} : ∀ r ∈ letsOf ns n l, ∀ z ∈ r, z ∈ ns := fun r hr z hz => by
  obtain ⟨i, _, rfl⟩ := List.mem_map.mp hr
  exact let_sub z hz
theorem lets_nd {ns : List Str} {n : Nat} {l : List Seen} (h : ns.Nodup) : ∀ r ∈ letsOf ns n l, r.Nodup := fun r hr => by
  obtain ⟨i, _, rfl⟩ := List.mem_map.mp hr
  exact let_nd h
/-- at hand, as the law asks it -/
def handB (ns : List Str) (ds : List (Str × Str)) (a b : Str) : Bool := decide (a ∈ handOf ns ds b)
end Dk

/-! rounds that fit, by going through all -/
namespace Dk
open PySem L2 RZ L3
def lastZ (row : List Str) : Str := row.getD (row.length - 1) Str.empty
def headZ (row : List Str) : Str := row.getD 0 Str.empty
def growE (adj : Str → Str → Bool) (rooms : List Str) (row : List Str) : List (List Str) := (rooms.filter fun z => decide (row = []) || adj (lastZ row) z).map fun z => row ++ [z]
theorem grow_nil (adj : Str → Str → Bool) (f : List Str) : growE adj f [] = f.map fun z => [z] := by
  unfold growE
  rw [List.filter_eq_self.mpr fun _ _ => by simp]
  rfl
def rowsE (adj : Str → Str → Bool) (L : List (List Str)) (F : List (List Str)) : List (List Str) := L.foldl (fun F rooms => F.flatMap (growE adj rooms)) F
def closedE (adj : Str → Str → Bool) (F : List (List Str)) : List (List Str) := F.filter fun row => adj (lastZ row) (headZ row)
theorem rowsE_nil (adj : Str → Str → Bool) : ∀ L, rowsE adj L [] = []
  | [] => rfl
  | l :: L => by
    unfold rowsE
    rw [List.foldl_cons]
    exact rowsE_nil adj L
theorem rowsE_app (adj : Str → Str → Bool) : ∀ L A B, rowsE adj L (A ++ B) = rowsE adj L A ++ rowsE adj L B
  | [], A, B => rfl
  | l :: L, A, B => by
    have := rowsE_app adj L (A.flatMap (growE adj l)) (B.flatMap (growE adj l))
    unfold rowsE at this ⊢
    rw [List.foldl_cons, List.foldl_cons, List.foldl_cons, List.flatMap_append]
    exact this
theorem rowsE_flat (adj : Str → Str → Bool) (L : List (List Str)) : ∀ F : List (List Str), rowsE adj L F = F.flatMap fun row => rowsE adj L [row]
  | [] => rowsE_nil adj L
  | r :: F => by
    rw [show r :: F = [r] ++ F from rfl, rowsE_app, rowsE_flat adj L F]
    rfl
/-- so many rows end where phi holds -/
def numE (phi : Str → Bool) (F : List (List Str)) : Int := ((F.filter fun row => phi (lastZ row)).length : Nat)
def numC (phi : Str → Bool) (many : List (Str × Int)) : Int := ((many.filter fun p => phi p.1).map (·.2)).sum
theorem last_snoc (row : List Str) (z : Str) : lastZ (row ++ [z]) = z := by
  unfold lastZ
  rw [List.getD_eq_getElem?_getD]
  simp
theorem numE_one (adj : Str → Str → Bool) (phi : Str → Bool) (row : List Str) (h : row ≠ []) : ∀ rooms : List Str, numE phi (growE adj rooms row) = ((rooms.filter phi).map fun r => if adj (lastZ row) r = true then (1 : Int) else 0).sum
  | [] => rfl
  | z :: rooms => by
    have ih := numE_one adj phi row h rooms
    have e0 : decide (row = []) = false := decide_eq_false h
    have key : growE adj (z :: rooms) row = (if adj (lastZ row) z = true then [row ++ [z]] else []) ++ growE adj rooms row := by
      unfold growE
      rw [List.filter_cons]
      simp only [e0, Bool.false_or]
      split <;> rfl
    rw [key]
    unfold numE at ih ⊢
    rw [List.filter_append, List.length_append]
    rw [List.filter_cons]
    cases ha : adj (lastZ row) z with
    | false =>
      simp only [Bool.false_eq_true, if_false, List.filter_nil, List.length_nil, Nat.zero_add]
      rw [ih]
      cases phi z <;> simp [ha]
    | true =>
      simp only [if_true, List.filter_cons, List.filter_nil, last_snoc]
      cases hp : phi z with
      | true =>
        simp only [if_true, List.length_singleton, List.map_cons, List.sum_cons, ha]
        push_cast
        omega
      | false =>
        simp only [Bool.false_eq_true, if_false, List.length_nil, Nat.zero_add]
        exact ih
theorem numE_cons (phi : Str → Bool) (A B : List (List Str)) : numE phi (A ++ B) = numE phi A + numE phi B := by
  unfold numE
  rw [List.filter_append, List.length_append]
  push_cast
  rfl
theorem sum_add {α : Type} (l : List α) (f g : α → Int) : (l.map fun r => f r + g r).sum = (l.map f).sum + (l.map g).sum := by
  induction l with
  | nil => rfl
  | cons a l ih =>
    simp only [List.map_cons, List.sum_cons, ih]
    omega
theorem sum_zero {α : Type} (l : List α) : (l.map fun _ => (0 : Int)).sum = 0 := by
  induction l with
  | nil => rfl
  | cons a l ih => simp only [List.map_cons, List.sum_cons, ih]; rfl
theorem numE_flat (adj : Str → Str → Bool) (phi : Str → Bool) (rooms : List Str) : ∀ F : List (List Str), (∀ row ∈ F, row ≠ []) → numE phi (F.flatMap (growE adj rooms)) = ((rooms.filter phi).map fun r => numE (fun y => adj y r) F).sum
  | [], _ => by
    rw [show ((rooms.filter phi).map fun r => numE (fun y => adj y r) []) = (rooms.filter phi).map fun _ => (0 : Int) from rfl, sum_zero]
    rfl
  | row :: F, h => by
    rw [List.flatMap_cons, numE_cons, numE_one adj phi row (h row (List.mem_cons_self ..)) rooms, numE_flat adj phi rooms F fun r hr => h r (List.mem_cons_of_mem _ hr), ← sum_add]
    refine congrArg List.sum (List.map_congr_left fun r _ => ?_)
    rw [show row :: F = [row] ++ F from rfl, numE_cons]
    refine congrArg (· + _) ?_
    unfold numE
    cases ha : adj (lastZ row) r with
    | true => simp [ha]
    | false => simp [ha]
theorem numC_step (adj : Str → Str → Bool) (phi : Str → Bool) (many : List (Str × Int)) : ∀ rooms : List Str, numC phi (stepC adj many rooms) = ((rooms.filter phi).map fun r => numC (fun y => adj y r) many).sum
  | [] => rfl
  | z :: rooms => by
    have ih := numC_step adj phi many rooms
    unfold numC stepC at ih ⊢
    rw [List.map_cons, List.filter_cons, List.filter_cons]
    dsimp only
    cases phi z with
    | true =>
      simp only [if_true, List.map_cons, List.sum_cons]
      rw [ih]
    | false =>
      simp only [Bool.false_eq_true, if_false]
      exact ih
theorem grow_ne {adj : Str → Str → Bool} {rooms : List Str} {F : List (List Str)} : ∀ row ∈ F.flatMap (growE adj rooms), row ≠ [] := fun row h => by
  obtain ⟨r, _, h2⟩ := List.mem_flatMap.mp h
  unfold growE at h2
  obtain ⟨z, _, rfl⟩ := List.mem_map.mp h2
  simp
/-- as many rows as are counted -/
theorem num_same (adj : Str → Str → Bool) : ∀ (L : List (List Str)) (F : List (List Str)) (many : List (Str × Int)), (∀ row ∈ F, row ≠ []) → (∀ phi, numE phi F = numC phi many) → ∀ phi, numE phi (rowsE adj L F) = numC phi (L.foldl (stepC adj) many)
  | [], _, _, _, h => h
  | l :: L, F, many, hn, h => fun phi => by
    have := num_same adj L (F.flatMap (growE adj l)) (stepC adj many l) grow_ne (fun phi => by
      rw [numE_flat adj phi l F hn, numC_step]
      exact congrArg List.sum (List.map_congr_left fun r _ => h _)) phi
    unfold rowsE at this ⊢
    rw [List.foldl_cons, List.foldl_cons]
    exact this
theorem rowsE_head {adj : Str → Str → Bool} {z : Str} : ∀ (L : List (List Str)) (F : List (List Str)), (∀ row ∈ F, row ≠ [] ∧ headZ row = z) → ∀ row ∈ rowsE adj L F, row ≠ [] ∧ headZ row = z
  | [], _, h => h
  | l :: L, F, h => by
    have := rowsE_head (adj := adj) L (F.flatMap (growE adj l)) fun row hr => by
      refine ⟨grow_ne row hr, ?_⟩
      obtain ⟨r, h1, h2⟩ := List.mem_flatMap.mp hr
      unfold growE at h2
      obtain ⟨y, _, rfl⟩ := List.mem_map.mp h2
      obtain ⟨a, b⟩ := h r h1
      cases r with
      | nil => exact absurd rfl a
      | cons c d => exact b
    unfold rowsE at this ⊢
    rw [List.foldl_cons]
    exact this
theorem closed_one (adj : Str → Str → Bool) (z : Str) (rest : List (List Str)) : ((closedE adj (rowsE adj rest [[z]])).length : Int) = cntFrom adj z rest := by
  have h1 := num_same adj rest [[z]] [(z, 1)] (fun row h => by rw [List.mem_singleton.mp h]; simp) (fun phi => by
    unfold numE numC
    cases h : phi z <;> simp [List.filter_cons, show lastZ [z] = z from rfl, h]) fun y => adj y z
  have h2 := rowsE_head (adj := adj) (z := z) rest [[z]] fun row h => by rw [List.mem_singleton.mp h]; exact ⟨by simp, rfl⟩
  unfold cntFrom endC
  unfold numE numC at h1
  rw [← h1]
  unfold closedE
  rw [List.filter_congr fun row hr => by rw [(h2 row hr).2]]
theorem closed_cnt (adj : Str → Str → Bool) (f : List Str) (rest : List (List Str)) : ((closedE adj (rowsE adj (f :: rest) [[]])).length : Int) = cntL adj f rest := by
  refine bx_of ?_
  simp (disch := with_unfolding_all (
    have e : rowsE adj (f :: rest) [[]] = rowsE adj rest (f.map fun z => [z]) := by
      unfold rowsE
      rw [List.foldl_cons]
      rw [List.flatMap_cons, List.flatMap_nil, List.append_nil, grow_nil]
    rw [e, rowsE_flat, List.flatMap_map]
    unfold cntL
    induction f with
    | nil => rfl
    | cons z f ih =>
      rw [List.flatMap_cons]
      unfold closedE at ih ⊢
      have e2 : rowsE adj (f :: rest) [[]] = rowsE adj rest (f.map fun z => [z]) := by
        unfold rowsE
        rw [List.foldl_cons]
        rw [List.flatMap_cons, List.flatMap_nil, List.append_nil, grow_nil]
      rw [List.filter_append, List.length_append, List.map_cons, List.sum_cons]
      push_cast
      rw [ih e2]
      have := closed_one adj z rest
      unfold closedE at this
      rw [this]
    )) only [↓bx_true]

end Dk

/-! rounds that fit, one by one -/
namespace Dk
open PySem L2 RZ L3
structure FitsL (adj : Str → Str → Bool) (L : List (List Str)) (row : List Str) : Prop where
  len : row.length = L.length
  at_ : ∀ i, i < L.length → row.getD i e0 ∈ L.getD i []
  go : ∀ i, i + 1 < L.length → adj (row.getD i e0) (row.getD (i + 1) e0) = true
def FitsC (adj : Str → Str → Bool) (L : List (List Str)) (row : List Str) : Prop := FitsL adj L row ∧ adj (lastZ row) (headZ row) = true
section
variable {adj : Str → Str → Bool}
theorem getD_snoc {α : Type} (l : List α) (z d : α) (i : Nat) : (l ++ [z]).getD i d = if i < l.length then l.getD i d else if i = l.length then z else d := by
  rw [List.getD_eq_getElem?_getD, List.getElem?_append]
  split
  · rw [List.getD_eq_getElem?_getD]
  · split
    · rename_i h1 h2
      subst h2
      simp
    · rw [List.getElem?_eq_none (by simp; omega)]
      rfl
theorem rowsE_snoc (L : List (List Str)) (l : List Str) (F : List (List Str)) : rowsE adj (L ++ [l]) F = (rowsE adj L F).flatMap (growE adj l) := by
  unfold rowsE
  rw [List.foldl_append]
  rfl
theorem mem_rows : ∀ (n : Nat) (L : List (List Str)), L.length = n → ∀ row, row ∈ rowsE adj L [[]] ↔ FitsL adj L row
  | 0, L, h, row => by
    have : L = [] := List.length_eq_zero_iff.mp h
    subst this
    constructor
    · intro hr
      have : row = [] := List.mem_singleton.mp hr
      subst this
      exact ⟨rfl, fun i hi => absurd hi (by simp), fun i hi => absurd hi (by simp)⟩
    · intro f
      have : row = [] := List.length_eq_zero_iff.mp f.len
      subst this
      exact List.mem_singleton.mpr rfl
  | n + 1, L, h, row => by
    have L0 : L ≠ [] := fun e => by rw [e] at h; simp at h
    obtain ⟨K, l, rfl⟩ : ∃ K l, L = K ++ [l] := ⟨L.dropLast, L.getLast L0, (List.dropLast_concat_getLast L0).symm⟩
    have hK : K.length = n := by simpa using h
    have ih := mem_rows n K hK
    rw [rowsE_snoc, List.mem_flatMap]
    constructor
    · rintro ⟨r, h1, h2⟩
      have f := (ih r).mp h1
      unfold growE at h2
      obtain ⟨z, h3, rfl⟩ := List.mem_map.mp h2
      obtain ⟨h4, h5⟩ := List.mem_filter.mp h3
      refine ⟨by rw [List.length_append, List.length_append, f.len]; rfl, fun i hi => ?_, fun i hi => ?_⟩
      · rw [getD_snoc, getD_snoc, f.len]
        split
        · rename_i hh
          exact f.at_ i hh
        · rw [if_pos (by simp at hi; omega), if_pos (by simp at hi; omega)]
          exact h4
      · rw [getD_snoc, getD_snoc, f.len]
        have hi' : i < K.length := by simp at hi; omega
        rw [if_pos hi']
        split
        · rename_i hh
          exact f.go i hh
        · rename_i hh
          rw [if_pos (by omega)]
          have rn : r ≠ [] := fun e => by rw [e] at f; have := f.len; simp at this; omega
          rw [decide_eq_false rn, Bool.false_or] at h5
          have el : lastZ r = r.getD i e0 := by
            unfold lastZ
            rw [show r.length - 1 = i by rw [f.len]; omega]
            rfl
          rw [el] at h5
          exact h5
    · intro f
      have fl := f.len
      rw [List.length_append, List.length_singleton] at fl
      have r0 : row ≠ [] := fun e => by rw [e] at fl; simp at fl
      obtain ⟨r, z, rfl⟩ : ∃ r z, row = r ++ [z] := ⟨row.dropLast, row.getLast r0, (List.dropLast_concat_getLast r0).symm⟩
      have lr : r.length = K.length := by simpa using fl
      have at1 := f.at_
      have go1 := f.go
      simp only [List.length_append, List.length_singleton] at at1 go1
      refine ⟨r, (ih r).mpr ⟨lr, fun i hi => ?_, fun i hi => ?_⟩, ?_⟩
      · have := at1 i (by omega)
        rw [getD_snoc, getD_snoc, if_pos (show i < r.length by omega), if_pos hi] at this
        exact this
      · have := go1 i (by omega)
        rw [getD_snoc, getD_snoc, if_pos (show i < r.length by omega), if_pos (show i + 1 < r.length by omega)] at this
        exact this
      · unfold growE
        refine List.mem_map.mpr ⟨z, List.mem_filter.mpr ⟨?_, ?_⟩, rfl⟩
        · have := at1 K.length (by omega)
          rw [getD_snoc, getD_snoc, if_neg (show ¬ K.length < r.length by omega), if_pos (show K.length = r.length by omega), if_neg (Nat.lt_irrefl _), if_pos rfl] at this
          exact this
        · by_cases rn : r = []
          · rw [decide_eq_true rn]; rfl
          · rw [decide_eq_false rn, Bool.false_or]
            have rp : 0 < r.length := List.length_pos_iff.mpr rn
            have := go1 (r.length - 1) (by omega)
            rw [getD_snoc, getD_snoc, if_pos (show r.length - 1 < r.length by omega), if_neg (show ¬ r.length - 1 + 1 < r.length by omega), if_pos (show r.length - 1 + 1 = r.length by omega)] at this
            exact this
theorem cnt_pos {L : List (List Str)} (h : L ≠ []) : 0 < cntOf adj L ↔ ∃ row, FitsC adj L row := by
  refine bx_of ?_
  simp (disch := with_unfolding_all (
    have e : ((closedE adj (rowsE adj L [[]])).length : Int) = cntOf adj L := by
      cases L with
      | nil => exact absurd rfl h
      | cons f r => exact closed_cnt adj f r
    rw [← e]
    constructor
    · intro hp
      have : 0 < (closedE adj (rowsE adj L [[]])).length := by omega
      obtain ⟨row, hr⟩ := List.exists_mem_of_length_pos this
      unfold closedE at hr
      obtain ⟨h1, h2⟩ := List.mem_filter.mp hr
      exact ⟨row, (mem_rows _ L rfl row).mp h1, h2⟩
    · rintro ⟨row, h1, h2⟩
      have : row ∈ closedE adj (rowsE adj L [[]]) := by
        unfold closedE
        exact List.mem_filter.mpr ⟨(mem_rows _ L rfl row).mpr h1, h2⟩
      have := List.length_pos_of_mem this
      omega
    )) only [↓bx_true]

theorem narrow_at {L : List (List Str)} {i : Nat} (hi : i < L.length) (z : Str) (j : Nat) : (narrowL L i z).getD j [] = if j = i then [z] else L.getD j [] := by
  refine bx_of ?_
  simp (disch := with_unfolding_all (
    unfold narrowL
    rw [List.append_assoc, List.getD_eq_getElem?_getD, List.getElem?_append, List.length_take]
    split
    · rename_i h
      rw [if_neg (by omega), List.getElem?_take_of_lt (by omega), List.getD_eq_getElem?_getD]
    · rename_i h
      rw [show min i L.length = i by omega] at h ⊢
      by_cases e : j = i
      · subst e
        simp
      · rw [if_neg e, List.getD_eq_getElem?_getD]
        obtain ⟨k, rfl⟩ : ∃ k, j = i + (k + 1) := ⟨j - i - 1, by omega⟩
        rw [show i + (k + 1) - i = k + 1 by omega, List.singleton_append, List.getElem?_cons_succ, List.getElem?_drop]
        congr 2
        omega
    )) only [↓bx_true]

theorem narrow_len {L : List (List Str)} {i : Nat} (hi : i < L.length) (z : Str) : (narrowL L i z).length = L.length := by
  unfold narrowL
  simp
  omega
theorem fits_narrow {L : List (List Str)} {i : Nat} (hi : i < L.length) {z : Str} (hz : z ∈ L.getD i []) (row : List Str) : FitsC adj (narrowL L i z) row ↔ FitsC adj L row ∧ row.getD i e0 = z := by
  refine bx_of ?_
  simp (disch := with_unfolding_all (
    constructor
    · rintro ⟨f, c⟩
      have l := f.len
      rw [narrow_len hi] at l
      have e := f.at_ i (by rw [narrow_len hi]; exact hi)
      rw [narrow_at hi, if_pos rfl] at e
      have e := List.mem_singleton.mp e
      refine ⟨⟨⟨l, fun j hj => ?_, fun j hj => f.go j (by rw [narrow_len hi]; exact hj)⟩, c⟩, e⟩
      have := f.at_ j (by rw [narrow_len hi]; exact hj)
      rw [narrow_at hi] at this
      split at this
      · rename_i h
        subst h
        rw [List.mem_singleton.mp this]
        exact hz
      · exact this
    · rintro ⟨⟨f, c⟩, e⟩
      refine ⟨⟨by rw [narrow_len hi]; exact f.len, fun j hj => ?_, fun j hj => f.go j (by rw [narrow_len hi] at hj; exact hj)⟩, c⟩
      rw [narrow_len hi] at hj
      rw [narrow_at hi]
      split
      · rename_i h
        subst h
        rw [e]
        exact List.mem_singleton.mpr rfl
      · exact f.at_ j hj
    )) only [↓bx_true]

theorem narrow_ne {L : List (List Str)} {i : Nat} {z : Str} : narrowL L i z ≠ [] := by
  unfold narrowL
  simp
theorem mem_poss {L : List (List Str)} {i : Nat} (hi : i < L.length) {z : Str} : z ∈ possL adj L i ↔ ∃ row, FitsC adj L row ∧ row.getD i e0 = z := by
  unfold possL
  rw [List.mem_filter, decide_eq_true_eq]
  constructor
  · rintro ⟨h1, h2⟩
    obtain ⟨row, f⟩ := (cnt_pos narrow_ne).mp h2
    exact ⟨row, (fits_narrow hi h1 row).mp f⟩
  · rintro ⟨row, f, rfl⟩
    have h1 := f.1.at_ i hi
    exact ⟨h1, (cnt_pos narrow_ne).mpr ⟨row, (fits_narrow hi h1 row).mpr ⟨f, rfl⟩⟩⟩
/-- the first one by the rooms' order -/
def firstGo (adj : Str → Str → Bool) (L : List (List Str)) : Nat → List (List Str)
  | 0 => L
  | n + 1 => narrowL (firstGo adj L n) n ((possL adj (firstGo adj L n) n).getD 0 e0)
def firstRow (adj : Str → Str → Bool) (L : List (List Str)) : List Str := (firstGo adj L L.length).map fun l => l.getD 0 e0
theorem poss_get {L : List (List Str)} {i : Nat} (hi : i < L.length) {row : List Str} (f : FitsC adj L row) : 0 < (possL adj L i).length ∧ (possL adj L i).getD 0 e0 ∈ possL adj L i := by
  have h : row.getD i e0 ∈ possL adj L i := (mem_poss hi).mpr ⟨row, f, rfl⟩
  have hp := List.length_pos_of_mem h
  refine ⟨hp, ?_⟩
  rw [List.getD_eq_getElem?_getD, List.getElem?_eq_getElem hp]
  exact List.getElem_mem _
theorem firstGo_len {L : List (List Str)} : ∀ {n : Nat}, n ≤ L.length → (firstGo adj L n).length = L.length
  | 0, _ => rfl
  | n + 1, h => by
    have ih := firstGo_len (L := L) (n := n) (by omega)
    unfold firstGo
    rw [narrow_len (by omega), ih]
/-- some round that fits goes on fitting -/
theorem firstGo_fits {L : List (List Str)} {row : List Str} (f : FitsC adj L row) : ∀ {n : Nat}, n ≤ L.length → ∃ r, FitsC adj (firstGo adj L n) r ∧ FitsC adj L r ∧ ∀ i, i < n → (firstGo adj L n).getD i [] = [r.getD i e0]
  | 0, _ => ⟨row, f, f, fun i hi => absurd hi (by omega)⟩
  | n + 1, h => by
    obtain ⟨r, f1, f2, f3⟩ := firstGo_fits f (n := n) (by omega)
    have ln := firstGo_len (L := L) (adj := adj) (n := n) (by omega)
    have hn : n < (firstGo adj L n).length := by omega
    obtain ⟨_, hm⟩ := poss_get hn f1
    obtain ⟨r2, g1, g2⟩ := (mem_poss hn).mp hm
    have hz := g1.1.at_ n hn
    rw [g2] at hz
    have sub : FitsC adj L r2 := by
      refine ⟨⟨by rw [g1.1.len, ln], fun i hi => ?_, fun i hi => g1.1.go i (by omega)⟩, g1.2⟩
      have a := g1.1.at_ i (by omega)
      by_cases hin : i < n
      · rw [f3 i hin] at a
        rw [List.mem_singleton.mp a]
        exact f2.1.at_ i hi
      · have : ∀ m, m ≤ i → m ≤ L.length → (firstGo adj L m).getD i [] = L.getD i [] := by
          intro m
          induction m with
          | zero => intro _ _; rfl
          | succ m ih =>
            intro h1 h2
            unfold firstGo
            rw [narrow_at (by rw [firstGo_len (by omega)]; omega), if_neg (by omega)]
            exact ih (by omega) (by omega)
        rw [this n (by omega) (by omega)] at a
        exact a
    refine ⟨r2, ?_, sub, fun i hi => ?_⟩
    · unfold firstGo
      exact (fits_narrow hn hz r2).mpr ⟨g1, g2⟩
    · unfold firstGo
      rw [narrow_at hn]
      split
      · rename_i e
        rw [e, g2]
      · have hin : i < n := by omega
        have a := g1.1.at_ i (by omega)
        rw [f3 i hin] at a ⊢
        rw [List.mem_singleton.mp a]
/-- the first one fits -/
theorem first_fits {L : List (List Str)} {row : List Str} (f : FitsC adj L row) : FitsC adj L (firstRow adj L) := by
  refine bx_of ?_
  simp (disch := with_unfolding_all (
    obtain ⟨r, f1, f2, f3⟩ := firstGo_fits f (n := L.length) (Nat.le_refl _)
    have : firstRow adj L = r := by
      unfold firstRow
      have ln := firstGo_len (L := L) (adj := adj) (Nat.le_refl L.length)
      refine List.ext_getElem (by rw [List.length_map, ln, f2.1.len]) fun i h1 h2 => ?_
      have hi : i < L.length := by rw [List.length_map] at h1; omega
      have e := f3 i hi
      rw [List.getD_eq_getElem?_getD, List.getElem?_eq_getElem (by omega)] at e
      have e : (firstGo adj L L.length)[i]'(by omega) = [r.getD i e0] := e
      rw [List.getElem_map, e]
      show r.getD i e0 = r[i]
      rw [List.getD_eq_getElem?_getD, List.getElem?_eq_getElem h2]
      rfl
    rw [this]
    exact f2
    )) only [↓bx_true]

end
end Dk

/-! sightings refused -/
namespace Dk
open PySem L2 RZ L3
inductive SnW where
  | ok | num (n : Int) | no (z : Str)
def seenGo (ns : List Str) : List Seen → SnW
  | [] => .ok
  | s :: l => if -1000000000 ≤ s.1 ∧ s.1 ≤ 1000000000 then (if s.2.1 ∈ ns then seenGo ns l else .no s.2.1) else .num s.1
def seenW (ns : List Str) (n : Int) (l : List Seen) : SnW := if 1 ≤ n ∧ n ≤ 6 then seenGo ns l else .num n
def stepM (adj : Str → Str → Bool) (F : List (List Str)) (l : List Str) : List (List Str) := F ++ [l.filter fun r => ((F.getD (F.length - 1) []).map fun o => adj o r).any id]
def headM (L : List (List Str)) (z : Str) : List Str := if z ∈ L.headD [] then [z] else []
def misE (adj : Str → Str → Bool) (L : List (List Str)) (z : Str) : List (List Str) := L.tail.foldl (stepM adj) [headM L z]
theorem foldM_snoc {adj : Str → Str → Bool} {rest : List (List Str)} {t : Nat} (h : t < rest.length) (F : List (List Str)) : (rest.take (t + 1)).foldl (stepM adj) F = stepM adj ((rest.take t).foldl (stepM adj) F) rest[t] := by
  rw [List.take_succ, List.getElem?_eq_getElem h, List.foldl_append]
  rfl
def SnW.word : SnW → Str
  | .ok => "" | .num _ => "BadNumber" | .no _ => "NoRoom"
def SnW.fld : SnW → PyData
  | .ok => .none | .num n => .int n | .no z => .str z
end Dk

/-! the law's own rows: forth and back -/
namespace Dk
open PySem L2 RZ L3
def rowZ (s : Sc) (T : Nat) (b : Int) : List Str := rowAt s (b % (T : Int)).toNat
/-- the meetings, where there are any -/
def mtOut (b : Bool) (sp : List Str) (m : Nat) (l : List Str) : List Str := if b = true then meetOut sp m l else l
def mtIn (b : Bool) (sp : List Str) (i m : Nat) (l : List Str) : List Str := if b = true then meetIn sp i m l else l
/-- who bears a post -/
def bearer (s : Sc) (T : Nat) (b : Int) (p : Post) : Str := (rowZ s T b).getD ((s.ps.map (·.1)).idxOf p.1) e0
/-- the post of who stands at a place, or none -/
def postD (s : Sc) (i : Nat) : PyData := if h : i < s.ps.length then .str s.ps[i].1 else .none
end Dk

/-! the changes of a span, done again and again -/
namespace Dk
open PySem L2 RZ L3
/-- so many beats on, from a beat -/
def goL (s : Sc) (a : Int) : Nat → List Str → List Str
  | 0, l => l
  | n + 1, l => changeL s (a + (n + 1 : Nat)) (goL s a n l)
def rowK (s : Sc) (k : Nat) : List Str := rowAt s (k * spanOf s)
def qAt (s : Sc) (k : Nat) : List Nat := (firstOf s).map fun w => (rowK s k).idxOf w
def itP (p : List Nat) : Nat → List Nat
  | 0 => p
  | k + 1 => (itP p k).map fun a => p.getD a 0
/-! every order of at most six comes back within six turns -/
def permN : List Nat → Nat → List (List Nat)
  | _, 0 => [[]]
  | a, n + 1 => a.flatMap fun x => (permN (a.erase x) n).map fun l => x :: l
def timesAt (p : List Nat) : Option Nat := (List.range 6).find? fun k => itP p k == List.range p.length
/-- six, by the first one: the kernel's memory is given back between -/
def backAt (x : Nat) : Bool := (permN ((List.range 6).erase x) 5).all fun l => (timesAt (x :: l)).isSome
end Dk

/-! steps -/
namespace Dk
open PySem L2 RZ L3
def hit (a b : Str) (t : Int) (p : Post) : Bool := decide (roomAt p.2.1 (t - 1 - p.2.2) = b) && decide (roomAt p.2.1 (t - p.2.2) = a)
def crossOf (s : Sc) (a b : Str) (t : Int) : Bool := !decide (a = b) && (s.ps.map (hit a b t)).any id
def onwardOf (s : Sc) (T : Nat) (z : Str) (t : Int) : List Str := (s.ns.filter fun y => decide ((z, y) ∈ s.ds) || decide (z = y)).filter fun y => (!decide (y ∈ litOf s (rowZ s T (t + 1)) ((t + 1) % (T : Int)))) && !crossOf s z y (t + 1)
end Dk

/-! scenes without changes; some beats later -/
namespace Dk
open PySem L2 RZ L3
structure Plain (s : Sc) : Prop where
  m : s.meet = false
  r : s.rel = 0
def lateP (m : Int) (p : Post) : Post := (p.1, p.2.1, (p.2.2 + m) % (p.2.1.length : Int))
def lateS (m : Int) (s : Sc) : Sc := { s with ps := s.ps.map (lateP m) }
end Dk

/-! rounds turned about -/
namespace Dk
open PySem L2 RZ L3
def turnL : List Str → List Str
  | [] => []
  | a :: l => a :: l.reverse
def aboutP (p : Post) : Post := (p.1, turnL p.2.1, -p.2.2 % (p.2.1.length : Int))
def aboutS (s : Sc) : Sc := { s with ps := s.ps.map aboutP }
end Dk

/-! what was truly seen fits -/
namespace Dk
open PySem L2 RZ L3
def TrueS (w : List Str) (s : Seen) : Prop := s.2.2 = decide (roomAt w s.1 = s.2.1)
section
variable {ns w : List Str} {ds : List (Str × Str)} {limit : Nat} {l : List Seen}
theorem cnt_rows {adj : Str → Str → Bool} {L : List (List Str)} (h : L ≠ []) : ((closedE adj (rowsE adj L [[]])).length : Int) = cntOf adj L := by
  cases L with
  | nil => exact absurd rfl h
  | cons f r => exact closed_cnt adj f r
theorem row_ext {a b : List Str} (hl : a.length = b.length) (h : ∀ i, i < b.length → a.getD i e0 = b.getD i e0) : a = b := by
  refine List.ext_getElem hl fun i h1 h2 => ?_
  have := h i h2
  rw [List.getD_eq_getElem?_getD, List.getElem?_eq_getElem h1, List.getD_eq_getElem?_getD, List.getElem?_eq_getElem h2] at this
  exact this
theorem one_first {adj : Str → Str → Bool} {L : List (List Str)} (f : FitsC adj L w) (h : ∀ i, i < L.length → (possL adj L i).length ≤ 1) : firstRow adj L = w := by
  have g := first_fits f
  refine row_ext (by rw [g.1.len, f.1.len]) fun i hi => ?_
  rw [f.1.len] at hi
  have m1 := (mem_poss hi).mpr ⟨_, g, rfl⟩
  have m2 := (mem_poss hi).mpr ⟨_, f, rfl⟩
  have := h i hi
  generalize possL adj L i = P at m1 m2 this
  match P, this with
  | [], _ => cases m1
  | [x], _ => rw [List.mem_singleton.mp m1, List.mem_singleton.mp m2]
/-- each place was seen -/
def CovS (w : List Str) (l : List Seen) : Prop := ∀ x : Int, ∃ s ∈ l, s.1 % (w.length : Int) = x % (w.length : Int) ∧ s.2.2 = true ∧ s.2.1 = roomAt w s.1
def aboutSn (s : Seen) : Seen := (-s.1, s.2.1, s.2.2)
end
end Dk

/-! rounds told from what was seen: what is told; tables that show that none fits -/
namespace Dk
open PySem L2 RZ L3
inductive ReadW where
  | none (tab : List (List (List Str)))
  | many (a b : List Str) (i : Nat)
  | one (a : List Str)
def readE (adj : Str → Str → Bool) (ns : List Str) (L : List (List Str)) : ReadW :=
  if cntOf adj L = 0 then .none (ns.map (misE adj L)) else
    match (List.range L.length).find? fun i => decide (1 < (possL adj L i).length) with
    | some i => .many (firstRow adj (narrowL L i ((possL adj L i).getD 0 e0))) (firstRow adj (narrowL L i ((possL adj L i).getD 1 e0))) i
    | Option.none => .one (firstRow adj L)
abbrev rowD (l : List Str) : PyData := .tuple (l.map PyData.str)
abbrev lsD (l : List Str) : PyData := .list (l.map PyData.str)
abbrev llD (L : List (List Str)) : PyData := .list (L.map lsD)
abbrev tabD (t : List (List (List Str))) : PyData := .list (t.map llD)
abbrev tblR (t : List (List (List Str))) : Rep := iLst (t.map llR)
def readD : ReadW → PyData
  | .none t => .tuple [.str "none", tabD t]
  | .many a b i => .tuple [.str "many", rowD a, rowD b, .int (i : Nat)]
  | .one a => .tuple [.str "one", rowD a]
def readR (K : PySem.W.Frag) : ReadW → Rep
  | .none t => aTup K [aStr "none", tblR t]
  | .many a b i => aTup K [aStr "many", aTup K (a.map aStr), aTup K (b.map aStr), iInt (i : Nat)]
  | .one a => aTup K [aStr "one", aTup K (a.map aStr)]
theorem findN_at {p : Nat → Bool} {n i : Nat} (hi : i < n) (hp : p i = true) (h : ∀ j, j < i → p j = false) : (List.range n).find? p = some i := by
  rw [List.find?_eq_some_iff_getElem]
  refine ⟨hp, i, by simpa using hi, by simp, fun j hj => ?_⟩
  rw [List.getElem_range, h j hj]
  rfl
theorem findN_no {p : Nat → Bool} {n : Nat} (h : ∀ j, j < n → p j = false) : (List.range n).find? p = none := by
  rw [List.find?_eq_none]
  intro x hx
  rw [h x (List.mem_range.mp hx)]
  decide
/-- the steps from a row to the one behind it -/
def stepA (adj : Str → Str → Bool) (L rows : List (List Str)) (i : Nat) : Bool := (L.getD (i + 1) []).all fun r => !((rows.getD i []).any fun o => adj o r) || decide (r ∈ rows.getD (i + 1) [])
/-- rows that show that no round with z first fits -/
def areB (adj : Str → Str → Bool) (L : List (List Str)) (z : Str) (rows : List (List Str)) : Bool :=
  decide (rows.length = L.length) && (decide (rows.getD 0 [] = headM L z) && (((List.range (L.length - 1)).all (stepA adj L rows)) && !((rows.getD (rows.length - 1) []).any fun o => adj o z)))
def misB (adj : Str → Str → Bool) (ns : List Str) (L : List (List Str)) (tab : List (List (List Str))) : Bool := decide (tab.length = ns.length) && (List.zip ns tab).all fun p => areB adj L p.1 p.2
theorem at_m1T {L : List (List Str)} (h : 1 ≤ L.length) : atI (L.map lsR) (-1) = some (lsR (L.getD (L.length - 1) [])) := by
  unfold atI ixN
  rw [List.length_map, if_neg (by decide), if_pos (by omega)]
  have e : ((-1 : Int) + (L.length : Int)).toNat = L.length - 1 := by omega
  rw [e]
  show (L.map lsR)[L.length - 1]? = _
  rw [List.getElem?_map, List.getD_eq_getElem?_getD, List.getElem?_eq_getElem (by omega)]
  rfl
theorem all_filt {α : Type} (p q : α → Bool) : ∀ l : List α, (l.filter p).all q = l.all fun x => !p x || q x
  | [] => rfl
  | x :: l => by
    rw [List.filter_cons, List.all_cons, ← all_filt p q l]
    cases h : p x <;> simp
theorem any_mem {l : List Str} {f g : Str → Bool} (h : ∀ x ∈ l, f x = g x) : (l.map f).any id = l.any g := by
  rw [List.any_map, Bool.eq_iff_iff, List.any_eq_true, List.any_eq_true]
  constructor
  · rintro ⟨x, hx, h2⟩; exact ⟨x, hx, (h x hx) ▸ h2⟩
  · rintro ⟨x, hx, h2⟩; exact ⟨x, hx, by show f x = true; rw [h x hx]; exact h2⟩
theorem near_at {ns : List Str} {ds : List (Str × Str)} (sym : ∀ a b, (a, b) ∈ ds → (b, a) ∈ ds) {o r : Str} (ho : o ∈ ns) : decide (o ∈ (ns.filter fun y => decide ((r, y) ∈ ds)) ++ [r]) = handP ds o r := by
  unfold handP
  rw [Bool.eq_iff_iff, decide_eq_true_eq, Bool.or_eq_true, decide_eq_true_eq, decide_eq_true_eq, List.mem_append, List.mem_filter, List.mem_singleton, decide_eq_true_eq]
  exact ⟨fun h => h.imp (fun h => sym _ _ h.2) id, fun h => h.imp (fun h => ⟨ho, sym _ _ h⟩) id⟩
theorem any_swap {ns last : List Str} {ds : List (Str × Str)} (sym : ∀ a b, (a, b) ∈ ds → (b, a) ∈ ds) {z : Str} (hl : ∀ o ∈ last, o ∈ ns) : (((ns.filter fun y => decide ((z, y) ∈ ds)) ++ [z]).map fun o => decide (o ∈ last)).any id = last.any fun o => handP ds o z := by
  rw [List.any_map, Bool.eq_iff_iff, List.any_eq_true, List.any_eq_true]
  constructor
  · rintro ⟨x, hx, h2⟩
    have hx2 : x ∈ last := of_decide_eq_true h2
    exact ⟨x, hx2, by rw [← near_at sym (hl x hx2)]; exact decide_eq_true hx⟩
  · rintro ⟨x, hx, h2⟩
    rw [← near_at sym (hl x hx)] at h2
    exact ⟨x, of_decide_eq_true h2, decide_eq_true hx⟩
theorem rest_bad {α : Type} {l : List α} {f : α → Bool} {x : α} (hx : x ∈ l) (h : f x = false) : l.all f = false := List.all_eq_false.mpr ⟨x, hx, by rw [h]; decide⟩
theorem cnt_nn {adj : Str → Str → Bool} {L : List (List Str)} (h : L ≠ []) : 0 ≤ cntOf adj L := by
  rw [← cnt_rows h]
  omega
theorem doors_sym {ds : List (Str × Str)} (a b : Str) (h : (a, b) ∈ doorsOf ds) : (b, a) ∈ doorsOf ds := (mem_doors ds).mpr ((mem_doors ds).mp h).symm
theorem hand_sym {ds : List (Str × Str)} (a b : Str) : handP (doorsOf ds) a b = handP (doorsOf ds) b a := by
  unfold handP
  rw [Bool.eq_iff_iff, Bool.or_eq_true, Bool.or_eq_true, decide_eq_true_eq, decide_eq_true_eq, decide_eq_true_eq, decide_eq_true_eq]
  exact ⟨fun h => h.imp (doors_sym _ _) Eq.symm, fun h => h.imp (doors_sym _ _) Eq.symm⟩
theorem hand_mem {ns : List Str} {ds : List (Str × Str)} {o r : Str} (ho : o ∈ ns) (hr : r ∈ ns) : r ∈ handOf ns ds o ↔ handP (doorsOf ds) o r = true := by
  rw [hand_pq o r ho hr]
  unfold handQ
  rw [decide_eq_true_eq]
theorem hand_in {ns : List Str} {ds : List (Str × Str)} {o r : Str} (h : r ∈ handOf ns ds o) : r ∈ ns := (List.mem_filter.mp h).1
/-- the same steps by the law's own words -/
theorem stepA_law {ns : List Str} {ds : List (Str × Str)} {L rows : List (List Str)} {i : Nat} (hL : ∀ r ∈ L.getD (i + 1) [], r ∈ ns) (hr : ∀ o ∈ rows.getD i [], o ∈ ns) :
    stepA (handP (doorsOf ds)) L rows i = (rows.getD i []).all fun o => ((handOf ns ds o).filter fun r => decide (r ∈ L.getD (i + 1) [])).all fun r => decide (r ∈ rows.getD (i + 1) []) := by
  refine bx_of ?_
  simp (disch := with_unfolding_all (
    unfold stepA
    rw [Bool.eq_iff_iff, List.all_eq_true, List.all_eq_true]
    constructor
    · intro h o ho
      rw [List.all_eq_true]
      intro r hr2
      obtain ⟨h1, h2⟩ := List.mem_filter.mp hr2
      have h2 := of_decide_eq_true h2
      have h3 := h r h2
      rw [Bool.or_eq_true] at h3
      rcases h3 with h3 | h3
      · rw [show ((rows.getD i []).any fun o => handP (doorsOf ds) o r) = true from List.any_eq_true.mpr ⟨o, ho, (hand_mem (hr o ho) (hL r h2)).mp h1⟩] at h3
        cases h3
      · exact h3
    · intro h r hr2
      rw [Bool.or_eq_true]
      cases hA : (rows.getD i []).any fun o => handP (doorsOf ds) o r with
      | false => exact .inl rfl
      | true =>
        obtain ⟨o, ho, h1⟩ := List.any_eq_true.mp hA
        have h2 := h o ho
        rw [List.all_eq_true] at h2
        exact .inr (h2 r (List.mem_filter.mpr ⟨(hand_mem (hr o ho) (hL r hr2)).mpr h1, decide_eq_true hr2⟩))
    )) only [↓bx_true]

theorem last_law {ns last : List Str} {ds : List (Str × Str)} {z : Str} (hz : z ∈ ns) (hl : ∀ o ∈ last, o ∈ ns) : ((handOf ns ds z).map fun r => decide (r ∈ last)).any id = last.any fun o => handP (doorsOf ds) o z := by
  rw [List.any_map, Bool.eq_iff_iff, List.any_eq_true, List.any_eq_true]
  constructor
  · rintro ⟨r, h1, h2⟩
    exact ⟨r, of_decide_eq_true h2, by rw [hand_sym]; exact (hand_mem hz (hand_in h1)).mp h1⟩
  · rintro ⟨r, h1, h2⟩
    exact ⟨r, (hand_mem hz (hl r h1)).mpr (by rw [hand_sym]; exact h2), decide_eq_true h1⟩
/-- rows whose rooms are rooms -/
def RowsIn (ns : List Str) (n m : Nat) (rows : List (List Str)) : Prop := rows ≠ [] ∧ rows.length ≤ n ∧ ∀ l ∈ rows, l.length ≤ m ∧ ∀ z ∈ l, z ∈ ns
theorem fold_mis {adj : Str → Str → Bool} {ns : List Str} : ∀ (rest F : List (List Str)), (∀ l ∈ F, l.length ≤ 8 ∧ ∀ z ∈ l, z ∈ ns) → (∀ l ∈ rest, l.length ≤ 8 ∧ ∀ z ∈ l, z ∈ ns) →
    (rest.foldl (stepM adj) F).length = F.length + rest.length ∧ ∀ l ∈ rest.foldl (stepM adj) F, l.length ≤ 8 ∧ ∀ z ∈ l, z ∈ ns
  | [], F, h, _ => ⟨rfl, h⟩
  | r :: rest, F, h, hr => by
    obtain ⟨h1, h2⟩ := fold_mis (adj := adj) rest (stepM adj F r) (fun l hl => by
      unfold stepM at hl
      rcases List.mem_append.mp hl with hl | hl
      · exact h l hl
      · rw [List.mem_singleton.mp hl]
        have := hr r (.head _)
        exact ⟨Nat.le_trans (List.length_filter_le _ _) this.1, fun z hz => this.2 z (List.mem_filter.mp hz).1⟩) fun l hl => hr l (.tail _ hl)
    refine ⟨?_, h2⟩
    rw [List.foldl_cons, h1]
    unfold stepM
    rw [List.length_append, List.length_cons, List.length_cons, List.length_nil]
    omega
theorem head_in {ns : List Str} {L : List (List Str)} {z : Str} (hz : z ∈ ns) : (headM L z).length ≤ 8 ∧ ∀ y ∈ headM L z, y ∈ ns := by
  unfold headM
  split
  · exact ⟨by simp, fun y hy => by rw [List.mem_singleton.mp hy]; exact hz⟩
  · exact ⟨by decide, fun y hy => nomatch hy⟩
theorem mis_in {adj : Str → Str → Bool} {ns : List Str} {L : List (List Str)} {z : Str} (hL : ∀ l ∈ L, l.length ≤ 8 ∧ ∀ z ∈ l, z ∈ ns) (l1 : 1 ≤ L.length) (l6 : L.length ≤ 6) (hz : z ∈ ns) : RowsIn ns 6 8 (misE adj L z) := by
  obtain ⟨f0, rest, rfl⟩ : ∃ f r, L = f :: r := by
    cases L with
    | nil => exact absurd l1 (by decide)
    | cons f r => exact ⟨f, r, rfl⟩
  obtain ⟨h1, h2⟩ := fold_mis (adj := adj) rest [headM (f0 :: rest) z] (fun l hl => by rw [List.mem_singleton.mp hl]; exact head_in hz) fun l hl => hL l (.tail _ hl)
  have h1 : (misE adj (f0 :: rest) z).length = 1 + rest.length := h1
  rw [List.length_cons] at l6
  exact ⟨fun e => by rw [e] at h1; simp at h1; omega, by omega, h2⟩
end Dk

/-! how many fit, and what is told; a table that is told shows that none fits -/
namespace Dk
open PySem L2 RZ L3
section
variable {adj : Str → Str → Bool}
theorem grow_nd {rooms row : List Str} (h : rooms.Nodup) : (growE adj rooms row).Nodup := by
  unfold growE
  exact List.Pairwise.map _ (fun a b hab e => hab (List.cons.inj (List.append_cancel_left e)).1) (List.Pairwise.filter _ h)
theorem rowsE_nd : ∀ {L F : List (List Str)}, (∀ l ∈ L, l.Nodup) → F.Nodup → (rowsE adj L F).Nodup
  | [], F, _, h => h
  | l :: L, F, hL, h => by
    show (rowsE adj L (F.flatMap (growE adj l))).Nodup
    refine rowsE_nd (fun l hl => hL l (.tail _ hl)) ?_
    refine List.pairwise_flatMap.mpr ⟨fun a _ => grow_nd (hL l (.head _)), h.imp fun hab x hx y hy e => hab ?_⟩
    obtain ⟨z, _, rfl⟩ := List.mem_map.mp hx
    obtain ⟨z', _, rfl⟩ := List.mem_map.mp hy
    exact (List.append_inj' e rfl).1
theorem mem_closed {L : List (List Str)} {row : List Str} : row ∈ closedE adj (rowsE adj L [[]]) ↔ FitsC adj L row := by
  unfold closedE FitsC
  rw [List.mem_filter, mem_rows _ L rfl]
theorem closed_nd {L : List (List Str)} (h : ∀ l ∈ L, l.Nodup) : (closedE adj (rowsE adj L [[]])).Nodup := List.Pairwise.filter _ (rowsE_nd h (List.pairwise_singleton _ _))
theorem cnt_two {L : List (List Str)} (hL : L ≠ []) {a b : List Str} (fa : FitsC adj L a) (fb : FitsC adj L b) (ne : a ≠ b) : 1 < cntOf adj L := by
  rw [← cnt_rows hL]
  have ha := mem_closed.mpr fa
  have hb := mem_closed.mpr fb
  generalize closedE adj (rowsE adj L [[]]) = C at ha hb
  match C, ha, hb with
  | [x], ha, hb => exact absurd ((List.mem_singleton.mp ha).trans (List.mem_singleton.mp hb).symm) ne
  | x :: y :: C, _, _ => simp only [List.length_cons]; omega
theorem cnt_single {L : List (List Str)} (hL : L ≠ []) (nd : ∀ l ∈ L, l.Nodup) (h : ∀ a b, FitsC adj L a → FitsC adj L b → a = b) : cntOf adj L ≤ 1 := by
  rw [← cnt_rows hL]
  have hn := closed_nd (adj := adj) nd
  have hm : ∀ row, row ∈ closedE adj (rowsE adj L [[]]) → FitsC adj L row := fun row => mem_closed.mp
  generalize closedE adj (rowsE adj L [[]]) = C at hn hm
  match C, hn, hm with
  | [], _, _ => exact Int.le_of_lt (by decide)
  | [x], _, _ => exact Int.le_refl _
  | x :: y :: C, hn, hm =>
    rw [List.nodup_cons] at hn
    exact absurd (by rw [h x y (hm x (.head _)) (hm y (.tail _ (.head _)))]; exact .head _) hn.1
/-- the rows told for a first room, behind t steps -/
def misT (adj : Str → Str → Bool) (f0 : List Str) (rest : List (List Str)) (z : Str) (t : Nat) : List (List Str) := (rest.take t).foldl (stepM adj) [headM (f0 :: rest) z]
theorem misT_next {f0 : List Str} {rest : List (List Str)} {z : Str} {t : Nat} (h : t < rest.length) : misT adj f0 rest z (t + 1) = stepM adj (misT adj f0 rest z t) rest[t] := foldM_snoc h _
theorem misT_len {f0 : List Str} {rest : List (List Str)} {z : Str} : ∀ {t : Nat}, t ≤ rest.length → (misT adj f0 rest z t).length = t + 1
  | 0, _ => rfl
  | t + 1, h => by
    rw [misT_next h]
    unfold stepM
    rw [List.length_append, misT_len (by omega)]
    rfl
theorem misT_get {f0 : List Str} {rest : List (List Str)} {z : Str} {t : Nat} (h : t < rest.length) (j : Nat) : (misT adj f0 rest z (t + 1)).getD j [] = if j < t + 1 then (misT adj f0 rest z t).getD j [] else if j = t + 1 then rest[t].filter fun r => (((misT adj f0 rest z t).getD t []).map fun o => adj o r).any id else [] := by
  rw [misT_next h]
  unfold stepM
  have hl := misT_len (adj := adj) (f0 := f0) (rest := rest) (z := z) (t := t) (by omega)
  rw [getD_snoc, hl]
  rfl
theorem misT_head {f0 : List Str} {rest : List (List Str)} {z : Str} : ∀ {t : Nat}, t ≤ rest.length → (misT adj f0 rest z t).getD 0 [] = headM (f0 :: rest) z
  | 0, _ => rfl
  | t + 1, h => by
    rw [misT_get h, if_pos (by omega), misT_head (by omega)]
theorem misT_step {f0 : List Str} {rest : List (List Str)} {z : Str} : ∀ {t : Nat}, t ≤ rest.length → ∀ j, j < t → stepA adj (f0 :: rest) (misT adj f0 rest z t) j = true
  | 0, _, j, hj => absurd hj (Nat.not_lt_zero j)
  | t + 1, h, j, hj => by
    unfold stepA
    rw [misT_get h, misT_get h, if_pos (by omega)]
    rcases Nat.lt_or_ge j t with h2 | h2
    · rw [if_pos (by omega)]
      exact misT_step (by omega) j h2
    · have e : j = t := by omega
      subst e
      rw [if_neg (by omega), if_pos rfl, List.all_eq_true]
      intro r hr
      rw [List.getD_cons_succ, List.getD_eq_getElem?_getD, List.getElem?_eq_getElem h] at hr
      have hr : r ∈ rest[j] := hr
      rw [Bool.or_eq_true]
      cases hA : ((misT adj f0 rest z j).getD j []).any fun o => adj o r with
      | false => exact .inl rfl
      | true => exact .inr (decide_eq_true (List.mem_filter.mpr ⟨hr, by rw [List.any_map]; exact hA⟩))
theorem misT_path {f0 : List Str} {rest : List (List Str)} {z : Str} : ∀ {t : Nat}, t ≤ rest.length → ∀ o ∈ (misT adj f0 rest z t).getD t [], ∃ row ∈ rowsE adj ((f0 :: rest).take (t + 1)) [[]], row ≠ [] ∧ headZ row = z ∧ lastZ row = o
  | 0, _, o, ho => by
    have ho : o ∈ headM (f0 :: rest) z := ho
    unfold headM at ho
    split at ho
    · rename_i hz
      obtain rfl := List.mem_singleton.mp ho
      refine ⟨[o], ?_, by simp, rfl, rfl⟩
      show [o] ∈ ([[]] : List (List Str)).flatMap (growE adj f0)
      rw [List.mem_flatMap]
      refine ⟨[], .head _, ?_⟩
      rw [grow_nil]
      exact List.mem_map.mpr ⟨o, hz, rfl⟩
    · cases ho
  | t + 1, h, o, ho => by
    rw [misT_get h, if_neg (by omega), if_pos rfl, List.mem_filter, List.any_map] at ho
    obtain ⟨h1, h2⟩ := ho
    obtain ⟨p, hp, hap⟩ := List.any_eq_true.mp h2
    obtain ⟨row, r1, r2, r3, r4⟩ := misT_path (t := t) (by omega) p hp
    refine ⟨row ++ [o], ?_, by simp, ?_, last_snoc row o⟩
    · rw [show (f0 :: rest).take (t + 1 + 1) = (f0 :: rest).take (t + 1) ++ [rest[t]] from by
        rw [List.take_succ (i := t + 1), List.getElem?_cons_succ, List.getElem?_eq_getElem h]
        rfl, rowsE_snoc, List.mem_flatMap]
      refine ⟨row, r1, List.mem_map.mpr ⟨o, List.mem_filter.mpr ⟨h1, ?_⟩, rfl⟩⟩
      rw [Bool.or_eq_true]
      exact .inr (by rw [r4]; exact hap)
    · cases row with
      | nil => exact absurd rfl r2
      | cons x row => exact r3
theorem mis_told {f0 : List Str} {rest : List (List Str)} {ns : List Str} (h : cntOf adj (f0 :: rest) = 0) : misB adj ns (f0 :: rest) (ns.map (misE adj (f0 :: rest))) = true := by
  refine bx_of ?_
  simp (disch := with_unfolding_all (
    unfold misB
    rw [List.length_map, decide_eq_true rfl, Bool.true_and, List.all_eq_true]
    rintro ⟨z, rows⟩ hp
    obtain ⟨i, hi, e⟩ := List.mem_iff_getElem.mp hp
    rw [List.getElem_zip, List.getElem_map] at e
    have e1 := congrArg Prod.fst e
    have e2 := congrArg Prod.snd e
    dsimp only at e1 e2
    rw [e1] at e2
    rw [← e2]
    dsimp only
    have et : misE adj (f0 :: rest) z = misT adj f0 rest z rest.length := by
      unfold misT
      rw [List.take_length]
      rfl
    rw [et]
    unfold areB
    rw [misT_len (Nat.le_refl _), misT_head (Nat.le_refl _), decide_eq_true (show rest.length + 1 = (f0 :: rest).length from rfl), decide_eq_true rfl, Bool.true_and, Bool.true_and, Bool.and_eq_true]
    refine ⟨List.all_eq_true.mpr fun j hj => misT_step (Nat.le_refl _) j (by have := List.mem_range.mp hj; simpa using this), ?_⟩
    cases hA : (((misT adj f0 rest z rest.length).getD (rest.length + 1 - 1) []).any fun o => adj o z) with
    | false => rfl
    | true =>
      obtain ⟨o, ho, hoz⟩ := List.any_eq_true.mp hA
      obtain ⟨row, r1, r2, r3, r4⟩ := misT_path (Nat.le_refl _) o ho
      rw [List.take_of_length_le (by simp)] at r1
      have f : FitsC adj (f0 :: rest) row := mem_closed.mp (List.mem_filter.mpr ⟨r1, by rw [r3, r4]; exact hoz⟩)
      have := (cnt_pos (adj := adj) (L := f0 :: rest) (by simp)).mpr ⟨row, f⟩
      omega
    )) only [↓bx_true]

/-- what is told goes with how many fit -/
def wordE (c : Int) : Str := if 1 < c then "many" else if c = 0 then "none" else "one"
def ReadW.word : ReadW → Str
  | .none _ => "none"
  | .many _ _ _ => "many"
  | .one _ => "one"
theorem poss_fit {L : List (List Str)} {i : Nat} (hi : i < L.length) {z : Str} (hz : z ∈ possL adj L i) : FitsC adj L (firstRow adj (narrowL L i z)) ∧ (firstRow adj (narrowL L i z)).getD i e0 = z := by
  obtain ⟨row, f, e⟩ := (mem_poss hi).mp hz
  have hzL : z ∈ L.getD i [] := by rw [← e]; exact f.1.at_ i hi
  exact (fits_narrow hi hzL _).mp (first_fits ((fits_narrow hi hzL row).mpr ⟨f, e⟩))
theorem read_facts {ns : List Str} {L : List (List Str)} (hL : L ≠ []) (nd : ∀ l ∈ L, l.Nodup) : (readE adj ns L).word = wordE (cntOf adj L) ∧ match readE adj ns L with
    | .none t => t = ns.map (misE adj L) ∧ cntOf adj L = 0
    | .many a b i => FitsC adj L a ∧ FitsC adj L b ∧ i < L.length ∧ a.getD i e0 ≠ b.getD i e0
    | .one a => FitsC adj L a := by
  refine bx_of ?_
  simp (disch := with_unfolding_all (
    have c0 := cnt_nn (adj := adj) hL
    unfold readE
    split
    · rename_i h
      exact ⟨by rw [h]; rfl, rfl, h⟩
    · rename_i h
      obtain ⟨row, fit⟩ := (cnt_pos (adj := adj) hL).mp (by omega)
      split
      · rename_i i hf
        obtain ⟨hp, j, hj, ej, _⟩ := List.find?_eq_some_iff_getElem.mp hf
        rw [List.getElem_range] at ej
        subst ej
        have hi : j < L.length := by simpa using hj
        have h1 : 1 < (possL adj L j).length := of_decide_eq_true hp
        have pn : (possL adj L j).Nodup := by
          unfold possL
          refine List.Pairwise.filter _ ?_
          rw [List.getD_eq_getElem?_getD, List.getElem?_eq_getElem hi]
          exact nd _ (List.getElem_mem hi)
        generalize hP : possL adj L j = P0 at h1 pn
        match P0, h1, pn, hP with
        | p0 :: p1 :: tl, _, pn, hP =>
          rw [List.nodup_cons] at pn
          have m0 : p0 ∈ possL adj L j := by rw [hP]; exact .head _
          have m1 : p1 ∈ possL adj L j := by rw [hP]; exact .tail _ (.head _)
          have ne : p0 ≠ p1 := fun e => pn.1 (by rw [e]; exact .head _)
          obtain ⟨fa, ea⟩ := poss_fit hi m0
          obtain ⟨fb, eb⟩ := poss_fit hi m1
          have dn : (firstRow adj (narrowL L j p0)).getD j e0 ≠ (firstRow adj (narrowL L j p1)).getD j e0 := by rw [ea, eb]; exact ne
          refine ⟨?_, fa, fb, hi, dn⟩
          have := cnt_two hL fa fb fun e => dn (by rw [e])
          unfold wordE
          rw [if_pos this]
          rfl
      · rename_i hf
        rw [List.find?_eq_none] at hf
        have hle : ∀ i, i < L.length → (possL adj L i).length ≤ 1 := fun i hi => by
          have := hf i (List.mem_range.mpr hi)
          simp at this
          omega
        refine ⟨?_, first_fits fit⟩
        have := cnt_single (adj := adj) hL nd fun a b fa fb => (one_first fa hle).symm.trans (one_first fb hle)
        unfold wordE
        rw [if_neg (by omega), if_neg h]
        rfl
    )) only [↓bx_true]

end
end Dk
local macro_rules | `(tactic| decreasing_trivial_pre_omega) => do
  let K := Lean.mkIdent `K
  let C_House := Lean.mkIdent `C_House
  let T_House := Lean.mkIdent `T_House.cl
  let n_House_named := Lean.mkIdent `T_House.n_named
  let n_House_doored := Lean.mkIdent `T_House.n_doored
  let n_House_sighted := Lean.mkIdent `T_House.n_sighted
  `(tactic| first
  | ((with_reducible refine L3.gEv ?_); first | with_reducible refine L3.ev_varM ?_ | with_reducible refine L3.ev_int ?_ | with_reducible refine L3.ev_str ?_ | with_reducible refine L3.ev_op ?_ | ((with_reducible refine L3.ev_call_at ?_); first | refine L3.ev_draw0 ?_ | refine L3.ev_callP0 ?_ | refine L3.ev_callK ?_ | refine L3.ev_callB2 ?_ | refine L3.ev_callPDi ?_ | refine L3.ev_callRO ?_ | refine L3.ev_callKDn ?_ | with_reducible refine L3.ev_callF0 ?_ | refine L3.ev_callT ?_) | ((with_reducible refine L3.ev_meth_at ?_); first | refine L3.ev_methK ?_ | refine L3.ev_methM ?_) | with_reducible refine L3.ev_dictP ?_ | with_reducible refine L3.ev_dictD ?_ | with_reducible refine L3.ev_sortI ?_ | with_reducible refine L3.ev_cb ?_ | with_reducible refine L3.ev_dgetD ?_ | with_reducible refine L3.ev_lst ?_ | with_reducible refine L3.ev_bl ?_ | with_reducible refine L3.ev_tup (K := $K) ?_ | ((with_reducible refine L3.ev_fld (C := $C_House) $T_House ?_ ?_); focus (first | exact $n_House_named | exact $n_House_doored | exact $n_House_sighted))  | with_reducible refine L3.ev_append ?_ | with_reducible refine L3.ev_non ?_ | with_reducible refine L3.ev_slC ?_ | with_reducible refine L3.ev_dgetI ?_ | with_reducible refine L3.ev_ty ?_ | with_reducible refine L3.ev_un ?_ | with_reducible refine L3.ev_chain ?_ | with_reducible refine L3.ev_andV ?_ | with_reducible refine L3.ev_orV ?_ | with_reducible refine L3.ev_notV ?_ | with_reducible refine L3.ev_if ?_ | with_reducible refine L3.ev_tM1 ?_ | ((with_reducible refine L3.ev_callN_at ?_); first | refine L3.ev_callKP (gR := fun a b => a ++ b) L3.all2_gapp ?_ | refine L3.ev_callKN ?_) | ((with_reducible refine L3.ev_make_at ?_); refine L3.ev_make3 ?_) | with_reducible refine L3.ev_dinP ?_ | with_reducible refine L3.ev_dinD ?_ | with_reducible refine L3.ev_dninD ?_ | with_reducible refine L3.ev_disp1 fun _ => ?_ | with_reducible refine L3.ev_stepL ?_ | with_reducible refine L3.ev_lRg1 ?_ | with_reducible refine L3.ev_lRg2 ?_ | with_reducible refine L3.ev_idxL ?_ | with_reducible refine L3.ev_idxT ?_ | with_reducible refine L3.ev_dnewT ?_ | with_reducible refine L3.ev_dnewK ?_ | with_reducible refine L3.ev_dE ?_ | with_reducible refine L3.ev_rev ?_ | with_reducible refine L3.ev_ref ?_ | with_reducible refine L3.ev_itemsR (K := $K) ?_ | with_reducible refine L3.ev_tupK1 ?_ | with_reducible refine L3.ev_dnewTT ?_ | with_reducible refine L3.ev_inT ?_ | with_reducible refine L3.ev_ninT ?_ | with_reducible refine L3.ev_getT ?_)
  | ((with_reducible refine L3.gEx ?_); first | ((with_reducible refine L3.k_at_at ?_); first | refine L3.k_at rfl ?_) | ((with_reducible refine L3.k_fld_at ?_); first | refine L3.k_fldS rfl ?_ | refine L3.k_fldM (i := 0) rfl rfl ?_ | refine L3.k_fldM (i := 1) rfl rfl ?_ | refine L3.k_fldM (i := 2) rfl rfl ?_ | refine L3.k_fldM (i := 3) rfl rfl ?_ | refine L3.k_fldG (by assumption) rfl ?_ | refine L3.k_fldG (L3.HasO.app (by assumption) _) rfl ?_ | refine L3.k_fldG (by assumption) (by assumption) ?_) | ((with_reducible refine L3.k_meth_at ?_); first | refine L3.k_methS rfl ?_ | refine L3.k_methM (i := 0) rfl rfl ?_ | refine L3.k_methM (i := 1) rfl rfl ?_ | refine L3.k_methM (i := 2) rfl rfl ?_ | refine L3.k_methG (by assumption) rfl ?_ | refine L3.k_methG (L3.HasO.app (by assumption) _) rfl ?_ | refine L3.k_methG (by assumption) (by assumption) ?_) | ((with_reducible refine L3.k_hg_at ?_); first | refine L3.k_hg L3.hd_f rfl ?_ | refine L3.k_hg (L3.hd_m (i := 0) rfl) rfl ?_ | refine L3.k_hg (L3.hd_m (i := 1) rfl) rfl ?_ | refine L3.k_hg (L3.hd_m (i := 2) rfl) rfl ?_) | ((with_reducible refine L3.k_hd_at ?_); first | refine L3.k_hd L3.hd_f ?_ | refine L3.k_hd (L3.hd_m (i := 0) rfl) ?_ | refine L3.k_hd (L3.hd_m (i := 1) rfl) ?_ | refine L3.k_hd (L3.hd_m (i := 2) rfl) ?_ | refine L3.k_hd (L3.hd_m (i := 3) rfl) ?_ | refine L3.k_hd (L3.hd_m L3.at_last) ?_ | refine L3.k_hd (by assumption) ?_) | ((with_reducible refine L3.k_atI_at ?_); first | refine L3.k_atI rfl ?_) | ((with_reducible refine L3.k_putT_at ?_); first | refine L3.k_putT (i := 0) rfl ?_ ?_ | refine L3.k_putT (i := 1) rfl ?_ ?_ | refine L3.k_putT (i := 2) rfl ?_ ?_) | ((with_reducible refine L3.k_ht_at ?_); first | refine L3.k_ht L3.ht_f ?_ | refine L3.k_ht (L3.ht_m (i := 0) rfl) ?_ | refine L3.k_ht (L3.ht_m (i := 1) rfl) ?_ | refine L3.k_ht (L3.ht_m (i := 2) rfl) ?_ | refine L3.k_ht (L3.ht_m (i := 3) rfl) ?_ | refine L3.k_ht (L3.ht_m L3.at_last) ?_ | refine L3.k_ht (by assumption) ?_) | ((with_reducible refine L3.k_putD_at ?_); first | refine L3.k_putD (i := 0) rfl ?_ ?_ | refine L3.k_putD (i := 1) rfl ?_ ?_ | refine L3.k_putD (i := 2) rfl ?_ ?_) | ((with_reducible refine L3.k_setL_at ?_); first | refine L3.k_setL (i := 0) rfl rfl ?_ ?_ | refine L3.k_setL (i := 1) rfl rfl ?_ ?_ | refine L3.k_setL (i := 2) rfl rfl ?_ ?_) | ((with_reducible refine L3.k_put_at ?_); first | refine L3.k_put (i := 0) rfl ?_ ?_ | refine L3.k_put (i := 1) rfl ?_ ?_ | refine L3.k_put (i := 2) rfl ?_ ?_) | ((with_reducible refine L3.k_set_at ?_); first | refine L3.k_set (j := 0) rfl ?_ ?_ | refine L3.k_set (j := 1) rfl ?_ ?_ | refine L3.k_set (j := 2) rfl ?_ ?_) | ((with_reducible refine L3.k_pd_at ?_); first | refine L3.k_pd (.inl rfl) ?_ | refine L3.k_pd (.inr ⟨_, 0, rfl, rfl⟩) ?_ | refine L3.k_pd (.inr ⟨_, 1, rfl, rfl⟩) ?_ | refine L3.k_pd (.inr ⟨_, 2, rfl, rfl⟩) ?_ | refine L3.k_pd (by assumption) ?_) | ((with_reducible refine L3.k_app_at ?_); first | refine L3.k_app (i := 0) rfl ?_ | refine L3.k_app (i := 1) rfl ?_ | refine L3.k_app (i := 2) rfl ?_ | refine L3.k_app (i := 3) rfl ?_ | refine L3.k_app L3.at_last ?_) | ((with_reducible refine L3.k_app2_at ?_); first | refine L3.k_app2 (j := 0) rfl ?_ ?_ | refine L3.k_app2 (j := 1) rfl ?_ ?_ | refine L3.k_app2 (j := 2) rfl ?_ ?_ | refine L3.k_app2 (j := 3) rfl ?_ ?_) | with_reducible refine L3.k_rd ?_ | with_reducible refine L3.k_b ?_ | with_reducible refine L3.k_int ?_ | with_reducible refine L3.k_keySI ?_ | with_reducible refine L3.k_key ?_ | with_reducible refine L3.k_ref ?_ | with_reducible refine L3.k_str ?_ | with_reducible refine L3.k_tup ?_ | with_reducible refine L3.k_lst ?_ | with_reducible refine L3.k_ss ?_ | with_reducible refine L3.k_par ?_ | with_reducible refine L3.k_par3 ?_ | with_reducible refine L3.k_strs (f := L3.iLst) ?_ | with_reducible refine L3.k_strs (f := L3.aTupD) ?_ | with_reducible refine L3.k_lstR ?_ | with_reducible refine L3.k_zin (by assumption) ?_ | with_reducible refine L3.k_box ?_ | with_reducible refine L3.k_ofL ?_ ?_ ?_ | with_reducible refine L3.k_ofT ?_ ?_ ?_ | with_reducible refine L3.k_ofS ?_ ?_ ?_ | ((with_reducible refine L3.k_draw ?_ ?_); focus (exact ⟨by first | decide | omega, by first | decide | omega⟩)) | ((refine L3.k_draw ?_ ?_); focus (exact ⟨by first | decide | omega, by first | decide | omega⟩)) | refine L3.k_box ?_)
  | ((with_reducible refine L3.gSt ?_); first | ((with_reducible refine L3.st_seqL ?_); intro _) | ((with_reducible refine L3.st_fldM (C := $C_House) $T_House ?_ ?_); focus (first | exact $n_House_named | exact $n_House_doored | exact $n_House_sighted)) | ((with_reducible refine L3.st_fldT (C := $C_House) $T_House ?_ ?_); focus (first | exact $n_House_named | exact $n_House_doored | exact $n_House_sighted)) | ((with_reducible refine L3.st_fldK (C := $C_House) $T_House ?_ ?_); focus (first | exact $n_House_named | exact $n_House_doored | exact $n_House_sighted)) | ((with_reducible refine L3.st_fld (C := $C_House) $T_House ?_ ?_); focus (first | exact $n_House_named | exact $n_House_doored | exact $n_House_sighted))  | with_reducible refine L3.st_augI ?_ | with_reducible refine L3.st_asgM ?_ | with_reducible refine L3.st_asgLM ?_ | with_reducible refine L3.st_asg ?_ | with_reducible refine L3.st_asgT (vs := []) ?_ | with_reducible refine L3.st_if ?_ | with_reducible refine L3.st_ret ?_ | with_reducible refine L3.st_drop ?_ | with_reducible refine L3.st_next ?_ | with_reducible refine L3.st_nextE ?_ | with_reducible refine L3.st_retN ?_ | with_reducible refine L3.st_par ?_ | with_reducible refine L3.st_par3 ?_ | with_reducible refine L3.st_asg2 ?_ | with_reducible refine L3.st_brk ?_ | with_reducible refine L3.st_cont ?_ | with_reducible refine L3.st_delL ?_)
  | ((with_reducible refine L3.gEa ?_); first | with_reducible refine L3.ea_cons ?_ | with_reducible refine L3.ea_nil ?_)
  | ((with_reducible refine L3.ol_at ?_); first | refine L3.c_lenL _ ?_ | refine L3.c_lenDT (i := 0) rfl _ ?_ | refine L3.c_lenDT (i := 1) rfl _ ?_ | refine L3.c_lenD L3.hd_f _ ?_ | refine L3.c_lenD (L3.hd_m (i := 0) rfl) _ ?_ | refine L3.c_lenD (L3.hd_m (i := 1) rfl) _ ?_ | refine L3.c_lenD (L3.hd_m (i := 2) rfl) _ ?_ | refine L3.c_lenD (L3.hd_m (i := 3) rfl) _ ?_ | refine L3.c_listK L3.hd_f _ ?_ | refine L3.c_lenG (L3.hl_m (i := 0) rfl) _ ?_ | refine L3.c_lenG (L3.hl_m (i := 1) rfl) _ ?_ | refine L3.c_lenG (L3.hl_m (i := 2) rfl) _ ?_ | refine L3.c_lenG (L3.hl_m L3.at_last) _ ?_ | refine L3.c_lenT _ ?_ | refine L3.c_tupL _ ?_ | refine L3.c_tupD _ ?_ | refine L3.c_listL _ ?_ | refine L3.c_listT _ ?_ | refine L3.c_tupT _ ?_ | refine L3.c_all _ ?_ | refine L3.c_any _ ?_ | refine L3.c_lenQ _ ?_ | refine L3.c_listQ _ ?_ | refine L3.c_tupQ _ ?_ | refine L3.c_max2 _ ?_ | refine L3.c_min2 _ ?_ | refine L3.c_lenS ?_ _ ?_ | refine L3.c_minL ?_ ?_ | refine L3.c_maxL ?_ ?_)
  | ((with_reducible refine L3.o2_at ?_); first | refine L3.o_neE L3.hd_f _ ?_ | refine L3.o_add _ ?_ | refine L3.o_sub _ ?_ | refine L3.o_lt _ ?_ | refine L3.o_le _ ?_ | refine L3.o_gt _ ?_ | refine L3.o_ge _ ?_ | refine L3.o_eqI _ ?_ | refine L3.o_neI _ ?_ | refine L3.o_eqS _ ?_ | refine L3.o_neS _ ?_ | refine L3.o_eqB _ ?_ | refine L3.o_neB _ ?_ | refine L3.o_mul ?_ _ ?_ | refine L3.o_mod ?_ _ ?_ | refine L3.o_fdivW ?_ _ ?_ | refine L3.o_pow (by exact ⟨by decide, by decide, by decide⟩) _ ?_ | refine L3.o_ixL rfl _ ?_ | refine L3.o_ixT rfl _ ?_ | refine L3.o_ixSI0 _ ?_ | refine L3.o_ixSI1 _ ?_ | refine L3.o_ixL L3.atI_0 _ ?_ | refine L3.o_ixT L3.atI_0 _ ?_ | refine L3.o_cat ?_ _ ?_ | refine L3.o_rep2 ?_ _ ?_ | refine L3.o_catT ?_ _ ?_ | refine L3.o_addS ?_ _ ?_ | refine L3.o_ixQ rfl _ ?_ | refine L3.o_inG (.inl rfl) _ ?_ | refine L3.o_inG (.inr (.inr (.inr ⟨_, 0, rfl, rfl⟩))) _ ?_ | refine L3.o_inG (.inr (.inr (.inr ⟨_, 1, rfl, rfl⟩))) _ ?_ | refine L3.o_inG (by assumption) _ ?_ | refine L3.o_ninG (.inl rfl) _ ?_ | refine L3.o_ninG (.inr (.inr (.inr ⟨_, 0, rfl, rfl⟩))) _ ?_ | refine L3.o_ninG (.inr (.inr (.inr ⟨_, 1, rfl, rfl⟩))) _ ?_ | refine L3.o_ninG (by assumption) _ ?_)
  | ((with_reducible refine L3.gAnd ?_); first | refine L3.k_ho2S ?_ | refine L3.k_ho2M (i := 0) rfl ?_ | refine L3.k_ho2M (i := 1) rfl ?_ | refine L3.k_ho2M (i := 2) rfl ?_ | refine L3.k_ho3 (by assumption) ?_ | refine L3.k_ho3 (L3.HasO.app (by assumption) _) ?_ | ((with_reducible refine L3.k_len ?_ ?_); focus (first | exact Nat.le_of_ble_eq_true rfl | (simp; done))) | ((with_reducible refine L3.k_leneq ?_ ?_); focus rfl))
  | ((with_reducible refine L3.gIte ?_); first | with_reducible refine L3.k_t ?_ | with_reducible refine L3.k_f ?_ | with_reducible refine L3.k_nt ?_ | with_reducible refine L3.k_nf ?_)
  | ((with_reducible refine L3.gEt ?_); first | with_reducible refine L3.et_test ?_ | with_reducible refine L3.et_tB ?_ | with_reducible refine L3.et_and ?_ | with_reducible refine L3.et_or ?_ | with_reducible refine L3.et_not ?_ | with_reducible refine L3.et_yes ?_)
  | with_reducible refine L3.tg_name ?_
  | ((with_reducible refine L3.tg_tup ?_ ?_); focus rfl)
  | ((with_reducible refine L3.tg_tupSI ?_ ?_); focus rfl)
  | with_reducible refine L3.tg_setL ?_
  | with_reducible refine L3.tg_putP ?_
  | with_reducible refine L3.tg_putD ?_
  | with_reducible refine L3.tg_putI ?_
  | with_reducible refine L3.tg_putT1 ?_
  | ((with_reducible refine L3.tg_star_at ?_); first | refine L3.tg_star ?_ ?_ _ (.inl rfl) | refine L3.tg_star ?_ ?_ _ (.inr (.inl rfl)) | refine L3.tg_star ?_ ?_ _ (.inr (.inr rfl)))
  | with_reducible refine L3.tgs_cons ?_
  | with_reducible refine L3.tgs_nil ?_
  | ((with_reducible refine L3.gWk ?_); first | refine L3.Wk.so ?_ | refine L3.Wk.no ?_ | exact L3.Wk.nil)
  | with_reducible refine L3.etp_and ?_ (fun _ => ?_)
  | with_reducible refine L3.etp_or ?_ (fun _ => ?_)
  | with_reducible refine L3.etp_not ?_
  | ((with_reducible refine L3.ep_at ?_); intro _ _ _)
  | ((with_reducible refine L3.etp_at ?_); intro _ _ _)
  | ((with_reducible refine L3.eap_at ?_); intro _ _ _)
  | ((with_reducible refine L3.o1_at ?_); first | refine L3.o_neg _ ?_)
  | with_reducible refine L3.ti_rng1 ?_
  | with_reducible refine L3.ti_rng2 ?_
  | with_reducible refine L3.ti_rng3 ?_
  | with_reducible refine L3.ti_list ?_
  | with_reducible refine L3.ti_tup ?_
  | with_reducible refine L3.eoc_none ?_
  | with_reducible refine L3.eoc_some ?_
  | with_reducible refine L3.os_list ?_
  | refine L3.os_tup ?_
  | with_reducible refine L3.k_nat ?_
  | ((with_reducible refine L3.cmul_at ?_); first | exact .inl ⟨by omega, by omega⟩ | exact .inr ⟨by omega, by omega⟩)
  | ((with_reducible refine L3.nle_at ?_); first | exact Nat.le_of_ble_eq_true rfl | omega | (simp; done) | (simp; omega))
  | ((with_reducible refine L3.nlt_at ?_); first | exact Nat.le_of_ble_eq_true rfl | omega | (simp; done) | (simp; omega))
  | ((with_reducible refine L3.ile_at ?_); first | omega | (simp; done) | (simp; omega))
  | ((with_reducible refine L3.ilt_at ?_); first | omega | (simp; done) | (simp; omega))
  | ((with_reducible refine L3.gEq ?_); first | with_reducible exact L3.dat_int _ _ | with_reducible exact L3.dat_str _ _ | with_reducible exact L3.dat_bl _ _ | with_reducible exact L3.dat_non _ | with_reducible apply L3.dat_lst | with_reducible apply L3.dat_tup | with_reducible exact L3.dats_nil | with_reducible apply L3.dats_cons)
  | with_reducible apply L3.Fit.int
  | with_reducible apply L3.Fit.str
  | with_reducible apply L3.Fit.bl
  | with_reducible apply L3.Fit.non
  | with_reducible apply L3.fit_l
  | with_reducible apply L3.fit_t
  | with_reducible apply L3.fitA_nil
  | with_reducible apply L3.fitA_cons
  | assumption)
namespace Dk
open PySem L2 RZ L3 LamX
structure Txt_House (K : PySem.W.Frag) (mg : Str → Option Value) (C : Addr) : Prop where
  cl : Cls K C
  mg : mg "House" = some (.ref C)
  n_named : NoAttr K C "named"
  n_doored : NoAttr K C "doored"
  n_sighted : NoAttr K C "sighted"
def top (i : Nat) : Stmt := PySem.Challenge.pw_darkthread_k49_whole_rounds_read_from_si.main.body.getD i (.Pass ⟨0, 0, 0, 0⟩)
section
variable {P : Program} {w : World} {K : PySem.W.Frag} {mg : Str → Option Value} {base : Heap}

abbrev s__law_box : Stmt := top 37
theorem sc__law_box : FnScope ["_law_script"] ["_law_script"] (defScope s__law_box) := ⟨rfl, rfl, rfl, by decide +kernel, rfl, by decide +kernel, by decide +kernel⟩
abbrev ts__law_box (K : PySem.W.Frag) : TSp := tsBox K
theorem ok__law_box (B : Bt mg) {f : Addr} {fd : FuncData} (d : Df K mg "_law_box" s__law_box ["_law_script"] f fd) : Cl P w K mg base CX0 1 "_law_box" (ts__law_box K) [] := by
  refine bx_of ?_
  simp (disch := with_unfolding_all (
    refine cl_of d (okT (kk := 0) d.fn sc__law_box (fun Rs M k X h => by obtain ⟨ns, rfl, _⟩ := h; rfl) fun cdv A outer s H E hr => ⟨_,
      (pss_one (ps_ret (pe_lst (pa_cons (pe_callTy call_list_of (by rfl) B.list (by decide +kernel) (pa_cons (pe_slice sl_list (pv 0) po_none (po_some pe_int)) pa_nil)) (pa_cons pe_int (pa_cons pe_int (pa_cons pe_int (pa_cons pe_int pa_nil)))))))), ?_⟩)
    try dsimp only [L3.cxK, L3.cxKX]
    rintro Rs M k X ⟨ns, rfl, hl, rfl, q⟩
    refine st_dn ?_
    refine st_ret (ev_lstM (ea_cons (ep_cb (eap_cons (ep_sl (R := iLst ((cutL ns none (some 63)).map iInt)) (ep_var rfl) eo_none (eo_someX ep_int) s_scr) eap_nil) c_listL _ _ (eap_cons ep_int (eap_cons ep_int (eap_cons ep_int (eap_cons ep_int eap_nil))) _ _ ⟨by simp, fun a => ?_⟩))))
    refine kdn (P' := mBox) (A := []) (B := []) (fun S o h => ⟨⟨cutL ns none (some 63), 0, 0, 29, 0, by decide, by decide, by decide, by decide, ?_⟩, h⟩) (q a)
    unfold cutL
    simp
    omega
    )) only [↓bx_true]

abbrev s__law_draw : Stmt := top 38
theorem sc__law_draw : FnScope ["_law_box_here", "_law_many", "_law_cell", "_law_got"] ["_law_box_here", "_law_many"] (defScope s__law_draw) := ⟨rfl, rfl, rfl, by decide +kernel, rfl, by decide +kernel, by decide +kernel⟩
abbrev ts__law_draw (K : PySem.W.Frag) : TSp := tsDraw
theorem ok__law_draw (B : Bt mg) {f : Addr} {fd : FuncData} (d : Df K mg "_law_draw" s__law_draw ["_law_box_here", "_law_many"] f fd) : Cl P w K mg base CX0 1 "_law_draw" (ts__law_draw K) [] := by
  refine bx_of ?_
  simp (disch := with_unfolding_all (
    refine cl_of d (okT (kk := 0) d.fn sc__law_draw (fun Rs M k X h => by obtain ⟨b, n, rfl, _⟩ := h; rfl) fun cdv A outer s H E hr => ⟨_,
      (pss_cons (ps_if (PW.pt (pw_and (pt_cmpR op_lt (pe_ix ix_list (pv 0) pe_int (fun _ _ => rfl)) pe_int (nomark _)) (pw_and1 (pt_cmpR op_lt (pe_ix ix_list (pv 0) pe_int (fun _ _ => rfl)) (pe_callB call_len (by rfl) B.len (by decide +kernel) (pa_cons (pe_ix ix_list (pv 0) pe_int (fun _ _ => rfl)) pa_nil)) (nomark _))))) (pss_cons (ps_set (i := 2) sc__law_draw.nd rfl (Or.inl rfl) (pe_ix ix_seq (pe_ix ix_list (pv 0) pe_int (fun _ _ => rfl)) (pe_ix ix_list (pv 0) pe_int (fun _ _ => rfl)) (fun _ _ => rfl)))
        (pss_cons (ps_asg (pe_op op_add (pe_ix ix_list (pv 0) pe_int (fun _ _ => rfl)) pe_int) (pg_sub (pv 0) pe_int set_list))
        (pss_cons (ps_asg (pe_callB (call_max2 rfl) (by rfl) B.max (by decide +kernel) (pa_cons pe_int (pa_cons (pe_op op_sub (pv 2) (pe_op op_pow pe_int pe_int)) pa_nil))) (pg_sub (pv 0) pe_int set_list))
        (pss_one (ps_asg (pe_op op_mod (pe_op op_add (pe_op op_add (pe_op op_mul (pe_ix ix_list (pv 0) pe_int (fun _ _ => rfl)) pe_int) (pe_op op_mul (pe_op op_mod (pv 2) pe_int) pe_int)) pe_int) pe_int) (pg_sub (pv 0) pe_int set_list)))))) pss_nil)
        (pss_cons (ps_if (pt_cmpR op_gt (pe_ix ix_list (pv 0) pe_int (fun _ _ => rfl)) pe_int (nomark _)) (pss_cons (ps_set (i := 3) sc__law_draw.nd rfl (Or.inl rfl) (pe_op op_mod (pe_ix ix_list (pv 0) pe_int (fun _ _ => rfl)) (pv 1)))
        (pss_cons (ps_asg (pe_op op_fdivW (pe_ix ix_list (pv 0) pe_int (fun _ _ => rfl)) (pv 1)) (pg_sub (pv 0) pe_int set_list))
        (pss_one (ps_ret (pv 3))))) pss_nil)
        (pss_cons (ps_asg (pe_op op_add (pe_ix ix_list (pv 0) pe_int (fun _ _ => rfl)) pe_int) (pg_sub (pv 0) pe_int set_list))
        (pss_cons (ps_asg (pe_op op_mod (pe_op op_add (pe_op op_add (pe_op op_pow (pe_ix ix_list (pv 0) pe_int (fun _ _ => rfl)) pe_int) (pe_op op_mul pe_int (pe_ix ix_list (pv 0) pe_int (fun _ _ => rfl)))) pe_int) pe_int) (pg_sub (pv 0) pe_int set_list))
        (pss_one (ps_ret (pe_op op_mod (pe_op op_fdivW (pe_ix ix_list (pv 0) pe_int (fun _ _ => rfl)) pe_int) (pv 1)))))))), ?_⟩)
    try dsimp only [L3.cxK, L3.cxKX]
    rintro Rs M k X ⟨b, n, rfl, hn, hn2, rfl, q⟩
    have hn3 : n.natAbs < 2 ^ 100 := by omega
    refine st_dn ?_
    refine st_open (A := []) (B := []) (fun x : BoxV => mLst x.l) (fun S o h => h) fun x => ?_
    show St E _ [some (iRef b), some (iInt n), none, none] [(b, mLst x.l)] _
    refine st_cut (fun Γ1 M1 => ∃ (y : BoxV) (c2 : Option Rep), Γ1 = [some (iRef b), some (iInt n), c2, none] ∧ M1 = [(b, mLst y.l)]) ?_ ?_
    · refine st_ifp (etp_and (etp_test (ep_op (ep_op (ep_var rfl) ep_int (o_ixH rfl)) ep_int o_lt)) (fun _ => etp_test (ep_op (ep_op (ep_var rfl) ep_int (o_ixH rfl)) (ep_cb (eap_cons (ep_op (ep_var rfl) ep_int (o_ixH rfl)) eap_nil) c_lenL) o_lt))) (fun hc => ?_) (fun _ => ?_)
      · have hp : x.pos < x.ns.length := by simpa using (Bool.and_eq_true_iff.mp hc).2
        have h1 := x.h1
        obtain ⟨cell, hcell⟩ : ∃ cell, atI x.ns x.pos = some cell := by
          refine ⟨x.ns[x.pos.toNat]'(by omega), ?_⟩
          have := atI_nat (xs := x.ns) (j := x.pos.toNat) (v := x.ns[x.pos.toNat]'(by omega)) (by simp)
          rwa [show ((x.pos.toNat : Nat) : Int) = x.pos by omega] at this
        refine st_seq (st_asg (ep_op (ep_op (ep_var rfl) ep_int (o_ixH rfl)) (ep_op (ep_var rfl) ep_int (o_ixH rfl)) (o_or1 (o_ixL (atI_map hcell))) _ _ ?_))
        refine st_seq (st_asgT (vs := []) (ep_op (ep_op (ep_var rfl) ep_int (o_ixH rfl)) ep_int o_add _ _ ?_))
        refine tg_subM (A := []) (B := []) (ep_var rfl) ep_int rfl ?_
        refine st_seq (st_asgT (vs := []) (ep_cb (eap_cons ep_int (eap_cons (ep_op (ep_var rfl) (ep_op ep_int ep_int (o_pow ⟨by decide, by decide, by decide⟩)) o_sub) eap_nil)) c_max2 _ _ ?_))
        refine tg_subM (A := []) (B := []) (ep_var rfl) ep_int rfl ?_
        have h3 := x.h3
        have h4 := x.h4
        have hm := Int.emod_nonneg cell (show (2147483629 : Int) ≠ 0 by decide)
        have hm2 := Int.emod_lt_of_pos cell (show (0 : Int) < 2147483629 by decide)
        refine st_asgT (vs := []) (ep_op (ep_op (ep_op (ep_op (ep_op (ep_var rfl) ep_int (o_ixH rfl)) ep_int (o_mul (.inl ⟨by omega, by omega⟩))) (ep_op (ep_op (ep_var rfl) ep_int (o_mod (by decide))) ep_int (o_mul (.inl ⟨by omega, by omega⟩))) o_add) ep_int o_add) ep_int (o_mod (by decide)) _ _ ?_)
        refine tg_subM (A := []) (B := []) (ep_var rfl) ep_int rfl ?_
        exact ⟨⟨x.ns, x.pos + 1, max 0 (cell - 10 ^ (18 : Int).toNat), _, x.cnt, by omega, by omega, Int.emod_nonneg _ (by decide), Int.emod_lt_of_pos _ (by decide), x.h5⟩, _, rfl, rfl⟩
      · exact st_next ⟨x, none, rfl, rfl⟩
    · rintro Γ1 M1 ⟨y, c2, rfl, rfl⟩
      have y2 := y.h2
      have y3 := y.h3
      have y4 := y.h4
      refine st_seq (st_ifp (etp_test (ep_op (ep_op (ep_var rfl) ep_int (o_ixH rfl)) ep_int o_gt)) (fun hc => ?_) (fun _ => ?_))
      · refine st_seq (st_asg (ep_op (ep_op (ep_var rfl) ep_int (o_ixH rfl)) (ep_var rfl) (o_mod hn) _ _ ?_))
        refine st_seq (st_asgT (vs := []) (ep_op (ep_op (ep_var rfl) ep_int (o_ixH rfl)) (ep_var rfl) (o_fdivW (wide_div hn hn3 (by decide) (by decide))) _ _ ?_))
        refine tg_subM (A := []) (B := []) (ep_var rfl) ep_int rfl ?_
        refine st_ret (ep_var rfl _ _ ?_)
        refine kdn (P' := mBox) (A := []) (B := []) (fun S o h => ⟨⟨y.ns, y.pos, y.big / n, y.seed, y.cnt, y.h1, Int.ediv_nonneg y2 (by omega), y3, y4, y.h5⟩, h⟩) (q _ (Int.emod_nonneg _ (by omega)) (Int.emod_lt_of_pos _ hn))
      · refine st_next ?_
        refine st_seq (st_asgT (vs := []) (ep_op (ep_op (ep_var rfl) ep_int (o_ixH rfl)) ep_int o_add _ _ ?_))
        refine tg_subM (A := []) (B := []) (ep_var rfl) ep_int rfl ?_
        refine st_seq (st_asgT (vs := []) (ep_op (ep_op (ep_op (ep_op (ep_op (ep_var rfl) ep_int (o_ixH rfl)) ep_int (o_pow ⟨by decide, by decide, by omega⟩)) (ep_op ep_int (ep_op (ep_var rfl) ep_int (o_ixH rfl)) (o_mul (.inl ⟨by decide, by decide⟩))) o_add) ep_int o_add) ep_int (o_mod (by decide)) _ _ ?_))
        refine tg_subM (A := []) (B := []) (ep_var rfl) ep_int rfl ?_
        refine st_ret (ep_op (ep_op (ep_op (ep_var rfl) ep_int (o_ixH rfl)) ep_int (o_fdivW (wide_div (b := 7) (by decide) (by decide) (by decide) (by decide)))) (ep_var rfl) (o_mod hn) _ _ ?_)
        refine kdn (P' := mBox) (A := []) (B := []) (fun S o h => ⟨⟨y.ns, y.pos, y.big, _, y.cnt + 1, y.h1, y.h2, Int.emod_nonneg _ (by decide), Int.emod_lt_of_pos _ (by decide), y.h5⟩, h⟩) (q _ (Int.emod_nonneg _ (by omega)) (Int.emod_lt_of_pos _ hn))
    )) only [↓bx_true]

abbrev s__law_of : Stmt := top 39
theorem sc__law_of : FnScope ["_law_box_here", "_law_some"] ["_law_box_here", "_law_some"] (defScope s__law_of) := ⟨rfl, rfl, rfl, by decide +kernel, rfl, by decide +kernel, by decide +kernel⟩
abbrev ts__law_of (K : PySem.W.Frag) : TSp := tsOf2 K
theorem ok__law_of (B : Bt mg) (c__law_draw : Cl P w K mg base CX0 1 "_law_draw" (ts__law_draw K) []) {f : Addr} {fd : FuncData} (d : Df K mg "_law_of" s__law_of ["_law_box_here", "_law_some"] f fd) : Cl P w K mg base CX0 2 "_law_of" (ts__law_of K) [] := by
  refine bx_of ?_
  simp (disch := with_unfolding_all (
    refine cl_of d (okT (kk := 1) d.fn sc__law_of (fun Rs M k X h => by obtain ⟨b, _, rfl, _, ⟨rs, rfl, _⟩ | ⟨rs, rfl, _⟩ | ⟨z, rfl, _⟩⟩ := h <;> rfl) fun cdv A outer s H E hr => ⟨_,
      (pss_one (ps_ret (pe_ix ix_seq (pv 1) (pe_cl c__law_draw hr (by decide) pass0 rfl (pa_cons (pv 0) (pa_cons (pe_callB call_len (by rfl) B.len (by decide +kernel) (pa_cons (pv 1) pa_nil)) pa_nil))) (fun _ _ => rfl)))), ?_⟩)
    try dsimp only [L3.cxK, L3.cxKX]
    rintro Rs M k X ⟨b, _, rfl, rfl, ⟨rs, rfl, h1, h2, q⟩ | ⟨rs, rfl, h1, h2, q⟩ | ⟨z, rfl, h1, h2, q⟩⟩
    · refine st_ret (ev_op (ep_var rfl _ _ (ev_draw (F := []) rfl (ep_var rfl) (ep_cb (eap_cons (ep_var rfl) eap_nil) c_lenL) (by omega) (by omega) fun r r0 r1 => ?_)))
      obtain ⟨R, hR, hm⟩ := at_some rs r0 r1
      exact o_or1 (o_ixL hR) _ (q R hm)
    · refine st_ret (ev_op (ep_var rfl _ _ (ev_draw (F := []) rfl (ep_var rfl) (ep_cb (eap_cons (ep_var rfl) eap_nil) c_lenT) (by omega) (by omega) fun r r0 r1 => ?_)))
      obtain ⟨R, hR, hm⟩ := at_some rs r0 r1
      exact o_or2 (o_or1 (o_ixT hR)) _ (q R hm)
    · refine st_ret (ev_op (ep_var rfl _ _ (ev_draw (F := []) rfl (ep_var rfl) (ep_cb (eap_cons (ep_var rfl) eap_nil) (c_lenS (by omega))) (by omega) (by omega) fun r r0 r1 => ?_)))
      obtain ⟨c, hR, hm⟩ := at_some z.cps.toList r0 (by simpa [Str.length] using r1)
      exact o_or2 (o_or2 (o_ixS (by omega) hR)) _ (q c hm)
    )) only [↓bx_true]

abbrev s__law_names : Stmt := top 40
theorem sc__law_names : FnScope ["_law_box_here", "_law_many", "_law_letters", "_law_start", "_law_step", "_law_tail", "_law_pick", "_law_found", "_law_k", "_law_sign"] ["_law_box_here", "_law_many"] (defScope s__law_names) := ⟨rfl, rfl, rfl, by decide +kernel, rfl, by decide +kernel, by decide +kernel⟩
abbrev ts__law_names (K : PySem.W.Frag) : TSp := boxK fun Rs q => ∃ many : Nat, Rs = [iInt many] ∧ many ≤ 26 ∧ ∀ l : List Str, l.length = many → l.Nodup → (∀ z ∈ l, NmOk z) → q (iLst (l.map aStr))
theorem ok__law_names (B : Bt mg) (c__law_of : Cl P w K mg base CX0 2 "_law_of" (ts__law_of K) []) (c__law_draw : Cl P w K mg base CX0 1 "_law_draw" (ts__law_draw K) []) {f : Addr} {fd : FuncData} (d : Df K mg "_law_names" s__law_names ["_law_box_here", "_law_many"] f fd) : Cl P w K mg base CX0 3 "_law_names" (ts__law_names K) [] := by
  refine bx_of ?_
  simp (disch := with_unfolding_all (
    refine cl_of d (okT (kk := 2) d.fn sc__law_names (fun Rs M k X h => by obtain ⟨b, _, rfl, _, _, rfl, _⟩ := h; rfl) fun cdv A outer s H E hr => ⟨_,
      (pss_cons (ps_set (i := 2) sc__law_names.nd rfl (Or.inl rfl) pe_str)
        (pss_cons (ps_par (i := 3) (j := 4) rfl sc__law_names.nd rfl rfl (by decide) rfl rfl (pa_cons (pe_cl c__law_draw hr (by decide) pass0 rfl (pa_cons (pv 0) (pa_cons pe_int pa_nil))) (pa_cons (pe_cl c__law_of hr (by decide) pass0 rfl (pa_cons (pv 0) (pa_cons (pe_lst (pa_cons pe_int (pa_cons pe_int (pa_cons pe_int (pa_cons pe_int (pa_cons pe_int (pa_cons pe_int pa_nil))))))) pa_nil))) pa_nil)) (by rfl))
        (pss_cons (ps_par (i := 5) (j := 6) rfl sc__law_names.nd rfl rfl (by decide) rfl rfl (pa_cons (pe_cl c__law_of hr (by decide) pass0 rfl (pa_cons (pv 0) (pa_cons (pe_lst (pa_cons pe_str (pa_cons pe_str (pa_cons pe_str (pa_cons pe_str (pa_cons pe_str pa_nil)))))) pa_nil))) (pa_cons (pe_cl c__law_draw hr (by decide) pass0 rfl (pa_cons (pv 0) (pa_cons pe_int pa_nil))) pa_nil)) (by rfl))
        (pss_cons (ps_set (i := 7) sc__law_names.nd rfl (Or.inl rfl) (pe_lst pa_nil))
        (pss_cons (ps_for PassesOwn.never rfl (pi_range1 (by rfl) B.range (pa_cons (pv 1) pa_nil)) (pg_name (i := 8) sc__law_names.nd rfl (Or.inl rfl)) (pss_cons (ps_set (i := 9) sc__law_names.nd rfl (Or.inl rfl) (pe_ix ix_str (pv 2) (pe_op op_mod (pe_op op_add (pv 3) (pe_op op_mul (pv 4) (pv 8))) pe_int) (fun _ _ => rfl)))
        (pss_one (ps_expr (pe_bm PySem.F.plainAttrs_list PySem.F.slot_list_append PySem.F.type_list_append mt_append (pv 7) (pa_cons (pe_ix ix_list (pe_lst (pa_cons (pe_op op_add_str (pv 9) (pv 5)) (pa_cons (pe_op op_add_str (pv 5) (pv 9)) (pa_cons (pe_op op_add_str (pv 9) (pe_op op_mulS (pv 5) (pe_op op_mod (pv 8) pe_int))) pa_nil)))) (pv 6) (fun _ _ => rfl)) pa_nil))))))
        (pss_one (ps_ret (pv 7)))))))), ?_⟩)
    try dsimp only [L3.cxK, L3.cxKX]
    rintro Rs M k X ⟨b, _, rfl, rfl, many, rfl, hm, q⟩
    (repeat' decreasing_trivial_pre_omega)
    intro start hst
    (repeat' decreasing_trivial_pre_omega)
    intro R hR
    have hT : ∃ t : Nat, R = iInt (t : Nat) ∧ t ∈ [1, 3, 5, 7, 9, 11] := by
      simp only [List.mem_cons, List.not_mem_nil, or_false] at hR
      rcases hR with rfl | rfl | rfl | rfl | rfl | rfl
      · exact ⟨1, rfl, by decide⟩
      · exact ⟨3, rfl, by decide⟩
      · exact ⟨5, rfl, by decide⟩
      · exact ⟨7, rfl, by decide⟩
      · exact ⟨9, rfl, by decide⟩
      · exact ⟨11, rfl, by decide⟩
    obtain ⟨step, rfl, hstep⟩ := hT
    (repeat' decreasing_trivial_pre_omega)
    intro R hR
    have hT : ∃ t : Str, R = aStr t ∧ t ∈ tails := by
      simp only [List.mem_cons, List.not_mem_nil, or_false] at hR
      rcases hR with rfl | rfl | rfl | rfl | rfl
      · exact ⟨"", rfl, by decide⟩
      · exact ⟨"q", rfl, by decide⟩
      · exact ⟨"zz", rfl, by decide⟩
      · exact ⟨"lamp", rfl, by decide⟩
      · exact ⟨"andlamp", rfl, by decide⟩
    obtain ⟨tail, rfl, htail⟩ := hT
    (repeat' decreasing_trivial_pre_omega)
    intro pick hpick
    (repeat' decreasing_trivial_pre_omega)
    intro a
    (repeat' decreasing_trivial_pre_omega)
    refine st_forG Nat ?_
    (repeat' decreasing_trivial_pre_omega)
    refine ⟨many, rfl, by omega, fun i n => n = i, fun _ => [some (iRef b), some (iInt many), some (aStr "abcdefghijklmnopqrstuvwxyz"), some (iInt start), some (iInt step), some (aStr tail), some (iInt pick), some (iRef a), none, none], fun n => [(b, mBox), (a, mLst ((List.range n).map fun k => aStr (nmK start step tail pick k)))], lj 0 rfl (by (repeat' decreasing_trivial_pre_omega)) rfl, ?_, ?_⟩
    · rintro i r n hi rfl rfl
      try dsimp only
      have ht := (tails_ok tail htail).1
      have hsl : ∀ c : Nat, (⟨#[c]⟩ : Str).length = 1 := fun _ => rfl
      (repeat' decreasing_trivial_pre_omega)
      rw [show ((start : Int) + step * n) % 26 = (((start + step * n) % 26 : Nat) : Int) by push_cast; rfl]
      refine o_ixS (by decide) (letter_at _ (Nat.mod_lt _ (by decide))) _ ?_
      have hs := hsl (97 + (start + step * n) % 26)
      have hml : (Txt.mul tail ((n : Int) % 2)).length ≤ 7 := by
        rcases mul_mod tail n with h | h
        · rw [h]; exact Nat.zero_le _
        · rw [h]; exact ht
      (repeat' decreasing_trivial_pre_omega)
      refine o_mulS (mulOk_01 (n := (n : Int) % 2) (by omega) (by omega)) _ ?_
      (repeat' decreasing_trivial_pre_omega)
      refine o_ixL (at3 (by omega) _ _ _) _ ?_
      (repeat' decreasing_trivial_pre_omega)
      refine lj (n + 1) rfl (by (repeat' decreasing_trivial_pre_omega)) ?_
      rw [List.range_succ, List.map_append]
      rfl
    · rintro n Γ1 rfl w
      refine st_wk w ?_
      refine st_ret (ev_told (ev_var rfl ⟨a, 1, _, rfl, rfl, ?_⟩))
      rw [show (List.range n).map (fun k => aStr (nmK start step tail pick k)) = ((List.range n).map (nmK start step tail pick)).map aStr by rw [List.map_map]; rfl]
      refine q _ (by simp) ?_ ?_
      · refine nodup_map_on ?_ List.nodup_range
        intro x hx y hy e
        exact nmK_inj hstep (by have := List.mem_range.mp hx; omega) (by have := List.mem_range.mp hy; omega) e
      · intro z hz
        obtain ⟨x, _, rfl⟩ := List.mem_map.mp hz
        exact nmK_ok htail
    )) only [↓bx_true]

abbrev s__law_house : Stmt := top 41
theorem sc__law_house : FnScope ["_law_box_here", "_law_limit", "_law_rooms", "_law_thick", "_law_doors", "_law_sights", "_law_at", "_law_to", "_law_one", "_law_other"] ["_law_box_here", "_law_limit"] (defScope s__law_house) := ⟨rfl, rfl, rfl, by decide +kernel, rfl, by decide +kernel, by decide +kernel⟩
abbrev ts__law_house (K : PySem.W.Frag) : TSp := boxK fun Rs q => ∃ limit : Nat, Rs = [iInt limit] ∧ (1 ≤ limit ∧ limit ≤ 8) ∧ ∀ ns ds ss, HouseOk limit ns ds ss → q (iHs K ns ds ss)
theorem ok__law_house (B : Bt mg) (c__law_names : Cl P w K mg base CX0 3 "_law_names" (ts__law_names K) []) (c__law_draw : Cl P w K mg base CX0 1 "_law_draw" (ts__law_draw K) []) {f : Addr} {fd : FuncData} (d : Df K mg "_law_house" s__law_house ["_law_box_here", "_law_limit"] f fd) : Cl P w K mg base CX0 4 "_law_house" (ts__law_house K) [] := by
  refine bx_of ?_
  simp (disch := with_unfolding_all (
    refine cl_of d (okT (kk := 3) d.fn sc__law_house (fun Rs M k X h => by obtain ⟨b, _, rfl, _, _, rfl, _⟩ := h; rfl) fun cdv A outer s H E hr => ⟨_,
      (pss_cons (ps_set (i := 2) sc__law_house.nd rfl (Or.inl rfl) (pe_cl c__law_names hr (by decide) pass0 rfl (pa_cons (pv 0) (pa_cons (pe_op op_add pe_int (pe_cl c__law_draw hr (by decide) pass0 rfl (pa_cons (pv 0) (pa_cons (pv 1) pa_nil)))) pa_nil))))
        (pss_cons (ps_par3 (i := 3) (j := 4) (l := 5) rfl sc__law_house.nd rfl rfl rfl (by decide) (by decide) (by decide) rfl rfl rfl (pa_cons (pe_cl c__law_draw hr (by decide) pass0 rfl (pa_cons (pv 0) (pa_cons pe_int pa_nil))) (pa_cons (pe_lst pa_nil) (pa_cons (pe_lst pa_nil) pa_nil))) (by rfl))
        (pss_cons (ps_for PassesOwn.never rfl (pi_range1 (by rfl) B.range (pa_cons (pe_callB call_len (by rfl) B.len (by decide +kernel) (pa_cons (pv 2) pa_nil)) pa_nil)) (pg_name (i := 6) sc__law_house.nd rfl (Or.inl rfl)) (pss_one (ps_for PassesOwn.never rfl (pi_range2 (by rfl) B.range (pa_cons (pe_op op_add (pv 6) pe_int) (pa_cons (pe_callB call_len (by rfl) B.len (by decide +kernel) (pa_cons (pv 2) pa_nil)) pa_nil))) (pg_name (i := 7) sc__law_house.nd rfl (Or.inl rfl)) (pss_one (ps_if (PW.pt (pw_or (PW.pt (pw_and (pt_cmpR op_eq (pv 7) (pe_op op_add (pv 6) pe_int) (nomark _)) (pw_and1 (pt_cmpR op_gt (pe_cl c__law_draw hr (by decide) pass0 rfl (pa_cons (pv 0) (pa_cons pe_int pa_nil))) pe_int (nomark _))))) (pw_or1 (pt_cmpR op_lt (pe_cl c__law_draw hr (by decide) pass0 rfl (pa_cons (pv 0) (pa_cons pe_int pa_nil))) (pv 3) (nomark _))))) (pss_one (ps_expr (pe_bm PySem.F.plainAttrs_list PySem.F.slot_list_append PySem.F.type_list_append mt_append (pv 4) (pa_cons (pe_ix ix_list (pe_lst (pa_cons (pe_tup (pa_cons (pe_ix ix_list (pv 2) (pv 6) (fun _ _ => rfl)) (pa_cons (pe_ix ix_list (pv 2) (pv 7) (fun _ _ => rfl)) pa_nil))) (pa_cons (pe_tup (pa_cons (pe_ix ix_list (pv 2) (pv 7) (fun _ _ => rfl)) (pa_cons (pe_ix ix_list (pv 2) (pv 6) (fun _ _ => rfl)) pa_nil))) pa_nil))) (pe_cl c__law_draw hr (by decide) pass0 rfl (pa_cons (pv 0) (pa_cons pe_int pa_nil))) (fun _ _ => rfl)) pa_nil)))) pss_nil)))))
        (pss_cons (ps_for PassesOwn.never rfl (pi_list (pv 2)) (pg_name (i := 8) sc__law_house.nd rfl (Or.inr rfl)) (pss_one (ps_set (i := 5) sc__law_house.nd rfl (Or.inl rfl) (pe_op op_cat (pv 5) (pe_lc (own := [("_law_other", 9)]) rfl sc__law_house.nd (pi_list (pv 2)) (blkOk_by (own := [("_law_other", 9)]) (N := ["_law_box_here", "_law_limit", "_law_rooms", "_law_thick", "_law_doors", "_law_sights", "_law_at", "_law_to", "_law_one", "_law_other"]) (sc := defScope s__law_house) (by decide +kernel)) (fun _ _ _ _ _ => (pg_name (i := 9) sc__law_house.nd rfl (by first | exact Or.inl rfl | exact Or.inr rfl))) (fun _ _ _ _ _ => (pts_one (PW.pt (pw_and (pt_cmpR op_ne (pv 9) (pv 8) (nomark _)) (pw_and1 (pt_cmpR op_eq (pe_cl c__law_draw hr (by decide) pass0 rfl (pa_cons (pv 0) (pa_cons pe_int pa_nil))) pe_int (nomark _))))))) (fun _ _ _ _ _ => (pe_tup (pa_cons (pv 8) (pa_cons (pv 9) pa_nil)))))))))
        (pss_one (ps_ret (pe_tup (pa_cons (pv 2) (pa_cons (pv 4) (pa_cons (pv 5) pa_nil)))))))))), ?_⟩)
    try dsimp only [L3.cxK, L3.cxKX]
    rintro Rs M k X ⟨b, _, rfl, rfl, limit, rfl, ⟨l1, l2⟩, q⟩
    (repeat' decreasing_trivial_pre_omega)
    intro m hm
    (repeat' decreasing_trivial_pre_omega)
    refine ⟨_, leS_rfl, 1 + m, rfl, by omega, fun ns n1 n2 n3 => ?_⟩
    (repeat' decreasing_trivial_pre_omega)
    intro th hth
    refine ea_cons (ev_lstM (ea_nil ⟨by simp, fun dl => ?_⟩))
    (repeat' decreasing_trivial_pre_omega)
    refine st_forG (List (Str × Str)) ?_
    (repeat' decreasing_trivial_pre_omega)
    refine ⟨ns.length, by simp, by omega, fun i ds => ds.length ≤ 8 * i ∧ ∀ p ∈ ds, p.1 ∈ ns ∧ p.2 ∈ ns ∧ p.1 ≠ p.2, fun _ => [some (iRef b), some (iInt limit), some (iLst (ns.map aStr)), some (iInt th), some (iRef dl), some (iLst []), none, none, none, none], fun ds => [(b, mBox), (dl, mLst (ds.map (prR K)))], lj [] ⟨by simp, by simp⟩ (by (repeat' decreasing_trivial_pre_omega)) rfl, ?_, ?_⟩
    · rintro i r ds hi rfl ⟨p1, p2⟩
      try dsimp only
      (repeat' decreasing_trivial_pre_omega)
      refine st_forG (List (Str × Str)) ?_
      (repeat' decreasing_trivial_pre_omega)
      rw [List.length_map]
      refine ⟨i + 1, ns.length, rfl, by omega, by omega, by omega, by omega, fun j ds => ds.length ≤ 8 * i + j ∧ ∀ p ∈ ds, p.1 ∈ ns ∧ p.2 ∈ ns ∧ p.1 ≠ p.2, fun _ => [some (iRef b), some (iInt limit), some (iLst (ns.map aStr)), some (iInt th), some (iRef dl), some (iLst []), some (iInt i), none, none, none], fun ds => [(b, mBox), (dl, mLst (ds.map (prR K)))], lj ds ⟨by omega, p2⟩ (by (repeat' decreasing_trivial_pre_omega)) rfl, ?_, ?_⟩
      · rintro j r ds hj rfl ⟨p1, p2⟩
        try dsimp only
        refine tg_name ?_
        have hn := n1
        have hj2 : i + 1 + j < ns.length := by omega
        have hne : ns[i] ≠ ns[i + 1 + j] := fun e => by
          have := (List.getElem_inj n2).mp e
          omega
        refine st_if_any (fun kb X hk => ?_) ?_ ?_
        · (repeat' (first | decreasing_trivial_pre_omega | exact hk _ | refine L3.ite_b (fun _ => ?_) (fun _ => ?_) | intro _ _))
        · (repeat' decreasing_trivial_pre_omega)
          refine o_ixN i rfl hi _ ?_
          (repeat' decreasing_trivial_pre_omega)
          refine o_ixN (i + 1 + j) (by push_cast; rfl) hj2 _ ?_
          (repeat' decreasing_trivial_pre_omega)
          refine o_ixN (i + 1 + j) (by push_cast; rfl) hj2 _ ?_
          (repeat' decreasing_trivial_pre_omega)
          refine o_ixN i rfl hi _ ?_
          (repeat' decreasing_trivial_pre_omega)
          intro d hd
          obtain rfl | rfl : d = 0 ∨ d = 1 := by omega
          · (repeat' decreasing_trivial_pre_omega)
            refine lj (ds ++ [(ns[i], ns[i + 1 + j])]) ⟨by simp; omega, fun p hp => ?_⟩ (by (repeat' decreasing_trivial_pre_omega)) (by simp)
            rcases List.mem_append.mp hp with h | h
            · exact p2 p h
            · rw [List.mem_singleton.mp h]
              exact ⟨List.getElem_mem _, List.getElem_mem _, hne⟩
          · (repeat' decreasing_trivial_pre_omega)
            refine lj (ds ++ [(ns[i + 1 + j], ns[i])]) ⟨by simp; omega, fun p hp => ?_⟩ (by (repeat' decreasing_trivial_pre_omega)) (by simp)
            rcases List.mem_append.mp hp with h | h
            · exact p2 p h
            · rw [List.mem_singleton.mp h]
              exact ⟨List.getElem_mem _, List.getElem_mem _, hne.symm⟩
        · (repeat' decreasing_trivial_pre_omega)
          exact lj ds ⟨by omega, p2⟩ (by (repeat' decreasing_trivial_pre_omega)) rfl
      · rintro ds Γ1 ⟨p1, p2⟩ w
        refine lj ds ⟨?_, p2⟩ (Wk.trans (by (repeat' decreasing_trivial_pre_omega)) w) rfl
        try dsimp only at p1
        omega
    · rintro ds Γ1 ⟨p1, p2⟩ w
      refine st_wk w ?_
      try dsimp only
      (repeat' decreasing_trivial_pre_omega)
      refine st_forG (List (Str × Str)) ?_
      (repeat' decreasing_trivial_pre_omega)
      refine ⟨fun i ss => ss.length ≤ 8 * i ∧ ∀ p ∈ ss, p.1 ∈ ns ∧ p.2 ∈ ns ∧ p.1 ≠ p.2, fun ss => [some (iRef b), some (iInt limit), some (iLst (ns.map aStr)), some (iInt th), some (iRef dl), some (iLst (ss.map (prR K))), none, none, none, none], fun _ => [(b, mBox), (dl, mLst (ds.map (prR K)))], lj [] ⟨by simp, by simp⟩ (by (repeat' decreasing_trivial_pre_omega)) rfl, ?_, ?_⟩
      · rintro i r ss hi hr ⟨s1, s2⟩
        have hi' : i < ns.length := by simpa using hi
        rw [List.getElem?_map, List.getElem?_eq_getElem hi'] at hr
        cases hr
        try dsimp only
        (repeat' decreasing_trivial_pre_omega)
        refine ev_lcD (l := ns) (e := aStr) (e' := fun y => prR K (ns[i], y)) (p := fun y => y ≠ ns[i]) (by (repeat' decreasing_trivial_pre_omega)) (by omega) (by decide) (fun y hy kb h1 h2 => ?_) (fun y hy hp => ?_) (fun l' q1 q2 => ?_)
        · (repeat' decreasing_trivial_pre_omega)
          refine ite_b (fun h => ?_) (fun _ => h2)
          have hp : y ≠ ns[i] := by simpa using h
          (repeat' decreasing_trivial_pre_omega)
          intro d hd
          (repeat' decreasing_trivial_pre_omega)
          cases decide ((d : Int) = 0) with
          | true => exact h1 hp
          | false => exact h2
        · (repeat' decreasing_trivial_pre_omega)
        · have hl := q1.length_le
          (repeat' decreasing_trivial_pre_omega)
          refine lj (ss ++ l'.map fun y => (ns[i], y)) ⟨by simp; omega, fun p hp => ?_⟩ (by simp only [List.map_append, List.map_map]; exact Wk.so (Wk.so (Wk.so (Wk.so (Wk.so (Wk.so (Wk.no (Wk.no (Wk.no (Wk.no Wk.nil)))))))))) rfl
          rcases List.mem_append.mp hp with h | h
          · exact s2 p h
          · obtain ⟨y, hy, rfl⟩ := List.mem_map.mp h
            exact ⟨List.getElem_mem _, q1.subset hy, (q2 y hy).symm⟩
      · rintro ss Γ1 ⟨s1, s2⟩ w
        refine st_wk w ?_
        try dsimp only
        refine st_told (i := 1) (j := 4) (a := dl) rfl rfl ?_
        (repeat' decreasing_trivial_pre_omega)
        rw [List.length_map] at s1
        exact q ns ds ss ⟨by omega, by omega, n2, n3, by omega, p2, by omega, s2⟩
    )) only [↓bx_true]

abbrev s_is_name : Stmt := top 30
theorem sc_is_name : FnScope ["text", "sign"] ["text"] (defScope s_is_name) := ⟨rfl, rfl, rfl, by decide +kernel, rfl, by decide +kernel, by decide +kernel⟩
abbrev ts_is_name (K : PySem.W.Frag) : TSp := pureTs (fun z : Str => [aStr z]) (fun z => z.length ≤ 1000) (fun z => iBl (isName z))
theorem ok_is_name (B : Bt mg) (g_MOST_LETTERS : ∃ u, mg "MOST_LETTERS" = some u ∧ RelV (.int 8) u) (g_LETTERS : ∃ u, mg "LETTERS" = some u ∧ RelV (.str letters) u) {f : Addr} {fd : FuncData} (d : Df K mg "is_name" s_is_name ["text"] f fd) : Cl P w K mg base CX0 1 "is_name" (ts_is_name K) [] := by
  refine bx_of ?_
  simp (disch := with_unfolding_all (
    refine cl_of d (okT (kk := 0) d.fn sc_is_name (fun Rs M k X h => by obtain ⟨z, rfl, _⟩ := h; rfl) fun cdv A outer s H E hr => ⟨_,
      (pss_one (ps_ret (pe_and (pe_chain op_le op_le pe_int (pe_callB call_len (by rfl) B.len (by decide +kernel) (pa_cons (pv 0) pa_nil)) (pe_gc rfl g_MOST_LETTERS)) (pe_one (pe_callB (cr_all rfl) (by rfl) B.all (by decide +kernel) (pa_cons (pe_lc (own := [("sign", 1)]) rfl sc_is_name.nd (pi_str (pv 0)) (blkOk_by (own := [("sign", 1)]) (N := ["text", "sign"]) (sc := defScope s_is_name) (by decide +kernel)) (fun _ _ _ _ _ => (pg_name (i := 1) sc_is_name.nd rfl (by first | exact Or.inl rfl | exact Or.inr rfl))) (fun _ _ _ _ _ => pts_nil) (fun _ _ _ _ _ => (pe_cmpR op_in_sign (pv 1) (pe_gc rfl g_LETTERS) (by rfl)))) pa_nil)))))), ?_⟩)
    try dsimp only [L3.cxK, L3.cxKX]
    rintro Rs M k X ⟨z, rfl, hz, rfl, q⟩
    exact st_ret (ep_andV (ep_chain ep_int (ep_cb (eap_cons (ep_var rfl) eap_nil) (c_lenS (by omega))) o_le (fun _ => ep_int) (fun _ => o_le)) (fun _ => ep_cb (eap_cons (ep_lcS (e' := iBl) (g := fun c => decide (c ∈ letters.cps.toList)) (ep_var rfl) (by omega) (by decide) (fun c hc => ep_op (ep_var rfl) ep_str o_inSign)) eap_nil) c_all) _ _ q)
    )) only [↓bx_true]

abbrev s_need_fresh : Stmt := top 31
theorem sc_need_fresh : FnScope ["name", "known"] ["name", "known"] (defScope s_need_fresh) := ⟨rfl, rfl, rfl, by decide +kernel, rfl, by decide +kernel, by decide +kernel⟩
abbrev ts_need_fresh (K : PySem.W.Frag) : TSp := roK fun M Rs q => ∃ z R, Rs = [aStr z, R] ∧ (isName z = true ∧ z.length ≤ 1000) ∧ ((∃ l : List Str, HasL K M R (l.map aStr) ∧ z ∉ l) ∨ (∃ kvs, HasD M R kvs ∧ kvs.lookup z = none)) ∧ q iNon
theorem ok_need_fresh (B : Bt mg) (c_is_name : Cl P w K mg base CX0 1 "is_name" (ts_is_name K) []) {f : Addr} {fd : FuncData} (d : Df K mg "need_fresh" s_need_fresh ["name", "known"] f fd) : Cl P w K mg base CX0 2 "need_fresh" (ts_need_fresh K) [] := by
  refine bx_of ?_
  simp (disch := with_unfolding_all (
    refine cl_of d (okT (kk := 1) d.fn sc_need_fresh (fun Rs M k X h => by obtain ⟨_, _, rfl, _⟩ := h; rfl) fun cdv A outer s H E hr => ⟨_,
      (pss_cons (ps_if (pt_not (pt_val (pe_cl c_is_name hr (by decide) pass0 rfl (pa_cons (pv 0) pa_nil)))) (pss_one ps_never) pss_nil)
        (pss_one (ps_if (pt_orr (pt_cmpR op_in_seq (pv 0) (pv 1) (by rfl)) (pt_cmp (pc_din (by exact hu_of hr) (pv 0) (pv 1)))) (pss_one ps_never) pss_nil))), ?_⟩)
    try dsimp only [L3.cxK, L3.cxKX]
    rintro Rs M k X ⟨z, R, rfl, ⟨h1, h2⟩, h3, q⟩
    (repeat' decreasing_trivial_pre_omega)
    refine ⟨z, leS_rfl, h2, ?_⟩
    try dsimp only
    rw [h1]
    (repeat' decreasing_trivial_pre_omega)
    rcases h3 with ⟨l, hl, hn⟩ | ⟨kvs, hd, hn⟩
    · refine et_or1 ?_
      (repeat' decreasing_trivial_pre_omega)
      refine ite_b (fun h => absurd (of_decide_eq_true h) hn) (fun _ => ?_)
      (repeat' decreasing_trivial_pre_omega)
    · refine et_or2 ?_
      (repeat' decreasing_trivial_pre_omega)
      rw [hn]
      (repeat' decreasing_trivial_pre_omega)
      refine ite_b (fun h => by simp at h) (fun _ => ?_)
      (repeat' decreasing_trivial_pre_omega)
    )) only [↓bx_true]

abbrev s_House_need_room : Stmt := inClass (top 32) 1
theorem sc_House_need_room : FnScope ["self", "room"] ["self", "room"] (defScope s_House_need_room) := ⟨rfl, rfl, rfl, by decide +kernel, rfl, by decide +kernel, by decide +kernel⟩
abbrev ts_House_need_room (K : PySem.W.Frag) (C_House : Addr) : TSp := methK C_House fun M fs Rs q => ∃ z Rn, ∃ l : List Str, Rs = [aStr z] ∧ fs.lookup ("named" : Str) = some Rn ∧ HasL K M Rn (l.map aStr) ∧ z ∈ l ∧ q iNon
theorem ok_House_need_room (B : Bt mg) {C_House : Addr} (T_House : Txt_House K mg C_House) {f : Addr} {fd : FuncData} (d : Fun K "need_room" "House.need_room" s_House_need_room f fd) (hm : Meth K C_House "need_room" f) : ClM P w K mg base CX0 1 C_House "need_room" (ts_House_need_room K C_House) [] := by
  refine bx_of ?_
  simp (disch := with_unfolding_all (
    refine ⟨T_House.cl, f, fd, ["self", "room"], [], ?_, hm, d.binds fun _ _ _ _ _ _ us hl => match us, hl with | [_, _], _ => rfl, .nil⟩
    refine (okT (kk := 0) d sc_House_need_room (fun Rs M k X h => by obtain ⟨_, _, _, rfl, _, _, _, _, rfl, _⟩ := h; rfl) fun cdv A outer s H E hr => ⟨_,
      (pss_one (ps_if (pt_cmpR op_notIn_seq (pv 1) (pe_fld (pv 0) (by rfl)) (by rfl)) (pss_one ps_never) pss_nil)), ?_⟩)
    try dsimp only [L3.cxK, L3.cxKX]
    rintro Rs M k X ⟨R, _, fs, rfl, ho, z, Rn, l, rfl, hf, hl, hz, q⟩
    (repeat' decreasing_trivial_pre_omega)
    refine ite_b (fun h => by simp [hz] at h) (fun _ => ?_)
    (repeat' decreasing_trivial_pre_omega)
    )) only [↓bx_true]

abbrev s_House_need_pair : Stmt := inClass (top 32) 2
theorem sc_House_need_pair : FnScope ["self", "one", "other"] ["self", "one", "other"] (defScope s_House_need_pair) := ⟨rfl, rfl, rfl, by decide +kernel, rfl, by decide +kernel, by decide +kernel⟩
abbrev ts_House_need_pair (K : PySem.W.Frag) (C_House : Addr) : TSp := methK C_House fun M fs Rs q => ∃ a b Rn, ∃ l : List Str, Rs = [aStr a, aStr b] ∧ fs.lookup ("named" : Str) = some Rn ∧ fs.lookup ("need_room" : Str) = none ∧ HasL K M Rn (l.map aStr) ∧ a ∈ l ∧ b ∈ l ∧ a ≠ b ∧ q iNon
theorem ok_House_need_pair (B : Bt mg) {C_House : Addr} (T_House : Txt_House K mg C_House) (cm_House_need_room : ClM P w K mg base CX0 1 C_House "need_room" (ts_House_need_room K C_House) []) {f : Addr} {fd : FuncData} (d : Fun K "need_pair" "House.need_pair" s_House_need_pair f fd) (hm : Meth K C_House "need_pair" f) : ClM P w K mg base CX0 2 C_House "need_pair" (ts_House_need_pair K C_House) [] := by
  refine bx_of ?_
  simp (disch := with_unfolding_all (
    refine ⟨T_House.cl, f, fd, ["self", "one", "other"], [], ?_, hm, d.binds fun _ _ _ _ _ _ us hl => match us, hl with | [_, _, _], _ => rfl, .nil⟩
    refine (okT (kk := 1) d sc_House_need_pair (fun Rs M k X h => by obtain ⟨_, _, _, rfl, _, _, _, _, _, rfl, _⟩ := h; rfl) fun cdv A outer s H E hr => ⟨_,
      (pss_cons (ps_expr (pe_clM cm_House_need_room hr (by decide) pass0 (pv 0) (pa_cons (pv 1) pa_nil)))
        (pss_cons (ps_expr (pe_clM cm_House_need_room hr (by decide) pass0 (pv 0) (pa_cons (pv 2) pa_nil)))
        (pss_one (ps_if (pt_cmpR op_eq (pv 1) (pv 2) (nomark _)) (pss_one ps_never) pss_nil)))), ?_⟩)
    try dsimp only [L3.cxK, L3.cxKX]
    rintro Rs M k X ⟨R, _, fs, rfl, ho, a, b, Rn, l, rfl, hf, hm, hl, ha, hb, hab, q⟩
    (repeat' decreasing_trivial_pre_omega)
    refine ⟨_, leS_rfl, a, Rn, l, rfl, hf, hl, ha, ?_⟩
    (repeat' decreasing_trivial_pre_omega)
    refine ⟨_, leS_rfl, b, Rn, l, rfl, hf, hl, hb, ?_⟩
    (repeat' decreasing_trivial_pre_omega)
    refine ite_b (fun h => absurd (of_decide_eq_true h) hab) (fun _ => ?_)
    (repeat' decreasing_trivial_pre_omega)
    )) only [↓bx_true]

abbrev s_House___init__ : Stmt := inClass (top 32) 0
theorem sc_House___init__ : FnScope ["self", "rooms", "doors", "sights", "name", "one", "other"] ["self", "rooms", "doors", "sights"] (defScope s_House___init__) := ⟨rfl, rfl, rfl, by decide +kernel, rfl, by decide +kernel, by decide +kernel⟩
abbrev ts_House___init__ (K : PySem.W.Frag) (C_House : Addr) : TSp := initK C_House fun Rs Z => ∃ ns ds ss, Rs = [aSeq K (ns.map aStr), aSeq K (ds.map (prR K)), aSeq K (ss.map (prR K))] ∧ (ns.length ≤ 8 ∧ ns.Nodup ∧ (∀ z ∈ ns, isName z = true ∧ z.length ≤ 1000)) ∧
  (ds.length ≤ 10000 ∧ ∀ p ∈ ds, p.1 ∈ ns ∧ p.2 ∈ ns ∧ p.1 ≠ p.2) ∧ (ss.length ≤ 10000 ∧ ∀ p ∈ ss, p.1 ∈ ns ∧ p.2 ∈ ns ∧ p.1 ≠ p.2) ∧ Z (houseF ns (doorsOf ds) (sightsOf ss))
theorem ok_House___init__ (B : Bt mg) {C_House : Addr} (T_House : Txt_House K mg C_House) (g_MOST_ROOMS : ∃ u, mg "MOST_ROOMS" = some u ∧ RelV (.int 8) u) (c_need_fresh : Cl P w K mg base CX0 2 "need_fresh" (ts_need_fresh K) []) (cm_House_need_pair : ClM P w K mg base CX0 2 C_House "need_pair" (ts_House_need_pair K C_House) []) {f : Addr} {fd : FuncData} {dvs : List V} {kws : List (Str × V)} (d : FunD K "__init__" "House.__init__" (defArgs s_House___init__) (defBody s_House___init__) (defScope s_House___init__) dvs kws f fd) : FnOk P w K mg base CX0 3 f fd ["self", "rooms", "doors", "sights"] (spT (ts_House___init__ K C_House)) := by
  refine bx_of ?_
  simp (disch := with_unfolding_all (
    refine (okTD (kk := 2) d sc_House___init__ (fun Rs M k X h => by obtain ⟨_, _, rfl, _, _, ⟨_, _, _, rfl, _⟩, _⟩ := h; rfl) fun cdv A outer s H E hr => ⟨_,
      (pss_cons (ps_if (pt_cmpR op_gt (pe_callB call_len (by rfl) B.len (by decide +kernel) (pa_cons (pv 1) pa_nil)) (pe_gc rfl g_MOST_ROOMS) (nomark _)) (pss_one ps_never) pss_nil)
        (pss_cons (ps_fld (pv 0) (pe_lst pa_nil) rfl)
        (pss_cons (ps_for PassesOwn.never rfl (pi_seq (pv 1)) (pg_name (i := 4) sc_House___init__.nd rfl (Or.inl rfl)) (pss_cons (ps_expr (pe_cl c_need_fresh hr (by decide) pass0 rfl (pa_cons (pv 4) (pa_cons (pe_fld (pv 0) (by rfl)) pa_nil))))
        (pss_one (ps_expr (pe_bm PySem.F.plainAttrs_list PySem.F.slot_list_append PySem.F.type_list_append mt_append (pe_fld (pv 0) (by rfl)) (pa_cons (pv 4) pa_nil))))))
        (pss_cons (ps_fld (pv 0) pe_dnewT rfl)
        (pss_cons (ps_for PassesOwn.never rfl (pi_seq (pv 2)) (pg_tup rfl (pgs_cons (pg_name (i := 5) sc_House___init__.nd rfl (Or.inl rfl)) (pgs_cons (pg_name (i := 6) sc_House___init__.nd rfl (Or.inl rfl)) pgs_nil))) (pss_cons (ps_expr (pe_clM cm_House_need_pair hr (by decide) pass0 (pv 0) (pa_cons (pv 5) (pa_cons (pv 6) pa_nil))))
        (pss_one (ps_asg2 pe_bl (pg_sub (pe_fld (pv 0) (by rfl)) (pe_tup (pa_cons (pv 5) (pa_cons (pv 6) pa_nil))) (set_dict (by exact hu_of hr))) (pg_sub (pe_fld (pv 0) (by rfl)) (pe_tup (pa_cons (pv 6) (pa_cons (pv 5) pa_nil))) (set_dict (by exact hu_of hr)))))))
        (pss_cons (ps_fld (pv 0) pe_dnewT rfl)
        (pss_one (ps_for PassesOwn.never rfl (pi_seq (pv 3)) (pg_tup rfl (pgs_cons (pg_name (i := 5) sc_House___init__.nd rfl (Or.inl rfl)) (pgs_cons (pg_name (i := 6) sc_House___init__.nd rfl (Or.inl rfl)) pgs_nil))) (pss_cons (ps_expr (pe_clM cm_House_need_pair hr (by decide) pass0 (pv 0) (pa_cons (pv 5) (pa_cons (pv 6) pa_nil))))
        (pss_one (ps_asg pe_bl (pg_sub (pe_fld (pv 0) (by rfl)) (pe_tup (pa_cons (pv 5) (pa_cons (pv 6) pa_nil))) (set_dict (by exact hu_of hr)))))))))))))), ?_⟩)
    try dsimp only [L3.cxK, L3.cxKX]
    rintro Rs M k X ⟨a, _, rfl, rfl, Z, ⟨ns, ds, ss, rfl, ⟨n1, n2, n3⟩, ⟨d1, d2⟩, ⟨s1, s2⟩, hz⟩, q⟩
    (repeat' decreasing_trivial_pre_omega)
    refine ite_b (fun h => by simp at h; omega) (fun _ => ?_)
    (repeat' decreasing_trivial_pre_omega)
    intro l
    (repeat' decreasing_trivial_pre_omega)
    refine st_forG Nat (tip_seq (ep_var rfl) _ _ ?_)
    refine ⟨fun i n => n = i, fun _ => [some (iRef a), some (aSeq K (ns.map aStr)), some (aSeq K (ds.map (prR K))), some (aSeq K (ss.map (prR K))), none, none, none], fun n => [(a, mObj C_House [("named", iRef l)]), (l, mLst ((ns.take n).map aStr))], lj 0 rfl (by (repeat' decreasing_trivial_pre_omega)) rfl, ?_, ?_⟩
    · rintro i r n hi hr rfl
      have hi' : n < ns.length := by simpa using hi
      rw [List.getElem?_map, List.getElem?_eq_getElem hi'] at hr
      cases hr
      obtain ⟨m1, m2⟩ := n3 _ (List.getElem_mem hi')
      (repeat' decreasing_trivial_pre_omega)
      refine ⟨_, leS_rfl, ns[n], iRef l, rfl, ⟨m1, m2⟩, .inl ⟨ns.take n, .inr (.inr (.inr ⟨l, 1, rfl, rfl⟩)), ?_⟩, ?_⟩
      · exact take_nin n2 hi'
      (repeat' decreasing_trivial_pre_omega)
      refine lj (n + 1) rfl (by (repeat' decreasing_trivial_pre_omega)) ?_
      rw [List.take_succ, List.getElem?_eq_getElem hi', List.map_append]
      rfl
    · rintro n Γ1 rfl w
      refine st_wk w ?_
      try dsimp only
      rw [List.length_map, List.take_length]
      refine st_fzF (i := 1) (j := 0) (f := "named") (fs := [("named", iRef l)]) rfl rfl rfl ?_
      show St E _ _ [(a, mObj C_House [("named", iLst (ns.map aStr))])] _
      (repeat' decreasing_trivial_pre_omega)
      intro d
      (repeat' decreasing_trivial_pre_omega)
      refine st_forG Nat (tip_seq (ep_var rfl) _ _ ?_)
      refine ⟨fun i n => n = i, fun _ => [some (iRef a), some (aSeq K (ns.map aStr)), some (aSeq K (ds.map (prR K))), some (aSeq K (ss.map (prR K))), none, none, none], fun n => [(a, mObj C_House [("named", iLst (ns.map aStr)), ("doored", iRef d)]), (d, mPD (doorsOf (ds.take n)))], lj 0 rfl (by (repeat' decreasing_trivial_pre_omega)) rfl, ?_, ?_⟩
      · rintro i r n hi hr rfl
        have hi' : n < ds.length := by simpa using hi
        rw [List.getElem?_map, List.getElem?_eq_getElem hi'] at hr
        cases hr
        obtain ⟨q1, q2, q3⟩ := d2 _ (List.getElem_mem hi')
        have dl := doors_len ds n (by omega)
        have dl2 := putP_len (doorsOf (ds.take n)) (ds[n].1, ds[n].2)
        (repeat' decreasing_trivial_pre_omega)
        refine ⟨_, leS_rfl, ds[n].1, ds[n].2, _, ns, rfl, rfl, rfl, .inl rfl, q1, q2, q3, ?_⟩
        (repeat' decreasing_trivial_pre_omega)
        refine lj (n + 1) rfl (by (repeat' decreasing_trivial_pre_omega)) ?_
        unfold doorsOf
        rw [fold_snoc _ _ _ _ hi']
        rfl
      · rintro n Γ1 rfl w
        refine st_wk w ?_
        try dsimp only
        rw [List.length_map, List.take_length]
        refine st_fzP (i := 1) (j := 0) (f := "doored") (fs := [("named", iLst (ns.map aStr)), ("doored", iRef d)]) rfl rfl rfl ?_
        show St E _ _ [(a, mObj C_House [("named", iLst (ns.map aStr)), ("doored", iPD (doorsOf ds))])] _
        refine st_nt ?_
        (repeat' decreasing_trivial_pre_omega)
        intro t
        (repeat' decreasing_trivial_pre_omega)
        refine st_forG Nat (tip_seq (ep_var rfl) _ _ ?_)
        refine ⟨fun i n => n = i, fun _ => [some (iRef a), some (aSeq K (ns.map aStr)), some (aSeq K (ds.map (prR K))), some (aSeq K (ss.map (prR K))), none, none, none], fun n => [(a, mObj C_House [("named", iLst (ns.map aStr)), ("doored", iPD (doorsOf ds)), ("sighted", iRef t)]), (t, mPD (sightsOf (ss.take n)))], lj 0 rfl (by (repeat' decreasing_trivial_pre_omega)) rfl, ?_, ?_⟩
        · rintro i r n hi hr rfl
          have hi' : n < ss.length := by simpa using hi
          rw [List.getElem?_map, List.getElem?_eq_getElem hi'] at hr
          cases hr
          obtain ⟨q1, q2, q3⟩ := s2 _ (List.getElem_mem hi')
          have dl := sights_len ss n (by omega)
          (repeat' decreasing_trivial_pre_omega)
          refine ⟨_, leS_rfl, ss[n].1, ss[n].2, _, ns, rfl, rfl, rfl, .inl rfl, q1, q2, q3, ?_⟩
          (repeat' decreasing_trivial_pre_omega)
          refine lj (n + 1) rfl (by (repeat' decreasing_trivial_pre_omega)) ?_
          unfold sightsOf
          rw [fold_snoc _ _ _ _ hi']
          rfl
        · rintro n Γ1 rfl w
          try dsimp only
          rw [List.length_map, List.take_length]
          exact ⟨_, _, turn_fzP (i := 1) (j := 0) (f := "sighted") rfl rfl rfl, q _ hz⟩
    )) only [↓bx_true]

theorem bd_House___init__ {f : Addr} {fd : FuncData} {e0 e1 e2 : Addr} (F : FunD K "__init__" "House.__init__" (defArgs s_House___init__) (defBody s_House___init__) (defScope s_House___init__) [V.ref e0, V.ref e1, V.ref e2] [] f fd) : ∃ ds, Vals [] ds ∧ Binds K fd ["self", "rooms", "doors", "sights"] ds := by
  exact FunD.binds1 (ps := ["self", "rooms", "doors", "sights"]) F 4 3 (by simp) rfl fun T kV doc pm an cdv ct us its h1 h2 => match us, its, h1, h2 with
    | [a, b, c, d], [x, y, z], _, _ => ⟨_, rfl, rfl⟩
abbrev s__law_made : Stmt := top 42
theorem sc__law_made : FnScope ["_law_house_here"] ["_law_house_here"] (defScope s__law_made) := ⟨rfl, rfl, rfl, by decide +kernel, rfl, by decide +kernel, by decide +kernel⟩
theorem sign_in (c : Nat) (h1 : 97 ≤ c) (h2 : c ≤ 122) : c ∈ letters.cps.toList := by
  have h : ∀ d : Fin 26, 97 + d.val ∈ letters.cps.toList := by decide +kernel
  have := h ⟨c - 97, by omega⟩
  rwa [show 97 + (c - 97) = c by omega] at this
theorem nm_name {z : Str} (h : NmOk z) : isName z = true ∧ z.length ≤ 1000 := by
  obtain ⟨⟨h1, _⟩, h2, h3⟩ := h
  refine ⟨?_, by omega⟩
  unfold isName
  rw [Bool.and_eq_true, Bool.and_eq_true, decide_eq_true_eq, decide_eq_true_eq, List.all_eq_true]
  refine ⟨⟨by omega, by omega⟩, fun b hb => ?_⟩
  obtain ⟨c, hc, rfl⟩ := List.mem_map.mp hb
  have := h3 c hc
  exact decide_eq_true (sign_in c this.1 this.2)
abbrev ts__law_made (K : PySem.W.Frag) (C_House : Addr) : TSp := pureTs (fun p : List Str × List (Str × Str) × List (Str × Str) => [iHs K p.1 p.2.1 p.2.2]) (fun p => HouseOk 8 p.1 p.2.1 p.2.2) (fun p => iHouse C_House p.1 (doorsOf p.2.1) (sightsOf p.2.2))
theorem ok__law_made (B : Bt mg) {C_House : Addr} (T_House : Txt_House K mg C_House) (ci_House : ClI P w K mg base CX0 3 C_House "House" (ts_House___init__ K C_House) []) {f : Addr} {fd : FuncData} (d : Df K mg "_law_made" s__law_made ["_law_house_here"] f fd) : Cl P w K mg base CX0 5 "_law_made" (ts__law_made K C_House) [] := by
  refine bx_of ?_
  simp (disch := with_unfolding_all (
    refine cl_of d (okT (kk := 4) d.fn sc__law_made (fun Rs M k X h => by obtain ⟨_, rfl, _⟩ := h; rfl) fun cdv A outer s H E hr => ⟨_,
      (pss_one (ps_ret (pe_clI ci_House hr (by decide) pass0 rfl (pa_cons (pe_callTy call_list_of (by rfl) B.list (by decide +kernel) (pa_cons (pe_ix ix_tup (pv 0) pe_int (fun _ _ => rfl)) pa_nil)) (pa_cons (pe_callTy call_list_of (by rfl) B.list (by decide +kernel) (pa_cons (pe_ix ix_tup (pv 0) pe_int (fun _ _ => rfl)) pa_nil)) (pa_cons (pe_callTy call_list_of (by rfl) B.list (by decide +kernel) (pa_cons (pe_ix ix_tup (pv 0) pe_int (fun _ _ => rfl)) pa_nil)) pa_nil)))))), ?_⟩)
    try dsimp only [L3.cxK, L3.cxKX]
    rintro Rs M k X ⟨⟨ns, ds, ss⟩, rfl, ho, rfl, q⟩
    try dsimp only at ho q
    (repeat' decreasing_trivial_pre_omega)
    refine ⟨_, leS_cons seq_l (leS_cons seq_l (leS_cons seq_l leS_nil)), ns, ds, ss, rfl, ⟨ho.n1, ho.nd, fun z hz => nm_name (ho.nm z hz)⟩, ⟨by have := ho.dl; omega, ho.dm⟩, ⟨by have := ho.sl; omega, ho.sm⟩, ?_⟩
    (repeat' decreasing_trivial_pre_omega)
    )) only [↓bx_true]

abbrev s__law_near : Stmt := top 34
theorem sc__law_near : FnScope ["_law_house_here", "_law_room", "_law_other"] ["_law_house_here", "_law_room"] (defScope s__law_near) := ⟨rfl, rfl, rfl, by decide +kernel, rfl, by decide +kernel, by decide +kernel⟩
abbrev ts__law_near (K : PySem.W.Frag) : TSp := pureTs (fun p : (List Str × List (Str × Str) × List (Str × Str)) × Str => [iHs K p.1.1 p.1.2.1 p.1.2.2, aStr p.2]) (fun p => p.1.1.length ≤ 1000 ∧ PrOk p.1.2.1 ∧ StrOk p.2 ∧ ∀ z ∈ p.1.1, StrOk z) (fun p => iLst ((nearOf p.1.1 p.1.2.1 p.2).map aStr))
theorem ok__law_near (B : Bt mg) {f : Addr} {fd : FuncData} (d : Df K mg "_law_near" s__law_near ["_law_house_here", "_law_room"] f fd) : Cl P w K mg base CX0 1 "_law_near" (ts__law_near K) [] := by
  refine bx_of ?_
  simp (disch := with_unfolding_all (
    refine cl_of d (okT (kk := 0) d.fn sc__law_near (fun Rs M k X h => by obtain ⟨_, rfl, _⟩ := h; rfl) fun cdv A outer s H E hr => ⟨_,
      (pss_one (ps_ret (pe_lc (own := [("_law_other", 2)]) rfl sc__law_near.nd (pi_list (pe_ix ix_tup (pv 0) pe_int (fun _ _ => rfl))) (blkOk_by (own := [("_law_other", 2)]) (N := ["_law_house_here", "_law_room", "_law_other"]) (sc := defScope s__law_near) (by decide +kernel)) (fun _ _ _ _ _ => (pg_name (i := 2) sc__law_near.nd rfl (by first | exact Or.inl rfl | exact Or.inr rfl))) (fun _ _ _ _ _ => (pts_one (PW.pt (pw_or (pt_cmpR (castOp (K := K) (r := rInD) rfl (op_inD (by exact hu65_of hr))) (pe_tup (pa_cons (pv 1) (pa_cons (pv 2) pa_nil))) (pe_ix (castIx (K := K) (r := rIxT) rfl ix_tup) (pv 0) pe_int (fun _ _ => rfl)) (by rfl)) (pw_or1 (pt_cmpR (castOp (K := K) (r := rInD) rfl (op_inD (by exact hu65_of hr))) (pe_tup (pa_cons (pv 2) (pa_cons (pv 1) pa_nil))) (pe_ix (castIx (K := K) (r := rIxT) rfl ix_tup) (pv 0) pe_int (fun _ _ => rfl)) (by rfl))))))) (fun _ _ _ _ _ => (pv 2))))), ?_⟩)
    try dsimp only [L3.cxK, L3.cxKX]
    rintro Rs M k X ⟨⟨⟨ns, ds, ss⟩, z⟩, rfl, ⟨h1, h2, h3, h4⟩, rfl, q⟩
    try dsimp only at h1 h2 h3 h4 q
    (repeat' decreasing_trivial_pre_omega)
    refine ep_lcF (l := ns) (e := aStr) (p := fun y => decide ((z, y) ∈ ds) || decide ((y, z) ∈ ds)) ?_ (by omega) (by decide) (fun y hy => ?_) (fun y hy hp => ?_) _ _ q
    · (repeat' decreasing_trivial_pre_omega)
    · (repeat' decreasing_trivial_pre_omega)
      · exact o_inP ⟨h3, h4 y hy⟩ h2 _ ⟨_, rfl, by assumption⟩
      · exact o_inP ⟨h4 y hy, h3⟩ h2 _ ⟨_, rfl, by assumption⟩
    · (repeat' decreasing_trivial_pre_omega)
    )) only [↓bx_true]

abbrev s__law_hand : Stmt := top 35
theorem sc__law_hand : FnScope ["_law_house_here", "_law_room", "_law_near_here", "_law_other"] ["_law_house_here", "_law_room"] (defScope s__law_hand) := ⟨rfl, rfl, rfl, by decide +kernel, rfl, by decide +kernel, by decide +kernel⟩
abbrev ts__law_hand (K : PySem.W.Frag) : TSp := pureTs (fun p : (List Str × List (Str × Str) × List (Str × Str)) × Str => [iHs K p.1.1 p.1.2.1 p.1.2.2, aStr p.2]) (fun p => p.1.1.length ≤ 1000 ∧ PrOk p.1.2.1 ∧ StrOk p.2 ∧ ∀ z ∈ p.1.1, StrOk z) (fun p => iLst ((handOf p.1.1 p.1.2.1 p.2).map aStr))
theorem ok__law_hand (B : Bt mg) (c__law_near : Cl P w K mg base CX0 1 "_law_near" (ts__law_near K) []) {f : Addr} {fd : FuncData} (d : Df K mg "_law_hand" s__law_hand ["_law_house_here", "_law_room"] f fd) : Cl P w K mg base CX0 2 "_law_hand" (ts__law_hand K) [] := by
  refine bx_of ?_
  simp (disch := with_unfolding_all (
    refine cl_of d (okT (kk := 1) d.fn sc__law_hand (fun Rs M k X h => by obtain ⟨_, rfl, _⟩ := h; rfl) fun cdv A outer s H E hr => ⟨_,
      (pss_cons (ps_set (i := 2) sc__law_hand.nd rfl (Or.inr rfl) (pe_cl c__law_near hr (by decide) pass0 rfl (pa_cons (pv 0) (pa_cons (pv 1) pa_nil))))
        (pss_one (ps_ret (pe_lc (own := [("_law_other", 3)]) rfl sc__law_hand.nd (pi_list (pe_ix ix_tup (pv 0) pe_int (fun _ _ => rfl))) (blkOk_by (own := [("_law_other", 3)]) (N := ["_law_house_here", "_law_room", "_law_near_here", "_law_other"]) (sc := defScope s__law_hand) (by decide +kernel)) (fun _ _ _ _ _ => (pg_name (i := 3) sc__law_hand.nd rfl (by first | exact Or.inl rfl | exact Or.inr rfl))) (fun _ _ _ _ _ => (pts_one (PW.pt (pw_or (pt_cmpR op_eq (pv 3) (pv 1) (nomark _)) (pw_or1 (pt_cmpR (castOp (K := K) (r := fun K => rIn K false) rfl op_in_seq) (pv 3) (pv 2) (by rfl))))))) (fun _ _ _ _ _ => (pv 3)))))), ?_⟩)
    try dsimp only [L3.cxK, L3.cxKX]
    rintro Rs M k X ⟨⟨⟨ns, ds, ss⟩, z⟩, rfl, ⟨h1, h2, h3, h4⟩, rfl, q⟩
    try dsimp only at h1 h2 h3 h4 q
    (repeat' decreasing_trivial_pre_omega)
    refine ⟨((ns, ds, ss), z), leS_rfl, ⟨h1, h2, h3, h4⟩, ?_⟩
    (repeat' decreasing_trivial_pre_omega)
    refine ep_lcF (l := ns) (e := aStr) (p := fun y => decide (y = z) || decide (y ∈ nearOf ns ds z)) ?_ (by omega) (by decide) (fun y hy => ?_) (fun y hy hp => ?_) _ _ q
    · (repeat' decreasing_trivial_pre_omega)
    · (repeat' decreasing_trivial_pre_omega)
    · (repeat' decreasing_trivial_pre_omega)
    )) only [↓bx_true]

abbrev s__law_round : Stmt := top 43
theorem sc__law_round : FnScope ["_law_box_here", "_law_house_here", "_law_limit", "_law_size", "_law_walk", "_law_k", "_law_half"] ["_law_box_here", "_law_house_here", "_law_limit"] (defScope s__law_round) := ⟨rfl, rfl, rfl, by decide +kernel, rfl, by decide +kernel, by decide +kernel⟩
theorem nm_so {z : Str} (h : NmOk z) : StrOk z := fun c hc => by have := h.2.2 c hc; omega
theorem house_pr {limit : Nat} {ns : List Str} {ds ss : List (Str × Str)} (h : HouseOk limit ns ds ss) : PrOk ds := fun p hp => ⟨nm_so (h.nm _ (h.dm p hp).1), nm_so (h.nm _ (h.dm p hp).2.1)⟩
abbrev ts__law_round (K : PySem.W.Frag) : TSp := boxK fun Rs q => ∃ lh ns ds ss, ∃ limit : Nat, Rs = [iHs K ns ds ss, iInt limit] ∧ HouseOk lh ns ds ss ∧ lh ≤ 8 ∧ 1 ≤ limit ∧ limit ≤ 1000 ∧ ∀ l, RoundOk ns ds limit l → q (aTup K (l.map aStr))
theorem ok__law_round (B : Bt mg) (c__law_draw : Cl P w K mg base CX0 1 "_law_draw" (ts__law_draw K) []) (c__law_of : Cl P w K mg base CX0 2 "_law_of" (ts__law_of K) []) (c__law_near : Cl P w K mg base CX0 1 "_law_near" (ts__law_near K) []) (c__law_hand : Cl P w K mg base CX0 2 "_law_hand" (ts__law_hand K) []) {f : Addr} {fd : FuncData} (d : Df K mg "_law_round" s__law_round ["_law_box_here", "_law_house_here", "_law_limit"] f fd) : Cl P w K mg base CX0 3 "_law_round" (ts__law_round K) [] := by
  refine bx_of ?_
  simp (disch := with_unfolding_all (
    refine cl_of d (okT (kk := 2) d.fn sc__law_round (fun Rs M k X h => by obtain ⟨b, _, rfl, _, _, _, _, _, _, rfl, _⟩ := h; rfl) fun cdv A outer s H E hr => ⟨_,
      (pss_cons (ps_set (i := 3) sc__law_round.nd rfl (Or.inl rfl) (pe_op op_add pe_int (pe_cl c__law_draw hr (by decide) pass0 rfl (pa_cons (pv 0) (pa_cons (pv 2) pa_nil)))))
        (pss_cons (ps_lm (ps_set (i := 4) sc__law_round.nd rfl (Or.inl rfl) (pe_lst (pa_cons (pe_cl c__law_of hr (by decide) pass0 rfl (pa_cons (pv 0) (pa_cons (pe_ix ix_tup (pv 1) pe_int (fun _ _ => rfl)) pa_nil))) pa_nil))))
        (pss_cons (ps_for PassesOwn.never rfl (pi_range1 (by rfl) B.range (pa_cons (pe_op op_sub (pv 3) pe_int) pa_nil)) (pg_name (i := 5) sc__law_round.nd rfl (Or.inl rfl)) (pss_one (ps_expr (pe_bm PySem.F.plainAttrs_list PySem.F.slot_list_append PySem.F.type_list_append mt_append (pv 4) (pa_cons (pe_cl c__law_of hr (by decide) pass0 rfl (pa_cons (pv 0) (pa_cons (pe_op op_cat (pe_lst (pa_cons (pe_ix ix_list (pv 4) (pe_un un_neg pe_int) (fun _ _ => rfl)) pa_nil)) (pe_cl c__law_near hr (by decide) pass0 rfl (pa_cons (pv 1) (pa_cons (pe_ix ix_list (pv 4) (pe_un un_neg pe_int) (fun _ _ => rfl)) pa_nil)))) pa_nil))) pa_nil)))))
        (pss_cons (ps_if (pt_cmpR op_in_seq (pe_ix ix_list (pv 4) pe_int (fun _ _ => rfl)) (pe_cl c__law_hand hr (by decide) pass0 rfl (pa_cons (pv 1) (pa_cons (pe_ix ix_list (pv 4) (pe_un un_neg pe_int) (fun _ _ => rfl)) pa_nil))) (by rfl)) (pss_one (ps_ret (pe_callTy call_tuple_of (by rfl) B.tuple (by decide +kernel) (pa_cons (pv 4) pa_nil)))) pss_nil)
        (pss_cons (ps_set (i := 6) sc__law_round.nd rfl (Or.inl rfl) (pe_slice sl_list (pv 4) po_none (po_some (pe_op op_add (pe_op op_fdivW (pv 3) pe_int) pe_int))))
        (pss_one (ps_ret (pe_callTy call_tuple_of (by rfl) B.tuple (by decide +kernel) (pa_cons (pe_op op_cat (pv 6) (pe_revL (pe_slice sl_list (pv 6) (po_some pe_int) (po_some (pe_un un_neg pe_int))))) pa_nil))))))))), ?_⟩)
    try dsimp only [L3.cxK, L3.cxKX]
    rintro Rs M k X ⟨b, _, rfl, rfl, lh, ns, ds, ss, limit, rfl, ho, l8, l1, l2, q⟩
    have n0 := ho.n0
    have n1 := ho.n1
    have so : ∀ z ∈ ns, StrOk z := fun z hz => nm_so (ho.nm z hz)
    (repeat' decreasing_trivial_pre_omega)
    intro sz hsz
    refine o_add _ ?_
    (repeat' decreasing_trivial_pre_omega)
    refine k_map (l := ns) (f := aStr) fun z0 hz0 => ?_
    (repeat' decreasing_trivial_pre_omega)
    intro a
    (repeat' decreasing_trivial_pre_omega)
    refine st_forG (List Str) ?_
    (repeat' decreasing_trivial_pre_omega)
    refine ⟨sz, by congr 2; omega, by omega, fun i l => l.length = 1 + i ∧ (∀ z ∈ l, z ∈ ns) ∧ Chain ds l, fun _ => [some (iRef b), some (iHs K ns ds ss), some (iInt limit), some (iInt (1 + sz)), some (iRef a), none, none], fun l => [(b, mBox), (a, mLst (l.map aStr))], lj [z0] ⟨rfl, by simpa using hz0, by intro i hi; simp at hi⟩ (by (repeat' decreasing_trivial_pre_omega)) rfl, ?_, ?_⟩
    · rintro i r l hi rfl ⟨p1, p2, p3⟩
      try dsimp only
      have hl := last_in (l := l) (ns := ns) (by omega) p2
      have nl : (nearOf ns ds (l.getD (l.length - 1) Str.empty)).length ≤ 8 := Nat.le_trans (List.length_filter_le _ _) (by omega)
      (repeat' decreasing_trivial_pre_omega)
      refine o_ixM1 1 rfl (at_m1 (by omega)) _ ?_
      (repeat' decreasing_trivial_pre_omega)
      refine o_ixM1 1 rfl (at_m1 (by omega)) _ ?_
      (repeat' decreasing_trivial_pre_omega)
      refine ⟨((ns, ds, ss), l.getD (l.length - 1) Str.empty), leS_rfl, ⟨by dsimp only; omega, house_pr ho, so _ hl, so⟩, ?_⟩
      (repeat' decreasing_trivial_pre_omega)
      · rw [List.length_map]
        show 1 + (nearOf ns ds (l.getD (l.length - 1) Str.empty)).length ≤ 1000000
        omega
      · rw [List.length_append, List.length_map]
        show 1 + (nearOf ns ds (l.getD (l.length - 1) Str.empty)).length ≤ 1000000
        omega
      · try dsimp only
        refine k_map (l := l.getD (l.length - 1) Str.empty :: nearOf ns ds (l.getD (l.length - 1) Str.empty)) (f := aStr) fun z hz => ?_
        have hz2 : z ∈ ns ∧ relR ds (l.getD (l.length - 1) Str.empty) z := by
          rcases List.mem_cons.mp hz with h | h
          · rw [h]; exact ⟨hl, .inl rfl⟩
          · exact near_rel h
        (repeat' decreasing_trivial_pre_omega)
        refine lj (l ++ [z]) ⟨by simp; omega, fun y hy => ?_, chain_add p3 hz2.2⟩ (by (repeat' decreasing_trivial_pre_omega)) (by simp)
        rcases List.mem_append.mp hy with h | h
        · exact p2 y h
        · rw [List.mem_singleton.mp h]; exact hz2.1
    · rintro l Γ1 ⟨p1, p2, p3⟩ w
      refine st_wk w ?_
      try dsimp only
      have e1 : (((1 : Int) + (sz : Nat)) - 1).toNat = sz := by omega
      have ll : l.length = 1 + sz := p1
      have hl := last_in (l := l) (ns := ns) (by omega) p2
      have nl : (nearOf ns ds (l.getD (l.length - 1) Str.empty)).length ≤ 8 := Nat.le_trans (List.length_filter_le _ _) (by omega)
      refine st_told (i := 1) (j := 4) (a := a) rfl rfl ?_
      (repeat' decreasing_trivial_pre_omega)
      refine o_ixN 0 rfl (by omega) _ ?_
      (repeat' decreasing_trivial_pre_omega)
      refine o_ixL (at_m1 (by omega)) _ ?_
      (repeat' decreasing_trivial_pre_omega)
      refine ⟨((ns, ds, ss), l.getD (l.length - 1) Str.empty), leS_rfl, ⟨by dsimp only; omega, house_pr ho, so _ hl, so⟩, ?_⟩
      (repeat' decreasing_trivial_pre_omega)
      refine ite_b (fun hd => ?_) (fun hd => ?_)
      · (repeat' decreasing_trivial_pre_omega)
        refine q l ⟨by omega, by omega, p2, closed p3 (by omega) ?_⟩
        have := hand_rel (of_decide_eq_true hd)
        rw [List.getD_eq_getElem?_getD (i := 0), List.getElem?_eq_getElem (by omega)]
        exact this
      · have h2 : 2 ≤ l.length := by
          rcases Nat.lt_or_ge l.length 2 with h | h
          · have h0 : l.length - 1 = 0 := by omega
            have h1 := hand_self (ds := ds) hl
            have := of_decide_eq_false hd
            dsimp only at this
            rw [h0, List.getD_eq_getElem?_getD, List.getElem?_eq_getElem (by omega)] at h1 this
            exact absurd h1 this
          · exact h
        (repeat' decreasing_trivial_pre_omega)
        · exact wide_div (b := 60) (by omega) (by decide) (by decide) (by decide)
        all_goals rw [show ((1 : Int) + (sz : Nat)) / 2 + 1 = ((l.length / 2 + 1 : Nat) : Int) by omega, cutL_take, cutL_mid]
        · simp
          omega
        · have e : (l.map aStr).take (l.length / 2 + 1) ++ ((((l.map aStr).take (l.length / 2 + 1)).drop 1).take (((l.map aStr).take (l.length / 2 + 1)).length - 2)).reverse = (backL l (l.length / 2)).map aStr := by
            unfold backL
            rw [List.map_append, List.map_reverse, List.map_take, List.map_take, List.map_drop, List.map_take]
            congr 3
            simp
            omega
          rw [e]
          exact q _ (back_ok p3 p2 h2 (by omega))
    )) only [↓bx_true]

abbrev s__law_lied : Stmt := top 44
theorem sc__law_lied : FnScope ["_law_box_here", "_law_house_here", "_law_seen", "_law_found", "_law_k", "_law_beat", "_law_room", "_law_there"] ["_law_box_here", "_law_house_here", "_law_seen"] (defScope s__law_lied) := ⟨rfl, rfl, rfl, by decide +kernel, rfl, by decide +kernel, by decide +kernel⟩
def SeenIn (ns : List Str) (s : Seen) : Prop := -1000000000 ≤ s.1 ∧ s.1 ≤ 1000000000 ∧ s.2.1 ∈ ns
abbrev ts__law_lied (K : PySem.W.Frag) : TSp := boxK fun Rs q => ∃ ns ds ss, ∃ l : List Seen, Rs = [iHs K ns ds ss, iLst (l.map (seenR K))] ∧ ns ≠ [] ∧ ns.length ≤ 8 ∧ l.length ≤ 100 ∧ (∀ s ∈ l, SeenIn ns s) ∧ ∀ l' : List Seen, l'.length ≤ l.length + 3 → (∀ s ∈ l', SeenIn ns s) → q (iLst (l'.map (seenR K)))
theorem ok__law_lied (B : Bt mg) (c__law_draw : Cl P w K mg base CX0 1 "_law_draw" (ts__law_draw K) []) (c__law_of : Cl P w K mg base CX0 2 "_law_of" (ts__law_of K) []) {f : Addr} {fd : FuncData} (d : Df K mg "_law_lied" s__law_lied ["_law_box_here", "_law_house_here", "_law_seen"] f fd) : Cl P w K mg base CX0 3 "_law_lied" (ts__law_lied K) [] := by
  refine bx_of ?_
  simp (disch := with_unfolding_all (
    refine cl_of d (okT (kk := 2) d.fn sc__law_lied (fun Rs M k X h => by obtain ⟨b, _, rfl, _, _, _, _, _, rfl, _⟩ := h; rfl) fun cdv A outer s H E hr => ⟨_,
      (pss_cons (ps_set (i := 3) sc__law_lied.nd rfl (Or.inl rfl) (pe_callTy call_list_of (by rfl) B.list (by decide +kernel) (pa_cons (pv 2) pa_nil)))
        (pss_cons (ps_for PassesOwn.never rfl (pi_range1 (by rfl) B.range (pa_cons (pe_cl c__law_draw hr (by decide) pass0 rfl (pa_cons (pv 0) (pa_cons pe_int pa_nil))) pa_nil)) (pg_name (i := 4) sc__law_lied.nd rfl (Or.inl rfl)) (pss_cons (ps_par3 (i := 5) (j := 6) (l := 7) rfl sc__law_lied.nd rfl rfl rfl (by decide) (by decide) (by decide) rfl rfl rfl (pa_cons (pe_cl c__law_draw hr (by decide) pass0 rfl (pa_cons (pv 0) (pa_cons pe_int pa_nil))) (pa_cons (pe_cl c__law_of hr (by decide) pass0 rfl (pa_cons (pv 0) (pa_cons (pe_ix ix_tup (pv 1) pe_int (fun _ _ => rfl)) pa_nil))) (pa_cons (pe_cmpR op_eq (pe_cl c__law_draw hr (by decide) pass0 rfl (pa_cons (pv 0) (pa_cons pe_int pa_nil))) pe_int (nomark _)) pa_nil))) (by rfl))
        (pss_one (ps_expr (pe_bm PySem.F.plainAttrs_list PySem.F.slot_list_insert PySem.F.type_list_insert mt_insertM (pv 3) (pa_cons (pe_cl c__law_draw hr (by decide) pass0 rfl (pa_cons (pv 0) (pa_cons (pe_op op_add (pe_callB call_len (by rfl) B.len (by decide +kernel) (pa_cons (pv 3) pa_nil)) pe_int) pa_nil))) (pa_cons (pe_tup (pa_cons (pv 5) (pa_cons (pv 6) (pa_cons (pv 7) pa_nil)))) pa_nil)))))))
        (pss_one (ps_ret (pv 3))))), ?_⟩)
    try dsimp only [L3.cxK, L3.cxKX]
    rintro Rs M k X ⟨b, _, rfl, rfl, ns, ds, ss, l, rfl, n0, n8, hl, hs, q⟩
    have nl : 0 < ns.length := List.length_pos_iff.mpr n0
    refine st_seq (st_asg (ev_listM (rs := l.map (seenR K)) (ev_var rfl ⟨.inl rfl, fun a => ?_⟩)))
    rw [show [(b, mBox)] ++ [(a, mLst (l.map (seenR K)))] = [(b, mBox), (a, mLst (l.map (seenR K)))] from rfl]
    refine st_seq (st_forG (List Seen) ?_)
    (repeat' decreasing_trivial_pre_omega)
    intro m hm
    (repeat' decreasing_trivial_pre_omega)
    refine ⟨m, rfl, by omega, fun i x => x.length ≤ l.length + i ∧ ∀ s ∈ x, SeenIn ns s, fun _ => [some (iRef b), some (iHs K ns ds ss), some (iLst (l.map (seenR K))), some (iRef a), none, none, none, none], fun x => [(b, mBox), (a, mLst (x.map (seenR K)))], lj l ⟨Nat.le_refl _, hs⟩ (by (repeat' decreasing_trivial_pre_omega)) rfl, ?_, ?_⟩
    · rintro i r x hi rfl ⟨x1, x2⟩
      try dsimp only
      (repeat' decreasing_trivial_pre_omega)
      intro b1 hb1
      (repeat' decreasing_trivial_pre_omega)
      refine k_map (l := ns) (f := aStr) fun z hz => ?_
      (repeat' decreasing_trivial_pre_omega)
      intro t1 ht1
      (repeat' decreasing_trivial_pre_omega)
      refine ev_insert ?_
      (repeat' decreasing_trivial_pre_omega)
      rw [List.length_map, show ((x.length : Int) + 1) = ((x.length + 1 : Nat) : Int) by omega]
      (repeat' decreasing_trivial_pre_omega)
      intro at_ hat
      (repeat' decreasing_trivial_pre_omega)
      refine ⟨at_, _, 1, x.map (seenR K), rfl, rfl, by omega, by simp; omega, ?_⟩
      refine lj (x.take at_ ++ [((b1 : Int), z, decide ((t1 : Int) = 0))] ++ x.drop at_) ⟨by simp; omega, fun y hy => ?_⟩ (by (repeat' decreasing_trivial_pre_omega)) ?_
      · rcases List.mem_append.mp hy with hy | hy
        · rcases List.mem_append.mp hy with hy | hy
          · exact x2 y (List.mem_of_mem_take hy)
          · rw [List.mem_singleton.mp hy]
            exact ⟨by show (-1000000000 : Int) ≤ b1; omega, by show (b1 : Int) ≤ 1000000000; omega, hz⟩
        · exact x2 y (List.mem_of_mem_drop hy)
      · simp [List.map_take, List.map_drop]
    · rintro x Γ1 ⟨x1, x2⟩ w
      refine st_wk w ?_
      try dsimp only
      refine st_ret (ev_told (ev_var rfl ⟨a, 1, _, rfl, rfl, ?_⟩))
      exact q x (by omega) x2
    )) only [↓bx_true]

abbrev s__law_sightings : Stmt := top 45
theorem sc__law_sightings : FnScope ["_law_box_here", "_law_house_here", "_law_walk", "_law_many", "_law_found", "_law_k", "_law_beat", "_law_room", "_law_true_one"] ["_law_box_here", "_law_house_here", "_law_walk", "_law_many"] (defScope s__law_sightings) := ⟨rfl, rfl, rfl, by decide +kernel, rfl, by decide +kernel, by decide +kernel⟩
abbrev ts__law_sightings (K : PySem.W.Frag) : TSp := boxK fun Rs q => ∃ ns ds ss, ∃ l : List Str, ∃ m : Nat, Rs = [iHs K ns ds ss, aTup K (l.map aStr), iInt (m : Nat)] ∧ ns ≠ [] ∧ ns.length ≤ 8 ∧ l ≠ [] ∧ l.length ≤ 100 ∧ (∀ z ∈ l, z ∈ ns) ∧ m ≤ 50 ∧ ∀ l' : List Seen, l'.length ≤ m → (∀ s ∈ l', (-1000000000 ≤ s.1 ∧ s.1 ≤ 1000000000 ∧ s.2.1 ∈ ns)) → q (iLst (l'.map (seenR K)))
theorem ok__law_sightings (B : Bt mg) (c__law_draw : Cl P w K mg base CX0 1 "_law_draw" (ts__law_draw K) []) (c__law_of : Cl P w K mg base CX0 2 "_law_of" (ts__law_of K) []) {f : Addr} {fd : FuncData} (d : Df K mg "_law_sightings" s__law_sightings ["_law_box_here", "_law_house_here", "_law_walk", "_law_many"] f fd) : Cl P w K mg base CX0 3 "_law_sightings" (ts__law_sightings K) [] := by
  refine bx_of ?_
  simp (disch := with_unfolding_all (
    refine cl_of d (okT (kk := 2) d.fn sc__law_sightings (fun Rs M k X h => by obtain ⟨b, _, rfl, _, _, _, _, _, _, rfl, _⟩ := h; rfl) fun cdv A outer s H E hr => ⟨_,
      (pss_cons (ps_set (i := 4) sc__law_sightings.nd rfl (Or.inl rfl) (pe_lst pa_nil))
        (pss_cons (ps_for PassesOwn.never rfl (pi_range1 (by rfl) B.range (pa_cons (pe_cl c__law_draw hr (by decide) pass0 rfl (pa_cons (pv 0) (pa_cons (pe_op op_add (pv 3) pe_int) pa_nil))) pa_nil)) (pg_name (i := 5) sc__law_sightings.nd rfl (Or.inl rfl)) (pss_cons (ps_set (i := 6) sc__law_sightings.nd rfl (Or.inl rfl) (pe_op op_mul (pe_cl c__law_of hr (by decide) pass0 rfl (pa_cons (pv 0) (pa_cons (pe_lst (pa_cons (pe_un un_neg pe_int) (pa_cons pe_int pa_nil))) pa_nil))) (pe_cl c__law_draw hr (by decide) pass0 rfl (pa_cons (pv 0) (pa_cons (pe_ix ix_list (pe_lst (pa_cons pe_int (pa_cons (pe_op op_pow pe_int pe_int) pa_nil))) (pe_cl c__law_draw hr (by decide) pass0 rfl (pa_cons (pv 0) (pa_cons pe_int pa_nil))) (fun _ _ => rfl)) pa_nil)))))
        (pss_cons (ps_set (i := 7) sc__law_sightings.nd rfl (Or.inl rfl) (pe_cl c__law_of hr (by decide) pass0 rfl (pa_cons (pv 0) (pa_cons (pe_op op_cat (pe_ix ix_tup (pv 1) pe_int (fun _ _ => rfl)) (pe_lst (pa_cons (pe_ix ix_tup (pv 2) (pe_op op_mod (pv 6) (pe_callB call_len (by rfl) B.len (by decide +kernel) (pa_cons (pv 2) pa_nil))) (fun _ _ => rfl)) pa_nil))) pa_nil))))
        (pss_cons (ps_set (i := 8) sc__law_sightings.nd rfl (Or.inl rfl) (pe_tup (pa_cons (pv 6) (pa_cons (pv 7) (pa_cons (pe_cmpR op_eq (pe_ix ix_tup (pv 2) (pe_op op_mod (pv 6) (pe_callB call_len (by rfl) B.len (by decide +kernel) (pa_cons (pv 2) pa_nil))) (fun _ _ => rfl)) (pv 7) (nomark _)) pa_nil)))))
        (pss_one (ps_expr (pe_bm PySem.F.plainAttrs_list PySem.F.slot_list_append PySem.F.type_list_append mt_append (pv 4) (pa_cons (pv 8) pa_nil))))))))
        (pss_one (ps_ret (pv 4))))), ?_⟩)
    try dsimp only [L3.cxK, L3.cxKX]
    rintro Rs M k X ⟨b, _, rfl, rfl, ns, ds, ss, l, m, rfl, n0, n8, l0, hl, hn, hm, q⟩
    have nl : 0 < ns.length := List.length_pos_iff.mpr n0
    have ll : 0 < l.length := List.length_pos_iff.mpr l0
    (repeat' decreasing_trivial_pre_omega)
    intro a
    (repeat' decreasing_trivial_pre_omega)
    refine st_forG (List Seen) ?_
    (repeat' decreasing_trivial_pre_omega)
    intro k1 hk1
    (repeat' decreasing_trivial_pre_omega)
    refine ⟨k1, rfl, by omega, fun i x => x.length ≤ i ∧ ∀ s ∈ x, (-1000000000 ≤ s.1 ∧ s.1 ≤ 1000000000 ∧ s.2.1 ∈ ns), fun _ => [some (iRef b), some (iHs K ns ds ss), some (aTup K (l.map aStr)), some (iInt (m : Nat)), some (iRef a), none, none, none, none], fun x => [(b, mBox), (a, mLst (x.map (seenR K)))], lj [] ⟨Nat.le_refl _, by simp⟩ (by (repeat' decreasing_trivial_pre_omega)) rfl, ?_, ?_⟩
    · rintro i r x hi rfl ⟨x1, x2⟩
      try dsimp only
      (repeat' decreasing_trivial_pre_omega)
      rw [show [iInt (-1), iInt 1] = ([-1, 1] : List Int).map iInt from rfl]
      refine k_map (l := [-1, 1]) (f := iInt) fun s1 hs1 => ?_
      have bs : s1 = 1 ∨ s1 = -1 := by simpa [or_comm] using hs1
      (repeat' decreasing_trivial_pre_omega)
      intro rw1 hrw1
      have hr2 : rw1 < 2 := by omega
      rw [show [iInt 30, iInt (10 ^ Int.toNat 9)] = ([30, 1000000000] : List Int).map iInt from rfl]
      refine o_ixN (l := [30, 1000000000]) (g := iInt) rw1 rfl (by simpa using hr2) _ ?_
      have hn1 : 0 < ([30, 1000000000] : List Int)[rw1]'(by simpa using hr2) ∧ ([30, 1000000000] : List Int)[rw1]'(by simpa using hr2) ≤ 1000000000 := by
        rcases (show rw1 = 0 ∨ rw1 = 1 by omega) with h | h <;> simp [h]
      generalize ([30, 1000000000] : List Int)[rw1]'(by simpa using hr2) = n at hn1
      (repeat' decreasing_trivial_pre_omega)
      intro d d0
      have hb : -1000000000 ≤ s1 * (d : Int) ∧ s1 * (d : Int) ≤ 1000000000 := by rcases bs with rfl | rfl <;> omega
      (repeat' decreasing_trivial_pre_omega)
      rw [List.length_map]
      (repeat' decreasing_trivial_pre_omega)
      generalize s1 * (d : Int) = bt at hb ⊢
      obtain ⟨j, ej, hj⟩ : ∃ j : Nat, bt % (l.length : Int) = j ∧ j < l.length := by
        have h0 := Int.emod_nonneg bt (show (l.length : Int) ≠ 0 by omega)
        have h1 := Int.emod_lt_of_pos bt (show (0 : Int) < l.length by omega)
        exact ⟨(bt % (l.length : Int)).toNat, by omega, by omega⟩
      refine o_ixNT j ej hj _ ?_
      have hw := hn _ (List.getElem_mem hj)
      generalize l[j] = zw at hw ⊢
      (repeat' decreasing_trivial_pre_omega)
      rw [show ns.map aStr ++ [aStr zw] = (ns ++ [zw]).map aStr from by simp]
      refine k_map fun z hz => ?_
      have hz : z ∈ ns := by
        rcases List.mem_append.mp hz with h | h
        · exact h
        · rw [List.mem_singleton.mp h]; exact hw
      (repeat' decreasing_trivial_pre_omega)
      rw [List.length_map]
      (repeat' decreasing_trivial_pre_omega)
      refine o_ixNT j ej hj _ ?_
      (repeat' decreasing_trivial_pre_omega)
      refine lj (x ++ [(bt, z, decide (l[j] = z))]) ⟨by simp; omega, fun y hy => ?_⟩ (by (repeat' decreasing_trivial_pre_omega)) (by simp)
      rcases List.mem_append.mp hy with h | h
      · exact x2 y h
      · rw [List.mem_singleton.mp h]
        exact ⟨hb.1, hb.2, hz⟩
    · rintro x Γ1 ⟨x1, x2⟩ w
      refine st_wk w ?_
      try dsimp only
      refine st_ret (ev_told (ev_var rfl ⟨a, 1, _, rfl, rfl, ?_⟩))
      exact q x (by omega) x2
    )) only [↓bx_true]

abbrev s_need_beat : Stmt := top 13
theorem sc_need_beat : FnScope ["beat"] ["beat"] (defScope s_need_beat) := ⟨rfl, rfl, rfl, by decide +kernel, rfl, by decide +kernel, by decide +kernel⟩
abbrev ts_need_beat (K : PySem.W.Frag) : TSp := pureTs (fun b : Int => [iInt b]) (fun b => -1000000000 ≤ b ∧ b ≤ 1000000000) (fun _ => iNon)
theorem ok_need_beat (B : Bt mg) (g_FARTHEST : ∃ u, mg "FARTHEST" = some u ∧ RelV (.int 1000000000) u) {f : Addr} {fd : FuncData} (d : Df K mg "need_beat" s_need_beat ["beat"] f fd) : Cl P w K mg base CX0 1 "need_beat" (ts_need_beat K) [] := by
  refine bx_of ?_
  simp (disch := with_unfolding_all (
    refine cl_of d (okT (kk := 0) d.fn sc_need_beat (fun Rs M k X h => by obtain ⟨_, rfl, _⟩ := h; rfl) fun cdv A outer s H E hr => ⟨_,
      (pss_one (ps_if (pt_not (pt_chain op_le op_le (pe_un un_neg (pe_gc rfl g_FARTHEST)) (pv 0) (pe_gc rfl g_FARTHEST))) (pss_one ps_never) pss_nil)), ?_⟩)
    try dsimp only [L3.cxK, L3.cxKX]
    rintro Rs M k X ⟨b, rfl, ⟨h1, h2⟩, rfl, q⟩
    try dsimp only at h1 h2 q
    (repeat' decreasing_trivial_pre_omega)
    refine ite_b (fun _ => ?_) (fun h => by simp at h; omega)
    (repeat' decreasing_trivial_pre_omega)
    refine ite_b (fun h => by simp at h; omega) (fun _ => ?_)
    (repeat' decreasing_trivial_pre_omega)
    )) only [↓bx_true]

abbrev s_need_seen : Stmt := top 15
theorem sc_need_seen : FnScope ["house", "size", "sightings", "beat", "room", "there"] ["house", "size", "sightings"] (defScope s_need_seen) := ⟨rfl, rfl, rfl, by decide +kernel, rfl, by decide +kernel, by decide +kernel⟩
abbrev ts_need_seen (K : PySem.W.Frag) (C_House : Addr) : TSp := pureK fun Rs q => ∃ ns ds ss, ∃ n : Int, ∃ l : List Seen, Rs = [iHouse C_House ns ds ss, iInt n, aSeq K (l.map (seenR K))] ∧ 1 ≤ n ∧ n ≤ 6 ∧ (∀ z ∈ ns, StrOk z) ∧ (∀ s ∈ l, -1000000000 ≤ s.1 ∧ s.1 ≤ 1000000000 ∧ s.2.1 ∈ ns) ∧ q iNon
theorem ok_need_seen (B : Bt mg) {C_House : Addr} (T_House : Txt_House K mg C_House) (g_MOST_ROUND : ∃ u, mg "MOST_ROUND" = some u ∧ RelV (.int 6) u) (c_need_beat : Cl P w K mg base CX0 1 "need_beat" (ts_need_beat K) []) (cm_House_need_room : ClM P w K mg base CX0 1 C_House "need_room" (ts_House_need_room K C_House) []) {f : Addr} {fd : FuncData} (d : Df K mg "need_seen" s_need_seen ["house", "size", "sightings"] f fd) : Cl P w K mg base CX0 2 "need_seen" (ts_need_seen K C_House) [] := by
  refine bx_of ?_
  simp (disch := with_unfolding_all (
    refine cl_of d (okT (kk := 1) d.fn sc_need_seen (fun Rs M k X h => by obtain ⟨_, _, _, _, _, _, rfl, _⟩ := h; rfl) fun cdv A outer s H E hr => ⟨_,
      (pss_cons (ps_if (pt_not (pt_chain op_le op_le pe_int (pv 1) (pe_gc rfl g_MOST_ROUND))) (pss_one ps_never) pss_nil)
        (pss_one (ps_for PassesOwn.never rfl (pi_seq (pv 2)) (pg_tup rfl (pgs_cons (pg_name (i := 3) sc_need_seen.nd rfl (Or.inl rfl)) (pgs_cons (pg_name (i := 4) sc_need_seen.nd rfl (Or.inl rfl)) (pgs_cons (pg_name (i := 5) sc_need_seen.nd rfl (Or.inl rfl)) pgs_nil)))) (pss_cons (ps_expr (pe_cl c_need_beat hr (by decide) pass0 rfl (pa_cons (pv 3) pa_nil)))
        (pss_one (ps_expr (pe_clM cm_House_need_room hr (by decide) pass0 (pv 0) (pa_cons (pv 4) pa_nil)))))))), ?_⟩)
    try dsimp only [L3.cxK, L3.cxKX]
    rintro Rs M k X ⟨rfl, ns, ds, ss, n, l, rfl, n1, n6, so, hl, q⟩
    (repeat' decreasing_trivial_pre_omega)
    rw [if_pos (decide_eq_true n1)]
    (repeat' decreasing_trivial_pre_omega)
    rw [show decide (n ≤ 6) = true from decide_eq_true n6]
    (repeat' decreasing_trivial_pre_omega)
    refine st_forG Unit (tip_seq (ep_var rfl) _ _ ?_)
    refine ⟨fun _ _ => True, fun _ => [some (iHouse C_House ns ds ss), some (iInt n), some (aSeq K (l.map (seenR K))), none, none, none], fun _ => [], lj () True.intro (by (repeat' decreasing_trivial_pre_omega)) rfl, ?_, ?_⟩
    · rintro i r _ hi hr _
      have hi' : i < l.length := by simpa using hi
      rw [List.getElem?_map, List.getElem?_eq_getElem hi'] at hr
      cases hr
      obtain ⟨h1, h2, h3⟩ := hl _ (List.getElem_mem hi')
      (repeat' decreasing_trivial_pre_omega)
      refine ⟨_, leS_rfl, ⟨h1, h2⟩, ?_⟩
      (repeat' decreasing_trivial_pre_omega)
      refine ⟨_, leS_rfl, _, _, ns, rfl, rfl, .inl rfl, h3, ?_⟩
      (repeat' decreasing_trivial_pre_omega)
      exact lj () True.intro (by (repeat' decreasing_trivial_pre_omega)) rfl
    · rintro _ Γ1 _ w
      try dsimp only
      (repeat' decreasing_trivial_pre_omega)
    )) only [↓bx_true]

abbrev s_House_has_door : Stmt := inClass (top 32) 9
theorem sc_House_has_door : FnScope ["self", "a", "b"] ["self", "a", "b"] (defScope s_House_has_door) := ⟨rfl, rfl, rfl, by decide +kernel, rfl, by decide +kernel, by decide +kernel⟩
abbrev ts_House_has_door (K : PySem.W.Frag) (C_House : Addr) : TSp := methK C_House fun M fs Rs q => ∃ a b ns ds ss, fs = houseF ns ds ss ∧ Rs = [aStr a, aStr b] ∧ a ∈ ns ∧ b ∈ ns ∧ q (iBl (decide ((a, b) ∈ ds)))
theorem ok_House_has_door (B : Bt mg) {C_House : Addr} (T_House : Txt_House K mg C_House) (cm_House_need_room : ClM P w K mg base CX0 1 C_House "need_room" (ts_House_need_room K C_House) []) {f : Addr} {fd : FuncData} (d : Fun K "has_door" "House.has_door" s_House_has_door f fd) (hm : Meth K C_House "has_door" f) : ClM P w K mg base CX0 2 C_House "has_door" (ts_House_has_door K C_House) [] := by
  refine bx_of ?_
  simp (disch := with_unfolding_all (
    refine ⟨T_House.cl, f, fd, ["self", "a", "b"], [], ?_, hm, d.binds fun _ _ _ _ _ _ us hl => match us, hl with | [_, _, _], _ => rfl, .nil⟩
    refine (okT (kk := 1) d sc_House_has_door (fun Rs M k X h => by obtain ⟨_, _, _, rfl, _, _, _, _, _, _, _, rfl, _⟩ := h; rfl) fun cdv A outer s H E hr => ⟨_,
      (pss_cons (ps_expr (pe_clM cm_House_need_room hr (by decide) pass0 (pv 0) (pa_cons (pv 1) pa_nil)))
        (pss_cons (ps_expr (pe_clM cm_House_need_room hr (by decide) pass0 (pv 0) (pa_cons (pv 2) pa_nil)))
        (pss_one (ps_ret (pe_cmp (pc_din (by exact hu_of hr) (pe_tup (pa_cons (pv 1) (pa_cons (pv 2) pa_nil))) (pe_fld (pv 0) (by rfl)))))))), ?_⟩)
    try dsimp only [L3.cxK, L3.cxKX]
    rintro Rs M k X ⟨R, _, _, rfl, ho, a, b, ns, ds, ss, rfl, rfl, ha, hb, q⟩
    (repeat' decreasing_trivial_pre_omega)
    refine ⟨_, leS_rfl, a, _, ns, rfl, rfl, .inl rfl, ha, ?_⟩
    (repeat' decreasing_trivial_pre_omega)
    refine ⟨_, leS_rfl, b, _, ns, rfl, rfl, .inl rfl, hb, ?_⟩
    (repeat' decreasing_trivial_pre_omega)
    )) only [↓bx_true]

abbrev s_House_at_hand : Stmt := inClass (top 32) 11
theorem sc_House_at_hand : FnScope ["self", "a", "b"] ["self", "a", "b"] (defScope s_House_at_hand) := ⟨rfl, rfl, rfl, by decide +kernel, rfl, by decide +kernel, by decide +kernel⟩
abbrev ts_House_at_hand (K : PySem.W.Frag) (C_House : Addr) : TSp := methK C_House fun M fs Rs q => ∃ a b ns ds ss, fs = houseF ns ds ss ∧ Rs = [aStr a, aStr b] ∧ a ∈ ns ∧ b ∈ ns ∧ q (iBl (decide ((a, b) ∈ ds) || decide (a = b)))
theorem ok_House_at_hand (B : Bt mg) {C_House : Addr} (T_House : Txt_House K mg C_House) (cm_House_has_door : ClM P w K mg base CX0 2 C_House "has_door" (ts_House_has_door K C_House) []) {f : Addr} {fd : FuncData} (d : Fun K "at_hand" "House.at_hand" s_House_at_hand f fd) (hm : Meth K C_House "at_hand" f) : ClM P w K mg base CX0 3 C_House "at_hand" (ts_House_at_hand K C_House) [] := by
  refine bx_of ?_
  simp (disch := with_unfolding_all (
    refine ⟨T_House.cl, f, fd, ["self", "a", "b"], [], ?_, hm, d.binds fun _ _ _ _ _ _ us hl => match us, hl with | [_, _, _], _ => rfl, .nil⟩
    refine (okT (kk := 2) d sc_House_at_hand (fun Rs M k X h => by obtain ⟨_, _, _, rfl, _, _, _, _, _, _, _, rfl, _⟩ := h; rfl) fun cdv A outer s H E hr => ⟨_,
      (pss_one (ps_ret (pe_or (pe_clM cm_House_has_door hr (by decide) pass0 (pv 0) (pa_cons (pv 1) (pa_cons (pv 2) pa_nil))) (pe_one (pe_cmpR op_eq (pv 1) (pv 2) (nomark _)))))), ?_⟩)
    try dsimp only [L3.cxK, L3.cxKX]
    rintro Rs M k X ⟨R, _, _, rfl, ho, a, b, ns, ds, ss, rfl, rfl, ha, hb, q⟩
    (repeat' decreasing_trivial_pre_omega)
    refine ⟨_, leS_rfl, a, b, ns, ds, ss, rfl, rfl, ha, hb, ?_⟩
    (repeat' decreasing_trivial_pre_omega)
    cases h : decide ((a, b) ∈ ds) with
    | true =>
      rw [h] at q
      (repeat' decreasing_trivial_pre_omega)
    | false =>
      rw [h] at q
      (repeat' decreasing_trivial_pre_omega)
    )) only [↓bx_true]

abbrev s_counted : Stmt := top 17
theorem sc_counted : FnScope ["house", "some", "total", "first", "many", "rooms", "room", "one"] ["house", "some"] (defScope s_counted) := ⟨rfl, rfl, rfl, by decide +kernel, rfl, by decide +kernel, by decide +kernel⟩
theorem foldC_ok {adj : Str → Str → Bool} {ns : List Str} : ∀ {rest : List (List Str)} {many : List (Str × Int)}, (∀ l ∈ rest, l.length ≤ 8 ∧ l.Nodup ∧ ∀ z ∈ l, z ∈ ns) → (many.length ≤ 8 ∧ (many.map (·.1)).Nodup ∧ ∀ p ∈ many, p.1 ∈ ns) →
    (rest.foldl (stepC adj) many).length ≤ 8 ∧ ((rest.foldl (stepC adj) many).map (·.1)).Nodup ∧ ∀ p ∈ rest.foldl (stepC adj) many, p.1 ∈ ns
  | [], _, _, h => h
  | l :: rest, many, hr, _ => by
    obtain ⟨h1, h2, h3⟩ := hr l (List.mem_cons_self ..)
    rw [List.foldl_cons]
    refine foldC_ok (fun l' h => hr l' (List.mem_cons_of_mem _ h)) ⟨by simpa [stepC] using h1, ?_, stepC_in h3 many⟩
    rw [show (stepC adj many l).map (·.1) = l from by
      unfold stepC
      rw [List.map_map]
      exact List.map_id l]
    exact h2
theorem snd_map (l : List (Str × Int)) : l.map (fun p => iInt p.2) = (l.map (·.2)).map iInt := by rw [List.map_map]; rfl
abbrev ts_counted (K : PySem.W.Frag) (C_House : Addr) : TSp := pureK fun Rs q => ∃ ns ds ss, ∃ L : List (List Str), Rs = [iHouse C_House ns ds ss, llR L] ∧ (∀ z ∈ ns, StrOk z) ∧ 1 ≤ L.length ∧ L.length ≤ 6 ∧ (∀ l ∈ L, l.length ≤ 8 ∧ l.Nodup ∧ ∀ z ∈ l, z ∈ ns) ∧ q (iInt (cntOf (handP ds) L))
theorem ok_counted (B : Bt mg) {C_House : Addr} (T_House : Txt_House K mg C_House) (cm_House_at_hand : ClM P w K mg base CX0 3 C_House "at_hand" (ts_House_at_hand K C_House) []) {f : Addr} {fd : FuncData} (d : Df K mg "counted" s_counted ["house", "some"] f fd) : Cl P w K mg base CX0 4 "counted" (ts_counted K C_House) [] := by
  refine bx_of ?_
  simp (disch := with_unfolding_all (
    refine cl_of d (okT (kk := 3) d.fn sc_counted (fun Rs M k X h => by obtain ⟨_, _, _, _, _, rfl, _⟩ := h; rfl) fun cdv A outer s H E hr => ⟨_,
      (pss_cons (ps_set (i := 2) sc_counted.nd rfl (Or.inl rfl) pe_int)
        (pss_cons (ps_for PassesOwn.never rfl (pi_list (pe_ix ix_list (pv 1) pe_int (fun _ _ => rfl))) (pg_name (i := 3) sc_counted.nd rfl (Or.inr rfl)) (pss_cons (ps_set (i := 4) sc_counted.nd rfl (Or.inr rfl) (pe_disp (pps_cons (pv 3) pe_int pps_nil) rfl rfl (by simp) (by decide)))
        (pss_cons (ps_for PassesOwn.never rfl (pi_list (pe_slice sl_list (pv 1) (po_some pe_int) po_none)) (pg_name (i := 5) sc_counted.nd rfl (Or.inl rfl)) (pss_one (ps_fz (ps_set (i := 4) sc_counted.nd rfl (Or.inr rfl) (pe_dcA (own := [("room", 6)]) (o0 := .dK []) (.inl rfl) (by exact hu1_of hr) rfl sc_counted.nd (pi_list (pv 5)) (blkOk_by (own := [("room", 6)]) (N := ["house", "some", "total", "first", "many", "rooms", "room", "one"]) (sc := defScope s_counted) (by decide +kernel)) (fun _ _ _ _ _ => (pg_name (i := 6) sc_counted.nd rfl (by first | exact Or.inl rfl | exact Or.inr rfl))) (fun _ _ _ _ _ => pts_nil) (fun _ _ _ _ _ => (pv 6)) (fun _ _ _ _ _ => (pe_callB (castCall (K := K) (r := rSum) rfl (cr_sum rfl)) (by rfl) B.sum (by decide +kernel) (pa_cons (pe_lc (own := [("one", 7)]) rfl sc_counted.nd (pi_keys (pv 4)) (blkOk_by (own := [("one", 7)]) (by kernel_rfl)) (fun _ _ _ _ _ => (pg_name (i := 7) sc_counted.nd rfl (by first | exact Or.inl rfl | exact Or.inr rfl))) (fun _ _ _ _ _ => (pts_one (pt_val (pe_clM cm_House_at_hand hr (by decide) pass0 (pv 0) (pa_cons (pv 7) (pa_cons (pv 6) pa_nil)))))) (fun _ _ _ _ _ => (pe_dget (by exact hu_of hr) (pv 4) (pv 7) (fun _ _ => rfl)))) pa_nil))))))))
        (pss_one (ps_fz (ps_aug (i := 2) sc_counted.nd rfl (Or.inl rfl) (pe_callB (cr_sum rfl) (by rfl) B.sum (by decide +kernel) (pa_cons (pe_lc (own := [("one", 7)]) rfl sc_counted.nd (pi_keys (pv 4)) (blkOk_by (own := [("one", 7)]) (N := ["house", "some", "total", "first", "many", "rooms", "room", "one"]) (sc := defScope s_counted) (by decide +kernel)) (fun _ _ _ _ _ => (pg_name (i := 7) sc_counted.nd rfl (by first | exact Or.inl rfl | exact Or.inr rfl))) (fun _ _ _ _ _ => (pts_one (pt_val (pe_clM cm_House_at_hand hr (by decide) pass0 (pv 0) (pa_cons (pv 7) (pa_cons (pv 3) pa_nil)))))) (fun _ _ _ _ _ => (pe_dget (by exact hu_of hr) (pv 4) (pv 7) (fun _ _ => rfl)))) pa_nil)) ip_add))))))
        (pss_one (ps_ret (pv 2))))), ?_⟩)
    try dsimp only [L3.cxK, L3.cxKX]
    rintro Rs M k X ⟨rfl, ns, ds, ss, L, rfl, so, l1, l6, hL, q⟩
    cases L with
    | nil => exact absurd l1 (by decide)
    | cons f0 rest =>
    have hf := hL f0 (List.mem_cons_self ..)
    have hr : ∀ l ∈ rest, l.length ≤ 8 ∧ l.Nodup ∧ ∀ z ∈ l, z ∈ ns := fun l hl => hL l (List.mem_cons_of_mem _ hl)
    have hz0 : ∀ z ∈ f0, ∀ i, ((rest.take i).foldl (stepC (handP ds)) [(z, 1)]).length ≤ 8 ∧ (((rest.take i).foldl (stepC (handP ds)) [(z, 1)]).map (·.1)).Nodup ∧ ∀ p ∈ (rest.take i).foldl (stepC (handP ds)) [(z, 1)], p.1 ∈ ns := fun z hz i =>
      foldC_ok (fun l h => hr l (List.mem_of_mem_take h)) ⟨by simp, by simp, fun p hp => by rw [List.mem_singleton.mp hp]; exact hf.2.2 z hz⟩
    (repeat' decreasing_trivial_pre_omega)
    refine st_forG Int (tip_list (rl := f0.map aStr) (ep_op (ep_var rfl) ep_int (o_ixL atI_0)) _ _ ?_)
    refine ⟨fun i t => t = ((f0.take i).map fun z => cntFrom (handP ds) z rest).sum, fun t => [some (iHouse C_House ns ds ss), some (llR (f0 :: rest)), some (iInt t), none, none, none, none, none], fun _ => [], lj 0 rfl (by (repeat' decreasing_trivial_pre_omega)) rfl, ?_, ?_⟩
    · rintro i r t hi hr0 rfl
      have hi' : i < f0.length := by simpa using hi
      rw [List.getElem?_map, List.getElem?_eq_getElem hi'] at hr0
      cases hr0
      have hz := List.getElem_mem hi'
      generalize hzz : f0[i] = z at hz ⊢
      try dsimp only
      (repeat' decreasing_trivial_pre_omega)
      refine ev_disp fun d => ?_
      refine ed_cons (ev_var rfl ⟨_, rfl, ev_int (ed_nil ⟨0, rfl, by simp, by simp, ?_⟩)⟩)
      (repeat' decreasing_trivial_pre_omega)
      refine st_forG (Addr × List (Str × Int)) (tip_list (rl := rest.map lsR) ?_ _ _ ?_)
      · rw [show rest.map lsR = cutL ((f0 :: rest).map lsR) (some ((1 : Nat) : Int)) none from by rw [cutL_drop]; rfl]
        (repeat' decreasing_trivial_pre_omega)
      refine ⟨fun i x => x.2 = (rest.take i).foldl (stepC (handP ds)) [(z, 1)], fun x => [some (iHouse C_House ns ds ss), some (llR (f0 :: rest)), some (iInt ((f0.take i).map fun z => cntFrom (handP ds) z rest).sum), some (aStr z), some (iRef x.1), none, none, none], fun x => [(x.1, mDK (x.2.map fun p => (p.1, iInt p.2)))], lj (d, [(z, 1)]) rfl (by (repeat' decreasing_trivial_pre_omega)) rfl, ?_, ?_⟩
      · rintro t r ⟨d1, many⟩ ht hr0 rfl
        have ht' : t < rest.length := by simpa using ht
        rw [List.getElem?_map, List.getElem?_eq_getElem ht'] at hr0
        cases hr0
        obtain ⟨b1, b2, b3⟩ := hr _ (List.getElem_mem ht')
        obtain ⟨m1, m2, m3⟩ := hz0 z hz t
        have e2 : (rest.take (t + 1)).foldl (stepC (handP ds)) [(z, 1)] = stepC (handP ds) ((rest.take t).foldl (stepC (handP ds)) [(z, 1)]) rest[t] := by
          rw [List.take_succ, List.getElem?_eq_getElem ht', List.foldl_append]
          rfl
        generalize (rest.take t).foldl (stepC (handP ds)) [(z, 1)] = many at m1 m2 m3 e2 ⊢
        generalize rest[t] = rooms at b1 b2 b3 e2 ⊢
        try dsimp only
        (repeat' decreasing_trivial_pre_omega)
        refine st_tFzL (i := 0) (j := 4) (d := d1) (kvs := many.map fun p => (p.1, iInt p.2)) rfl rfl ?_
        refine st_asg (ev_dcK (l := rooms) (e := aStr) (f := fun r => r) (g := fun r => iInt (endC (handP ds) r many)) (ep_var rfl) (by omega) (by decide) (by rw [List.map_id']; exact b2) (fun r hr' => ?_) (fun r hr' => ?_) (fun a => ?_))
        · (repeat' decreasing_trivial_pre_omega)
        · refine ep_cb (eap_cons (ep_lcKeysF (l := many) (f := fun p => p.1) (g := fun p => iInt p.2) (e' := fun p => iInt p.2) (p := fun p => handP ds p.1 r) (ep_var rfl) (by omega) (by decide) (fun p hp => ?_) (fun p hp _ => ?_)) eap_nil) (by rw [snd_map]; exact c_sumL)
          · (repeat' decreasing_trivial_pre_omega)
            refine ⟨_, leS_rfl, p.1, r, ns, ds, ss, rfl, rfl, m3 p hp, b3 r hr', ?_⟩
            (repeat' decreasing_trivial_pre_omega)
          · have lk := look_nd (g := fun p : Str × Int => iInt p.2) m2 hp
            (repeat' decreasing_trivial_pre_omega)
            refine ⟨_, _, rfl, .inl rfl, _, lk, ?_⟩
            assumption
        (repeat' decreasing_trivial_pre_omega)
        refine lj (a, stepC (handP ds) many rooms) e2.symm (by (repeat' decreasing_trivial_pre_omega)) ?_
        show _ = [(a, mDK ((stepC (handP ds) many rooms).map fun p => (p.1, iInt p.2)))]
        unfold stepC
        rw [List.map_map]
        rfl
      · rintro ⟨d1, many⟩ Γ1 hm w
        have hm : many = rest.foldl (stepC (handP ds)) [(z, 1)] := by
          have := hm
          dsimp only at this
          rwa [List.length_map, List.take_length] at this
        obtain ⟨m1, m2, m3⟩ := hz0 z hz rest.length
        rw [List.take_length, ← hm] at m1 m2 m3
        refine st_wk w ?_
        try dsimp only
        refine st_tFzL (i := 0) (j := 4) (d := d1) (kvs := many.map fun p => (p.1, iInt p.2)) rfl rfl ?_
        refine st_augI ?_
        (repeat' decreasing_trivial_pre_omega)
        refine Ep.ev (ep_lcKeysF (l := many) (f := fun p => p.1) (g := fun p => iInt p.2) (e' := fun p => iInt p.2) (p := fun p => handP ds p.1 z) (ep_var rfl) (by omega) (by decide) (fun p hp => ?_) (fun p hp _ => ?_)) ?_
        · (repeat' decreasing_trivial_pre_omega)
          refine ⟨_, leS_rfl, p.1, z, ns, ds, ss, rfl, rfl, m3 p hp, hf.2.2 z hz, ?_⟩
          (repeat' decreasing_trivial_pre_omega)
        · have lk := look_nd (g := fun p : Str × Int => iInt p.2) m2 hp
          (repeat' decreasing_trivial_pre_omega)
          refine ⟨_, _, rfl, .inl rfl, _, lk, ?_⟩
          assumption
        refine ea_nil ?_
        rw [snd_map]
        refine c_sumL _ ?_
        (repeat' decreasing_trivial_pre_omega)
        refine lj _ ?_ (by (repeat' decreasing_trivial_pre_omega)) rfl
        rw [List.take_succ, List.getElem?_eq_getElem hi', List.map_append, List.sum_append]
        rw [hzz, hm]
        simp [cntFrom, endC]
    · rintro t Γ1 ht w
      refine st_wk w ?_
      try dsimp only
      have ht : t = cntOf (handP ds) (f0 :: rest) := by
        have := ht
        rwa [List.length_map, List.take_length] at this
      rw [← ht] at q
      (repeat' decreasing_trivial_pre_omega)
    )) only [↓bx_true]

abbrev s_House_rooms : Stmt := inClass (top 32) 3
theorem sc_House_rooms : FnScope ["self"] ["self"] (defScope s_House_rooms) := ⟨rfl, rfl, rfl, by decide +kernel, rfl, by decide +kernel, by decide +kernel⟩
abbrev ts_House_rooms (K : PySem.W.Frag) (C_House : Addr) : TSp := methK C_House fun M fs Rs q => ∃ ns ds ss, fs = houseF ns ds ss ∧ Rs = [] ∧ q (iLst (ns.map aStr))
theorem ok_House_rooms (B : Bt mg) {C_House : Addr} (T_House : Txt_House K mg C_House) {f : Addr} {fd : FuncData} (d : Fun K "rooms" "House.rooms" s_House_rooms f fd) (hm : Meth K C_House "rooms" f) : ClM P w K mg base CX0 1 C_House "rooms" (ts_House_rooms K C_House) [] := by
  refine bx_of ?_
  simp (disch := with_unfolding_all (
    refine ⟨T_House.cl, f, fd, ["self"], [], ?_, hm, d.binds fun _ _ _ _ _ _ us hl => match us, hl with | [_], _ => rfl, .nil⟩
    refine (okT (kk := 0) d sc_House_rooms (fun Rs M k X h => by obtain ⟨_, _, _, rfl, _, _, _, _, _, rfl, _⟩ := h; rfl) fun cdv A outer s H E hr => ⟨_,
      (pss_one (ps_ret (pe_callTy call_list_of (by rfl) B.list (by decide +kernel) (pa_cons (pe_fld (pv 0) (by rfl)) pa_nil)))), ?_⟩)
    try dsimp only [L3.cxK, L3.cxKX]
    rintro Rs M k X ⟨R, _, _, rfl, ho, ns, ds, ss, rfl, rfl, q⟩
    (repeat' decreasing_trivial_pre_omega)
    )) only [↓bx_true]

abbrev s_let_rooms : Stmt := top 16
theorem sc_let_rooms : FnScope ["house", "size", "sightings", "found", "at", "beat", "room", "there", "other"] ["house", "size", "sightings"] (defScope s_let_rooms) := ⟨rfl, rfl, rfl, by decide +kernel, rfl, by decide +kernel, by decide +kernel⟩
abbrev ts_let_rooms (K : PySem.W.Frag) (C_House : Addr) : TSp := pureK fun Rs q => ∃ ns ds ss, ∃ n : Nat, ∃ l : List Seen, Rs = [iHouse C_House ns ds ss, iInt (n : Nat), aSeq K (l.map (seenR K))] ∧ 1 ≤ n ∧ n ≤ 6 ∧ ns.length ≤ 8 ∧ (∀ z ∈ ns, StrOk z) ∧ l.length ≤ 1000 ∧ (∀ s ∈ l, StrOk s.2.1) ∧ q (llR (letsOf ns n l))
theorem ok_let_rooms (B : Bt mg) {C_House : Addr} (T_House : Txt_House K mg C_House) (cm_House_rooms : ClM P w K mg base CX0 1 C_House "rooms" (ts_House_rooms K C_House) []) {f : Addr} {fd : FuncData} (d : Df K mg "let_rooms" s_let_rooms ["house", "size", "sightings"] f fd) : Cl P w K mg base CX0 2 "let_rooms" (ts_let_rooms K C_House) [] := by
  refine bx_of ?_
  simp (disch := with_unfolding_all (
    refine cl_of d (okT (kk := 1) d.fn sc_let_rooms (fun Rs M k X h => by obtain ⟨_, _, _, _, _, _, rfl, _⟩ := h; rfl) fun cdv A outer s H E hr => ⟨_,
      (pss_cons (ps_setLc (i := 3) (own := [("at", 4)]) rfl sc_let_rooms.nd rfl rfl (sw_true rfl rfl rfl (by decide +kernel)) (pi_range1 (by rfl) B.range (pa_cons (pv 1) pa_nil)) (blkOk_by (own := [("at", 4)]) (N := ["house", "size", "sightings", "found", "at", "beat", "room", "there", "other"]) (sc := defScope s_let_rooms) (by decide +kernel)) (fun _ _ _ _ _ => (pg_name (i := 4) sc_let_rooms.nd rfl (by first | exact Or.inl rfl | exact Or.inr rfl))) (fun _ _ _ _ _ => pts_nil) (fun _ _ _ _ _ => (pe_clM0 cm_House_rooms hr (by decide) pass0 (pv 0))))
        (pss_cons (ps_for PassesOwn.never rfl (pi_seq (pv 2)) (pg_tup rfl (pgs_cons (pg_name (i := 5) sc_let_rooms.nd rfl (Or.inl rfl)) (pgs_cons (pg_name (i := 6) sc_let_rooms.nd rfl (Or.inr rfl)) (pgs_cons (pg_name (i := 7) sc_let_rooms.nd rfl (Or.inr rfl)) pgs_nil)))) (pss_cons (ps_set (i := 4) sc_let_rooms.nd rfl (Or.inl rfl) (pe_op op_mod (pv 5) (pv 1)))
        (pss_one (ps_asg (pe_lc (own := [("other", 8)]) rfl sc_let_rooms.nd (pi_list (pe_ix ix_list (pv 3) (pv 4) (fun _ _ => rfl))) (blkOk_by (own := [("other", 8)]) (N := ["house", "size", "sightings", "found", "at", "beat", "room", "there", "other"]) (sc := defScope s_let_rooms) (by decide +kernel)) (fun _ _ _ _ _ => (pg_name (i := 8) sc_let_rooms.nd rfl (by first | exact Or.inl rfl | exact Or.inr rfl))) (fun _ _ _ _ _ => (pts_one (pt_cmpR op_eq (pe_cmpR op_eq (pv 8) (pv 6) (nomark _)) (pv 7) (nomark _)))) (fun _ _ _ _ _ => (pv 8))) (pg_sub (pv 3) (pv 4) set_list)))))
        (pss_one (ps_ret (pv 3))))), ?_⟩)
    try dsimp only [L3.cxK, L3.cxKX]
    rintro Rs M k X ⟨rfl, ns, ds, ss, n, l, rfl, n1, n6, n8, so, hl, sl, q⟩
    (repeat' decreasing_trivial_pre_omega)
    refine ev_lcPX (by decide) (tip_rng1 (ep_var rfl) (by omega)) (by omega) (fun _ => true) (fun _ => lsR ns) (fun i r hi hr => ?_) (fun a => ?_)
    · subst hr
      refine tg_name ⟨rfl, ?_, fun _ => ?_⟩ (.inr (by decide))
      · exact etp_yes
      · (repeat' decreasing_trivial_pre_omega)
        refine ⟨_, leS_rfl, ns, ds, ss, rfl, rfl, ?_⟩
        assumption
    rw [show given n (fun _ => true) (fun _ => lsR ns) = (letsOf ns n []).map lsR from by
      unfold given letsOf
      rw [List.filter_eq_self.mpr fun _ _ => rfl, List.map_map]
      refine List.map_congr_left fun i _ => ?_
      show lsR ns = lsR (letOf ns n [] i)
      rw [let_nil]]
    (repeat' decreasing_trivial_pre_omega)
    refine st_forG (List Seen) (tip_seq (ep_var rfl) _ _ ?_)
    refine ⟨fun i x => x = l.take i, fun _ => [some (iHouse C_House ns ds ss), some (iInt (n : Nat)), some (aSeq K (l.map (seenR K))), some (iRef a), none, none, none, none, none], fun x => [(a, mLst ((letsOf ns n x).map lsR))], lj [] rfl (by (repeat' decreasing_trivial_pre_omega)) rfl, ?_, ?_⟩
    · rintro i r x hi hr rfl
      have hi' : i < l.length := by simpa using hi
      rw [List.getElem?_map, List.getElem?_eq_getElem hi'] at hr
      cases hr
      have hs := sl _ (List.getElem_mem hi')
      (repeat' decreasing_trivial_pre_omega)
      obtain ⟨t, et, tn⟩ : ∃ t : Nat, l[i].1 % (n : Int) = (t : Int) ∧ t < n := by
        have h0 := Int.emod_nonneg l[i].1 (show (n : Int) ≠ 0 by omega)
        have h1 := Int.emod_lt_of_pos l[i].1 (show (0 : Int) < n by omega)
        exact ⟨(l[i].1 % (n : Int)).toNat, by omega, by omega⟩
      rw [et]
      have hm : (letOf ns n (l.take i) t).length ≤ 8 := Nat.le_trans (List.length_filter_le _ _) n8
      refine Ep.ev (ep_lcF (l := letOf ns n (l.take i) t) (e := aStr) (p := keepS l[i]) (ep_op (ep_var rfl) (ep_var rfl) (o_ixM1 0 rfl (atI_map (atI_nat (lets_at tn))))) (by omega) (by decide) (fun z hz => ?_) (fun z hz _ => ?_)) ?_
      · (repeat' decreasing_trivial_pre_omega)
      · (repeat' decreasing_trivial_pre_omega)
      try dsimp only
      (repeat' decreasing_trivial_pre_omega)
      · rw [List.length_map, lets_len]
        exact tn
      · refine lj (l.take (i + 1)) rfl (by (repeat' decreasing_trivial_pre_omega)) ?_
        rw [List.take_succ, List.getElem?_eq_getElem hi', show (some l[i]).toList = [l[i]] from rfl, lets_snoc (by omega) et, List.map_set]
        rfl
    · rintro x Γ1 rfl w
      refine st_wk w ?_
      try dsimp only
      rw [List.length_map, List.take_length]
      refine st_ret (ev_told (ev_var rfl ⟨a, 0, _, rfl, rfl, ?_⟩))
      exact q
    )) only [↓bx_true]

abbrev s_fits : Stmt := top 21
theorem sc_fits : FnScope ["house", "size", "sightings"] ["house", "size", "sightings"] (defScope s_fits) := ⟨rfl, rfl, rfl, by decide +kernel, rfl, by decide +kernel, by decide +kernel⟩
abbrev ts_fits (K : PySem.W.Frag) (C_House : Addr) : TSp := pureK fun Rs q => ∃ ns ds ss, ∃ n : Nat, ∃ l : List Seen, Rs = [iHouse C_House ns ds ss, iInt (n : Nat), aSeq K (l.map (seenR K))] ∧ 1 ≤ n ∧ n ≤ 6 ∧ ns.length ≤ 8 ∧ ns.Nodup ∧ (∀ z ∈ ns, StrOk z) ∧ l.length ≤ 1000 ∧ (∀ s ∈ l, -1000000000 ≤ s.1 ∧ s.1 ≤ 1000000000 ∧ s.2.1 ∈ ns) ∧ q (iInt (cntOf (handP ds) (letsOf ns n l)))
theorem ok_fits (B : Bt mg) {C_House : Addr} (T_House : Txt_House K mg C_House) (c_need_seen : Cl P w K mg base CX0 2 "need_seen" (ts_need_seen K C_House) []) (c_counted : Cl P w K mg base CX0 4 "counted" (ts_counted K C_House) []) (c_let_rooms : Cl P w K mg base CX0 2 "let_rooms" (ts_let_rooms K C_House) []) {f : Addr} {fd : FuncData} (d : Df K mg "fits" s_fits ["house", "size", "sightings"] f fd) : Cl P w K mg base CX0 5 "fits" (ts_fits K C_House) [] := by
  refine bx_of ?_
  simp (disch := with_unfolding_all (
    refine cl_of d (okT (kk := 4) d.fn sc_fits (fun Rs M k X h => by obtain ⟨_, _, _, _, _, _, rfl, _⟩ := h; rfl) fun cdv A outer s H E hr => ⟨_,
      (pss_cons (ps_expr (pe_cl c_need_seen hr (by decide) pass0 rfl (pa_cons (pv 0) (pa_cons (pv 1) (pa_cons (pv 2) pa_nil)))))
        (pss_one (ps_ret (pe_cl c_counted hr (by decide) pass0 rfl (pa_cons (pv 0) (pa_cons (pe_cl c_let_rooms hr (by decide) pass0 rfl (pa_cons (pv 0) (pa_cons (pv 1) (pa_cons (pv 2) pa_nil)))) pa_nil)))))), ?_⟩)
    try dsimp only [L3.cxK, L3.cxKX]
    rintro Rs M k X ⟨rfl, ns, ds, ss, n, l, rfl, n1, n6, n8, nd, so, hl, hs, q⟩
    (repeat' decreasing_trivial_pre_omega)
    refine ⟨_, leS_rfl, ns, ds, ss, n, l, rfl, by omega, by omega, so, hs, ?_⟩
    (repeat' decreasing_trivial_pre_omega)
    refine ⟨_, leS_rfl, ns, ds, ss, n, l, rfl, n1, n6, n8, so, hl, fun s h => so _ (hs s h).2.2, ?_⟩
    (repeat' decreasing_trivial_pre_omega)
    refine ⟨_, leS_rfl, ns, ds, ss, letsOf ns n l, rfl, so, by rw [lets_len]; exact n1, by rw [lets_len]; exact n6, fun r hr => ⟨?_, lets_nd nd r hr, lets_in r hr⟩, q⟩
    obtain ⟨i, _, rfl⟩ := List.mem_map.mp hr
    exact Nat.le_trans (List.length_filter_le _ _) n8
    )) only [↓bx_true]

abbrev s_misfit_rows : Stmt := top 22
theorem sc_misfit_rows : FnScope ["house", "some", "first", "found", "rooms", "room", "one"] ["house", "some", "first"] (defScope s_misfit_rows) := ⟨rfl, rfl, rfl, by decide +kernel, rfl, by decide +kernel, by decide +kernel⟩
theorem at_m1L {L : List (List Str)} (h : 1 ≤ L.length) : atI (L.map lsR) (-1) = some (lsR (L.getD (L.length - 1) [])) := by
  unfold atI ixN
  rw [List.length_map, if_neg (by decide), if_pos (by omega)]
  have e : ((-1 : Int) + (L.length : Int)).toNat = L.length - 1 := by omega
  rw [e]
  show (L.map lsR)[L.length - 1]? = _
  rw [List.getElem?_map, List.getD_eq_getElem?_getD, List.getElem?_eq_getElem (by omega)]
  rfl
abbrev ts_misfit_rows (K : PySem.W.Frag) (C_House : Addr) : TSp := freshK fun Rs k => ∃ ns ds ss, ∃ L : List (List Str), ∃ z : Str, Rs = [iHouse C_House ns ds ss, llR L, aStr z] ∧ (∀ z ∈ ns, StrOk z) ∧ 1 ≤ L.length ∧ L.length ≤ 6 ∧ (∀ l ∈ L, l.length ≤ 8 ∧ l.Nodup ∧ ∀ z ∈ l, z ∈ ns) ∧ z ∈ ns ∧ (k (llR (misE (handP ds) L z)) [] ∨ ∀ a, k (iRef a) [(a, mLst ((misE (handP ds) L z).map lsR))])
theorem ok_misfit_rows (B : Bt mg) {C_House : Addr} (T_House : Txt_House K mg C_House) (cm_House_at_hand : ClM P w K mg base CX0 3 C_House "at_hand" (ts_House_at_hand K C_House) []) {f : Addr} {fd : FuncData} (d : Df K mg "misfit_rows" s_misfit_rows ["house", "some", "first"] f fd) : Cl P w K mg base CX0 4 "misfit_rows" (ts_misfit_rows K C_House) [] := by
  refine bx_of ?_
  simp (disch := with_unfolding_all (
    refine cl_of d (okT (kk := 3) d.fn sc_misfit_rows (fun Rs M k X h => by obtain ⟨_, _, _, _, _, _, rfl, _⟩ := h; rfl) fun cdv A outer s H E hr => ⟨_,
      (pss_cons (ps_lm (ps_set (i := 3) sc_misfit_rows.nd rfl (Or.inr rfl) (pe_lst (pa_cons (pe_ifExp (pt_cmpR op_in_seq (pv 2) (pe_ix ix_list (pv 1) pe_int (fun _ _ => rfl)) (by rfl)) (pe_lst (pa_cons (pv 2) pa_nil)) (pe_lst pa_nil)) pa_nil))))
        (pss_cons (ps_for PassesOwn.never rfl (pi_list (pe_slice sl_list (pv 1) (po_some pe_int) po_none)) (pg_name (i := 4) sc_misfit_rows.nd rfl (Or.inl rfl)) (pss_one (ps_expr (pe_bm PySem.F.plainAttrs_list PySem.F.slot_list_append PySem.F.type_list_append mt_append (pv 3) (pa_cons (pe_lc (own := [("room", 5)]) rfl sc_misfit_rows.nd (pi_list (pv 4)) (blkOk_by (own := [("room", 5)]) (N := ["house", "some", "first", "found", "rooms", "room", "one"]) (sc := defScope s_misfit_rows) (by decide +kernel)) (fun _ _ _ _ _ => (pg_name (i := 5) sc_misfit_rows.nd rfl (by first | exact Or.inl rfl | exact Or.inr rfl))) (fun _ _ _ _ _ => (pts_one (pt_val (pe_callB (castCall (K := K) (r := rAny) rfl (cr_any rfl)) (by rfl) B.any (by decide +kernel) (pa_cons (pe_lc (own := [("one", 6)]) rfl sc_misfit_rows.nd (castPI (K := K) (r := fun K => iList K _) rfl (pi_list (pe_ix (castIx (K := K) (r := rIxL) rfl ix_list) (pv 3) (pe_un un_neg pe_int) (fun _ _ => rfl)))) (blkOk_by (own := [("one", 6)]) (by kernel_rfl)) (fun _ _ _ _ _ => (pg_name (i := 6) sc_misfit_rows.nd rfl (by first | exact Or.inl rfl | exact Or.inr rfl))) (fun _ _ _ _ _ => pts_nil) (fun _ _ _ _ _ => (pe_clM cm_House_at_hand hr (by decide) pass0 (pv 0) (pa_cons (pv 6) (pa_cons (pv 5) pa_nil))))) pa_nil))))) (fun _ _ _ _ _ => (pv 5))) pa_nil)))))
        (pss_one (ps_ret (pv 3))))), ?_⟩)
    try dsimp only [L3.cxK, L3.cxKX]
    rintro Rs M k X ⟨rfl, ns, ds, ss, L, z, rfl, so, l1, l6, hL, hz, q⟩
    cases L with
    | nil => exact absurd l1 (by decide)
    | cons f0 rest =>
    have l5 : rest.length ≤ 5 := by simpa using l6
    have hf := hL f0 (List.mem_cons_self ..)
    have hr : ∀ l ∈ rest, l.length ≤ 8 ∧ l.Nodup ∧ ∀ z ∈ l, z ∈ ns := fun l hl => hL l (List.mem_cons_of_mem _ hl)
    refine st_join (α := Addr × List Str) (P := fun x => x.2 = headM (f0 :: rest) z ∧ x.2.length ≤ 8 ∧ ∀ y ∈ x.2, y ∈ ns) (G := fun x => [some (iHouse C_House ns ds ss), some (llR (f0 :: rest)), some (aStr z), some (iRef x.1), none, none, none]) (N := fun x => [(x.1, mLst [lsR x.2])]) ?_ (fun ⟨a, g⟩ ⟨ge, g8, gn⟩ => ?_)
    · (repeat' decreasing_trivial_pre_omega)
      refine ite_b (fun c => ?_) (fun c => ?_)
      · (repeat' decreasing_trivial_pre_omega)
        intro a
        exact lj (a, [z]) ⟨(if_pos (of_decide_eq_true c)).symm, by simp, fun y hy => by rw [List.mem_singleton.mp hy]; exact hz⟩ (by (repeat' decreasing_trivial_pre_omega)) rfl
      · (repeat' decreasing_trivial_pre_omega)
        intro a
        exact lj (a, []) ⟨(if_neg (of_decide_eq_false c)).symm, by simp, fun y hy => nomatch hy⟩ (by (repeat' decreasing_trivial_pre_omega)) rfl
    refine st_seq (st_forG (List (List Str)) (tip_list (rl := rest.map lsR) ?_ _ _ ?_))
    · rw [show rest.map lsR = cutL ((f0 :: rest).map lsR) (some ((1 : Nat) : Int)) none from by rw [cutL_drop]; rfl]
      (repeat' decreasing_trivial_pre_omega)
    refine ⟨fun i F => F = (rest.take i).foldl (stepM (handP ds)) [headM (f0 :: rest) z] ∧ F.length = i + 1 ∧ ∀ l ∈ F, l.length ≤ 8 ∧ ∀ y ∈ l, y ∈ ns, fun _ => [some (iHouse C_House ns ds ss), some (llR (f0 :: rest)), some (aStr z), some (iRef a), none, none, none], fun F => [(a, mLst (F.map lsR))], lj [g] ⟨by dsimp only at ge; rw [ge]; rfl, rfl, fun l hl => by rw [List.mem_singleton.mp hl]; exact ⟨g8, gn⟩⟩ (by (repeat' decreasing_trivial_pre_omega)) rfl, ?_, ?_⟩
    · rintro t r F ht hr0 ⟨F0, F1, F2⟩
      have ht' : t < rest.length := by simpa using ht
      rw [List.getElem?_map, List.getElem?_eq_getElem ht'] at hr0
      cases hr0
      obtain ⟨b1, b2, b3⟩ := hr _ (List.getElem_mem ht')
      have es := foldM_snoc (adj := handP ds) ht' [headM (f0 :: rest) z]
      rw [← F0] at es
      unfold stepM at es
      generalize rest[t] = rooms at b1 b2 b3 es ⊢
      have hlast : F.getD (F.length - 1) [] ∈ F := by
        rw [List.getD_eq_getElem?_getD, List.getElem?_eq_getElem (by omega)]
        exact List.getElem_mem _
      obtain ⟨c1, c2⟩ := F2 _ hlast
      have em := at_m1L (L := F) (by omega)
      generalize F.getD (F.length - 1) [] = last at c1 c2 em es
      try dsimp only
      (repeat' decreasing_trivial_pre_omega)
      refine Ep.ev (ep_lcF (l := rooms) (e := aStr) (p := fun r => (last.map fun o => handP ds o r).any id) (by (repeat' decreasing_trivial_pre_omega)) (by omega) (by decide) (fun r hr' => ?_) (fun r hr' _ => ?_)) ?_
      · (repeat' decreasing_trivial_pre_omega)
        refine Ep.ev (ep_lcM (l := last) (e := aStr) (e' := fun o => iBl (handP ds o r)) (ep_op (ep_var rfl) (ep_un ep_int (o_neg)) (o_ixM1 0 rfl em)) (by omega) (by decide) (fun o ho => ?_)) ?_
        · (repeat' decreasing_trivial_pre_omega)
          refine ⟨_, leS_rfl, o, r, ns, ds, ss, rfl, rfl, c2 o ho, b3 r hr', ?_⟩
          (repeat' decreasing_trivial_pre_omega)
        refine ea_nil ?_
        rw [show (last.map fun o => iBl (handP ds o r)) = (last.map fun o => handP ds o r).map iBl from by rw [List.map_map]; rfl]
        (repeat' decreasing_trivial_pre_omega)
      · (repeat' decreasing_trivial_pre_omega)
      (repeat' decreasing_trivial_pre_omega)
      have hl : (rooms.filter fun r => (last.map fun o => handP ds o r).any id).length ≤ 8 := Nat.le_trans (List.length_filter_le _ _) b1
      refine lj (F ++ [rooms.filter fun r => (last.map fun o => handP ds o r).any id]) ⟨es.symm, by simp; omega, fun l hl2 => ?_⟩ (by (repeat' decreasing_trivial_pre_omega)) (by simp)
      rcases List.mem_append.mp hl2 with h | h
      · exact F2 l h
      · rw [List.mem_singleton.mp h]
        exact ⟨hl, fun y hy => b3 y (List.mem_filter.mp hy).1⟩
    · rintro F Γ1 ⟨F0, F1, F2⟩ w
      refine st_wk w ?_
      try dsimp only
      rw [List.length_map, List.take_length] at F0
      rcases q with q | q
      · refine st_ret (ev_told (ev_var rfl ⟨a, 0, _, rfl, rfl, ?_⟩))
        rw [F0]
        exact q
      · refine st_ret (ev_var rfl ?_)
        rw [F0]
        exact q a
    )) only [↓bx_true]

abbrev s_narrowed : Stmt := top 18
theorem sc_narrowed : FnScope ["some", "at", "room"] ["some", "at", "room"] (defScope s_narrowed) := ⟨rfl, rfl, rfl, by decide +kernel, rfl, by decide +kernel, by decide +kernel⟩
abbrev ts_narrowed (K : PySem.W.Frag) : TSp := pureK fun Rs q => ∃ L : List (List Str), ∃ i : Nat, ∃ z : Str, Rs = [llR L, iInt (i : Nat), aStr z] ∧ L.length ≤ 1000 ∧ q (llR (narrowL L i z))
theorem ok_narrowed (B : Bt mg) {f : Addr} {fd : FuncData} (d : Df K mg "narrowed" s_narrowed ["some", "at", "room"] f fd) : Cl P w K mg base CX0 1 "narrowed" (ts_narrowed K) [] := by
  refine bx_of ?_
  simp (disch := with_unfolding_all (
    refine cl_of d (okT (kk := 0) d.fn sc_narrowed (fun Rs M k X h => by obtain ⟨_, _, _, _, rfl, _⟩ := h; rfl) fun cdv A outer s H E hr => ⟨_,
      (pss_one (ps_ret (pe_op op_cat (pe_op op_cat (pe_slice sl_list (pv 0) po_none (po_some (pv 1))) (pe_lst (pa_cons (pe_lst (pa_cons (pv 2) pa_nil)) pa_nil))) (pe_slice sl_list (pv 0) (po_some (pe_op op_add (pv 1) pe_int)) po_none)))), ?_⟩)
    try dsimp only [L3.cxK, L3.cxKX]
    rintro Rs M k X ⟨rfl, L, i, z, rfl, hl, q⟩
    (repeat' decreasing_trivial_pre_omega)
    · rw [cutL_take]
      simp
      omega
    · rw [cutL_take, show ((i : Int) + 1) = ((i + 1 : Nat) : Int) by omega, cutL_drop]
      simp
      omega
    · rw [cutL_take, show ((i : Int) + 1) = ((i + 1 : Nat) : Int) by omega, cutL_drop]
      have e : (narrowL L i z).map lsR = (L.map lsR).take i ++ [iLst [aStr z]] ++ (L.map lsR).drop (i + 1) := by
        unfold narrowL
        rw [List.map_append, List.map_append, List.map_take, List.map_drop]
        rfl
      rw [← e]
      exact q
    )) only [↓bx_true]

abbrev s_possible : Stmt := top 19
theorem sc_possible : FnScope ["house", "some", "at", "room"] ["house", "some", "at"] (defScope s_possible) := ⟨rfl, rfl, rfl, by decide +kernel, rfl, by decide +kernel, by decide +kernel⟩
abbrev ts_possible (K : PySem.W.Frag) (C_House : Addr) : TSp := fun Rs M k _ => M = [] ∧ ∃ ns ds ss, ∃ L : List (List Str), ∃ i : Nat, Rs = [iHouse C_House ns ds ss, llR L, iInt (i : Nat)] ∧ (∀ z ∈ ns, StrOk z) ∧ L.length ≤ 6 ∧ i < L.length ∧ (∀ l ∈ L, l.length ≤ 8 ∧ l.Nodup ∧ ∀ z ∈ l, z ∈ ns) ∧ (k (lsR (possL (handP ds) L i)) [] ∨ ∀ a, k (iRef a) [(a, mLst ((possL (handP ds) L i).map aStr))])
theorem ok_possible (B : Bt mg) {C_House : Addr} (T_House : Txt_House K mg C_House) (c_counted : Cl P w K mg base CX0 4 "counted" (ts_counted K C_House) []) (c_narrowed : Cl P w K mg base CX0 1 "narrowed" (ts_narrowed K) []) {f : Addr} {fd : FuncData} (d : Df K mg "possible" s_possible ["house", "some", "at"] f fd) : Cl P w K mg base CX0 5 "possible" (ts_possible K C_House) [] := by
  refine bx_of ?_
  simp (disch := with_unfolding_all (
    refine cl_of d (okT (kk := 4) d.fn sc_possible (fun Rs M k X h => by obtain ⟨_, _, _, _, _, _, rfl, _⟩ := h; rfl) fun cdv A outer s H E hr => ⟨_,
      (pss_one (ps_ret (pe_lc (own := [("room", 3)]) rfl sc_possible.nd (pi_list (pe_ix ix_list (pv 1) (pv 2) (fun _ _ => rfl))) (blkOk_by (own := [("room", 3)]) (N := ["house", "some", "at", "room"]) (sc := defScope s_possible) (by decide +kernel)) (fun _ _ _ _ _ => (pg_name (i := 3) sc_possible.nd rfl (by first | exact Or.inl rfl | exact Or.inr rfl))) (fun _ _ _ _ _ => (pts_one (pt_cmpR op_gt (pe_cl c_counted hr (by decide) pass0 rfl (pa_cons (pv 0) (pa_cons (pe_cl c_narrowed hr (by decide) pass0 rfl (pa_cons (pv 1) (pa_cons (pv 2) (pa_cons (pv 3) pa_nil)))) pa_nil))) pe_int (nomark _)))) (fun _ _ _ _ _ => (pv 3))))), ?_⟩)
    try dsimp only [L3.cxK, L3.cxKX]
    rintro Rs M k X ⟨rfl, ns, ds, ss, L, i, rfl, so, l6, hi, hL, q⟩
    have hLi := hL _ (List.getElem_mem hi)
    have eL : L.getD i [] = L[i] := by rw [List.getD_eq_getElem?_getD, List.getElem?_eq_getElem hi]; rfl
    have hn : ∀ z ∈ L[i], (narrowL L i z).length = L.length ∧ ∀ l ∈ narrowL L i z, l.length ≤ 8 ∧ l.Nodup ∧ ∀ z ∈ l, z ∈ ns := fun z hz => by
      refine ⟨by unfold narrowL; simp; omega, fun l hl => ?_⟩
      unfold narrowL at hl
      rcases List.mem_append.mp hl with h | h
      · rcases List.mem_append.mp h with h | h
        · exact hL l (List.mem_of_mem_take h)
        · rw [List.mem_singleton.mp h]
          exact ⟨by simp, by simp, fun y hy => by rw [List.mem_singleton.mp hy]; exact hLi.2.2 z hz⟩
      · exact hL l (List.mem_of_mem_drop h)
    (repeat' decreasing_trivial_pre_omega)
    have ep : (L[i].filter fun z => decide (cntOf (handP ds) (narrowL L i z) > 0)) = possL (handP ds) L i := by unfold possL; rw [eL]
    rcases q with q | q
    · refine Ep.ev (ep_lcF (l := L[i]) (e := aStr) (p := fun z => decide (cntOf (handP ds) (narrowL L i z) > 0)) (ep_op (ep_var rfl) (ep_var rfl) (o_ixL (atI_map (atI_nat (by rw [List.getElem?_eq_getElem hi]))))) (by omega) (by decide) (fun z hz => ?_) (fun z hz _ => ?_)) ?_
      · obtain ⟨h1, h2⟩ := hn z hz
        (repeat' decreasing_trivial_pre_omega)
        refine ⟨_, leS_rfl, L, i, z, rfl, by omega, ?_⟩
        (repeat' decreasing_trivial_pre_omega)
        refine ⟨_, leS_rfl, ns, ds, ss, narrowL L i z, rfl, so, by omega, by omega, h2, ?_⟩
        (repeat' decreasing_trivial_pre_omega)
      · (repeat' decreasing_trivial_pre_omega)
      rw [ep]
      (repeat' decreasing_trivial_pre_omega)
    · refine ev_lcFX (l := L[i]) (e := aStr) (p := fun z => decide (cntOf (handP ds) (narrowL L i z) > 0)) (ep_op (ep_var rfl) (ep_var rfl) (o_ixL (atI_map (atI_nat (by rw [List.getElem?_eq_getElem hi]))))) (by omega) (by decide) (fun z hz => ?_) (fun z hz _ => ?_) (fun a => ?_)
      · obtain ⟨h1, h2⟩ := hn z hz
        (repeat' decreasing_trivial_pre_omega)
        refine ⟨_, leS_rfl, L, i, z, rfl, by omega, ?_⟩
        (repeat' decreasing_trivial_pre_omega)
        refine ⟨_, leS_rfl, ns, ds, ss, narrowL L i z, rfl, so, by omega, by omega, h2, ?_⟩
        (repeat' decreasing_trivial_pre_omega)
      · (repeat' decreasing_trivial_pre_omega)
      rw [ep]
      exact q a
    )) only [↓bx_true]

abbrev s_first_of : Stmt := top 20
theorem sc_first_of : FnScope ["house", "some", "at", "rooms"] ["house", "some"] (defScope s_first_of) := ⟨rfl, rfl, rfl, by decide +kernel, rfl, by decide +kernel, by decide +kernel⟩
theorem firstGo_ok {adj : Str → Str → Bool} {ns : List Str} {L : List (List Str)} (hL : ∀ l ∈ L, l.length ≤ 8 ∧ l.Nodup ∧ ∀ z ∈ l, z ∈ ns) (hp : ∀ i, i < L.length → (possL adj (firstGo adj L i) i).getD 0 e0 ∈ possL adj (firstGo adj L i) i) : ∀ n, n ≤ L.length → ∀ l ∈ firstGo adj L n, l.length ≤ 8 ∧ l.Nodup ∧ ∀ z ∈ l, z ∈ ns
  | 0, _ => hL
  | n + 1, h => fun l hl => by
    have ih := firstGo_ok hL hp n (by omega)
    have hz := hp n (by omega)
    have hzn : (possL adj (firstGo adj L n) n).getD 0 e0 ∈ (firstGo adj L n).getD n [] := (List.mem_filter.mp hz).1
    have hin : (firstGo adj L n).getD n [] ∈ firstGo adj L n := by
      have ln := firstGo_len (L := L) (adj := adj) (n := n) (by omega)
      rw [List.getD_eq_getElem?_getD, List.getElem?_eq_getElem (by omega)]
      exact List.getElem_mem _
    unfold firstGo narrowL at hl
    rcases List.mem_append.mp hl with h | h
    · rcases List.mem_append.mp h with h | h
      · exact ih l (List.mem_of_mem_take h)
      · rw [List.mem_singleton.mp h]
        exact ⟨by simp, by simp, fun y hy => by rw [List.mem_singleton.mp hy]; exact (ih _ hin).2.2 _ hzn⟩
    · exact ih l (List.mem_of_mem_drop h)
abbrev ts_first_of (K : PySem.W.Frag) (C_House : Addr) : TSp := pureK fun Rs q => ∃ ns ds ss, ∃ L : List (List Str), ∃ row : List Str, Rs = [iHouse C_House ns ds ss, llR L] ∧ (∀ z ∈ ns, StrOk z) ∧ L.length ≤ 6 ∧ (∀ l ∈ L, l.length ≤ 8 ∧ l.Nodup ∧ ∀ z ∈ l, z ∈ ns) ∧ FitsC (handP ds) L row ∧ q (aTup K ((firstRow (handP ds) L).map aStr))
theorem ok_first_of (B : Bt mg) {C_House : Addr} (T_House : Txt_House K mg C_House) (c_narrowed : Cl P w K mg base CX0 1 "narrowed" (ts_narrowed K) []) (c_possible : Cl P w K mg base CX0 5 "possible" (ts_possible K C_House) []) {f : Addr} {fd : FuncData} (d : Df K mg "first_of" s_first_of ["house", "some"] f fd) : Cl P w K mg base CX0 6 "first_of" (ts_first_of K C_House) [] := by
  refine bx_of ?_
  simp (disch := with_unfolding_all (
    refine cl_of d (okT (kk := 5) d.fn sc_first_of (fun Rs M k X h => by obtain ⟨_, _, _, _, _, _, rfl, _⟩ := h; rfl) fun cdv A outer s H E hr => ⟨_,
      (pss_cons (ps_for PassesOwn.never rfl (pi_range1 (by rfl) B.range (pa_cons (pe_callB call_len (by rfl) B.len (by decide +kernel) (pa_cons (pv 1) pa_nil)) pa_nil)) (pg_name (i := 2) sc_first_of.nd rfl (Or.inl rfl)) (pss_one (ps_set (i := 1) sc_first_of.nd rfl (Or.inl rfl) (pe_cl c_narrowed hr (by decide) pass0 rfl (pa_cons (pv 1) (pa_cons (pv 2) (pa_cons (pe_ix ix_list (pe_cl c_possible hr (by decide) pass0 rfl (pa_cons (pv 0) (pa_cons (pv 1) (pa_cons (pv 2) pa_nil)))) pe_int (fun _ _ => rfl)) pa_nil)))))))
        (pss_one (ps_ret (pe_callTy call_tuple_of (by rfl) B.tuple (by decide +kernel) (pa_cons (pe_lc (own := [("rooms", 3)]) rfl sc_first_of.nd (pi_list (pv 1)) (blkOk_by (own := [("rooms", 3)]) (N := ["house", "some", "at", "rooms"]) (sc := defScope s_first_of) (by decide +kernel)) (fun _ _ _ _ _ => (pg_name (i := 3) sc_first_of.nd rfl (by first | exact Or.inl rfl | exact Or.inr rfl))) (fun _ _ _ _ _ => pts_nil) (fun _ _ _ _ _ => (pe_ix (castIx (K := K) (r := rIxL) rfl ix_list) (pv 3) pe_int (fun _ _ => rfl)))) pa_nil))))), ?_⟩)
    try dsimp only [L3.cxK, L3.cxKX]
    rintro Rs M k X ⟨rfl, ns, ds, ss, L, row, rfl, so, l6, hL, fit, q⟩
    have gof : ∀ i, i < L.length → 0 < (possL (handP ds) (firstGo (handP ds) L i) i).length ∧ (possL (handP ds) (firstGo (handP ds) L i) i).getD 0 e0 ∈ possL (handP ds) (firstGo (handP ds) L i) i := fun i hi => by
      obtain ⟨r, f1, _, _⟩ := firstGo_fits fit (n := i) (by omega)
      exact poss_get (by rw [firstGo_len (by omega)]; exact hi) f1
    have gok := firstGo_ok hL fun i hi => (gof i hi).2
    (repeat' decreasing_trivial_pre_omega)
    refine st_forG (List (List Str)) ?_
    (repeat' decreasing_trivial_pre_omega)
    refine ⟨L.length, by rw [List.length_map], by omega, fun i F => F = firstGo (handP ds) L i, fun F => [some (iHouse C_House ns ds ss), some (llR F), none, none], fun _ => [], lj L rfl (by (repeat' decreasing_trivial_pre_omega)) rfl, ?_, ?_⟩
    · rintro i r F hi rfl rfl
      obtain ⟨g1, g2⟩ := gof i hi
      have ln : (firstGo (handP ds) L i).length = L.length := firstGo_len (by omega)
      have gk := gok i (by omega)
      have e2 : firstGo (handP ds) L (i + 1) = narrowL (firstGo (handP ds) L i) i ((possL (handP ds) (firstGo (handP ds) L i) i).getD 0 e0) := rfl
      generalize firstGo (handP ds) L i = F at g1 g2 ln gk e2 ⊢
      try dsimp only
      (repeat' decreasing_trivial_pre_omega)
      refine ⟨[], [], rfl, rfl, ns, ds, ss, F, i, rfl, so, by omega, by omega, gk, .inl ?_⟩
      try dsimp only
      refine ev_int ?_
      refine o_ixN (l := possL (handP ds) F i) (g := aStr) 0 rfl g1 _ ?_
      (repeat' decreasing_trivial_pre_omega)
      refine ⟨_, leS_rfl, F, i, _, rfl, by omega, ?_⟩
      (repeat' decreasing_trivial_pre_omega)
      refine lj (firstGo (handP ds) L (i + 1)) rfl (by
        rw [e2, List.getD_eq_getElem?_getD, List.getElem?_eq_getElem g1]
        (repeat' decreasing_trivial_pre_omega)) rfl
    · rintro F Γ1 rfl w
      refine st_wk w ?_
      try dsimp only
      have gk := gok L.length (Nat.le_refl _)
      have ln : (firstGo (handP ds) L L.length).length = L.length := firstGo_len (Nat.le_refl _)
      obtain ⟨r, f1, f2, f3⟩ := firstGo_fits fit (n := L.length) (Nat.le_refl _)
      refine st_ret (ev_cb (ea_cons (Ep.ev (ep_lcM (l := firstGo (handP ds) L L.length) (e := lsR) (e' := fun l => aStr (l.getD 0 e0)) (ep_var rfl) (by omega) (by decide) (fun l hl => ?_)) ?_)))
      · obtain ⟨j, hj, rfl⟩ := List.getElem_of_mem hl
        have ej := f3 j (by omega)
        rw [List.getD_eq_getElem?_getD, List.getElem?_eq_getElem hj] at ej
        have ej : (firstGo (handP ds) L L.length)[j] = [r.getD j e0] := ej
        rw [ej]
        (repeat' decreasing_trivial_pre_omega)
      rw [show ((firstGo (handP ds) L L.length).map fun l => aStr (l.getD 0 e0)) = (firstRow (handP ds) L).map aStr from by unfold firstRow; rw [List.map_map]; rfl]
      refine ea_nil ?_
      (repeat' decreasing_trivial_pre_omega)
    )) only [↓bx_true]

abbrev s_read_round : Stmt := top 23
theorem sc_read_round : FnScope ["house", "size", "sightings", "some", "first", "at", "rooms", "one", "other", "room"] ["house", "size", "sightings"] (defScope s_read_round) := ⟨rfl, rfl, rfl, by decide +kernel, rfl, by decide +kernel, by decide +kernel⟩
abbrev ts_read_round (K : PySem.W.Frag) (C_House : Addr) : TSp := freshK fun Rs k => ∃ ns ds ss, ∃ n : Nat, ∃ l : List Seen, Rs = [iHouse C_House ns ds ss, iInt (n : Nat), aSeq K (l.map (seenR K))] ∧ 1 ≤ n ∧ n ≤ 6 ∧ ns.length ≤ 8 ∧ ns.Nodup ∧ (∀ z ∈ ns, StrOk z) ∧ l.length ≤ 1000 ∧ (∀ s ∈ l, -1000000000 ≤ s.1 ∧ s.1 ≤ 1000000000 ∧ s.2.1 ∈ ns) ∧ (k (readR K (readE (handP ds) ns (letsOf ns n l))) [] ∨ 1 ≤ ns.length ∧ ((∀ t, readE (handP ds) ns (letsOf ns n l) ≠ .none t) → k (readR K (readE (handP ds) ns (letsOf ns n l))) []) ∧ ∀ t0 ts, readE (handP ds) ns (letsOf ns n l) = .none (t0 :: ts) → ∀ a0 a, k (aTup K [aStr "none", iRef a]) [(a0, mLst (t0.map lsR)), (a, mLst (iRef a0 :: ts.map llR))])
theorem ok_read_round (B : Bt mg) {C_House : Addr} (T_House : Txt_House K mg C_House) (c_need_seen : Cl P w K mg base CX0 2 "need_seen" (ts_need_seen K C_House) []) (c_let_rooms : Cl P w K mg base CX0 2 "let_rooms" (ts_let_rooms K C_House) []) (c_counted : Cl P w K mg base CX0 4 "counted" (ts_counted K C_House) []) (cm_House_rooms : ClM P w K mg base CX0 1 C_House "rooms" (ts_House_rooms K C_House) []) (c_misfit_rows : Cl P w K mg base CX0 4 "misfit_rows" (ts_misfit_rows K C_House) []) (c_possible : Cl P w K mg base CX0 5 "possible" (ts_possible K C_House) []) (c_first_of : Cl P w K mg base CX0 6 "first_of" (ts_first_of K C_House) []) (c_narrowed : Cl P w K mg base CX0 1 "narrowed" (ts_narrowed K) []) {f : Addr} {fd : FuncData} (d : Df K mg "read_round" s_read_round ["house", "size", "sightings"] f fd) : Cl P w K mg base CX0 7 "read_round" (ts_read_round K C_House) [] := by
  refine bx_of ?_
  simp (disch := with_unfolding_all (
    refine cl_of d (okT (kk := 6) d.fn sc_read_round (fun Rs M k X h => by obtain ⟨_, _, _, _, _, _, rfl, _⟩ := h; rfl) fun cdv A outer s H E hr => ⟨_,
      (pss_cons (ps_expr (pe_cl c_need_seen hr (by decide) pass0 rfl (pa_cons (pv 0) (pa_cons (pv 1) (pa_cons (pv 2) pa_nil)))))
        (pss_cons (ps_set (i := 3) sc_read_round.nd rfl (Or.inr rfl) (pe_cl c_let_rooms hr (by decide) pass0 rfl (pa_cons (pv 0) (pa_cons (pv 1) (pa_cons (pv 2) pa_nil)))))
        (pss_cons (ps_if (pt_cmpR op_eq (pe_cl c_counted hr (by decide) pass0 rfl (pa_cons (pv 0) (pa_cons (pv 3) pa_nil))) pe_int (nomark _)) (pss_one (ps_ret (pe_tup (pa_cons pe_str (pa_cons (pe_lc (own := [("first", 4)]) rfl sc_read_round.nd (pi_list (pe_clM0 cm_House_rooms hr (by decide) pass0 (pv 0))) (blkOk_by (own := [("first", 4)]) (N := ["house", "size", "sightings", "some", "first", "at", "rooms", "one", "other", "room"]) (sc := defScope s_read_round) (by decide +kernel)) (fun _ _ _ _ _ => (pg_name (i := 4) sc_read_round.nd rfl (by first | exact Or.inl rfl | exact Or.inr rfl))) (fun _ _ _ _ _ => pts_nil) (fun _ _ _ _ _ => (pe_cl c_misfit_rows hr (by decide) pass0 rfl (pa_cons (pv 0) (pa_cons (pv 3) (pa_cons (pv 4) pa_nil)))))) pa_nil))))) pss_nil)
        (pss_cons (ps_for PassesOwn.never rfl (pi_range1 (by rfl) B.range (pa_cons (pv 1) pa_nil)) (pg_name (i := 5) sc_read_round.nd rfl (Or.inr rfl)) (pss_cons (ps_set (i := 6) sc_read_round.nd rfl (Or.inl rfl) (pe_cl c_possible hr (by decide) pass0 rfl (pa_cons (pv 0) (pa_cons (pv 3) (pa_cons (pv 5) pa_nil)))))
        (pss_one (ps_if (pt_cmpR op_gt (pe_callB call_len (by rfl) B.len (by decide +kernel) (pa_cons (pv 6) pa_nil)) pe_int (nomark _)) (pss_cons (ps_asg (pe_lc (own := [("room", 9)]) rfl sc_read_round.nd (pi_list (pe_slice sl_list (pv 6) po_none (po_some pe_int))) (blkOk_by (own := [("room", 9)]) (N := ["house", "size", "sightings", "some", "first", "at", "rooms", "one", "other", "room"]) (sc := defScope s_read_round) (by decide +kernel)) (fun _ _ _ _ _ => (pg_name (i := 9) sc_read_round.nd rfl (by first | exact Or.inl rfl | exact Or.inr rfl))) (fun _ _ _ _ _ => pts_nil) (fun _ _ _ _ _ => (pe_cl c_first_of hr (by decide) pass0 rfl (pa_cons (pv 0) (pa_cons (pe_cl c_narrowed hr (by decide) pass0 rfl (pa_cons (pv 3) (pa_cons (pv 5) (pa_cons (pv 9) pa_nil)))) pa_nil))))) (pg_unl rfl (pgs_cons (pg_name (i := 7) sc_read_round.nd rfl (Or.inl rfl)) (pgs_cons (pg_name (i := 8) sc_read_round.nd rfl (Or.inl rfl)) pgs_nil))))
        (pss_one (ps_ret (pe_tup (pa_cons pe_str (pa_cons (pv 7) (pa_cons (pv 8) (pa_cons (pv 5) pa_nil)))))))) pss_nil))))
        (pss_one (ps_ret (pe_tup (pa_cons pe_str (pa_cons (pe_cl c_first_of hr (by decide) pass0 rfl (pa_cons (pv 0) (pa_cons (pv 3) pa_nil))) pa_nil))))))))), ?_⟩)
    try dsimp only [L3.cxK, L3.cxKX]
    rintro Rs M k X ⟨rfl, ns, ds, ss, n, l, rfl, n1, n6, n8, nd, so, hl, hs, q⟩
    have LL : (letsOf ns n l).length = n := lets_len
    have Lin : ∀ r ∈ letsOf ns n l, r.length ≤ 8 ∧ r.Nodup ∧ ∀ z ∈ r, z ∈ ns := fun r h => by
      refine ⟨?_, lets_nd nd r h, lets_in r h⟩
      obtain ⟨i, _, rfl⟩ := List.mem_map.mp h
      exact Nat.le_trans (List.length_filter_le _ _) n8
    (repeat' decreasing_trivial_pre_omega)
    refine ⟨_, leS_rfl, ns, ds, ss, n, l, rfl, by omega, by omega, so, hs, ?_⟩
    (repeat' decreasing_trivial_pre_omega)
    refine ⟨_, leS_rfl, ns, ds, ss, n, l, rfl, n1, n6, n8, so, hl, fun s h => so _ (hs s h).2.2, ?_⟩
    generalize letsOf ns n l = L at q LL Lin ⊢
    (repeat' decreasing_trivial_pre_omega)
    refine ⟨_, leS_rfl, ns, ds, ss, L, rfl, so, by omega, by omega, Lin, ?_⟩
    have L0 : L ≠ [] := fun h => by rw [h] at LL; simp at LL; omega
    (repeat' decreasing_trivial_pre_omega)
    by_cases c0 : cntOf (handP ds) L = 0
    · rw [if_pos (by simpa using c0)]
      have eR : readE (handP ds) ns L = .none (ns.map (misE (handP ds) L)) := if_pos c0
      rw [eR] at q
      rcases q with q | ⟨nl, _, q⟩
      · (repeat' decreasing_trivial_pre_omega)
        refine Ep.ev (ep_lcM (l := ns) (e := aStr) (e' := fun z => llR (misE (handP ds) L z)) ?_ (by omega) (by decide) (fun z hz => ?_)) ?_
        · (repeat' decreasing_trivial_pre_omega)
          refine ⟨_, leS_rfl, ns, ds, ss, rfl, rfl, ?_⟩
          (repeat' decreasing_trivial_pre_omega)
        · intro k4 X4 hk4
          refine ev_callF (Ds := []) (fun _ => True.intro) ?_
          (repeat' decreasing_trivial_pre_omega)
          refine ⟨_, leS_rfl, ns, ds, ss, L, z, rfl, so, by omega, by omega, Lin, hz, .inl ?_⟩
          exact hk4
        rw [show (ns.map fun z => llR (misE (handP ds) L z)) = (ns.map (misE (handP ds) L)).map llR from by rw [List.map_map]; rfl]
        (repeat' decreasing_trivial_pre_omega)
      · obtain ⟨z0, nr, rfl⟩ : ∃ z l, ns = z :: l := by
          cases ns with
          | nil => exact absurd nl (by decide)
          | cons z l => exact ⟨z, l, rfl⟩
        have q := q _ _ rfl
        (repeat' decreasing_trivial_pre_omega)
        refine ev_lcX (by decide) (tip_list (rl := (z0 :: nr).map aStr) (fun k4 X4 hk4 => ?_) _ _ ⟨by simp only [List.length_map]; omega, fun i acc M2 => (i = 0 ∧ acc = [] ∧ M2 = []) ∨ ∃ a0 j, i = j + 1 ∧ acc = iRef a0 :: (nr.take j).map (fun z => llR (misE (handP ds) L z)) ∧ M2 = [(a0, mLst ((misE (handP ds) L z0).map lsR))], .inl ⟨rfl, rfl, rfl⟩, fun i r acc M2 hi hr _ hJ => ?_, fun acc M2 _ hJ a => ?_⟩)
        · (repeat' decreasing_trivial_pre_omega)
          exact ⟨_, leS_rfl, z0 :: nr, ds, ss, rfl, rfl, hk4⟩
        · have hi' : i < (z0 :: nr).length := by simpa using hi
          have hr : ((z0 :: nr).map aStr)[i]? = some r := hr
          rw [List.getElem?_map, List.getElem?_eq_getElem hi'] at hr
          cases hr
          refine tg_name (et_yes ?_) (.inr (by decide))
          rw [if_pos rfl]
          refine ev_callF (Ds := []) (fun _ => True.intro) ?_
          rcases hJ with ⟨rfl, rfl, rfl⟩ | ⟨a0, j, rfl, rfl, rfl⟩
          · (repeat' decreasing_trivial_pre_omega)
            refine ⟨_, leS_rfl, z0 :: nr, ds, ss, L, z0, rfl, so, by omega, by omega, Lin, .head _, .inr fun a0 => ?_⟩
            exact .inr ⟨a0, 0, rfl, rfl, rfl⟩
          · have hj : j < nr.length := by simpa using hi'
            (repeat' decreasing_trivial_pre_omega)
            refine ⟨_, leS_rfl, z0 :: nr, ds, ss, L, nr[j], rfl, so, by omega, by omega, Lin, .tail _ (List.getElem_mem hj), .inl ?_⟩
            refine .inr ⟨a0, j + 1, rfl, ?_, rfl⟩
            rw [List.take_succ, List.getElem?_eq_getElem hj, List.map_append]
            rfl
        · rcases hJ with ⟨h, _⟩ | ⟨a0, j, hj, rfl, rfl⟩
          · simp at h
          · have e : j = nr.length := by simpa using hj.symm
            subst e
            rw [List.take_length, show (nr.map fun z => llR (misE (handP ds) L z)) = (nr.map (misE (handP ds) L)).map llR from by rw [List.map_map]; rfl]
            (repeat' decreasing_trivial_pre_omega)
            exact q a0 a
    have cp : 0 < cntOf (handP ds) L := by have := cnt_nn (adj := handP ds) L0; omega
    obtain ⟨row, fit⟩ := (cnt_pos L0).mp cp
    have nn : ∀ t, readE (handP ds) ns L ≠ .none t := fun t h => by
      unfold readE at h
      rw [if_neg c0] at h
      split at h <;> cases h
    have q : k (readR K (readE (handP ds) ns L)) [] := q.elim id fun h => h.2.1 nn
    rw [if_neg (by simpa using c0)]
    have qe : readE (handP ds) ns L = match (List.range L.length).find? fun i => decide (1 < (possL (handP ds) L i).length) with
      | some i => .many (firstRow (handP ds) (narrowL L i ((possL (handP ds) L i).getD 0 e0))) (firstRow (handP ds) (narrowL L i ((possL (handP ds) L i).getD 1 e0))) i
      | Option.none => .one (firstRow (handP ds) L) := if_neg c0
    (repeat' decreasing_trivial_pre_omega)
    refine st_forG Unit ?_
    (repeat' decreasing_trivial_pre_omega)
    refine ⟨n, rfl, by omega, fun i _ => ∀ j, j < i → (possL (handP ds) L j).length ≤ 1, fun _ => [some (iHouse C_House ns ds ss), some (iInt (n : Nat)), some (aSeq K (l.map (seenR K))), some (llR L), none, none, none, none, none, none], fun _ => [], lj () (fun j hj => absurd hj (by omega)) (by (repeat' decreasing_trivial_pre_omega)) rfl, ?_, ?_⟩
    · rintro i r _ hi rfl hp
      have hiL : i < L.length := by omega
      obtain ⟨pl, _⟩ := poss_get hiL fit
      have mp := fun z => mem_poss (adj := handP ds) hiL (z := z)
      have pnd : (possL (handP ds) L i).Nodup := by
        unfold possL
        refine List.Nodup.sublist List.filter_sublist ?_
        rw [List.getD_eq_getElem?_getD, List.getElem?_eq_getElem hiL]
        exact (Lin _ (List.getElem_mem hiL)).2.1
      have pl8 : (possL (handP ds) L i).length ≤ 8 := by
        unfold possL
        refine Nat.le_trans (List.length_filter_le _ _) ?_
        rw [List.getD_eq_getElem?_getD, List.getElem?_eq_getElem hiL]
        exact (Lin _ (List.getElem_mem hiL)).1
      try dsimp only
      (repeat' decreasing_trivial_pre_omega)
      refine ⟨[], [], rfl, rfl, ns, ds, ss, L, i, rfl, so, by omega, by omega, Lin, .inl ?_⟩
      try dsimp only
      generalize hP : possL (handP ds) L i = P0 at pl pl8 pnd mp
      (repeat' decreasing_trivial_pre_omega)
      refine ite_b (fun h => ?_) (fun h => ?_)
      · have h1 : 1 < P0.length := by simp at h; omega
        obtain ⟨p0, p1, rest, rfl⟩ : ∃ p0 p1 rest, P0 = p0 :: p1 :: rest := by
          match P0, h1 with
          | a :: b :: c, _ => exact ⟨a, b, c, rfl⟩
        have ne01 : p0 ≠ p1 := fun e => by
          rw [List.nodup_cons] at pnd
          exact pnd.1 (by rw [e]; exact List.mem_cons_self ..)
        have key : ∀ z ∈ [p0, p1], FitsC (handP ds) (narrowL L i z) (firstRow (handP ds) (narrowL L i z)) ∧ z ∈ L.getD i [] ∧ z ∈ ns ∧ ∃ row, FitsC (handP ds) (narrowL L i z) row := fun z hz => by
          have hz2 : z ∈ p0 :: p1 :: rest := by
            simp only [List.mem_cons, List.not_mem_nil, or_false] at hz
            rcases hz with rfl | rfl <;> simp
          obtain ⟨r, f, e⟩ := (mp z).mp hz2
          have hzL : z ∈ L.getD i [] := by rw [← e]; exact f.1.at_ i hiL
          have fr := (fits_narrow hiL hzL r).mpr ⟨f, e⟩
          refine ⟨first_fits fr, hzL, ?_, r, fr⟩
          rw [List.getD_eq_getElem?_getD, List.getElem?_eq_getElem hiL] at hzL
          exact (Lin _ (List.getElem_mem hiL)).2.2 z hzL
        have hno : ∀ z ∈ [p0, p1], ∀ r ∈ narrowL L i z, r.length ≤ 8 ∧ r.Nodup ∧ ∀ y ∈ r, y ∈ ns := fun z hz r hr => by
          unfold narrowL at hr
          rcases List.mem_append.mp hr with h | h
          · rcases List.mem_append.mp h with h | h
            · exact Lin r (List.mem_of_mem_take h)
            · rw [List.mem_singleton.mp h]
              exact ⟨by simp, by simp, fun y hy => by rw [List.mem_singleton.mp hy]; exact (key z hz).2.2.1⟩
          · exact Lin r (List.mem_of_mem_drop h)
        have nl : ∀ z, (narrowL L i z).length = L.length := fun z => narrow_len hiL z
        refine st_seq (st_asgT (vs := []) (Ep.ev (ep_lcM (l := [p0, p1]) (e := aStr) (e' := fun z => aTup K ((firstRow (handP ds) (narrowL L i z)).map aStr)) ?_ (by simp) (by decide) (fun z hz => ?_)) ?_))
        · rw [show [p0, p1].map aStr = cutL ((p0 :: p1 :: rest).map aStr) none (some ((2 : Nat) : Int)) from by rw [cutL_take]; rfl]
          (repeat' decreasing_trivial_pre_omega)
        · obtain ⟨k1, k2, k3, r, k4⟩ := key z hz
          have nz := nl z
          (repeat' decreasing_trivial_pre_omega)
          refine ⟨_, leS_rfl, L, i, z, rfl, by omega, ?_⟩
          (repeat' decreasing_trivial_pre_omega)
          refine ⟨_, leS_rfl, ns, ds, ss, narrowL L i z, r, rfl, so, by omega, hno z hz, k4, ?_⟩
          (repeat' decreasing_trivial_pre_omega)
        refine tg_unl rfl ?_
        rw [show [p0, p1].map (fun z => aTup K ((firstRow (handP ds) (narrowL L i z)).map aStr)) = [aTup K ((firstRow (handP ds) (narrowL L i p0)).map aStr), aTup K ((firstRow (handP ds) (narrowL L i p1)).map aStr)] from rfl]
        (repeat' decreasing_trivial_pre_omega)
        rw [qe, findN_at hiL (by rw [hP]; exact decide_eq_true h1) (fun j hj => decide_eq_false (by have := hp j hj; omega))] at q
        dsimp only at q
        rw [hP] at q
        exact q
      · refine st_next ?_
        refine lj () (fun j hj => ?_) (by (repeat' decreasing_trivial_pre_omega)) rfl
        rcases Nat.lt_or_ge j i with h3 | h3
        · exact hp j h3
        · have e : j = i := by omega
          subst e
          rw [hP]
          simp at h
          omega
    · rintro _ Γ1 hp w
      refine st_wk w ?_
      try dsimp only
      (repeat' decreasing_trivial_pre_omega)
      refine ⟨_, leS_rfl, ns, ds, ss, L, row, rfl, so, by omega, Lin, fit, ?_⟩
      (repeat' decreasing_trivial_pre_omega)
      rw [qe, findN_no (fun j hj => decide_eq_false (by have := hp j (by omega); omega))] at q
      exact q
    )) only [↓bx_true]

abbrev s__law_let : Stmt := top 36
theorem sc__law_let : FnScope ["_law_house_here", "_law_size", "_law_seen", "_law_found", "_law_at", "_law_rooms", "_law_beat", "_law_room", "_law_there", "_law_other"] ["_law_house_here", "_law_size", "_law_seen"] (defScope s__law_let) := ⟨rfl, rfl, rfl, by decide +kernel, rfl, by decide +kernel, by decide +kernel⟩
abbrev ts__law_let (K : PySem.W.Frag) : TSp := pureK fun Rs q => ∃ ns ds ss, ∃ n : Nat, ∃ l : List Seen, Rs = [iHs K ns ds ss, iInt (n : Nat), iLst (l.map (seenR K))] ∧ 1 ≤ n ∧ n ≤ 6 ∧ ns.length ≤ 8 ∧ l.length ≤ 1000 ∧ q (llR (letsOf ns n l))
theorem ok__law_let (B : Bt mg) {f : Addr} {fd : FuncData} (d : Df K mg "_law_let" s__law_let ["_law_house_here", "_law_size", "_law_seen"] f fd) : Cl P w K mg base CX0 1 "_law_let" (ts__law_let K) [] := by
  refine bx_of ?_
  simp (disch := with_unfolding_all (
    refine cl_of d (okT (kk := 0) d.fn sc__law_let (fun Rs M k X h => by obtain ⟨_, _, _, _, _, _, rfl, _⟩ := h; rfl) fun cdv A outer s H E hr => ⟨_,
      (pss_cons (ps_set (i := 3) sc__law_let.nd rfl (Or.inl rfl) (pe_lst pa_nil))
        (pss_cons (ps_for PassesOwn.never rfl (pi_range1 (by rfl) B.range (pa_cons (pv 1) pa_nil)) (pg_name (i := 4) sc__law_let.nd rfl (Or.inl rfl)) (pss_cons (ps_set (i := 5) sc__law_let.nd rfl (Or.inl rfl) (pe_callTy call_list_of (by rfl) B.list (by decide +kernel) (pa_cons (pe_ix ix_tup (pv 0) pe_int (fun _ _ => rfl)) pa_nil)))
        (pss_cons (ps_for PassesOwn.never rfl (pi_list (pv 2)) (pg_tup rfl (pgs_cons (pg_name (i := 6) sc__law_let.nd rfl (Or.inl rfl)) (pgs_cons (pg_name (i := 7) sc__law_let.nd rfl (Or.inr rfl)) (pgs_cons (pg_name (i := 8) sc__law_let.nd rfl (Or.inr rfl)) pgs_nil)))) (pss_one (ps_if (pt_cmpR op_eq (pe_op op_mod (pv 6) (pv 1)) (pv 4) (nomark _)) (pss_one (ps_setLc (i := 5) (own := [("_law_other", 9)]) rfl sc__law_let.nd rfl rfl (sw_true rfl rfl rfl (by decide +kernel)) (pi_list (pv 5)) (blkOk_by (own := [("_law_other", 9)]) (N := ["_law_house_here", "_law_size", "_law_seen", "_law_found", "_law_at", "_law_rooms", "_law_beat", "_law_room", "_law_there", "_law_other"]) (sc := defScope s__law_let) (by decide +kernel)) (fun _ _ _ _ _ => (pg_name (i := 9) sc__law_let.nd rfl (by first | exact Or.inl rfl | exact Or.inr rfl))) (fun _ _ _ _ _ => (pts_one (pt_cmpR op_eq (pe_cmpR op_eq (pv 9) (pv 7) (nomark _)) (pv 8) (nomark _)))) (fun _ _ _ _ _ => (pv 9)))) pss_nil)))
        (pss_one (ps_expr (pe_bm PySem.F.plainAttrs_list PySem.F.slot_list_append PySem.F.type_list_append mt_append (pv 3) (pa_cons (pv 5) pa_nil)))))))
        (pss_one (ps_ret (pv 3))))), ?_⟩)
    try dsimp only [L3.cxK, L3.cxKX]
    rintro Rs M k X ⟨rfl, ns, ds, ss, n, l, rfl, n1, n6, n8, hl, q⟩
    (repeat' decreasing_trivial_pre_omega)
    intro a
    (repeat' decreasing_trivial_pre_omega)
    refine st_forG (List (List Str)) ?_
    (repeat' decreasing_trivial_pre_omega)
    refine ⟨n, rfl, by omega, fun i L => L = (List.range i).map (letOf ns n l), fun _ => [some (iHs K ns ds ss), some (iInt (n : Nat)), some (iLst (l.map (seenR K))), some (iRef a), none, none, none, none, none, none], fun L => [(a, mLst (L.map lsR))], lj [] rfl (by (repeat' decreasing_trivial_pre_omega)) rfl, ?_, ?_⟩
    · rintro i r L hi rfl rfl
      try dsimp only
      (repeat' decreasing_trivial_pre_omega)
      refine st_forG (List Str) (tip_list (ep_var rfl) _ _ ?_)
      refine ⟨fun j rs => rs = letOf ns n (l.take j) i, fun rs => [some (iHs K ns ds ss), some (iInt (n : Nat)), some (iLst (l.map (seenR K))), some (iRef a), some (iInt (i : Nat)), some (lsR rs), none, none, none, none], fun _ => [(a, mLst (((List.range i).map (letOf ns n l)).map lsR))], lj ns let_nil.symm (by (repeat' decreasing_trivial_pre_omega)) rfl, ?_, ?_⟩
      · rintro j r rs hj hr rfl
        have hj' : j < l.length := by simpa using hj
        rw [List.getElem?_map, List.getElem?_eq_getElem hj'] at hr
        cases hr
        have et : l.take (j + 1) = l.take j ++ [l[j]] := by rw [List.take_succ, List.getElem?_eq_getElem hj']; rfl
        have hm : (letOf ns n (l.take j) i).length ≤ 8 := Nat.le_trans (List.length_filter_le _ _) n8
        try dsimp only
        (repeat' decreasing_trivial_pre_omega)
        refine ite_b (fun h => ?_) (fun h => ?_)
        · (repeat' decreasing_trivial_pre_omega)
          refine Ep.ev (ep_lcF (l := letOf ns n (l.take j) i) (e := aStr) (p := keepS l[j]) (ep_var rfl) (by omega) (by decide) (fun z hz => ?_) (fun z hz _ => ?_)) ?_
          · (repeat' decreasing_trivial_pre_omega)
          · (repeat' decreasing_trivial_pre_omega)
          (repeat' decreasing_trivial_pre_omega)
          refine lj _ ?_ (by (repeat' decreasing_trivial_pre_omega)) rfl
          rw [et, let_eq (by simpa using h)]
        · (repeat' decreasing_trivial_pre_omega)
          refine lj (letOf ns n (l.take j) i) ?_ (by (repeat' decreasing_trivial_pre_omega)) rfl
          rw [et, let_ne (by simpa using h)]
      · rintro rs Γ1 hrs w
        have hrs : rs = letOf ns n l i := by
          have := hrs
          rwa [List.length_map, List.take_length] at this
        subst hrs
        refine st_wk w ?_
        try dsimp only
        (repeat' decreasing_trivial_pre_omega)
        refine lj ((List.range (i + 1)).map (letOf ns n l)) rfl (by (repeat' decreasing_trivial_pre_omega)) ?_
        rw [List.range_succ, List.map_append, List.map_append]
        rfl
    · rintro L Γ1 rfl w
      refine st_wk w ?_
      try dsimp only
      refine st_ret (ev_told (ev_var rfl ⟨a, 0, _, rfl, rfl, ?_⟩))
      exact q
    )) only [↓bx_true]

abbrev s__law_misfit_ok : Stmt := top 47
theorem sc__law_misfit_ok : FnScope ["_law_house_here", "_law_size", "_law_seen", "_law_table", "_law_let_here", "_law_first", "_law_rows", "_law_at", "_law_one", "_law_wanted", "_law_room"] ["_law_house_here", "_law_size", "_law_seen", "_law_table"] (defScope s__law_misfit_ok) := ⟨rfl, rfl, rfl, by decide +kernel, rfl, by decide +kernel, by decide +kernel⟩
abbrev ts__law_misfit_ok (K : PySem.W.Frag) : TSp := pureK fun Rs q => ∃ ns ds ss, ∃ n : Nat, ∃ l : List Seen, ∃ tab, Rs = [iHs K ns ds ss, iInt (n : Nat), iLst (l.map (seenR K)), tblR tab] ∧ 1 ≤ n ∧ n ≤ 6 ∧ ns.length ≤ 8 ∧ PrOk ds ∧ (∀ z ∈ ns, StrOk z) ∧ l.length ≤ 1000 ∧ tab.length ≤ 100 ∧ (∀ rows ∈ tab, rows.length ≤ 100 ∧ ∀ l ∈ rows, l.length ≤ 100 ∧ ∀ z ∈ l, z ∈ ns) ∧ q (iBl (misB (handP (doorsOf ds)) ns (letsOf ns n l) tab))
theorem ok__law_misfit_ok (B : Bt mg) (c__law_let : Cl P w K mg base CX0 1 "_law_let" (ts__law_let K) []) (c__law_hand : Cl P w K mg base CX0 2 "_law_hand" (ts__law_hand K) []) {f : Addr} {fd : FuncData} (d : Df K mg "_law_misfit_ok" s__law_misfit_ok ["_law_house_here", "_law_size", "_law_seen", "_law_table"] f fd) : Cl P w K mg base CX0 3 "_law_misfit_ok" (ts__law_misfit_ok K) [] := by
  refine bx_of ?_
  simp (disch := with_unfolding_all (
    refine cl_of d (okT (kk := 2) d.fn sc__law_misfit_ok (fun Rs M k X h => by obtain ⟨_, _, _, _, _, _, _, rfl, _⟩ := h; rfl) fun cdv A outer s H E hr => ⟨_,
      (pss_cons (ps_set (i := 4) sc__law_misfit_ok.nd rfl (Or.inr rfl) (pe_cl c__law_let hr (by decide) pass0 rfl (pa_cons (pv 0) (pa_cons (pv 1) (pa_cons (pv 2) pa_nil)))))
        (pss_cons (ps_if (PW.pt (pw_or (pt_not (pt_val (pe_callB call_isi (by rfl) B.isinstance (by decide +kernel) (pa_cons (pv 3) (pa_cons (pe_bltn (v := .ty "list") (by rfl) B.list (by decide +kernel) rfl) pa_nil))))) (pw_or1 (pt_cmpR op_ne (pe_callB call_len (by rfl) B.len (by decide +kernel) (pa_cons (pv 3) pa_nil)) (pe_callB call_len (by rfl) B.len (by decide +kernel) (pa_cons (pe_ix ix_tup (pv 0) pe_int (fun _ _ => rfl)) pa_nil)) (nomark _))))) (pss_one (ps_ret pe_bl)) pss_nil)
        (pss_cons (ps_for PassesOwn.never rfl (pi_zipA (by rfl) B.zip (pa_cons (pe_ix ix_tup (pv 0) pe_int (fun _ _ => rfl)) (pa_cons (pv 3) pa_nil))) (pg_tup rfl (pgs_cons (pg_name (i := 5) sc__law_misfit_ok.nd rfl (Or.inl rfl)) (pgs_cons (pg_name (i := 6) sc__law_misfit_ok.nd rfl (Or.inr rfl)) pgs_nil))) (pss_cons (ps_if (PW.pt (pw_or (pt_cmpR op_ne (pe_callB call_len (by rfl) B.len (by decide +kernel) (pa_cons (pv 6) pa_nil)) (pv 1) (nomark _)) (pw_or1 (pt_cmpR (op_neD hr.units) (pe_ix ix_list (pv 6) pe_int (fun _ _ => rfl)) (pe_ifExp (pt_cmpR op_in_seq (pv 5) (pe_ix ix_list (pv 4) pe_int (fun _ _ => rfl)) (by rfl)) (pe_lst (pa_cons (pv 5) pa_nil)) (pe_lst pa_nil)) (nomark _))))) (pss_one (ps_ret pe_bl)) pss_nil)
        (pss_cons (ps_for PassesOwn.never rfl (pi_range2 (by rfl) B.range (pa_cons pe_int (pa_cons (pv 1) pa_nil))) (pg_name (i := 7) sc__law_misfit_ok.nd rfl (Or.inr rfl)) (pss_one (ps_for PassesOwn.never rfl (pi_list (pe_ix ix_list (pv 6) (pe_op op_sub (pv 7) pe_int) (fun _ _ => rfl))) (pg_name (i := 8) sc__law_misfit_ok.nd rfl (Or.inl rfl)) (pss_cons (ps_setLc (i := 9) (own := [("_law_room", 10)]) rfl sc__law_misfit_ok.nd rfl rfl (sw_true rfl rfl rfl (by decide +kernel)) (pi_list (pe_cl c__law_hand hr (by decide) pass0 rfl (pa_cons (pv 0) (pa_cons (pv 8) pa_nil)))) (blkOk_by (own := [("_law_room", 10)]) (N := ["_law_house_here", "_law_size", "_law_seen", "_law_table", "_law_let_here", "_law_first", "_law_rows", "_law_at", "_law_one", "_law_wanted", "_law_room"]) (sc := defScope s__law_misfit_ok) (by decide +kernel)) (fun _ _ _ _ _ => (pg_name (i := 10) sc__law_misfit_ok.nd rfl (by first | exact Or.inl rfl | exact Or.inr rfl))) (fun _ _ _ _ _ => (pts_one (pt_cmpR (castOp (K := K) (r := fun K => rIn K false) rfl op_in_seq) (pv 10) (pe_ix (castIx (K := K) (r := rIxL) rfl ix_list) (pv 4) (pv 7) (fun _ _ => rfl)) (by rfl)))) (fun _ _ _ _ _ => (pv 10)))
        (pss_one (ps_if (pt_not (pt_val (pe_callB (cr_all rfl) (by rfl) B.all (by decide +kernel) (pa_cons (pe_lc (own := [("_law_room", 10)]) rfl sc__law_misfit_ok.nd (pi_list (pv 9)) (blkOk_by (own := [("_law_room", 10)]) (N := ["_law_house_here", "_law_size", "_law_seen", "_law_table", "_law_let_here", "_law_first", "_law_rows", "_law_at", "_law_one", "_law_wanted", "_law_room"]) (sc := defScope s__law_misfit_ok) (by decide +kernel)) (fun _ _ _ _ _ => (pg_name (i := 10) sc__law_misfit_ok.nd rfl (by first | exact Or.inl rfl | exact Or.inr rfl))) (fun _ _ _ _ _ => pts_nil) (fun _ _ _ _ _ => (pe_cmpR (castOp (K := K) (r := fun K => rIn K false) rfl op_in_seq) (pv 10) (pe_ix (castIx (K := K) (r := rIxL) rfl ix_list) (pv 6) (pv 7) (fun _ _ => rfl)) (by rfl)))) pa_nil)))) (pss_one (ps_ret pe_bl)) pss_nil))))))
        (pss_one (ps_if (pt_val (pe_callB (cr_any rfl) (by rfl) B.any (by decide +kernel) (pa_cons (pe_lc (own := [("_law_room", 10)]) rfl sc__law_misfit_ok.nd (pi_list (pe_cl c__law_hand hr (by decide) pass0 rfl (pa_cons (pv 0) (pa_cons (pv 5) pa_nil)))) (blkOk_by (own := [("_law_room", 10)]) (N := ["_law_house_here", "_law_size", "_law_seen", "_law_table", "_law_let_here", "_law_first", "_law_rows", "_law_at", "_law_one", "_law_wanted", "_law_room"]) (sc := defScope s__law_misfit_ok) (by decide +kernel)) (fun _ _ _ _ _ => (pg_name (i := 10) sc__law_misfit_ok.nd rfl (by first | exact Or.inl rfl | exact Or.inr rfl))) (fun _ _ _ _ _ => pts_nil) (fun _ _ _ _ _ => (pe_cmpR (castOp (K := K) (r := fun K => rIn K false) rfl op_in_seq) (pv 10) (pe_ix (castIx (K := K) (r := rIxL) rfl ix_list) (pv 6) (pe_un un_neg pe_int) (fun _ _ => rfl)) (by rfl)))) pa_nil))) (pss_one (ps_ret pe_bl)) pss_nil)))))
        (pss_one (ps_ret pe_bl))))), ?_⟩)
    try dsimp only [L3.cxK, L3.cxKX]
    rintro Rs M k X ⟨rfl, ns, ds, ss, n, l, tab, rfl, n1, n6, n8, pr, so, hl, t9, ht, q⟩
    have LL : (letsOf ns n l).length = n := lets_len
    have Lin : ∀ r ∈ letsOf ns n l, r.length ≤ 8 ∧ ∀ z ∈ r, z ∈ ns := fun r h => by
      refine ⟨?_, lets_in r h⟩
      obtain ⟨i, _, rfl⟩ := List.mem_map.mp h
      exact Nat.le_trans (List.length_filter_le _ _) n8
    (repeat' decreasing_trivial_pre_omega)
    refine ⟨_, leS_rfl, ns, ds, ss, n, l, rfl, n1, n6, n8, hl, ?_⟩
    generalize letsOf ns n l = L at q LL Lin ⊢
    unfold misB at q
    (repeat' decreasing_trivial_pre_omega)
    refine c_isi (b := true) isT_lst (by decide +kernel) _ ?_
    (repeat' decreasing_trivial_pre_omega)
    rw [List.length_map, List.length_map]
    by_cases ht3 : ¬ tab.length = ns.length
    · rw [decide_eq_false ht3, Bool.false_and] at q
      refine (if_pos (by rw [decide_eq_false (show ¬ (tab.length : Int) = (ns.length : Nat) by omega)]; rfl)).mpr ?_
      (repeat' decreasing_trivial_pre_omega)
    have ht2 : tab.length = ns.length := Decidable.not_not.mp ht3
    rw [decide_eq_true ht2, Bool.true_and] at q
    refine (if_neg (by rw [decide_eq_true (show (tab.length : Int) = (ns.length : Nat) by omega)]; decide)).mpr ?_
    refine st_next ?_
    try dsimp only
    have zl : (ns.zip tab).length = ns.length := by rw [List.length_zip]; omega
    have L0 : 0 < L.length := by omega
    refine st_seq (st_forG Unit (tip_zipL (r1 := ns.map aStr) (r2 := tab.map llR) (n := ns.length) (by (repeat' decreasing_trivial_pre_omega)) (by (repeat' decreasing_trivial_pre_omega)) (by simp; omega) _ _ ?_))
    refine ⟨fun i _ => ∀ j (hj : j < (ns.zip tab).length), j < i → areB (handP (doorsOf ds)) L (ns.zip tab)[j].1 (ns.zip tab)[j].2 = true, fun _ => [some (iHs K ns ds ss), some (iInt (n : Nat)), some (iLst (l.map (seenR K))), some (tblR tab), some (llR L), none, none, none, none, none, none], fun _ => [], lj () (fun j hj h => absurd h (Nat.not_lt_zero j)) (by (repeat' decreasing_trivial_pre_omega)) rfl, ?_, ?_⟩
    · rintro i rr _ hi ⟨q1, q2, g1, g2, rfl⟩ hin
      have i2 : i < tab.length := by omega
      rw [List.getElem?_map, List.getElem?_eq_getElem hi] at g1
      rw [List.getElem?_map, List.getElem?_eq_getElem i2] at g2
      cases g1
      cases g2
      have iz : i < (ns.zip tab).length := by omega
      have ez : (ns.zip tab)[i] = (ns[i], tab[i]) := List.getElem_zip
      have bad : areB (handP (doorsOf ds)) L ns[i] tab[i] = false → k (iBl false) [] := fun h => by
        rw [rest_bad (List.getElem_mem iz) (by rw [ez]; exact h)] at q
        exact q
      have good : areB (handP (doorsOf ds)) L ns[i] tab[i] = true → ∀ j (hj : j < (ns.zip tab).length), j < i + 1 → areB (handP (doorsOf ds)) L (ns.zip tab)[j].1 (ns.zip tab)[j].2 = true := fun h j hj h2 => by
        rcases Nat.lt_or_ge j i with h3 | h3
        · exact hin j hj h3
        · have e : j = i := by omega
          subst e
          rw [ez]
          exact h
      have hz : ns[i] ∈ ns := List.getElem_mem hi
      obtain ⟨r9, hr⟩ := ht _ (List.getElem_mem i2)
      generalize tab[i] = rows at bad good r9 hr ⊢
      generalize ns[i] = z at bad good hz ⊢
      unfold areB at bad good
      obtain ⟨f0, rest, rfl⟩ : ∃ f r, L = f :: r := by
        cases L with
        | nil => exact absurd L0 (by decide)
        | cons f r => exact ⟨f, r, rfl⟩
      try dsimp only
      refine tg_tup rfl (tgs_cons (tg_name (tgs_cons (tg_name (tgs_nil ?_)))))
      refine st_join (α := Unit) (P := fun _ => rows.length = (f0 :: rest).length ∧ rows.getD 0 [] = headM (f0 :: rest) z) (G := fun _ => [some (iHs K ns ds ss), some (iInt (n : Nat)), some (iLst (l.map (seenR K))), some (tblR tab), some (llR (f0 :: rest)), some (aStr z), some (llR rows), none, none, none, none]) (N := fun _ => []) ?_ (fun _ ⟨e1, e2⟩ => ?_)
      · (repeat' decreasing_trivial_pre_omega)
        rw [List.length_map]
        by_cases hlen : rows.length = (f0 :: rest).length
        · rw [decide_eq_true hlen, Bool.true_and] at bad good
          refine (if_neg (by rw [decide_eq_true (show (rows.length : Int) = (n : Nat) by omega)]; decide)).mpr ?_
          (repeat' decreasing_trivial_pre_omega)
          have r0 : 0 < rows.length := by omega
          have rg : rows.getD 0 [] = rows[0] := by rw [List.getD_eq_getElem?_getD, List.getElem?_eq_getElem r0]; rfl
          refine o_ixN (l := rows) (g := lsR) 0 rfl r0 _ ?_
          rw [← rg]
          have rin : ∀ y ∈ rows.getD 0 [], Shp 63 (PyData.str y) := fun y hy => shp_str (so y ((hr _ (by rw [rg]; exact List.getElem_mem r0)).2 y hy))
          (repeat' decreasing_trivial_pre_omega)
          rw [show decide (z ∈ f0) = decide (z ∈ (f0 :: rest).headD []) from rfl]
          have hm : headM (f0 :: rest) z = if z ∈ (f0 :: rest).headD [] then [z] else [] := rfl
          refine ite_b (fun c => ?_) (fun c => ?_)
          · rw [if_pos (of_decide_eq_true c)] at hm
            (repeat' decreasing_trivial_pre_omega)
            refine o_neL (g := PyData.str) (e := aStr) (dat_str K) eqv_str (l := rows.getD 0 []) (m := [z]) rin (fun y hy => by rw [List.mem_singleton.mp hy]; exact shp_str (so z hz)) _ ?_
            by_cases h2 : rows.getD 0 [] = [z]
            · rw [decide_eq_true h2]
              (repeat' decreasing_trivial_pre_omega)
              exact lj () ⟨hlen, h2.trans hm.symm⟩ (by (repeat' decreasing_trivial_pre_omega)) rfl
            · have q2 := bad (by rw [hm, decide_eq_false h2, Bool.false_and])
              rw [decide_eq_false h2]
              (repeat' decreasing_trivial_pre_omega)
          · rw [if_neg (of_decide_eq_false c)] at hm
            (repeat' decreasing_trivial_pre_omega)
            refine o_neL (g := PyData.str) (e := aStr) (dat_str K) eqv_str (l := rows.getD 0 []) (m := []) rin (fun y hy => nomatch hy) _ ?_
            by_cases h2 : rows.getD 0 [] = []
            · rw [decide_eq_true h2]
              (repeat' decreasing_trivial_pre_omega)
              exact lj () ⟨hlen, h2.trans hm.symm⟩ (by (repeat' decreasing_trivial_pre_omega)) rfl
            · have q2 := bad (by rw [hm, decide_eq_false h2, Bool.false_and])
              rw [decide_eq_false h2]
              (repeat' decreasing_trivial_pre_omega)
        · have q2 := bad (by rw [decide_eq_false hlen, Bool.false_and])
          refine (if_pos (by rw [decide_eq_false (show ¬ (rows.length : Int) = (n : Nat) by omega)]; rfl)).mpr ((if_pos rfl).mpr ?_)
          (repeat' decreasing_trivial_pre_omega)
      rw [decide_eq_true e1, decide_eq_true e2, Bool.true_and, Bool.true_and] at bad good
      refine st_seq (st_forG Unit ?_)
      (repeat' decreasing_trivial_pre_omega)
      refine ⟨1, _, rfl, by decide, by decide, by omega, by omega, fun i _ => ∀ j, j < i → stepA (handP (doorsOf ds)) (f0 :: rest) rows j = true, fun _ => [some (iHs K ns ds ss), some (iInt (n : Nat)), some (iLst (l.map (seenR K))), some (tblR tab), some (llR (f0 :: rest)), some (aStr z), some (llR rows), none, none, none, none], fun _ => [], lj () (fun j hj => absurd hj (Nat.not_lt_zero j)) (by (repeat' decreasing_trivial_pre_omega)) rfl, ?_, ?_⟩
      · rintro t r0 _ htt rfl hst
        have hi' : t + 1 < (f0 :: rest).length := by omega
        have ha : t < rows.length := by omega
        have hb : t + 1 < rows.length := by omega
        have g1 : (f0 :: rest).getD (t + 1) [] = (f0 :: rest)[t + 1] := by rw [List.getD_eq_getElem?_getD, List.getElem?_eq_getElem hi']; rfl
        have g2 : rows.getD t [] = rows[t] := by rw [List.getD_eq_getElem?_getD, List.getElem?_eq_getElem ha]; rfl
        have g3 : rows.getD (t + 1) [] = rows[t + 1] := by rw [List.getD_eq_getElem?_getD, List.getElem?_eq_getElem hb]; rfl
        have m1 := Lin _ (List.getElem_mem hi')
        have m2 := hr _ (List.getElem_mem ha)
        have m3 := hr _ (List.getElem_mem hb)
        have es : stepA (handP (doorsOf ds)) (f0 :: rest) rows t = rows[t].all fun o => ((handOf ns ds o).filter fun r => decide (r ∈ (f0 :: rest)[t + 1])).all fun r => decide (r ∈ rows[t + 1]) := by
          have := stepA_law (ns := ns) (ds := ds) (L := f0 :: rest) (rows := rows) (i := t) (by rw [g1]; exact m1.2) (by rw [g2]; exact m2.2)
          rw [this, g1, g2, g3]
        have bad2 : stepA (handP (doorsOf ds)) (f0 :: rest) rows t = false → k (iBl false) [] := fun h => bad (by
          rw [rest_bad (List.mem_range.mpr (show t < (f0 :: rest).length - 1 by omega)) h]
          rfl)
        try dsimp only
        rw [show ((1 : Int) + (t : Nat)) = ((t + 1 : Nat) : Int) from by omega]
        refine tg_name ?_
        refine st_forG Unit (tip_list (rl := rows[t].map aStr) (fun k3 X3 hk3 => ?_) _ _ ?_)
        · (repeat' decreasing_trivial_pre_omega)
          rw [show (((t + 1 : Nat) : Int) - 1) = (t : Nat) from by omega]
          exact o_ixN (l := rows) (g := lsR) t rfl ha _ hk3
        refine ⟨fun u _ => ∀ j (hj : j < rows[t].length), j < u → (((handOf ns ds rows[t][j]).filter fun r => decide (r ∈ (f0 :: rest)[t + 1])).all fun r => decide (r ∈ rows[t + 1])) = true, fun _ => [some (iHs K ns ds ss), some (iInt (n : Nat)), some (iLst (l.map (seenR K))), some (tblR tab), some (llR (f0 :: rest)), some (aStr z), some (llR rows), some (iInt ((t + 1 : Nat) : Int)), none, none, none], fun _ => [], lj () (fun j hj h => absurd h (Nat.not_lt_zero j)) (by (repeat' decreasing_trivial_pre_omega)) rfl, ?_, ?_⟩
        · rintro u r0 _ hu hr0 hun
          have hu' : u < rows[t].length := by simpa using hu
          rw [List.getElem?_map, List.getElem?_eq_getElem hu'] at hr0
          cases hr0
          have mo := m2.2 _ (List.getElem_mem hu')
          have b3 : (((handOf ns ds rows[t][u]).filter fun r => decide (r ∈ (f0 :: rest)[t + 1])).all fun r => decide (r ∈ rows[t + 1])) = false → k (iBl false) [] := fun h => bad2 (by rw [es]; exact rest_bad (List.getElem_mem hu') h)
          have g4 : (((handOf ns ds rows[t][u]).filter fun r => decide (r ∈ (f0 :: rest)[t + 1])).all fun r => decide (r ∈ rows[t + 1])) = true → ∀ j (hj : j < rows[t].length), j < u + 1 → (((handOf ns ds rows[t][j]).filter fun r => decide (r ∈ (f0 :: rest)[t + 1])).all fun r => decide (r ∈ rows[t + 1])) = true := fun h j hj h2 => by
            rcases Nat.lt_or_ge j u with h3 | h3
            · exact hun j hj h3
            · have e : j = u := by omega
              subst e
              exact h
          have hl8 : (handOf ns ds rows[t][u]).length ≤ 8 := Nat.le_trans (List.length_filter_le _ _) n8
          generalize rows[t][u] = o at mo b3 g4 hl8 ⊢
          try dsimp only
          (repeat' decreasing_trivial_pre_omega)
          refine Ep.ev (ep_lcF (l := handOf ns ds o) (e := aStr) (p := fun r => decide (r ∈ (f0 :: rest)[t + 1])) (fun k3 X3 hk3 => ?_) (by omega) (by decide) (fun r hr' => ?_) (fun r hr' _ => ?_)) ?_
          · (repeat' decreasing_trivial_pre_omega)
            refine ⟨((ns, ds, ss), o), leS_rfl, ⟨by dsimp only; omega, pr, so o mo, so⟩, ?_⟩
            exact hk3
          · (repeat' decreasing_trivial_pre_omega)
            refine o_ixN (l := f0 :: rest) (g := lsR) (t + 1) rfl hi' _ ?_
            (repeat' decreasing_trivial_pre_omega)
          · (repeat' decreasing_trivial_pre_omega)
          have wl : ((handOf ns ds o).filter fun r => decide (r ∈ (f0 :: rest)[t + 1])).length ≤ 8 := Nat.le_trans (List.length_filter_le _ _) hl8
          generalize ((handOf ns ds o).filter fun r => decide (r ∈ (f0 :: rest)[t + 1])) = W at b3 g4 wl
          (repeat' decreasing_trivial_pre_omega)
          refine Ep.ev (ep_lcM (l := W) (e := aStr) (e' := fun r => iBl (decide (r ∈ rows[t + 1]))) (ep_var rfl) (by omega) (by decide) (fun r hr' => ?_)) ?_
          · (repeat' decreasing_trivial_pre_omega)
            refine o_ixN (l := rows) (g := lsR) (t + 1) rfl hb _ ?_
            (repeat' decreasing_trivial_pre_omega)
          rw [show (W.map fun r => iBl (decide (r ∈ rows[t + 1]))) = (W.map fun r => decide (r ∈ rows[t + 1])).map iBl from by rw [List.map_map]; rfl]
          (repeat' decreasing_trivial_pre_omega)
          rw [show (W.map fun r => decide (r ∈ rows[t + 1])).all id = W.all fun r => decide (r ∈ rows[t + 1]) from by rw [List.all_map]; rfl]
          cases hS : W.all fun r => decide (r ∈ rows[t + 1]) with
          | false =>
            have q2 := b3 hS
            (repeat' decreasing_trivial_pre_omega)
          | true =>
            (repeat' decreasing_trivial_pre_omega)
            exact lj () (g4 hS) (by (repeat' decreasing_trivial_pre_omega)) rfl
        · rintro _ Γ1 hun w
          have hS : stepA (handP (doorsOf ds)) (f0 :: rest) rows t = true := by
            rw [es, List.all_eq_true]
            intro o ho
            obtain ⟨j, hj, rfl⟩ := List.mem_iff_getElem.mp ho
            exact hun j hj (by simpa using hj)
          refine lj () (fun j hj => ?_) (Wk.trans (by (repeat' decreasing_trivial_pre_omega)) w) rfl
          rcases Nat.lt_or_ge j t with h | h
          · exact hst j h
          · have e : j = t := by omega
            subst e
            exact hS
      · rintro _ Γ1 hst w
        refine st_wk w ?_
        try dsimp only
        rw [show (List.range ((f0 :: rest).length - 1)).all (stepA (handP (doorsOf ds)) (f0 :: rest) rows) = true from List.all_eq_true.mpr fun j hj => hst j (by have := List.mem_range.mp hj; omega), Bool.true_and] at bad good
        have r0 : 0 < rows.length := by omega
        have lin : ∀ o ∈ rows.getD (rows.length - 1) [], o ∈ ns := fun o ho => by
          rw [List.getD_eq_getElem?_getD, List.getElem?_eq_getElem (by omega)] at ho
          exact (hr _ (List.getElem_mem _)).2 o ho
        have hl8 : (handOf ns ds z).length ≤ 8 := Nat.le_trans (List.length_filter_le _ _) n8
        (repeat' decreasing_trivial_pre_omega)
        refine Ep.ev (ep_lcM (l := handOf ns ds z) (e := aStr) (e' := fun o => iBl (decide (o ∈ rows.getD (rows.length - 1) []))) (fun k3 X3 hk3 => ?_) (by omega) (by decide) (fun o ho => ?_)) ?_
        · (repeat' decreasing_trivial_pre_omega)
          refine ⟨((ns, ds, ss), z), leS_rfl, ⟨by dsimp only; omega, pr, so z hz, so⟩, ?_⟩
          exact hk3
        · (repeat' decreasing_trivial_pre_omega)
          refine o_ixL (at_m1T (L := rows) r0) _ ?_
          (repeat' decreasing_trivial_pre_omega)
        rw [show ((handOf ns ds z).map fun o => iBl (decide (o ∈ rows.getD (rows.length - 1) []))) = ((handOf ns ds z).map fun o => decide (o ∈ rows.getD (rows.length - 1) [])).map iBl from by rw [List.map_map]; rfl]
        (repeat' decreasing_trivial_pre_omega)
        rw [last_law hz lin]
        cases hS : (rows.getD (rows.length - 1) []).any fun o => handP (doorsOf ds) o z with
        | true =>
          have q2 := bad (by rw [hS]; rfl)
          (repeat' decreasing_trivial_pre_omega)
        | false =>
          (repeat' decreasing_trivial_pre_omega)
          exact lj () (good (by rw [hS]; rfl)) (by (repeat' decreasing_trivial_pre_omega)) rfl
    · rintro _ Γ1 hin w
      refine st_wk w ?_
      try dsimp only
      (repeat' decreasing_trivial_pre_omega)
      rw [show (ns.zip tab).all (fun p => areB (handP (doorsOf ds)) L p.1 p.2) = true from List.all_eq_true.mpr fun p hp => by
        obtain ⟨j, hj, rfl⟩ := List.mem_iff_getElem.mp hp
        exact hin j hj (by omega)] at q
      exact q
    )) only [↓bx_true]

abbrev s__law_fit_ok : Stmt := top 46
theorem sc__law_fit_ok : FnScope ["_law_house_here", "_law_size", "_law_seen", "_law_row", "_law_room", "_law_k", "_law_beat", "_law_there"] ["_law_house_here", "_law_size", "_law_seen", "_law_row"] (defScope s__law_fit_ok) := ⟨rfl, rfl, rfl, by decide +kernel, rfl, by decide +kernel, by decide +kernel⟩
abbrev ts__law_fit_ok (K : PySem.W.Frag) : TSp := pureK fun Rs q => ∃ ns ds ss, ∃ n : Nat, ∃ l : List Seen, ∃ row : List Str, Rs = [iHs K ns ds ss, iInt (n : Nat), iLst (l.map (seenR K)), aTup K (row.map aStr)] ∧ 1 ≤ n ∧ n ≤ 6 ∧ ns.length ≤ 8 ∧ PrOk ds ∧ (∀ z ∈ ns, StrOk z) ∧ l.length ≤ 1000 ∧ FitsC (handP (doorsOf ds)) (letsOf ns n l) row ∧ q (iBl true)
theorem ok__law_fit_ok (B : Bt mg) (c__law_hand : Cl P w K mg base CX0 2 "_law_hand" (ts__law_hand K) []) {f : Addr} {fd : FuncData} (d : Df K mg "_law_fit_ok" s__law_fit_ok ["_law_house_here", "_law_size", "_law_seen", "_law_row"] f fd) : Cl P w K mg base CX0 3 "_law_fit_ok" (ts__law_fit_ok K) [] := by
  refine bx_of ?_
  simp (disch := with_unfolding_all (
    refine cl_of d (okT (kk := 2) d.fn sc__law_fit_ok (fun Rs M k X h => by obtain ⟨_, _, _, _, _, _, _, rfl, _⟩ := h; rfl) fun cdv A outer s H E hr => ⟨_,
      (pss_cons (ps_if (PW.pt (pw_or (pt_not (pt_val (pe_callB call_isi (by rfl) B.isinstance (by decide +kernel) (pa_cons (pv 3) (pa_cons (pe_bltn (v := .ty "tuple") (by rfl) B.tuple (by decide +kernel) rfl) pa_nil))))) (pw_or (pt_cmpR op_ne (pe_callB call_len (by rfl) B.len (by decide +kernel) (pa_cons (pv 3) pa_nil)) (pv 1) (nomark _)) (pw_or1 (pt_not (pt_val (pe_callB (cr_all rfl) (by rfl) B.all (by decide +kernel) (pa_cons (pe_lc (own := [("_law_room", 4)]) rfl sc__law_fit_ok.nd (pi_tup (pv 3)) (blkOk_by (own := [("_law_room", 4)]) (N := ["_law_house_here", "_law_size", "_law_seen", "_law_row", "_law_room", "_law_k", "_law_beat", "_law_there"]) (sc := defScope s__law_fit_ok) (by decide +kernel)) (fun _ _ _ _ _ => (pg_name (i := 4) sc__law_fit_ok.nd rfl (by first | exact Or.inl rfl | exact Or.inr rfl))) (fun _ _ _ _ _ => pts_nil) (fun _ _ _ _ _ => (pe_cmpR (castOp (K := K) (r := fun K => rIn K false) rfl op_in_seq) (pv 4) (pe_ix (castIx (K := K) (r := rIxT) rfl ix_tup) (pv 0) pe_int (fun _ _ => rfl)) (by rfl)))) pa_nil)))))))) (pss_one (ps_ret pe_bl)) pss_nil)
        (pss_cons (ps_if (pt_not (pt_val (pe_callB (cr_all rfl) (by rfl) B.all (by decide +kernel) (pa_cons (pe_lc (own := [("_law_k", 5)]) rfl sc__law_fit_ok.nd (pi_range1 (by rfl) B.range (pa_cons (pv 1) pa_nil)) (blkOk_by (own := [("_law_k", 5)]) (N := ["_law_house_here", "_law_size", "_law_seen", "_law_row", "_law_room", "_law_k", "_law_beat", "_law_there"]) (sc := defScope s__law_fit_ok) (by decide +kernel)) (fun _ _ _ _ _ => (pg_name (i := 5) sc__law_fit_ok.nd rfl (by first | exact Or.inl rfl | exact Or.inr rfl))) (fun _ _ _ _ _ => pts_nil) (fun _ _ _ _ _ => (pe_cmpR (castOp (K := K) (r := fun K => rIn K false) rfl op_in_seq) (pe_ix (castIx (K := K) (r := rIxT) rfl ix_tup) (pv 3) (pv 5) (fun _ _ => rfl)) (pe_cl c__law_hand hr (by decide) pass0 rfl (pa_cons (pv 0) (pa_cons (pe_ix (castIx (K := K) (r := rIxT) rfl ix_tup) (pv 3) (pe_op op_sub (pv 5) pe_int) (fun _ _ => rfl)) pa_nil))) (by rfl)))) pa_nil)))) (pss_one (ps_ret pe_bl)) pss_nil)
        (pss_one (ps_ret (pe_callB (cr_all rfl) (by rfl) B.all (by decide +kernel) (pa_cons (pe_lc (own := [("_law_beat", 6), ("_law_room", 4), ("_law_there", 7)]) rfl sc__law_fit_ok.nd (pi_list (pv 2)) (blkOk_by (own := [("_law_beat", 6), ("_law_room", 4), ("_law_there", 7)]) (N := ["_law_house_here", "_law_size", "_law_seen", "_law_row", "_law_room", "_law_k", "_law_beat", "_law_there"]) (sc := defScope s__law_fit_ok) (by decide +kernel)) (fun s0 H0 C0 cl0 fp0 => blk_tup3 (i := 6) (j := 4) (l := 7) sc__law_fit_ok.nd (s := s0) (H := H0) (C := C0) (cl := cl0) (fp := fp0)) (fun _ _ _ _ _ => pts_nil) (fun _ _ _ _ _ => (pe_cmpR op_eq (pe_cmpR op_eq (pe_ix (castIx (K := K) (r := rIxT) rfl ix_tup) (pv 3) (pe_op op_mod (pv 6) (pv 1)) (fun _ _ => rfl)) (pv 4) (nomark _)) (pv 7) (nomark _)))) pa_nil)))))), ?_⟩)
    try dsimp only [L3.cxK, L3.cxKX]
    rintro Rs M k X ⟨rfl, ns, ds, ss, n, l, row, rfl, n1, n6, n8, pr, so, hl, ⟨⟨f1, f2, f3⟩, f4⟩, q⟩
    have LL : (letsOf ns n l).length = n := lets_len
    rw [LL] at f1 f2 f3
    have fin : ∀ i, i < n → row.getD i e0 ∈ letOf ns n l i := fun i hi => by
      have := f2 i hi
      rwa [List.getD_eq_getElem?_getD (l := letsOf ns n l), lets_at hi] at this
    have rin : ∀ i, i < n → row.getD i e0 ∈ ns := fun i hi => let_sub _ (fin i hi)
    have gd : ∀ i (hi : i < row.length), row[i] = row.getD i e0 := fun i hi => by rw [List.getD_eq_getElem?_getD, List.getElem?_eq_getElem hi]; rfl
    (repeat' decreasing_trivial_pre_omega)
    refine c_isi (b := true) isT_tup (by decide) _ ?_
    (repeat' decreasing_trivial_pre_omega)
    rw [List.length_map, f1]
    refine (if_neg (by rw [decide_eq_true (rfl : ((n : Nat) : Int) = (n : Nat))]; decide)).mpr ?_
    have rmem : ∀ z ∈ row, z ∈ ns := fun z hz => by
      obtain ⟨i, hi, rfl⟩ := List.mem_iff_getElem.mp hz
      rw [gd i hi]
      exact rin i (by omega)
    have alltrue : ∀ {α : Type} (m : List α), ((m.map fun _ => true).all id) = true := fun m => by simp
    (repeat' decreasing_trivial_pre_omega)
    refine Ep.ev (ep_lcTM (l := row) (e := aStr) (e' := fun _ => iBl true) (ep_var rfl) (by omega) (by decide) (fun z hz => ?_)) ?_
    · (repeat' decreasing_trivial_pre_omega)
      rw [decide_eq_true (rmem z hz)]
      (repeat' decreasing_trivial_pre_omega)
    rw [show (row.map fun _ => iBl true) = (row.map fun _ => true).map iBl from by rw [List.map_map]; rfl]
    (repeat' decreasing_trivial_pre_omega)
    rw [alltrue]
    (repeat' decreasing_trivial_pre_omega)
    refine Ep.ev (ep_lcRg (m := n) (p := fun _ => true) (e' := fun _ => iBl true) (ep_var rfl) (by omega) (by decide) (fun _ _ => etp_yes) (fun i hi _ => ?_)) ?_
    · have hil : i < row.length := by omega
      have z1 := rin i hi
      have e1 := gd i hil
      (repeat' decreasing_trivial_pre_omega)
      refine o_ixNT (l := row) (g := aStr) i rfl hil _ ?_
      rw [e1]
      cases i with
      | zero =>
        have ex : atI (row.map aStr) ((((0 : Nat) : Int)) - 1) = some (aStr (lastZ row)) := at_m1 (l := row) (by omega)
        have hlz : lastZ row ∈ ns := rin (row.length - 1) (by omega)
        (repeat' decreasing_trivial_pre_omega)
        refine o_ixT ex _ ?_
        (repeat' decreasing_trivial_pre_omega)
        refine ⟨((ns, ds, ss), lastZ row), leS_rfl, ⟨by dsimp only; omega, pr, so _ hlz, so⟩, ?_⟩
        (repeat' decreasing_trivial_pre_omega)
        rw [decide_eq_true ((hand_mem hlz z1).mpr f4)]
        (repeat' decreasing_trivial_pre_omega)
      | succ i =>
        have hin : i < row.length := by omega
        (repeat' decreasing_trivial_pre_omega)
        refine o_ixNT (l := row) (g := aStr) i (by omega) hin _ ?_
        rw [gd i hin]
        have z2 := rin i (by omega)
        (repeat' decreasing_trivial_pre_omega)
        refine ⟨((ns, ds, ss), row.getD i e0), leS_rfl, ⟨by dsimp only; omega, pr, so _ z2, so⟩, ?_⟩
        (repeat' decreasing_trivial_pre_omega)
        rw [decide_eq_true ((hand_mem z2 z1).mpr (f3 i (by omega)))]
        (repeat' decreasing_trivial_pre_omega)
    rw [range_all, show ((List.range n).map fun _ => iBl true) = ((List.range n).map fun _ => true).map iBl from by rw [List.map_map]; rfl]
    (repeat' decreasing_trivial_pre_omega)
    rw [alltrue]
    (repeat' decreasing_trivial_pre_omega)
    refine Ep.ev (ep_lcG (l := l) (e := seenR K) (e' := fun _ => iBl true) (ep_var rfl) (by omega) (by decide) (fun s hs => ?_)) ?_
    · obtain ⟨i, ei, hi⟩ : ∃ i : Nat, s.1 % (n : Int) = i ∧ i < n := by
        have h0 := Int.emod_nonneg s.1 (show (n : Int) ≠ 0 by omega)
        have h1 := Int.emod_lt_of_pos s.1 (show (0 : Int) < n by omega)
        exact ⟨(s.1 % (n : Int)).toNat, by omega, by omega⟩
      have hk : keepS s (row.getD i e0) = true := by
        have h := fin i hi
        unfold letOf at h
        have h := (List.mem_filter.mp h).2
        unfold fitAt at h
        have h := List.all_eq_true.mp h s hs
        rw [decide_eq_true ei] at h
        exact h
      have hil : i < row.length := by omega
      (repeat' decreasing_trivial_pre_omega)
      refine ⟨rfl, ?_⟩
      (repeat' decreasing_trivial_pre_omega)
      rw [ei]
      refine o_ixNT (l := row) (g := aStr) i rfl hil _ ?_
      rw [gd i hil]
      (repeat' decreasing_trivial_pre_omega)
      rw [show (decide (row.getD i e0 = s.2.1) == s.2.2) = true from by simpa [keepS] using hk]
      assumption
    rw [show (l.map fun _ => iBl true) = (l.map fun _ => true).map iBl from by rw [List.map_map]; rfl]
    (repeat' decreasing_trivial_pre_omega)
    rw [alltrue]
    exact q
    )) only [↓bx_true]

abbrev s__law_read_ok : Stmt := top 48
theorem sc__law_read_ok : FnScope ["_law_house_here", "_law_size", "_law_seen", "_law_told", "_law_good"] ["_law_house_here", "_law_size", "_law_seen", "_law_told"] (defScope s__law_read_ok) := ⟨rfl, rfl, rfl, by decide +kernel, rfl, by decide +kernel, by decide +kernel⟩
structure AskR where
  ns : List Str
  ds : List (Str × Str)
  ss : List (Str × Str)
  n : Nat
  l : List Seen
abbrev ts__law_read_ok (K : PySem.W.Frag) : TSp := pureTs (fun x : AskR => [iHs K x.ns x.ds x.ss, iInt (x.n : Nat), iLst (x.l.map (seenR K)), readR K (readE (handP (doorsOf x.ds)) x.ns (letsOf x.ns x.n x.l))]) (fun x => 1 ≤ x.n ∧ x.n ≤ 6 ∧ x.ns.length ≤ 8 ∧ x.ns.Nodup ∧ PrOk x.ds ∧ (∀ z ∈ x.ns, StrOk z) ∧ x.l.length ≤ 1000) (fun _ => iBl true)
theorem ok__law_read_ok (B : Bt mg) (c__law_misfit_ok : Cl P w K mg base CX0 3 "_law_misfit_ok" (ts__law_misfit_ok K) []) (c__law_fit_ok : Cl P w K mg base CX0 3 "_law_fit_ok" (ts__law_fit_ok K) []) {f : Addr} {fd : FuncData} (d : Df K mg "_law_read_ok" s__law_read_ok ["_law_house_here", "_law_size", "_law_seen", "_law_told"] f fd) : Cl P w K mg base CX0 4 "_law_read_ok" (ts__law_read_ok K) [] := by
  refine bx_of ?_
  simp (disch := with_unfolding_all (
    refine cl_of d (okT (kk := 3) d.fn sc__law_read_ok (fun Rs M k X h => by obtain ⟨_, rfl, _⟩ := h; rfl) fun cdv A outer s H E hr => ⟨_,
      (pss_cons (ps_if (PW.pt (pw_or (pt_not (pt_val (pe_callB call_isi (by rfl) B.isinstance (by decide +kernel) (pa_cons (pv 3) (pa_cons (pe_bltn (v := .ty "tuple") (by rfl) B.tuple (by decide +kernel) rfl) pa_nil))))) (pw_or1 (pt_cmpR op_notIn_seq (pe_ix ix_tup (pv 3) pe_int (fun _ _ => rfl)) (pe_tup (pa_cons pe_str (pa_cons pe_str (pa_cons pe_str pa_nil)))) (by rfl))))) (pss_one (ps_ret pe_bl)) pss_nil)
        (pss_cons (ps_if (pt_cmpR op_eq (pe_ix ix_tup (pv 3) pe_int (fun _ _ => rfl)) pe_str (nomark _)) (pss_one (ps_ret (pe_and (pe_cmpR op_eq (pe_callB call_len (by rfl) B.len (by decide +kernel) (pa_cons (pv 3) pa_nil)) pe_int (nomark _)) (pe_one (pe_cl c__law_misfit_ok hr (by decide) pass0 rfl (pa_cons (pv 0) (pa_cons (pv 1) (pa_cons (pv 2) (pa_cons (pe_ix ix_tup (pv 3) pe_int (fun _ _ => rfl)) pa_nil))))))))) pss_nil)
        (pss_cons (ps_if (pt_cmpR op_eq (pe_ix ix_tup (pv 3) pe_int (fun _ _ => rfl)) pe_str (nomark _)) (pss_one (ps_ret (pe_and (pe_cmpR op_eq (pe_callB call_len (by rfl) B.len (by decide +kernel) (pa_cons (pv 3) pa_nil)) pe_int (nomark _)) (pe_one (pe_cl c__law_fit_ok hr (by decide) pass0 rfl (pa_cons (pv 0) (pa_cons (pv 1) (pa_cons (pv 2) (pa_cons (pe_ix ix_tup (pv 3) pe_int (fun _ _ => rfl)) pa_nil))))))))) pss_nil)
        (pss_cons (ps_if (PW.pt (pw_or (pt_cmpR op_ne (pe_callB call_len (by rfl) B.len (by decide +kernel) (pa_cons (pv 3) pa_nil)) pe_int (nomark _)) (pw_or (pt_not (pt_val (pe_callB call_isi (by rfl) B.isinstance (by decide +kernel) (pa_cons (pe_ix ix_tup (pv 3) pe_int (fun _ _ => rfl)) (pa_cons (pe_bltn (v := .ty "int") (by rfl) B.int (by decide +kernel) rfl) pa_nil))))) (pw_or1 (pt_val (pe_callB call_isi (by rfl) B.isinstance (by decide +kernel) (pa_cons (pe_ix ix_tup (pv 3) pe_int (fun _ _ => rfl)) (pa_cons (pe_bltn (v := .ty "bool") (by rfl) B.bool (by decide +kernel) rfl) pa_nil)))))))) (pss_one (ps_ret pe_bl)) pss_nil)
        (pss_cons (ps_if (pt_not (pt_chain op_le op_lt pe_int (pe_ix ix_tup (pv 3) pe_int (fun _ _ => rfl)) (pv 1))) (pss_one (ps_ret pe_bl)) pss_nil)
        (pss_cons (ps_set (i := 4) sc__law_read_ok.nd rfl (Or.inl rfl) (pe_and (pe_cl c__law_fit_ok hr (by decide) pass0 rfl (pa_cons (pv 0) (pa_cons (pv 1) (pa_cons (pv 2) (pa_cons (pe_ix ix_tup (pv 3) pe_int (fun _ _ => rfl)) pa_nil))))) (pe_one (pe_cl c__law_fit_ok hr (by decide) pass0 rfl (pa_cons (pv 0) (pa_cons (pv 1) (pa_cons (pv 2) (pa_cons (pe_ix ix_tup (pv 3) pe_int (fun _ _ => rfl)) pa_nil))))))))
        (pss_one (ps_ret (pe_and (pv 4) (pe_one (pe_cmpR (op_neD hr.units) (pe_ix ix_seq (pe_ix ix_tup (pv 3) pe_int (fun _ _ => rfl)) (pe_ix ix_tup (pv 3) pe_int (fun _ _ => rfl)) (fun _ _ => rfl)) (pe_ix ix_seq (pe_ix ix_tup (pv 3) pe_int (fun _ _ => rfl)) (pe_ix ix_tup (pv 3) pe_int (fun _ _ => rfl)) (fun _ _ => rfl)) (nomark _)))))))))))), ?_⟩)
    try dsimp only [L3.cxK, L3.cxKX]
    rintro Rs M k X ⟨⟨ns, ds, ss, n, l⟩, rfl, ⟨n1, n6, n8, nd, pr, so, hl⟩, rfl, q⟩
    dsimp only at n1 n6 n8 nd pr so hl q ⊢
    have LL : (letsOf ns n l).length = n := lets_len
    have L0 : letsOf ns n l ≠ [] := fun h => by rw [h] at LL; simp at LL; omega
    have Lnd : ∀ r ∈ letsOf ns n l, r.Nodup := fun r h => lets_nd nd r h
    obtain ⟨_, facts⟩ := read_facts (adj := handP (doorsOf ds)) (ns := ns) L0 Lnd
    have mt := fun h => mis_told (adj := handP (doorsOf ds)) (ns := ns) (f0 := (letsOf ns n l).headD []) (rest := (letsOf ns n l).tail) h
    have ec : (letsOf ns n l).headD [] :: (letsOf ns n l).tail = letsOf ns n l := by
      cases h : letsOf ns n l with
      | nil => exact absurd h L0
      | cons a b => rfl
    rw [ec] at mt
    have Lin : ∀ r ∈ letsOf ns n l, r.length ≤ 8 ∧ ∀ z ∈ r, z ∈ ns := fun r h => by
      refine ⟨?_, lets_in r h⟩
      obtain ⟨i, _, rfl⟩ := List.mem_map.mp h
      exact Nat.le_trans (List.length_filter_le _ _) n8
    generalize hw : readE (handP (doorsOf ds)) ns (letsOf ns n l) = w at facts ⊢
    cases w with
    | none tab =>
      obtain ⟨ht, hc⟩ := facts
      have hm := mt hc
      rw [← ht] at hm
      unfold readR
      dsimp only
      (repeat' decreasing_trivial_pre_omega)
      refine c_isi (b := true) isT_tup (by decide) _ ?_
      (repeat' decreasing_trivial_pre_omega)
      refine o_ninTs (l := ["one", "many", "none"]) _ ?_
      rw [show decide (("none" : Str) ∈ [("one" : Str), "many", "none"]) = true from by decide +kernel]
      (repeat' decreasing_trivial_pre_omega)
      rw [show decide (("none" : Str) = "none") = true from by decide +kernel]
      (repeat' decreasing_trivial_pre_omega)
      refine (if_pos (by simp)).mpr ?_
      (repeat' decreasing_trivial_pre_omega)
      refine ⟨_, leS_rfl, ns, ds, ss, n, l, tab, rfl, n1, n6, n8, pr, so, hl, by rw [ht, List.length_map]; omega, fun rows h => ?_, ?_⟩
      · rw [ht] at h
        obtain ⟨z, hz, rfl⟩ := List.mem_map.mp h
        obtain ⟨_, g2, g3⟩ := mis_in (adj := handP (doorsOf ds)) Lin (by omega) (by omega) hz
        exact ⟨by omega, fun l hl => ⟨Nat.le_trans (g3 l hl).1 (by decide), (g3 l hl).2⟩⟩
      rw [hm]
      (repeat' decreasing_trivial_pre_omega)
    | many r1 r2 i =>
      obtain ⟨fa, fb, hi, hne⟩ := facts
      have atr : ∀ r : List Str, i < r.length → atI (r.map aStr) (i : Int) = some (aStr (r.getD i e0)) := fun r h => by
        rw [List.getD_eq_getElem?_getD, List.getElem?_eq_getElem h]
        exact atI_map (atI_nat (by simp [h]))
      have atr1 := atr r1 (by have := fa.1.len; omega)
      have atr2 := atr r2 (by have := fb.1.len; omega)
      unfold readR
      dsimp only
      (repeat' decreasing_trivial_pre_omega)
      refine c_isi (b := true) isT_tup (by decide) _ ?_
      (repeat' decreasing_trivial_pre_omega)
      refine o_ninTs (l := ["one", "many", "none"]) _ ?_
      rw [show decide (("many" : Str) ∈ [("one" : Str), "many", "none"]) = true from by decide +kernel]
      (repeat' decreasing_trivial_pre_omega)
      rw [show decide (("many" : Str) = "none") = false from by decide +kernel]
      (repeat' decreasing_trivial_pre_omega)
      rw [show decide (("many" : Str) = "one") = false from by decide +kernel]
      (repeat' decreasing_trivial_pre_omega)
      refine (if_neg (by simp)).mpr ?_
      (repeat' decreasing_trivial_pre_omega)
      refine c_isi (b := true) isT_int (by decide) _ ?_
      (repeat' decreasing_trivial_pre_omega)
      refine c_isi (b := false) isT_int (by decide) _ ?_
      (repeat' decreasing_trivial_pre_omega)
      refine (if_pos (by simp)).mpr ?_
      (repeat' decreasing_trivial_pre_omega)
      rw [decide_eq_true (show (i : Int) < (n : Nat) by omega)]
      (repeat' decreasing_trivial_pre_omega)
      refine ⟨_, leS_rfl, ns, ds, ss, n, l, r1, rfl, n1, n6, n8, pr, so, hl, fa, ?_⟩
      (repeat' decreasing_trivial_pre_omega)
      refine ⟨_, leS_rfl, ns, ds, ss, n, l, r2, rfl, n1, n6, n8, pr, so, hl, fb, ?_⟩
      (repeat' decreasing_trivial_pre_omega)
      refine o_ixSq (t := true) (rs := r1.map aStr) (R := aStr (r1.getD i e0)) (atr1) _ ?_
      (repeat' decreasing_trivial_pre_omega)
      refine o_ixSq (t := true) (rs := r2.map aStr) (R := aStr (r2.getD i e0)) (atr2) _ ?_
      (repeat' decreasing_trivial_pre_omega)
      have inr : ∀ r : List Str, FitsC (handP (doorsOf ds)) (letsOf ns n l) r → StrOk (r.getD i e0) := fun r f => by
        have := f.1.at_ i hi
        rw [List.getD_eq_getElem?_getD (l := letsOf ns n l), List.getElem?_eq_getElem hi] at this
        exact so _ ((Lin _ (List.getElem_mem hi)).2 _ this)
      have cmp : O2p (rNeD K) (aStr (r1.getD i e0)) (aStr (r2.getD i e0)) [] (iBl true) := by
        have h := o_neD (K := K) (M := []) (d := .str (r1.getD i e0)) (e := .str (r2.getD i e0)) (shp_str (inr r1 fa) : Shp 64 _).ok (shp_str (inr r2 fb) : Shp 64 _).ok
        rw [← dat_str, ← dat_str, eqv_str, decide_eq_false hne] at h
        exact h
      exact cmp _ q
    | one r1 =>
      unfold readR
      dsimp only
      (repeat' decreasing_trivial_pre_omega)
      refine c_isi (b := true) isT_tup (by decide) _ ?_
      (repeat' decreasing_trivial_pre_omega)
      refine o_ninTs (l := ["one", "many", "none"]) _ ?_
      rw [show decide (("one" : Str) ∈ [("one" : Str), "many", "none"]) = true from by decide +kernel]
      (repeat' decreasing_trivial_pre_omega)
      rw [show decide (("one" : Str) = "none") = false from by decide +kernel]
      (repeat' decreasing_trivial_pre_omega)
      rw [show decide (("one" : Str) = "one") = true from by decide +kernel]
      (repeat' decreasing_trivial_pre_omega)
      refine (if_pos (by simp)).mpr ?_
      (repeat' decreasing_trivial_pre_omega)
      refine ⟨_, leS_rfl, ns, ds, ss, n, l, r1, rfl, n1, n6, n8, pr, so, hl, facts, ?_⟩
      (repeat' decreasing_trivial_pre_omega)
    )) only [↓bx_true]

abbrev s_House___len__ : Stmt := inClass (top 32) 12
theorem sc_House___len__ : FnScope ["self"] ["self"] (defScope s_House___len__) := ⟨rfl, rfl, rfl, by decide +kernel, rfl, by decide +kernel, by decide +kernel⟩
abbrev ts_House___len__ (K : PySem.W.Frag) (C_House : Addr) : TSp := methK C_House fun M fs Rs q => ∃ ns ds ss, fs = houseF ns ds ss ∧ Rs = [] ∧ q (iInt (ns.length : Nat))
theorem ok_House___len__ (B : Bt mg) {C_House : Addr} (T_House : Txt_House K mg C_House) {f : Addr} {fd : FuncData} (d : Fun K "__len__" "House.__len__" s_House___len__ f fd) (hm : Meth K C_House "__len__" f) : ClM P w K mg base CX0 1 C_House "__len__" (ts_House___len__ K C_House) [] := by
  refine bx_of ?_
  simp (disch := with_unfolding_all (
    refine ⟨T_House.cl, f, fd, ["self"], [], ?_, hm, d.binds fun _ _ _ _ _ _ us hl => match us, hl with | [_], _ => rfl, .nil⟩
    refine (okT (kk := 0) d sc_House___len__ (fun Rs M k X h => by obtain ⟨_, _, _, rfl, _, _, _, _, _, rfl, _⟩ := h; rfl) fun cdv A outer s H E hr => ⟨_,
      (pss_one (ps_ret (pe_callB call_len (by rfl) B.len (by decide +kernel) (pa_cons (pe_fld (pv 0) (by rfl)) pa_nil)))), ?_⟩)
    try dsimp only [L3.cxK, L3.cxKX]
    rintro Rs M k X ⟨R, _, fs, rfl, ho, ns, ds, ss, rfl, rfl, q⟩
    (repeat' decreasing_trivial_pre_omega)
    rw [List.length_map]
    exact q
    )) only [↓bx_true]

abbrev s_House_near : Stmt := inClass (top 32) 7
theorem sc_House_near : FnScope ["self", "room", "other"] ["self", "room"] (defScope s_House_near) := ⟨rfl, rfl, rfl, by decide +kernel, rfl, by decide +kernel, by decide +kernel⟩
abbrev ts_House_near (K : PySem.W.Frag) (C_House : Addr) : TSp := methK C_House fun M fs Rs q => ∃ z ns ds ss, fs = houseF ns ds ss ∧ Rs = [aStr z] ∧ z ∈ ns ∧ ns.length ≤ 1000 ∧ q (iLst ((ns.filter fun y => decide ((z, y) ∈ ds)).map aStr))
theorem ok_House_near (B : Bt mg) {C_House : Addr} (T_House : Txt_House K mg C_House) (cm_House_need_room : ClM P w K mg base CX0 1 C_House "need_room" (ts_House_need_room K C_House) []) {f : Addr} {fd : FuncData} (d : Fun K "near" "House.near" s_House_near f fd) (hm : Meth K C_House "near" f) : ClM P w K mg base CX0 2 C_House "near" (ts_House_near K C_House) [] := by
  refine bx_of ?_
  simp (disch := with_unfolding_all (
    refine ⟨T_House.cl, f, fd, ["self", "room"], [], ?_, hm, d.binds fun _ _ _ _ _ _ us hl => match us, hl with | [_, _], _ => rfl, .nil⟩
    refine (okT (kk := 1) d sc_House_near (fun Rs M k X h => by obtain ⟨_, _, _, rfl, _, _, _, _, _, _, rfl, _⟩ := h; rfl) fun cdv A outer s H E hr => ⟨_,
      (pss_cons (ps_expr (pe_clM cm_House_need_room hr (by decide) pass0 (pv 0) (pa_cons (pv 1) pa_nil)))
        (pss_one (ps_ret (pe_lc (own := [("other", 2)]) rfl sc_House_near.nd (pi_list (pe_fld (pv 0) (by rfl))) (blkOk_by (own := [("other", 2)]) (N := ["self", "room", "other"]) (sc := defScope s_House_near) (by decide +kernel)) (fun _ _ _ _ _ => (pg_name (i := 2) sc_House_near.nd rfl (by first | exact Or.inl rfl | exact Or.inr rfl))) (fun _ _ _ _ _ => (pts_one (pt_cmp (pc_din (by exact hu_of hr) (pe_tup (pa_cons (pv 1) (pa_cons (pv 2) pa_nil))) (pe_fldK (K := K) rfl (pv 0) (by rfl)))))) (fun _ _ _ _ _ => (pv 2)))))), ?_⟩)
    try dsimp only [L3.cxK, L3.cxKX]
    rintro Rs M k X ⟨R, _, _, rfl, ho, z, ns, ds, ss, rfl, rfl, hz, hn, q⟩
    (repeat' decreasing_trivial_pre_omega)
    refine ⟨_, leS_rfl, z, _, ns, rfl, rfl, .inl rfl, hz, ?_⟩
    (repeat' decreasing_trivial_pre_omega)
    refine ep_lcF (l := ns) (e := aStr) (p := fun y => decide ((z, y) ∈ ds)) ?_ (by omega) (by decide) (fun y hy => ?_) (fun y hy hp => ?_) _ _ q
    · (repeat' decreasing_trivial_pre_omega)
    · (repeat' decreasing_trivial_pre_omega)
    · (repeat' decreasing_trivial_pre_omega)
    )) only [↓bx_true]

abbrev s_are_rows : Stmt := top 24
theorem sc_are_rows : FnScope ["house", "some", "first", "rows", "at", "wanted", "room", "one"] ["house", "some", "first", "rows"] (defScope s_are_rows) := ⟨rfl, rfl, rfl, by decide +kernel, rfl, by decide +kernel, by decide +kernel⟩
abbrev ts_are_rows (K : PySem.W.Frag) (C_House : Addr) : TSp := pureK fun Rs q => ∃ ns ds ss, ∃ L rows : List (List Str), ∃ z : Str, Rs = [iHouse C_House ns ds ss, llR L, aStr z, llR rows] ∧ (∀ z ∈ ns, StrOk z) ∧ ns.length ≤ 8 ∧ (∀ a b, (a, b) ∈ ds → (b, a) ∈ ds) ∧ 1 ≤ L.length ∧ L.length ≤ 6 ∧ (∀ l ∈ L, l.length ≤ 8 ∧ l.Nodup ∧ ∀ z ∈ l, z ∈ ns) ∧ z ∈ ns ∧ rows.length ≤ 100 ∧ (∀ l ∈ rows, l.length ≤ 100 ∧ ∀ z ∈ l, z ∈ ns) ∧ q (iBl (areB (handP ds) L z rows))
theorem ok_are_rows (B : Bt mg) {C_House : Addr} (T_House : Txt_House K mg C_House) (cm_House_near : ClM P w K mg base CX0 2 C_House "near" (ts_House_near K C_House) []) {f : Addr} {fd : FuncData} (d : Df K mg "are_rows" s_are_rows ["house", "some", "first", "rows"] f fd) : Cl P w K mg base CX0 3 "are_rows" (ts_are_rows K C_House) [] := by
  refine bx_of ?_
  simp (disch := with_unfolding_all (
    refine cl_of d (okT (kk := 2) d.fn sc_are_rows (fun Rs M k X h => by obtain ⟨_, _, _, _, _, _, _, rfl, _⟩ := h; rfl) fun cdv A outer s H E hr => ⟨_,
      (pss_cons (ps_if (PW.pt (pw_or (pt_cmpR op_ne (pe_callB call_len (by rfl) B.len (by decide +kernel) (pa_cons (pv 3) pa_nil)) (pe_callB call_len (by rfl) B.len (by decide +kernel) (pa_cons (pv 1) pa_nil)) (nomark _)) (pw_or1 (pt_cmpR (op_neD hr.units) (pe_ix ix_list (pv 3) pe_int (fun _ _ => rfl)) (pe_ifExp (pt_cmpR op_in_seq (pv 2) (pe_ix ix_list (pv 1) pe_int (fun _ _ => rfl)) (by rfl)) (pe_lst (pa_cons (pv 2) pa_nil)) (pe_lst pa_nil)) (nomark _))))) (pss_one (ps_ret pe_bl)) pss_nil)
        (pss_cons (ps_for PassesOwn.never rfl (pi_range2 (by rfl) B.range (pa_cons pe_int (pa_cons (pe_callB call_len (by rfl) B.len (by decide +kernel) (pa_cons (pv 1) pa_nil)) pa_nil))) (pg_name (i := 4) sc_are_rows.nd rfl (Or.inr rfl)) (pss_cons (ps_setLc (i := 5) (own := [("room", 6)]) rfl sc_are_rows.nd rfl rfl (sw_true rfl rfl rfl (by decide +kernel)) (pi_list (pe_ix ix_list (pv 1) (pv 4) (fun _ _ => rfl))) (blkOk_by (own := [("room", 6)]) (N := ["house", "some", "first", "rows", "at", "wanted", "room", "one"]) (sc := defScope s_are_rows) (by decide +kernel)) (fun _ _ _ _ _ => (pg_name (i := 6) sc_are_rows.nd rfl (by first | exact Or.inl rfl | exact Or.inr rfl))) (fun _ _ _ _ _ => (pts_one (pt_val (pe_callB (castCall (K := K) (r := rAny) rfl (cr_any rfl)) (by rfl) B.any (by decide +kernel) (pa_cons (pe_lc (own := [("one", 7)]) rfl sc_are_rows.nd (castPI (K := K) (r := fun K => iList K _) rfl (pi_list (pe_ix (castIx (K := K) (r := rIxL) rfl ix_list) (pv 3) (pe_op op_sub (pv 4) pe_int) (fun _ _ => rfl)))) (blkOk_by (own := [("one", 7)]) (by kernel_rfl)) (fun _ _ _ _ _ => (pg_name (i := 7) sc_are_rows.nd rfl (by first | exact Or.inl rfl | exact Or.inr rfl))) (fun _ _ _ _ _ => pts_nil) (fun _ _ _ _ _ => (pe_cmpR (castOp (K := K) (r := fun K => rIn K false) rfl op_in_seq) (pv 7) (pe_op op_cat (pe_clM cm_House_near hr (by decide) pass0 (pv 0) (pa_cons (pv 6) pa_nil)) (pe_lst (pa_cons (pv 6) pa_nil))) (by rfl)))) pa_nil))))) (fun _ _ _ _ _ => (pv 6)))
        (pss_one (ps_if (pt_not (pt_val (pe_callB (cr_all rfl) (by rfl) B.all (by decide +kernel) (pa_cons (pe_lc (own := [("room", 6)]) rfl sc_are_rows.nd (pi_list (pv 5)) (blkOk_by (own := [("room", 6)]) (N := ["house", "some", "first", "rows", "at", "wanted", "room", "one"]) (sc := defScope s_are_rows) (by decide +kernel)) (fun _ _ _ _ _ => (pg_name (i := 6) sc_are_rows.nd rfl (by first | exact Or.inl rfl | exact Or.inr rfl))) (fun _ _ _ _ _ => pts_nil) (fun _ _ _ _ _ => (pe_cmpR (castOp (K := K) (r := fun K => rIn K false) rfl op_in_seq) (pv 6) (pe_ix (castIx (K := K) (r := rIxL) rfl ix_list) (pv 3) (pv 4) (fun _ _ => rfl)) (by rfl)))) pa_nil)))) (pss_one (ps_ret pe_bl)) pss_nil))))
        (pss_one (ps_ret (pe_not (pe_callB (cr_any rfl) (by rfl) B.any (by decide +kernel) (pa_cons (pe_lc (own := [("one", 7)]) rfl sc_are_rows.nd (pi_list (pe_op op_cat (pe_clM cm_House_near hr (by decide) pass0 (pv 0) (pa_cons (pv 2) pa_nil)) (pe_lst (pa_cons (pv 2) pa_nil)))) (blkOk_by (own := [("one", 7)]) (N := ["house", "some", "first", "rows", "at", "wanted", "room", "one"]) (sc := defScope s_are_rows) (by decide +kernel)) (fun _ _ _ _ _ => (pg_name (i := 7) sc_are_rows.nd rfl (by first | exact Or.inl rfl | exact Or.inr rfl))) (fun _ _ _ _ _ => pts_nil) (fun _ _ _ _ _ => (pe_cmpR (castOp (K := K) (r := fun K => rIn K false) rfl op_in_seq) (pv 7) (pe_ix (castIx (K := K) (r := rIxL) rfl ix_list) (pv 3) (pe_un un_neg pe_int) (fun _ _ => rfl)) (by rfl)))) pa_nil))))))), ?_⟩)
    try dsimp only [L3.cxK, L3.cxKX]
    rintro Rs M k X ⟨rfl, ns, ds, ss, L, rows, z, rfl, so, n8, sym, l1, l6, hL, hz, r9, hr, q⟩
    have L0 : 0 < L.length := by omega
    obtain ⟨f0, rest, rfl⟩ : ∃ f r, L = f :: r := by
      cases L with
      | nil => exact absurd L0 (by decide)
      | cons f r => exact ⟨f, r, rfl⟩
    unfold areB at q
    refine st_join (α := Unit) (P := fun _ => rows.length = (f0 :: rest).length ∧ rows.getD 0 [] = headM (f0 :: rest) z) (G := fun _ => [some (iHouse C_House ns ds ss), some (llR (f0 :: rest)), some (aStr z), some (llR rows), none, none, none, none]) (N := fun _ => []) ?_ (fun _ ⟨e1, e2⟩ => ?_)
    · (repeat' decreasing_trivial_pre_omega)
      rw [List.length_map, List.length_map]
      by_cases hlen : rows.length = (f0 :: rest).length
      · rw [decide_eq_true hlen, Bool.true_and] at q
        refine (if_neg (by rw [hlen]; simp)).mpr ?_
        (repeat' decreasing_trivial_pre_omega)
        have r0 : 0 < rows.length := by rw [hlen]; exact L0
        have rg : rows.getD 0 [] = rows[0] := by rw [List.getD_eq_getElem?_getD, List.getElem?_eq_getElem r0]; rfl
        refine o_ixN (l := rows) (g := lsR) 0 rfl r0 _ ?_
        rw [← rg]
        have rin : ∀ y ∈ rows.getD 0 [], Shp 63 (PyData.str y) := fun y hy => shp_str (so y ((hr _ (by rw [rg]; exact List.getElem_mem r0)).2 y hy))
        (repeat' decreasing_trivial_pre_omega)
        rw [show decide (z ∈ f0) = decide (z ∈ (f0 :: rest).headD []) from rfl]
        have hm : headM (f0 :: rest) z = if z ∈ (f0 :: rest).headD [] then [z] else [] := rfl
        refine ite_b (fun c => ?_) (fun c => ?_)
        · rw [if_pos (of_decide_eq_true c)] at hm
          (repeat' decreasing_trivial_pre_omega)
          refine o_neL (g := PyData.str) (e := aStr) (dat_str K) eqv_str (l := rows.getD 0 []) (m := [z]) rin (fun y hy => by rw [List.mem_singleton.mp hy]; exact shp_str (so z hz)) _ ?_
          rw [hm] at q
          by_cases h2 : rows.getD 0 [] = [z]
          · rw [decide_eq_true h2]
            (repeat' decreasing_trivial_pre_omega)
            exact lj () ⟨hlen, h2.trans hm.symm⟩ (by (repeat' decreasing_trivial_pre_omega)) rfl
          · rw [decide_eq_false h2, Bool.false_and] at q
            rw [decide_eq_false h2]
            (repeat' decreasing_trivial_pre_omega)
        · rw [if_neg (of_decide_eq_false c)] at hm
          (repeat' decreasing_trivial_pre_omega)
          refine o_neL (g := PyData.str) (e := aStr) (dat_str K) eqv_str (l := rows.getD 0 []) (m := []) rin (fun y hy => nomatch hy) _ ?_
          rw [hm] at q
          by_cases h2 : rows.getD 0 [] = []
          · rw [decide_eq_true h2]
            (repeat' decreasing_trivial_pre_omega)
            exact lj () ⟨hlen, h2.trans hm.symm⟩ (by (repeat' decreasing_trivial_pre_omega)) rfl
          · rw [decide_eq_false h2, Bool.false_and] at q
            rw [decide_eq_false h2]
            (repeat' decreasing_trivial_pre_omega)
      · rw [decide_eq_false hlen, Bool.false_and] at q
        refine (if_pos (by rw [decide_eq_false (show ¬ (rows.length : Int) = ((f0 :: rest).length : Nat) by omega)]; rfl)).mpr ((if_pos rfl).mpr ?_)
        (repeat' decreasing_trivial_pre_omega)
    rw [decide_eq_true e1, decide_eq_true e2, Bool.true_and, Bool.true_and] at q
    refine st_seq (st_forG Unit ?_)
    (repeat' decreasing_trivial_pre_omega)
    have Ll : ((f0 :: rest).map lsR).length = (f0 :: rest).length := List.length_map ..
    refine ⟨1, _, rfl, by decide, by decide, by omega, by omega, fun i _ => ∀ j, j < i → stepA (handP ds) (f0 :: rest) rows j = true, fun _ => [some (iHouse C_House ns ds ss), some (llR (f0 :: rest)), some (aStr z), some (llR rows), none, none, none, none], fun _ => [], lj () (fun j hj => absurd hj (Nat.not_lt_zero j)) (by (repeat' decreasing_trivial_pre_omega)) rfl, ?_, ?_⟩
    · rintro i r0 _ hi rfl hin
      have hi' : i + 1 < (f0 :: rest).length := by omega
      have ha : i < rows.length := by omega
      have hb : i + 1 < rows.length := by omega
      have g1 : (f0 :: rest).getD (i + 1) [] = (f0 :: rest)[i + 1] := by rw [List.getD_eq_getElem?_getD, List.getElem?_eq_getElem hi']; rfl
      have g2 : rows.getD i [] = rows[i] := by rw [List.getD_eq_getElem?_getD, List.getElem?_eq_getElem ha]; rfl
      have g3 : rows.getD (i + 1) [] = rows[i + 1] := by rw [List.getD_eq_getElem?_getD, List.getElem?_eq_getElem hb]; rfl
      have m1 := hL _ (List.getElem_mem hi')
      have m2 := hr _ (List.getElem_mem ha)
      have m3 := hr _ (List.getElem_mem hb)
      have es : stepA (handP ds) (f0 :: rest) rows i = ((((f0 :: rest)[i + 1]).filter fun r => (rows[i].any fun o => handP ds o r)).all fun r => decide (r ∈ rows[i + 1])) := by
        unfold stepA
        rw [g1, g2, g3, all_filt]
      have bad : stepA (handP ds) (f0 :: rest) rows i = false → k (iBl false) [] := fun h => by
        rw [rest_bad (List.mem_range.mpr (show i < (f0 :: rest).length - 1 by omega)) h] at q
        exact q
      try dsimp only
      rw [show ((1 : Int) + (i : Nat)) = ((i + 1 : Nat) : Int) from by omega]
      (repeat' decreasing_trivial_pre_omega)
      refine Ep.ev (ep_lcF (l := (f0 :: rest)[i + 1]) (e := aStr) (p := fun r => (rows[i].map fun o => decide (o ∈ (ns.filter fun y => decide ((r, y) ∈ ds)) ++ [r])).any id) (ep_op (ep_var rfl) (ep_var rfl) (o_ixN (l := f0 :: rest) (g := lsR) (i + 1) rfl hi')) (by omega) (by decide) (fun r hr' => ?_) (fun r hr' _ => ?_)) ?_
      · have hrn := m1.2.2 r hr'
        (repeat' decreasing_trivial_pre_omega)
        refine Ep.ev (ep_lcM (l := rows[i]) (e := aStr) (e' := fun o => iBl (decide (o ∈ (ns.filter fun y => decide ((r, y) ∈ ds)) ++ [r]))) (fun k3 X3 hk3 => ?_) (by omega) (by decide) (fun o ho => ?_)) ?_
        · (repeat' decreasing_trivial_pre_omega)
          rw [show (((i + 1 : Nat) : Int) - 1) = (i : Nat) from by omega]
          exact o_ixN (l := rows) (g := lsR) i rfl ha _ hk3
        · (repeat' decreasing_trivial_pre_omega)
          refine ⟨_, leS_rfl, r, ns, ds, ss, rfl, rfl, hrn, by omega, ?_⟩
          have fl : ((ns.filter fun y => decide ((r, y) ∈ ds)).map aStr).length ≤ 8 := by rw [List.length_map]; exact Nat.le_trans (List.length_filter_le _ _) n8
          (repeat' decreasing_trivial_pre_omega)
          · simp only [List.length_cons, List.length_nil]; omega
          rw [show (ns.filter fun y => decide ((r, y) ∈ ds)).map aStr ++ [aStr r] = ((ns.filter fun y => decide ((r, y) ∈ ds)) ++ [r]).map aStr from by rw [List.map_append]; rfl]
          (repeat' decreasing_trivial_pre_omega)
        refine ea_nil ?_
        rw [show (rows[i].map fun o => iBl (decide (o ∈ (ns.filter fun y => decide ((r, y) ∈ ds)) ++ [r]))) = (rows[i].map fun o => decide (o ∈ (ns.filter fun y => decide ((r, y) ∈ ds)) ++ [r])).map iBl from by rw [List.map_map]; rfl]
        (repeat' decreasing_trivial_pre_omega)
      · (repeat' decreasing_trivial_pre_omega)
      rw [show ((f0 :: rest)[i + 1].filter fun r => (rows[i].map fun o => decide (o ∈ (ns.filter fun y => decide ((r, y) ∈ ds)) ++ [r])).any id) = (f0 :: rest)[i + 1].filter fun r => rows[i].any fun o => handP ds o r from List.filter_congr fun r _ => any_mem fun o ho => near_at sym (m2.2 o ho)]
      have wl : ((f0 :: rest)[i + 1].filter fun r => rows[i].any fun o => handP ds o r).length ≤ 8 := Nat.le_trans (List.length_filter_le _ _) m1.1
      generalize ((f0 :: rest)[i + 1].filter fun r => rows[i].any fun o => handP ds o r) = W at es wl
      (repeat' decreasing_trivial_pre_omega)
      refine Ep.ev (ep_lcM (l := W) (e := aStr) (e' := fun r => iBl (decide (r ∈ rows[i + 1]))) (ep_var rfl) (by omega) (by decide) (fun r hr' => ?_)) ?_
      · (repeat' decreasing_trivial_pre_omega)
        refine o_ixN (l := rows) (g := lsR) (i + 1) rfl hb _ ?_
        (repeat' decreasing_trivial_pre_omega)
      rw [show (W.map fun r => iBl (decide (r ∈ rows[i + 1]))) = (W.map fun r => decide (r ∈ rows[i + 1])).map iBl from by rw [List.map_map]; rfl]
      (repeat' decreasing_trivial_pre_omega)
      rw [List.all_map]
      have es : stepA (handP ds) (f0 :: rest) rows i = W.all (id ∘ fun r => decide (r ∈ rows[i + 1])) := es
      rw [← es]
      cases hS : stepA (handP ds) (f0 :: rest) rows i with
      | false =>
        have := bad hS
        (repeat' decreasing_trivial_pre_omega)
      | true =>
        (repeat' decreasing_trivial_pre_omega)
        refine lj () (fun j hj => ?_) (by (repeat' decreasing_trivial_pre_omega)) rfl
        rcases Nat.lt_or_ge j i with h | h
        · exact hin j h
        · have e : j = i := by omega
          subst e
          exact hS
    · rintro _ Γ1 hin w
      refine st_wk w ?_
      try dsimp only
      rw [show (List.range ((f0 :: rest).length - 1)).all (stepA (handP ds) (f0 :: rest) rows) = true from List.all_eq_true.mpr fun j hj => hin j (by have := List.mem_range.mp hj; omega), Bool.true_and] at q
      have r0 : 0 < rows.length := by omega
      have lin : ∀ o ∈ rows.getD (rows.length - 1) [], o ∈ ns := fun o ho => by
        rw [List.getD_eq_getElem?_getD, List.getElem?_eq_getElem (by omega)] at ho
        exact (hr _ (List.getElem_mem _)).2 o ho
      have fl : (ns.filter fun y => decide ((z, y) ∈ ds)).length ≤ 8 := Nat.le_trans (List.length_filter_le _ _) n8
      (repeat' decreasing_trivial_pre_omega)
      refine Ep.ev (ep_lcM (l := (ns.filter fun y => decide ((z, y) ∈ ds)) ++ [z]) (e := aStr) (e' := fun o => iBl (decide (o ∈ rows.getD (rows.length - 1) []))) (fun k3 X3 hk3 => ?_) (by simp only [List.length_append, List.length_cons, List.length_nil]; omega) (by decide) (fun o ho => ?_)) ?_
      · (repeat' decreasing_trivial_pre_omega)
        refine ⟨_, leS_rfl, z, ns, ds, ss, rfl, rfl, hz, by omega, ?_⟩
        (repeat' decreasing_trivial_pre_omega)
        rw [show (ns.filter fun y => decide ((z, y) ∈ ds)).map aStr ++ [aStr z] = ((ns.filter fun y => decide ((z, y) ∈ ds)) ++ [z]).map aStr from by rw [List.map_append]; rfl]
        exact hk3
      · (repeat' decreasing_trivial_pre_omega)
        refine o_ixL (at_m1T (L := rows) r0) _ ?_
        (repeat' decreasing_trivial_pre_omega)
      rw [show (((ns.filter fun y => decide ((z, y) ∈ ds)) ++ [z]).map fun o => iBl (decide (o ∈ rows.getD (rows.length - 1) []))) = (((ns.filter fun y => decide ((z, y) ∈ ds)) ++ [z]).map fun o => decide (o ∈ rows.getD (rows.length - 1) [])).map iBl from by rw [List.map_map]; rfl]
      (repeat' decreasing_trivial_pre_omega)
      rw [any_swap sym lin]
      exact q
    )) only [↓bx_true]

abbrev s_is_misfit : Stmt := top 25
theorem sc_is_misfit : FnScope ["house", "size", "sightings", "table", "some", "first", "rows"] ["house", "size", "sightings", "table"] (defScope s_is_misfit) := ⟨rfl, rfl, rfl, by decide +kernel, rfl, by decide +kernel, by decide +kernel⟩
structure AskM where
  ns : List Str
  ds : List (Str × Str)
  ss : List (Str × Str)
  n : Nat
  l : List Seen
  tab : List (List (List Str))
abbrev ts_is_misfit (K : PySem.W.Frag) (C_House : Addr) : TSp := pureTs (fun x : AskM => [iHouse C_House x.ns x.ds x.ss, iInt (x.n : Nat), aSeq K (x.l.map (seenR K)), tblR x.tab]) (fun x => 1 ≤ x.n ∧ x.n ≤ 6 ∧ x.ns.length ≤ 8 ∧ x.ns.Nodup ∧ (∀ z ∈ x.ns, StrOk z) ∧ (∀ a b, (a, b) ∈ x.ds → (b, a) ∈ x.ds) ∧ x.l.length ≤ 1000 ∧ (∀ s ∈ x.l, -1000000000 ≤ s.1 ∧ s.1 ≤ 1000000000 ∧ s.2.1 ∈ x.ns) ∧ x.tab.length ≤ 100 ∧ (∀ rows ∈ x.tab, rows.length ≤ 100 ∧ ∀ l ∈ rows, l.length ≤ 100 ∧ ∀ z ∈ l, z ∈ x.ns)) (fun x => iBl (misB (handP x.ds) x.ns (letsOf x.ns x.n x.l) x.tab))
theorem ok_is_misfit (B : Bt mg) {C_House : Addr} (T_House : Txt_House K mg C_House) (c_need_seen : Cl P w K mg base CX0 2 "need_seen" (ts_need_seen K C_House) []) (c_let_rooms : Cl P w K mg base CX0 2 "let_rooms" (ts_let_rooms K C_House) []) (cm_House___len__ : ClM P w K mg base CX0 1 C_House "__len__" (ts_House___len__ K C_House) []) (cm_House_rooms : ClM P w K mg base CX0 1 C_House "rooms" (ts_House_rooms K C_House) []) (c_are_rows : Cl P w K mg base CX0 3 "are_rows" (ts_are_rows K C_House) []) {f : Addr} {fd : FuncData} (d : Df K mg "is_misfit" s_is_misfit ["house", "size", "sightings", "table"] f fd) : Cl P w K mg base CX0 4 "is_misfit" (ts_is_misfit K C_House) [] := by
  refine bx_of ?_
  simp (disch := with_unfolding_all (
    refine cl_of d (okT (kk := 3) d.fn sc_is_misfit (fun Rs M k X h => by obtain ⟨_, rfl, _⟩ := h; rfl) fun cdv A outer s H E hr => ⟨_,
      (pss_cons (ps_expr (pe_cl c_need_seen hr (by decide) pass0 rfl (pa_cons (pv 0) (pa_cons (pv 1) (pa_cons (pv 2) pa_nil)))))
        (pss_cons (ps_set (i := 4) sc_is_misfit.nd rfl (Or.inr rfl) (pe_cl c_let_rooms hr (by decide) pass0 rfl (pa_cons (pv 0) (pa_cons (pv 1) (pa_cons (pv 2) pa_nil)))))
        (pss_cons (ps_if (pt_cmpR op_ne (pe_callB call_len (by rfl) B.len (by decide +kernel) (pa_cons (pv 3) pa_nil)) (pe_callB (call_lenO cm_House___len__ hr (by decide) pass0) (by rfl) B.len (by decide +kernel) (pa_cons (pv 0) pa_nil)) (nomark _)) (pss_one (ps_ret pe_bl)) pss_nil)
        (pss_one (ps_ret (pe_callB (cr_all rfl) (by rfl) B.all (by decide +kernel) (pa_cons (pe_lc (own := [("first", 5), ("rows", 6)]) rfl sc_is_misfit.nd (pi_zipA (by rfl) B.zip (pa_cons (pe_clM0 cm_House_rooms hr (by decide) pass0 (pv 0)) (pa_cons (pv 3) pa_nil))) (blkOk_by (own := [("first", 5), ("rows", 6)]) (N := ["house", "size", "sightings", "table", "some", "first", "rows"]) (sc := defScope s_is_misfit) (by decide +kernel)) (fun s0 H0 C0 cl0 fp0 => blk_tup2 (i := 5) (j := 6) sc_is_misfit.nd (s := s0) (H := H0) (C := C0) (cl := cl0) (fp := fp0)) (fun _ _ _ _ _ => pts_nil) (fun _ _ _ _ _ => (pe_cl c_are_rows hr (by decide) pass0 rfl (pa_cons (pv 0) (pa_cons (pv 4) (pa_cons (pv 5) (pa_cons (pv 6) pa_nil))))))) pa_nil))))))), ?_⟩)
    try dsimp only [L3.cxK, L3.cxKX]
    rintro Rs M k X ⟨⟨ns, ds, ss, n, l, tab⟩, rfl, ⟨n1, n6, n8, nd, so, sym, hl, hs, t9, ht⟩, rfl, q⟩
    dsimp only at n1 n6 n8 nd so sym hl hs t9 ht q ⊢
    have LL : (letsOf ns n l).length = n := lets_len
    have Lin : ∀ r ∈ letsOf ns n l, r.length ≤ 8 ∧ r.Nodup ∧ ∀ z ∈ r, z ∈ ns := fun r h => by
      refine ⟨?_, lets_nd nd r h, lets_in r h⟩
      obtain ⟨i, _, rfl⟩ := List.mem_map.mp h
      exact Nat.le_trans (List.length_filter_le _ _) n8
    (repeat' decreasing_trivial_pre_omega)
    refine ⟨_, leS_rfl, ns, ds, ss, n, l, rfl, by omega, by omega, so, hs, ?_⟩
    (repeat' decreasing_trivial_pre_omega)
    refine ⟨_, leS_rfl, ns, ds, ss, n, l, rfl, n1, n6, n8, so, hl, fun s h => so _ (hs s h).2.2, ?_⟩
    generalize letsOf ns n l = L at q LL Lin ⊢
    unfold misB at q
    (repeat' decreasing_trivial_pre_omega)
    have hh : HasO [] (iHouse C_House ns ds ss) C_House (houseF ns ds ss) := .inl rfl
    refine ol_lenO hh ?_
    refine ⟨_, _, _, rfl, hh, ns, ds, ss, rfl, rfl, ns.length, rfl, by omega, ?_⟩
    (repeat' decreasing_trivial_pre_omega)
    rw [List.length_map]
    by_cases ht2 : tab.length = ns.length
    · rw [decide_eq_true ht2, Bool.true_and] at q
      rw [decide_eq_true (show (tab.length : Int) = (ns.length : Nat) by omega)]
      (repeat' decreasing_trivial_pre_omega)
      refine Ep.ev (ep_lcZL (l := ns) (m := tab) (e1 := aStr) (e2 := llR) (e' := fun p => iBl (areB (handP ds) L p.1 p.2)) (by decide) (fun k3 X3 hk3 => ?_) (ep_var rfl) (by omega) (fun p hp => ?_)) ?_
      · (repeat' decreasing_trivial_pre_omega)
        exact ⟨_, leS_rfl, ns, ds, ss, rfl, rfl, hk3⟩
      · obtain ⟨p1, p2⟩ := List.of_mem_zip hp
        obtain ⟨c1, c2⟩ := ht _ p2
        (repeat' decreasing_trivial_pre_omega)
        refine ⟨rfl, ?_⟩
        (repeat' decreasing_trivial_pre_omega)
        refine ⟨_, leS_rfl, ns, ds, ss, L, p.2, p.1, rfl, so, n8, sym, by omega, by omega, Lin, p1, c1, c2, ?_⟩
        (repeat' decreasing_trivial_pre_omega)
      rw [show ((ns.zip tab).map fun p => iBl (areB (handP ds) L p.1 p.2)) = ((ns.zip tab).map fun p => areB (handP ds) L p.1 p.2).map iBl from by rw [List.map_map]; rfl]
      (repeat' decreasing_trivial_pre_omega)
      rw [List.all_map]
      exact q
    · rw [decide_eq_false ht2, Bool.false_and] at q
      rw [decide_eq_false (show ¬ (tab.length : Int) = (ns.length : Nat) by omega)]
      (repeat' decreasing_trivial_pre_omega)
    )) only [↓bx_true]

abbrev s_law : Stmt := top 49
theorem sc_law : FnScope ["_law_script", "_law_box_here", "_law_house_here", "_law_made_here", "_law_turn", "_law_size", "_law_walk", "_law_seen", "_law_told", "_law_many", "_law_text"] ["_law_script"] (defScope s_law) := ⟨rfl, rfl, rfl, by decide +kernel, rfl, by decide +kernel, by decide +kernel⟩
theorem vd_trans {D : DL} {R R' R'' : Rep} (h1 : Vd D R R') (h2 : Vd D R' R'') : Vd D R R'' := fun S S' v e h p => h2 S' S' v (Same.refl _) h (h1 S S' v e h p)
theorem word_many {c : Int} (h : ("many" : Str) = wordE c) : 1 < c := by
  by_cases h1 : 1 < c
  · exact h1
  · unfold wordE at h
    rw [if_neg h1] at h
    by_cases h2 : c = 0
    · rw [if_pos h2] at h
      exact absurd h (by decide +kernel)
    · rw [if_neg h2] at h
      exact absurd h (by decide +kernel)
theorem word_one {c : Int} (h0 : 0 ≤ c) (h : ("one" : Str) = wordE c) : c = 1 := by
  unfold wordE at h
  by_cases h1 : 1 < c
  · rw [if_pos h1] at h
    exact absurd h (by decide +kernel)
  · rw [if_neg h1] at h
    by_cases h2 : c = 0
    · rw [if_pos h2] at h
      exact absurd h (by decide +kernel)
    · omega
theorem nm_rp {n : Nat} {z : Str} (h : NmOk z) : Rp n 82 (.str z) := rp_str (m := 8) (fun c hc => by have := h.2.2 c hc; omega) h.2.1
theorem tab_rp {ns : List Str} (hn : ∀ z ∈ ns, NmOk z) {tab : List (List (List Str))} (t8 : tab.length ≤ 8) (ht : ∀ rows ∈ tab, RowsIn ns 6 8 rows) : Rp 3 40000 (tabD tab) := by
  refine (rp_list (rps_all (n := 2) (B := 4143) fun x hx => ?_)).mono (Nat.le_refl _) (by rw [List.length_map]; omega)
  obtain ⟨rows, hrows, rfl⟩ := List.mem_map.mp hx
  obtain ⟨_, r9, hr⟩ := ht rows hrows
  refine (rp_list (rps_all (n := 1) (B := 675) fun y hy => ?_)).mono (Nat.le_refl _) (by rw [List.length_map]; omega)
  obtain ⟨l, hl2, rfl⟩ := List.mem_map.mp hy
  obtain ⟨l9, hz⟩ := hr l hl2
  refine (rp_list (rps_all (n := 0) (B := 82) fun w hw => ?_)).mono (Nat.le_refl _) (by rw [List.length_map]; omega)
  obtain ⟨z, hz2, rfl⟩ := List.mem_map.mp hw
  exact nm_rp (hn z (hz z hz2))
theorem row_rp {ns : List Str} (hn : ∀ z ∈ ns, NmOk z) {l : List Str} (l6 : l.length ≤ 6) (hl : ∀ z ∈ l, z ∈ ns) : Rp 1 600 (rowD l) := by
  refine (rp_tup (rps_all (n := 0) (B := 82) fun w hw => ?_)).mono (Nat.le_refl _) (by rw [List.length_map]; omega)
  obtain ⟨z, hz2, rfl⟩ := List.mem_map.mp hw
  exact nm_rp (hn z (hl z hz2))
theorem read_dp {K : PySem.W.Frag} {M : SH} : ∀ w : ReadW, DpM K M (readR K w) (readD w)
  | .none t => dpM_tup (dpsM_cons (dpM_of (dat_str K _)) (dpsM_cons (dpM_lst (dpsM_map fun rows _ => dpM_lst (dpsM_map fun l _ => dpM_lst (dpsM_map fun z _ => dpM_of (dat_str K z))))) dpsM_nil))
  | .many a b i => dpM_tup (dpsM_cons (dpM_of (dat_str K _)) (dpsM_cons (dpM_tup (dpsM_map fun z _ => dpM_of (dat_str K z))) (dpsM_cons (dpM_tup (dpsM_map fun z _ => dpM_of (dat_str K z))) (dpsM_cons (dpM_of (dat_int K _)) dpsM_nil))))
  | .one a => dpM_tup (dpsM_cons (dpM_of (dat_str K _)) (dpsM_cons (dpM_tup (dpsM_map fun z _ => dpM_of (dat_str K z))) dpsM_nil))
theorem read_dpM {K : PySem.W.Frag} {M : SH} {a0 a : Addr} {t0 : List (List Str)} {ts : List (List (List Str))} (h0 : M[0]? = some (a0, mLst (t0.map lsR))) (h1 : M[1]? = some (a, mLst (iRef a0 :: ts.map llR))) : DpM K M (aTup K [aStr "none", iRef a]) (readD (.none (t0 :: ts))) :=
  dpM_tup (dpsM_cons (dpM_of (dat_str K _)) (dpsM_cons (dpM_ref h1 (dpsM_cons (dpM_ref h0 (dpsM_map fun l _ => dpM_lst (dpsM_map fun z _ => dpM_of (dat_str K z)))) (dpsM_map fun rows _ => dpM_lst (dpsM_map fun l _ => dpM_lst (dpsM_map fun z _ => dpM_of (dat_str K z)))))) dpsM_nil))
abbrev ts_law (K : PySem.W.Frag) (Pt : Addr) : TSp := fun Rs M k _ => ∃ ns, Rs = [iScr K ns] ∧ ns.length ≤ 63 ∧ M = [(Pt, mTbl lamQ)] ∧ ∀ M', k (iBl true) M'
theorem ok_law (B : Bt mg) {C_House : Addr} (T_House : Txt_House K mg C_House) (c__law_box : Cl P w K mg base CX0 1 "_law_box" (ts__law_box K) []) (c__law_house : Cl P w K mg base CX0 4 "_law_house" (ts__law_house K) []) (c__law_made : Cl P w K mg base CX0 5 "_law_made" (ts__law_made K C_House) []) (c__law_draw : Cl P w K mg base CX0 1 "_law_draw" (ts__law_draw K) []) (c__law_round : Cl P w K mg base CX0 3 "_law_round" (ts__law_round K) []) (c__law_lied : Cl P w K mg base CX0 3 "_law_lied" (ts__law_lied K) []) (c__law_sightings : Cl P w K mg base CX0 3 "_law_sightings" (ts__law_sightings K) []) (c_fits : Cl P w K mg base CX0 5 "fits" (ts_fits K C_House) []) (c_read_round : Cl P w K mg base CX0 7 "read_round" (ts_read_round K C_House) []) (c__law_read_ok : Cl P w K mg base CX0 4 "_law_read_ok" (ts__law_read_ok K) []) (c_is_misfit : Cl P w K mg base CX0 4 "is_misfit" (ts_is_misfit K C_House) []) {f c Pt : Addr} {fd : FuncData} (TB : TabB base mg c Pt) (d : FunC K "law" "law" s_law f fd c) : RunC P w K mg base f fd "_law_script" (spT (ts_law K Pt)) := by
  refine bx_of ?_
  simp (disch := with_unfolding_all (
    refine (runC_of (kk := 7) d sc_law ⟨rfl, by decide, by decide⟩ fun s H E hr => ⟨_,
      (pss_cons (ps_set (i := 1) sc_law.nd rfl (Or.inl rfl) (pe_cl c__law_box hr (by decide) pass0 rfl (pa_cons (pv 0) pa_nil)))
        (pss_cons (ps_set (i := 2) sc_law.nd rfl (Or.inl rfl) (pe_cl c__law_house hr (by decide) pass0 rfl (pa_cons (pv 1) (pa_cons pe_int pa_nil))))
        (pss_cons (ps_set (i := 3) sc_law.nd rfl (Or.inl rfl) (pe_cl c__law_made hr (by decide) pass0 rfl (pa_cons (pv 2) pa_nil)))
        (pss_cons (ps_for PassesOwn.never rfl (pi_range1 (by rfl) B.range (pa_cons pe_int pa_nil)) (pg_name (i := 4) sc_law.nd rfl (Or.inl rfl)) (pss_cons (ps_set (i := 5) sc_law.nd rfl (Or.inl rfl) (pe_op op_add pe_int (pe_cl c__law_draw hr (by decide) pass0 rfl (pa_cons (pv 1) (pa_cons pe_int pa_nil)))))
        (pss_cons (ps_set (i := 6) sc_law.nd rfl (Or.inl rfl) (pe_slice sl_tupA (pe_op op_repT (pe_cl c__law_round hr (by decide) pass0 rfl (pa_cons (pv 1) (pa_cons (pv 2) (pa_cons pe_int pa_nil)))) pe_int) po_none (po_some (pv 5))))
        (pss_cons (ps_set (i := 7) sc_law.nd rfl (Or.inl rfl) (pe_cl c__law_lied hr (by decide) pass0 rfl (pa_cons (pv 1) (pa_cons (pv 2) (pa_cons (pe_cl c__law_sightings hr (by decide) pass0 rfl (pa_cons (pv 1) (pa_cons (pv 2) (pa_cons (pv 6) (pa_cons pe_int pa_nil))))) pa_nil)))))
        (pss_cons (ps_par (i := 8) (j := 9) rfl sc_law.nd rfl rfl (by decide) rfl rfl (pa_cons (pe_cl c_read_round hr (by decide) pass0 rfl (pa_cons (pv 3) (pa_cons (pv 5) (pa_cons (pv 7) pa_nil)))) (pa_cons (pe_cl c_fits hr (by decide) pass0 rfl (pa_cons (pv 3) (pa_cons (pv 5) (pa_cons (pv 7) pa_nil)))) pa_nil)) (by rfl))
        (pss_cons (ps_if (pt_not (pt_val (pe_cl c__law_read_ok hr (by decide) pass0 rfl (pa_cons (pv 2) (pa_cons (pv 5) (pa_cons (pv 7) (pa_cons (pv 8) pa_nil))))))) (pss_one (ps_ret pe_bl)) pss_nil)
        (pss_cons (ps_if (pt_cmpR op_ne (pe_ix ix_tup (pv 8) pe_int (fun _ _ => rfl)) (pe_ix ix_list (pe_ix ix_list (pe_lst (pa_cons (pe_lst (pa_cons pe_str (pa_cons pe_str pa_nil))) (pa_cons (pe_lst (pa_cons pe_str pa_nil)) pa_nil))) (pe_callTy call_int1 (by rfl) B.int (by decide +kernel) (pa_cons (pe_cmpR op_gt (pv 9) pe_int (nomark _)) pa_nil)) (fun _ _ => rfl)) (pe_op op_mul (pe_callB (call_min2 rfl) (by rfl) B.min (by decide +kernel) (pa_cons (pv 9) (pa_cons pe_int pa_nil))) (pe_callTy call_int1 (by rfl) B.int (by decide +kernel) (pa_cons (pe_cmpR op_lt (pv 9) pe_int (nomark _)) pa_nil))) (fun _ _ => rfl)) (nomark _)) (pss_one (ps_ret pe_bl)) pss_nil)
        (pss_cons (ps_set (i := 10) sc_law.nd rfl (Or.inl rfl) (pe_callB (cr_repr (by exact rfl) hr.units) (by rfl) B.repr (by decide +kernel) (pa_cons (pv 8) pa_nil)))
        (pss_cons (ps_if (pt_cmpR op_eq (pe_ix ix_tup (pv 8) pe_int (fun _ _ => rfl)) pe_str (nomark _)) (pss_cons (ps_if (pt_cmpR op_isNotB (pe_cl c_is_misfit hr (by decide) pass0 rfl (pa_cons (pv 3) (pa_cons (pv 5) (pa_cons (pv 7) (pa_cons (pe_ix ix_tup (pv 8) pe_int (fun _ _ => rfl)) pa_nil))))) pe_bl (nomark _)) (pss_one (ps_ret pe_bl)) pss_nil)
        (pss_cons (ps_expr (pe_bm PySem.F.plainAttrs_list PySem.F.slot_list_append PySem.F.type_list_append mt_append (pe_ix ix_tup (pv 8) pe_int (fun _ _ => rfl)) (pa_cons (pe_lst pa_nil) pa_nil)))
        (pss_one (ps_expr (pe_bm0 PySem.F.plainAttrs_list PySem.F.slot_list_clear PySem.F.type_list_clear mt_clear (pe_ix ix_seq (pe_ix ix_tup (pv 8) pe_int (fun _ _ => rfl)) pe_int (fun _ _ => rfl))))))) pss_nil)
        (pss_one (ps_if (pt_cmpR op_ne (pe_callB (cr_repr (by exact rfl) hr.units) (by rfl) B.repr (by decide +kernel) (pa_cons (pe_cl c_read_round hr (by decide) pass0 rfl (pa_cons (pv 3) (pa_cons (pv 5) (pa_cons (pe_callTy call_tuple_of (by rfl) B.tuple (by decide +kernel) (pa_cons (pv 7) pa_nil)) pa_nil)))) pa_nil)) (pv 10) (nomark _)) (pss_one (ps_ret pe_bl)) pss_nil)))))))))))
        (pss_one (ps_ret pe_bl)))))), ?_⟩)
    try dsimp only [L3.cxK, L3.cxKX]
    rintro Rs M k X ⟨ns, rfl, hl, rfl, q⟩
    (repeat' decreasing_trivial_pre_omega)
    refine ⟨[], [(Pt, mTbl lamQ)], rfl, ns, rfl, hl, rfl, fun b => ?_⟩
    (repeat' decreasing_trivial_pre_omega)
    refine ⟨_, leS_rfl, 5, rfl, ⟨by decide, by decide⟩, fun rs ds ss ho => ?_⟩
    have n0 := ho.n0
    have n8 : rs.length ≤ 8 := Nat.le_trans ho.n1 (by decide)
    have h8 : HouseOk 8 rs ds ss := ⟨ho.n0, n8, ho.nd, ho.nm, Nat.le_trans ho.dl (by decide), ho.dm, ho.sl, ho.sm⟩
    have so : ∀ z ∈ rs, StrOk z := fun z hz c hc => by have := (ho.nm z hz).2.2 c hc; omega
    have pr : PrOk ds := fun p hp => ⟨so _ (ho.dm p hp).1, so _ (ho.dm p hp).2.1⟩
    have ne : rs ≠ [] := fun h => by rw [h] at n0; exact absurd n0 (by decide)
    (repeat' decreasing_trivial_pre_omega)
    refine ⟨(rs, ds, ss), leS_rfl, h8, ?_⟩
    (repeat' decreasing_trivial_pre_omega)
    refine st_seq (st_forG Unit ?_)
    (repeat' decreasing_trivial_pre_omega)
    refine ⟨3, rfl, by decide, fun _ _ => True, fun _ => [some (iScr K ns), some (iRef b), some (iHs K rs ds ss), some (iHouse C_House rs (doorsOf ds) (sightsOf ss)), none, none, none, none, none, none, none], fun _ => [(b, mBox), (Pt, mTbl lamQ)], lj () True.intro (by (repeat' decreasing_trivial_pre_omega)) rfl, ?_, ?_⟩
    · rintro it rt _ hit rfl _
      try dsimp only
      refine tg_name ?_
      refine st_assoc (st_assoc (st_join (α := Nat × List Seen) (P := fun p => 1 ≤ p.1 ∧ p.1 ≤ 6 ∧ p.2.length ≤ 100 ∧ ∀ s ∈ p.2, SeenIn rs s) (G := fun p => [some (iScr K ns), some (iRef b), some (iHs K rs ds ss), some (iHouse C_House rs (doorsOf ds) (sightsOf ss)), some (iInt (it : Nat)), some (iInt (p.1 : Nat)), none, some (iLst (p.2.map (seenR K))), none, none, none]) (N := fun _ => [(b, mBox), (Pt, mTbl lamQ)]) ?_ (fun p ⟨n1, n6, sl, so2⟩ => ?_)))
      · (repeat' decreasing_trivial_pre_omega)
        intro sz hsz
        (repeat' decreasing_trivial_pre_omega)
        rw [show (1 : Int) + sz = ((sz + 1 : Nat) : Int) by omega]
        obtain ⟨n, rfl, n1, n6⟩ : ∃ n, sz + 1 = n ∧ 1 ≤ n ∧ n ≤ 6 := ⟨_, rfl, by omega, by omega⟩
        refine ⟨_, leS_rfl, 5, rs, ds, ss, 6, rfl, ho, by decide, by decide, by decide, fun w0 hw0 => ?_⟩
        have w1 := hw0.l1
        have w6 := hw0.l6
        (repeat' decreasing_trivial_pre_omega)
        refine o_repT 6 rfl (fun h => by rw [List.map_eq_nil_iff] at h; rw [h] at w1; exact absurd w1 (by decide)) (by rw [List.length_map]; omega) (by decide) (by decide) _ ?_
        rw [show (List.replicate 6 (w0.map aStr)).flatten = (List.replicate 6 w0).flatten.map aStr from by rw [List.map_flatten, List.map_replicate]]
        (repeat' decreasing_trivial_pre_omega)
        rw [cutL_take, ← List.map_take]
        obtain ⟨wk, ewk, lw, wn⟩ : ∃ wk, ((List.replicate 6 w0).flatten).take (sz + 1) = wk ∧ wk.length = sz + 1 ∧ ∀ z ∈ wk, z ∈ rs := by
          refine ⟨_, rfl, ?_, fun z hz => ?_⟩
          · simp only [List.length_take, List.length_flatten, List.map_replicate, List.sum_replicate_nat]
            omega
          · obtain ⟨l, h1, h2⟩ := List.mem_flatten.mp (List.mem_of_mem_take hz)
            rw [List.eq_of_mem_replicate h1] at h2
            exact hw0.ln z h2
        rw [ewk]
        have wn0 : wk ≠ [] := fun h => by rw [h] at lw; simp at lw
        (repeat' decreasing_trivial_pre_omega)
        refine ⟨_, leS_rfl, rs, ds, ss, wk, 12, rfl, ne, n8, wn0, by omega, wn, by decide, fun s1 l1 h1 => ?_⟩
        (repeat' decreasing_trivial_pre_omega)
        refine ⟨_, leS_rfl, rs, ds, ss, s1, rfl, ne, n8, by omega, h1, fun s2 l2 h2 => ?_⟩
        (repeat' decreasing_trivial_pre_omega)
        exact lj (sz + 1, s2) ⟨by dsimp only; omega, by dsimp only; omega, by dsimp only; omega, h2⟩ (by (repeat' decreasing_trivial_pre_omega)) rfl
      obtain ⟨n, seen⟩ := p
      dsimp only at n1 n6 sl so2
      try dsimp only
      have LL : (letsOf rs n seen).length = n := lets_len
      have L0 : letsOf rs n seen ≠ [] := fun h => by rw [h] at LL; simp at LL; omega
      have Lin : ∀ r ∈ letsOf rs n seen, r.length ≤ 8 ∧ ∀ z ∈ r, z ∈ rs := fun r h => by
        refine ⟨?_, lets_in r h⟩
        obtain ⟨i, _, rfl⟩ := List.mem_map.mp h
        exact Nat.le_trans (List.length_filter_le _ _) n8
      obtain ⟨fw, facts⟩ := read_facts (adj := handP (doorsOf ds)) (ns := rs) L0 (fun r h => lets_nd ho.nd r h)
      have c0 := cnt_nn (adj := handP (doorsOf ds)) L0
      have rok : RprOk (readD (readE (handP (doorsOf ds)) rs (letsOf rs n seen))) := by
        generalize readE (handP (doorsOf ds)) rs (letsOf rs n seen) = w at facts
        have frow : ∀ r, FitsC (handP (doorsOf ds)) (letsOf rs n seen) r → Rp 1 600 (rowD r) := fun r f => row_rp ho.nm (by have := f.1.len; omega) fun z hz => by
          obtain ⟨i, hi, rfl⟩ := List.mem_iff_getElem.mp hz
          have hl2 := f.1.len
          have := f.1.at_ i (by omega)
          rw [List.getD_eq_getElem?_getD (l := letsOf rs n seen), List.getElem?_eq_getElem (by omega), List.getD_eq_getElem?_getD, List.getElem?_eq_getElem hi] at this
          exact (Lin _ (List.getElem_mem (by omega))).2 _ this
        cases w with
        | none t =>
          obtain ⟨ht, _⟩ := facts
          refine rpr_tup (rps_cons (rp_str (n := 3) (m := 4) (by decide +kernel) (by decide +kernel)) (rps_cons (tab_rp ho.nm (by rw [ht, List.length_map]; omega) fun rows h => ?_) rps_nil)) (by decide) (by simp)
          rw [ht] at h
          obtain ⟨z, hz, rfl⟩ := List.mem_map.mp h
          exact mis_in Lin (by omega) (by omega) hz
        | many r1 r2 i =>
          obtain ⟨fa, fb, hi, _⟩ := facts
          exact rpr_tup (rps_cons (rp_str (n := 1) (m := 4) (by decide +kernel) (by decide +kernel)) (rps_cons (frow _ fa) (rps_cons (frow _ fb) (rps_cons (rp_int (by omega)) rps_nil)))) (by decide) (by simp)
        | one r1 => exact rpr_tup (rps_cons (rp_str (n := 1) (m := 3) (by decide +kernel) (by decide +kernel)) (rps_cons (frow _ facts) rps_nil)) (by decide) (by simp)
      refine st_assoc (st_assoc (st_assoc (st_assoc (st_join (α := Unit) (P := fun _ => True) (G := fun _ => [some (iScr K ns), some (iRef b), some (iHs K rs ds ss), some (iHouse C_House rs (doorsOf ds) (sightsOf ss)), some (iInt (it : Nat)), some (iInt (n : Nat)), none, some (iLst (seen.map (seenR K))), none, none, some (aStr (readD (readE (handP (doorsOf ds)) rs (letsOf rs n seen))).shown)]) (N := fun _ => [(b, mBox), (Pt, mTbl lamQ)]) ?_ (fun _ _ => ?_)))))
      · (repeat' decreasing_trivial_pre_omega)
        refine ⟨_, leS_cons (fun _ _ h => h) (leS_cons (fun _ _ h => h) (leS_cons seq_l leS_nil)), rs, doorsOf ds, sightsOf ss, n, seen, rfl, n1, n6, n8, ho.nd, so, by omega, so2, .inr ⟨n0, fun nn => ?_, fun t0 ts ht a0 a => ?_⟩⟩
        · dsimp only [List.nil_append]
          (repeat' decreasing_trivial_pre_omega)
          refine ⟨_, leS_cons (fun _ _ h => h) (leS_cons (fun _ _ h => h) (leS_cons seq_l leS_nil)), rs, doorsOf ds, sightsOf ss, n, seen, rfl, n1, n6, n8, ho.nd, so, by omega, so2, ?_⟩
          (repeat' decreasing_trivial_pre_omega)
          refine ⟨⟨rs, ds, ss, n, seen⟩, leS_rfl, ⟨n1, n6, n8, ho.nd, pr, so, by dsimp only; omega⟩, _, rfl, ?_⟩
          (repeat' decreasing_trivial_pre_omega)
          generalize hw : readE (handP (doorsOf ds)) rs (letsOf rs n seen) = w at facts fw rok nn ⊢
          generalize cntOf (handP (doorsOf ds)) (letsOf rs n seen) = cn at facts fw c0 ⊢
          cases w with
          | none t => exact absurd rfl (nn t)
          | many r1 r2 i =>
            have h1 : 1 < cn := word_many fw
            unfold readR
            dsimp only
            (repeat' decreasing_trivial_pre_omega)
            rw [decide_eq_true h1]
            refine c_intB _ ?_
            rw [if_pos rfl]
            (repeat' decreasing_trivial_pre_omega)
            rw [decide_eq_false (show ¬ cn < 2 by omega)]
            refine c_intB _ ?_
            rw [if_neg (by decide)]
            (repeat' decreasing_trivial_pre_omega)
            rw [Int.mul_zero]
            (repeat' decreasing_trivial_pre_omega)
            rw [show decide (("many" : Str) = "many") = true from by decide +kernel]
            (repeat' decreasing_trivial_pre_omega)
            refine c_repr (read_dp (.many r1 r2 i)) rok _ ?_
            (repeat' decreasing_trivial_pre_omega)
            rw [show decide (("many" : Str) = "none") = false from by decide +kernel]
            (repeat' decreasing_trivial_pre_omega)
            exact lj () True.intro (by (repeat' decreasing_trivial_pre_omega)) rfl
          | one r1 =>
            obtain rfl : cn = 1 := word_one c0 fw
            unfold readR
            dsimp only
            (repeat' decreasing_trivial_pre_omega)
            refine c_intB _ ?_
            rw [if_neg (by decide)]
            (repeat' decreasing_trivial_pre_omega)
            refine c_intB _ ?_
            rw [if_pos (by decide)]
            (repeat' decreasing_trivial_pre_omega)
            rw [show decide (("one" : Str) = "one") = true from by decide +kernel]
            (repeat' decreasing_trivial_pre_omega)
            refine c_repr (read_dp (.one r1)) rok _ ?_
            (repeat' decreasing_trivial_pre_omega)
            rw [show decide (("one" : Str) = "none") = false from by decide +kernel]
            (repeat' decreasing_trivial_pre_omega)
            exact lj () True.intro (by (repeat' decreasing_trivial_pre_omega)) rfl
        · dsimp only [List.cons_append, List.nil_append]
          (repeat' decreasing_trivial_pre_omega)
          refine ⟨_, leS_cons (fun _ _ h => h) (leS_cons (fun _ _ h => h) (leS_cons seq_l leS_nil)), rs, doorsOf ds, sightsOf ss, n, seen, rfl, n1, n6, n8, ho.nd, so, by omega, so2, ?_⟩
          refine ea_nil ?_
          refine ⟨_, _, rfl, ?_⟩
          rw [ht] at fw facts rok ⊢
          obtain ⟨htab, hcn⟩ := facts
          refine st_seq (st_if (et_not (et_tB (ev_callVd ?_))))
          (repeat' decreasing_trivial_pre_omega)
          have dv : Vd [(a0, t0.map lsR), (a, iRef a0 :: ts.map llR)] (iRef a) (tblR (t0 :: ts)) := vd_trans (vd_ref (.tail _ (.head _))) (vd_lst (vd_cons (vd_ref (.head _)) fun S S' vs e _ p => p.mono e))
          have dm : ∀ p ∈ ([(a0, t0.map lsR), (a, iRef a0 :: ts.map llR)] : DL), (p.1, mLst p.2) ∈ ([(a0, mLst (t0.map lsR)), (a, mLst (iRef a0 :: ts.map llR)), (b, mBox), (Pt, mTbl lamQ)] : SH) := fun p hp => by
            simp only [List.mem_cons, List.not_mem_nil, or_false] at hp
            rcases hp with rfl | rfl
            · exact .head _
            · exact .tail _ (.head _)
          refine ⟨[(a0, t0.map lsR), (a, iRef a0 :: ts.map llR)], [_, _, _, aTup K [aStr "none", tblR (t0 :: ts)]], ⟨rs, ds, ss, n, seen⟩, dm, vd_cons vd_rfl (vd_cons vd_rfl (vd_cons vd_rfl (vd_cons (vd_tup (vd_cons vd_rfl (vd_cons dv vd_nil))) vd_nil))), by dsimp only; rw [ht]; exact leS_rfl, ⟨n1, n6, n8, ho.nd, pr, so, by dsimp only; omega⟩, _, rfl, ?_⟩
          (repeat' decreasing_trivial_pre_omega)
          rw [hcn]
          refine c_intB _ ?_
          rw [if_neg (by decide)]
          (repeat' decreasing_trivial_pre_omega)
          refine c_intB _ ?_
          rw [if_pos (by decide)]
          (repeat' decreasing_trivial_pre_omega)
          rw [show decide (("none" : Str) = "none") = true from by decide +kernel]
          (repeat' decreasing_trivial_pre_omega)
          refine c_repr (read_dpM (M := [(a0, mLst (t0.map lsR)), (a, mLst (iRef a0 :: ts.map llR)), (b, mBox), (Pt, mTbl lamQ)]) rfl rfl) rok _ ?_
          refine st_nt ?_
          (repeat' decreasing_trivial_pre_omega)
          rw [show decide (("none" : Str) = "none") = true from by decide +kernel]
          refine (if_pos rfl).mpr ?_
          refine st_seq (st_if (et_test ?_))
          refine ev_op (ev_callVd ?_)
          (repeat' decreasing_trivial_pre_omega)
          have mt := mis_told (adj := handP (doorsOf ds)) (ns := rs) (f0 := (letsOf rs n seen).headD []) (rest := (letsOf rs n seen).tail)
          have ec : (letsOf rs n seen).headD [] :: (letsOf rs n seen).tail = letsOf rs n seen := by
            cases h : letsOf rs n seen with
            | nil => exact absurd h L0
            | cons a b => rfl
          rw [ec] at mt
          have hm := mt hcn
          rw [← htab] at hm
          refine ⟨[(a0, t0.map lsR), (a, iRef a0 :: ts.map llR)], [_, _, iLst (seen.map (seenR K)), tblR (t0 :: ts)], ⟨rs, doorsOf ds, sightsOf ss, n, seen, t0 :: ts⟩, dm, vd_cons vd_rfl (vd_cons vd_rfl (vd_cons vd_rfl (vd_cons dv vd_nil))), leS_cons (fun _ _ h => h) (leS_cons (fun _ _ h => h) (leS_cons seq_l (leS_cons (fun _ _ h => h) leS_nil))), ⟨n1, n6, n8, ho.nd, so, doors_sym, by dsimp only; omega, so2, ?_, fun rows h => ?_⟩, ?_⟩
          · dsimp only
            rw [htab, List.length_map]
            omega
          · dsimp only at h ⊢
            rw [htab] at h
            obtain ⟨z, hz, rfl⟩ := List.mem_map.mp h
            obtain ⟨_, g2, g3⟩ := mis_in (adj := handP (doorsOf ds)) Lin (by omega) (by omega) hz
            exact ⟨by omega, fun l hl => ⟨Nat.le_trans (g3 l hl).1 (by decide), (g3 l hl).2⟩⟩
          dsimp only
          rw [hm]
          (repeat' decreasing_trivial_pre_omega)
          refine o_isNotB _ ?_
          rw [decide_eq_true (rfl : true = true)]
          (repeat' decreasing_trivial_pre_omega)
          · have := congrArg List.length htab
            simp only [List.length_cons, List.length_map] at this ⊢
            omega
          (repeat' decreasing_trivial_pre_omega)
          refine ev_bm0 ?_
          (repeat' decreasing_trivial_pre_omega)
          refine o_ixMQ 1 rfl atI_0 _ ?_
          refine ⟨ty_mLst (at_mem (i := 0) rfl), om_clear (A := []) (B := [(a, mLst (iRef a0 :: ts.map llR ++ [iLst []])), (b, mBox), (Pt, mTbl lamQ)]) ?_⟩
          refine ⟨_, _, turn_trans (turn_drop 0) (turn_drop 0), ?_⟩
          exact lj () True.intro (by (repeat' decreasing_trivial_pre_omega)) rfl
      (repeat' decreasing_trivial_pre_omega)
      refine ⟨_, leS_cons (fun _ _ h => h) (leS_cons (fun _ _ h => h) (leS_cons seq_t leS_nil)), rs, doorsOf ds, sightsOf ss, n, seen, rfl, n1, n6, n8, ho.nd, so, by omega, so2, .inl ?_⟩
      dsimp only [List.nil_append]
      (repeat' decreasing_trivial_pre_omega)
      refine c_repr (read_dp _) rok _ ?_
      (repeat' decreasing_trivial_pre_omega)
      refine (if_neg (by simp)).mpr ?_
      (repeat' decreasing_trivial_pre_omega)
      exact lj () True.intro (by (repeat' decreasing_trivial_pre_omega)) rfl
    · rintro _ Γ1 _ w
      refine st_wk w ?_
      try dsimp only
      (repeat' decreasing_trivial_pre_omega)
      exact q _
    )) only [↓bx_true]

end
theorem all_mk {l : PySem.W.OpenLaw} {w : World} {K : PySem.W.Frag} {h : Heap} {mg : Str → Option Value} {fa C_House LC LP f1 f2 f3 f4 f5 f6 f7 f8 f9 f10 f11 f12 f13 f14 f15 f16 f17 f18 f19 f20 f21 f22 f23 f24 f25 f26 f27 f28 f29 f30 f31 f32 f33 f34 f35 f36 f37 f38 : Addr} (X : K.In h) (G : h.Ns mainGlobals mg) (hfa : mg "law" = some (.ref fa))
    (a_House : PySem.W.nsIn K mainGlobals "House" = some (some (.ref C_House)))
    {kV1 : Value} {od1 an1 : Option Addr} {sl1 : Array (Option Value)} {oc1 dc1 pm1 cd1 ct1 : Value} (a1 : PySem.W.nsIn K mainGlobals "_law_box" = some (some (.ref f1))) (l1 : K.lookup f1 = some ⟨oc1, od1, .func (PySem.W.fnOf "_law_box" "_law_box" (defArgs s__law_box) (defBody s__law_box) (defScope s__law_box) .none kV1 dc1 pm1 an1 cd1 ct1), sl1⟩) (c1 : PySem.W.codeIn K cd1 "_law_box" = true) (k1 : PySem.W.keepIn K (.ref f1) = true)
    {kV2 : Value} {od2 an2 : Option Addr} {sl2 : Array (Option Value)} {oc2 dc2 pm2 cd2 ct2 : Value} (a2 : PySem.W.nsIn K mainGlobals "_law_draw" = some (some (.ref f2))) (l2 : K.lookup f2 = some ⟨oc2, od2, .func (PySem.W.fnOf "_law_draw" "_law_draw" (defArgs s__law_draw) (defBody s__law_draw) (defScope s__law_draw) .none kV2 dc2 pm2 an2 cd2 ct2), sl2⟩) (c2 : PySem.W.codeIn K cd2 "_law_draw" = true) (k2 : PySem.W.keepIn K (.ref f2) = true)
    {kV3 : Value} {od3 an3 : Option Addr} {sl3 : Array (Option Value)} {oc3 dc3 pm3 cd3 ct3 : Value} (a3 : PySem.W.nsIn K mainGlobals "_law_of" = some (some (.ref f3))) (l3 : K.lookup f3 = some ⟨oc3, od3, .func (PySem.W.fnOf "_law_of" "_law_of" (defArgs s__law_of) (defBody s__law_of) (defScope s__law_of) .none kV3 dc3 pm3 an3 cd3 ct3), sl3⟩) (c3 : PySem.W.codeIn K cd3 "_law_of" = true) (k3 : PySem.W.keepIn K (.ref f3) = true)
    {kV4 : Value} {od4 an4 : Option Addr} {sl4 : Array (Option Value)} {oc4 dc4 pm4 cd4 ct4 : Value} (a4 : PySem.W.nsIn K mainGlobals "_law_names" = some (some (.ref f4))) (l4 : K.lookup f4 = some ⟨oc4, od4, .func (PySem.W.fnOf "_law_names" "_law_names" (defArgs s__law_names) (defBody s__law_names) (defScope s__law_names) .none kV4 dc4 pm4 an4 cd4 ct4), sl4⟩) (c4 : PySem.W.codeIn K cd4 "_law_names" = true) (k4 : PySem.W.keepIn K (.ref f4) = true)
    {kV5 : Value} {od5 an5 : Option Addr} {sl5 : Array (Option Value)} {oc5 dc5 pm5 cd5 ct5 : Value} (a5 : PySem.W.nsIn K mainGlobals "_law_house" = some (some (.ref f5))) (l5 : K.lookup f5 = some ⟨oc5, od5, .func (PySem.W.fnOf "_law_house" "_law_house" (defArgs s__law_house) (defBody s__law_house) (defScope s__law_house) .none kV5 dc5 pm5 an5 cd5 ct5), sl5⟩) (c5 : PySem.W.codeIn K cd5 "_law_house" = true) (k5 : PySem.W.keepIn K (.ref f5) = true)
    {kV6 : Value} {od6 an6 : Option Addr} {sl6 : Array (Option Value)} {oc6 dc6 pm6 cd6 ct6 : Value} (a6 : PySem.W.nsIn K mainGlobals "is_name" = some (some (.ref f6))) (l6 : K.lookup f6 = some ⟨oc6, od6, .func (PySem.W.fnOf "is_name" "is_name" (defArgs s_is_name) (defBody s_is_name) (defScope s_is_name) .none kV6 dc6 pm6 an6 cd6 ct6), sl6⟩) (c6 : PySem.W.codeIn K cd6 "is_name" = true) (k6 : PySem.W.keepIn K (.ref f6) = true)
    {kV7 : Value} {od7 an7 : Option Addr} {sl7 : Array (Option Value)} {oc7 dc7 pm7 cd7 ct7 : Value} (a7 : PySem.W.nsIn K mainGlobals "need_fresh" = some (some (.ref f7))) (l7 : K.lookup f7 = some ⟨oc7, od7, .func (PySem.W.fnOf "need_fresh" "need_fresh" (defArgs s_need_fresh) (defBody s_need_fresh) (defScope s_need_fresh) .none kV7 dc7 pm7 an7 cd7 ct7), sl7⟩) (c7 : PySem.W.codeIn K cd7 "need_fresh" = true) (k7 : PySem.W.keepIn K (.ref f7) = true)
    {kV8 : Value} {od8 an8 : Option Addr} {sl8 : Array (Option Value)} {oc8 dc8 pm8 cd8 ct8 : Value} (a8 : PySem.W.findIn K (.ref C_House) "need_room" = some (some (.ref f8))) (i8 : PySem.W.isFn K (.ref f8) = true) (l8 : K.lookup f8 = some ⟨oc8, od8, .func (PySem.W.fnOf "need_room" "House.need_room" (defArgs s_House_need_room) (defBody s_House_need_room) (defScope s_House_need_room) .none kV8 dc8 pm8 an8 cd8 ct8), sl8⟩) (c8 : PySem.W.codeIn K cd8 "House.need_room" = true) (k8 : PySem.W.keepIn K (.ref f8) = true)
    {kV9 : Value} {od9 an9 : Option Addr} {sl9 : Array (Option Value)} {oc9 dc9 pm9 cd9 ct9 : Value} (a9 : PySem.W.findIn K (.ref C_House) "need_pair" = some (some (.ref f9))) (i9 : PySem.W.isFn K (.ref f9) = true) (l9 : K.lookup f9 = some ⟨oc9, od9, .func (PySem.W.fnOf "need_pair" "House.need_pair" (defArgs s_House_need_pair) (defBody s_House_need_pair) (defScope s_House_need_pair) .none kV9 dc9 pm9 an9 cd9 ct9), sl9⟩) (c9 : PySem.W.codeIn K cd9 "House.need_pair" = true) (k9 : PySem.W.keepIn K (.ref f9) = true)
    {T10 : Addr} {kV10 : Value} {od10 an10 : Option Addr} {sl10 : Array (Option Value)} {oc10 dc10 pm10 cd10 ct10 : Value} (a10 : PySem.W.findIn K (.ref C_House) "__init__" = some (some (.ref f10))) (i10 : PySem.W.isFn K (.ref f10) = true) (l10 : K.lookup f10 = some ⟨oc10, od10, .func (PySem.W.fnOf "__init__" "House.__init__" (defArgs s_House___init__) (defBody s_House___init__) (defScope s_House___init__) (.ref T10) kV10 dc10 pm10 an10 cd10 ct10), sl10⟩) (c10 : PySem.W.codeIn K cd10 "House.__init__" = true) (k10 : PySem.W.keepIn K (.ref f10) = true)
    {e10_0 e10_1 e10_2 : Addr} {ocT10 : Value} {odT10 : Option Addr} {nT10 : Nat} {slT10 : Array (Option Value)} (lT10 : K.lookup T10 = some ⟨ocT10, odT10, .seq #[.ref e10_0, .ref e10_1, .ref e10_2] nT10, slT10⟩)
    {kV11 : Value} {od11 an11 : Option Addr} {sl11 : Array (Option Value)} {oc11 dc11 pm11 cd11 ct11 : Value} (a11 : PySem.W.nsIn K mainGlobals "_law_made" = some (some (.ref f11))) (l11 : K.lookup f11 = some ⟨oc11, od11, .func (PySem.W.fnOf "_law_made" "_law_made" (defArgs s__law_made) (defBody s__law_made) (defScope s__law_made) .none kV11 dc11 pm11 an11 cd11 ct11), sl11⟩) (c11 : PySem.W.codeIn K cd11 "_law_made" = true) (k11 : PySem.W.keepIn K (.ref f11) = true)
    {kV12 : Value} {od12 an12 : Option Addr} {sl12 : Array (Option Value)} {oc12 dc12 pm12 cd12 ct12 : Value} (a12 : PySem.W.nsIn K mainGlobals "_law_near" = some (some (.ref f12))) (l12 : K.lookup f12 = some ⟨oc12, od12, .func (PySem.W.fnOf "_law_near" "_law_near" (defArgs s__law_near) (defBody s__law_near) (defScope s__law_near) .none kV12 dc12 pm12 an12 cd12 ct12), sl12⟩) (c12 : PySem.W.codeIn K cd12 "_law_near" = true) (k12 : PySem.W.keepIn K (.ref f12) = true)
    {kV13 : Value} {od13 an13 : Option Addr} {sl13 : Array (Option Value)} {oc13 dc13 pm13 cd13 ct13 : Value} (a13 : PySem.W.nsIn K mainGlobals "_law_hand" = some (some (.ref f13))) (l13 : K.lookup f13 = some ⟨oc13, od13, .func (PySem.W.fnOf "_law_hand" "_law_hand" (defArgs s__law_hand) (defBody s__law_hand) (defScope s__law_hand) .none kV13 dc13 pm13 an13 cd13 ct13), sl13⟩) (c13 : PySem.W.codeIn K cd13 "_law_hand" = true) (k13 : PySem.W.keepIn K (.ref f13) = true)
    {kV14 : Value} {od14 an14 : Option Addr} {sl14 : Array (Option Value)} {oc14 dc14 pm14 cd14 ct14 : Value} (a14 : PySem.W.nsIn K mainGlobals "_law_round" = some (some (.ref f14))) (l14 : K.lookup f14 = some ⟨oc14, od14, .func (PySem.W.fnOf "_law_round" "_law_round" (defArgs s__law_round) (defBody s__law_round) (defScope s__law_round) .none kV14 dc14 pm14 an14 cd14 ct14), sl14⟩) (c14 : PySem.W.codeIn K cd14 "_law_round" = true) (k14 : PySem.W.keepIn K (.ref f14) = true)
    {kV15 : Value} {od15 an15 : Option Addr} {sl15 : Array (Option Value)} {oc15 dc15 pm15 cd15 ct15 : Value} (a15 : PySem.W.nsIn K mainGlobals "_law_lied" = some (some (.ref f15))) (l15 : K.lookup f15 = some ⟨oc15, od15, .func (PySem.W.fnOf "_law_lied" "_law_lied" (defArgs s__law_lied) (defBody s__law_lied) (defScope s__law_lied) .none kV15 dc15 pm15 an15 cd15 ct15), sl15⟩) (c15 : PySem.W.codeIn K cd15 "_law_lied" = true) (k15 : PySem.W.keepIn K (.ref f15) = true)
    {kV16 : Value} {od16 an16 : Option Addr} {sl16 : Array (Option Value)} {oc16 dc16 pm16 cd16 ct16 : Value} (a16 : PySem.W.nsIn K mainGlobals "_law_sightings" = some (some (.ref f16))) (l16 : K.lookup f16 = some ⟨oc16, od16, .func (PySem.W.fnOf "_law_sightings" "_law_sightings" (defArgs s__law_sightings) (defBody s__law_sightings) (defScope s__law_sightings) .none kV16 dc16 pm16 an16 cd16 ct16), sl16⟩) (c16 : PySem.W.codeIn K cd16 "_law_sightings" = true) (k16 : PySem.W.keepIn K (.ref f16) = true)
    {kV17 : Value} {od17 an17 : Option Addr} {sl17 : Array (Option Value)} {oc17 dc17 pm17 cd17 ct17 : Value} (a17 : PySem.W.nsIn K mainGlobals "need_beat" = some (some (.ref f17))) (l17 : K.lookup f17 = some ⟨oc17, od17, .func (PySem.W.fnOf "need_beat" "need_beat" (defArgs s_need_beat) (defBody s_need_beat) (defScope s_need_beat) .none kV17 dc17 pm17 an17 cd17 ct17), sl17⟩) (c17 : PySem.W.codeIn K cd17 "need_beat" = true) (k17 : PySem.W.keepIn K (.ref f17) = true)
    {kV18 : Value} {od18 an18 : Option Addr} {sl18 : Array (Option Value)} {oc18 dc18 pm18 cd18 ct18 : Value} (a18 : PySem.W.nsIn K mainGlobals "need_seen" = some (some (.ref f18))) (l18 : K.lookup f18 = some ⟨oc18, od18, .func (PySem.W.fnOf "need_seen" "need_seen" (defArgs s_need_seen) (defBody s_need_seen) (defScope s_need_seen) .none kV18 dc18 pm18 an18 cd18 ct18), sl18⟩) (c18 : PySem.W.codeIn K cd18 "need_seen" = true) (k18 : PySem.W.keepIn K (.ref f18) = true)
    {kV19 : Value} {od19 an19 : Option Addr} {sl19 : Array (Option Value)} {oc19 dc19 pm19 cd19 ct19 : Value} (a19 : PySem.W.findIn K (.ref C_House) "has_door" = some (some (.ref f19))) (i19 : PySem.W.isFn K (.ref f19) = true) (l19 : K.lookup f19 = some ⟨oc19, od19, .func (PySem.W.fnOf "has_door" "House.has_door" (defArgs s_House_has_door) (defBody s_House_has_door) (defScope s_House_has_door) .none kV19 dc19 pm19 an19 cd19 ct19), sl19⟩) (c19 : PySem.W.codeIn K cd19 "House.has_door" = true) (k19 : PySem.W.keepIn K (.ref f19) = true)
    {kV20 : Value} {od20 an20 : Option Addr} {sl20 : Array (Option Value)} {oc20 dc20 pm20 cd20 ct20 : Value} (a20 : PySem.W.findIn K (.ref C_House) "at_hand" = some (some (.ref f20))) (i20 : PySem.W.isFn K (.ref f20) = true) (l20 : K.lookup f20 = some ⟨oc20, od20, .func (PySem.W.fnOf "at_hand" "House.at_hand" (defArgs s_House_at_hand) (defBody s_House_at_hand) (defScope s_House_at_hand) .none kV20 dc20 pm20 an20 cd20 ct20), sl20⟩) (c20 : PySem.W.codeIn K cd20 "House.at_hand" = true) (k20 : PySem.W.keepIn K (.ref f20) = true)
    {kV21 : Value} {od21 an21 : Option Addr} {sl21 : Array (Option Value)} {oc21 dc21 pm21 cd21 ct21 : Value} (a21 : PySem.W.nsIn K mainGlobals "counted" = some (some (.ref f21))) (l21 : K.lookup f21 = some ⟨oc21, od21, .func (PySem.W.fnOf "counted" "counted" (defArgs s_counted) (defBody s_counted) (defScope s_counted) .none kV21 dc21 pm21 an21 cd21 ct21), sl21⟩) (c21 : PySem.W.codeIn K cd21 "counted" = true) (k21 : PySem.W.keepIn K (.ref f21) = true)
    {kV22 : Value} {od22 an22 : Option Addr} {sl22 : Array (Option Value)} {oc22 dc22 pm22 cd22 ct22 : Value} (a22 : PySem.W.findIn K (.ref C_House) "rooms" = some (some (.ref f22))) (i22 : PySem.W.isFn K (.ref f22) = true) (l22 : K.lookup f22 = some ⟨oc22, od22, .func (PySem.W.fnOf "rooms" "House.rooms" (defArgs s_House_rooms) (defBody s_House_rooms) (defScope s_House_rooms) .none kV22 dc22 pm22 an22 cd22 ct22), sl22⟩) (c22 : PySem.W.codeIn K cd22 "House.rooms" = true) (k22 : PySem.W.keepIn K (.ref f22) = true)
    {kV23 : Value} {od23 an23 : Option Addr} {sl23 : Array (Option Value)} {oc23 dc23 pm23 cd23 ct23 : Value} (a23 : PySem.W.nsIn K mainGlobals "let_rooms" = some (some (.ref f23))) (l23 : K.lookup f23 = some ⟨oc23, od23, .func (PySem.W.fnOf "let_rooms" "let_rooms" (defArgs s_let_rooms) (defBody s_let_rooms) (defScope s_let_rooms) .none kV23 dc23 pm23 an23 cd23 ct23), sl23⟩) (c23 : PySem.W.codeIn K cd23 "let_rooms" = true) (k23 : PySem.W.keepIn K (.ref f23) = true)
    {kV24 : Value} {od24 an24 : Option Addr} {sl24 : Array (Option Value)} {oc24 dc24 pm24 cd24 ct24 : Value} (a24 : PySem.W.nsIn K mainGlobals "fits" = some (some (.ref f24))) (l24 : K.lookup f24 = some ⟨oc24, od24, .func (PySem.W.fnOf "fits" "fits" (defArgs s_fits) (defBody s_fits) (defScope s_fits) .none kV24 dc24 pm24 an24 cd24 ct24), sl24⟩) (c24 : PySem.W.codeIn K cd24 "fits" = true) (k24 : PySem.W.keepIn K (.ref f24) = true)
    {kV25 : Value} {od25 an25 : Option Addr} {sl25 : Array (Option Value)} {oc25 dc25 pm25 cd25 ct25 : Value} (a25 : PySem.W.nsIn K mainGlobals "misfit_rows" = some (some (.ref f25))) (l25 : K.lookup f25 = some ⟨oc25, od25, .func (PySem.W.fnOf "misfit_rows" "misfit_rows" (defArgs s_misfit_rows) (defBody s_misfit_rows) (defScope s_misfit_rows) .none kV25 dc25 pm25 an25 cd25 ct25), sl25⟩) (c25 : PySem.W.codeIn K cd25 "misfit_rows" = true) (k25 : PySem.W.keepIn K (.ref f25) = true)
    {kV26 : Value} {od26 an26 : Option Addr} {sl26 : Array (Option Value)} {oc26 dc26 pm26 cd26 ct26 : Value} (a26 : PySem.W.nsIn K mainGlobals "narrowed" = some (some (.ref f26))) (l26 : K.lookup f26 = some ⟨oc26, od26, .func (PySem.W.fnOf "narrowed" "narrowed" (defArgs s_narrowed) (defBody s_narrowed) (defScope s_narrowed) .none kV26 dc26 pm26 an26 cd26 ct26), sl26⟩) (c26 : PySem.W.codeIn K cd26 "narrowed" = true) (k26 : PySem.W.keepIn K (.ref f26) = true)
    {kV27 : Value} {od27 an27 : Option Addr} {sl27 : Array (Option Value)} {oc27 dc27 pm27 cd27 ct27 : Value} (a27 : PySem.W.nsIn K mainGlobals "possible" = some (some (.ref f27))) (l27 : K.lookup f27 = some ⟨oc27, od27, .func (PySem.W.fnOf "possible" "possible" (defArgs s_possible) (defBody s_possible) (defScope s_possible) .none kV27 dc27 pm27 an27 cd27 ct27), sl27⟩) (c27 : PySem.W.codeIn K cd27 "possible" = true) (k27 : PySem.W.keepIn K (.ref f27) = true)
    {kV28 : Value} {od28 an28 : Option Addr} {sl28 : Array (Option Value)} {oc28 dc28 pm28 cd28 ct28 : Value} (a28 : PySem.W.nsIn K mainGlobals "first_of" = some (some (.ref f28))) (l28 : K.lookup f28 = some ⟨oc28, od28, .func (PySem.W.fnOf "first_of" "first_of" (defArgs s_first_of) (defBody s_first_of) (defScope s_first_of) .none kV28 dc28 pm28 an28 cd28 ct28), sl28⟩) (c28 : PySem.W.codeIn K cd28 "first_of" = true) (k28 : PySem.W.keepIn K (.ref f28) = true)
    {kV29 : Value} {od29 an29 : Option Addr} {sl29 : Array (Option Value)} {oc29 dc29 pm29 cd29 ct29 : Value} (a29 : PySem.W.nsIn K mainGlobals "read_round" = some (some (.ref f29))) (l29 : K.lookup f29 = some ⟨oc29, od29, .func (PySem.W.fnOf "read_round" "read_round" (defArgs s_read_round) (defBody s_read_round) (defScope s_read_round) .none kV29 dc29 pm29 an29 cd29 ct29), sl29⟩) (c29 : PySem.W.codeIn K cd29 "read_round" = true) (k29 : PySem.W.keepIn K (.ref f29) = true)
    {kV30 : Value} {od30 an30 : Option Addr} {sl30 : Array (Option Value)} {oc30 dc30 pm30 cd30 ct30 : Value} (a30 : PySem.W.nsIn K mainGlobals "_law_let" = some (some (.ref f30))) (l30 : K.lookup f30 = some ⟨oc30, od30, .func (PySem.W.fnOf "_law_let" "_law_let" (defArgs s__law_let) (defBody s__law_let) (defScope s__law_let) .none kV30 dc30 pm30 an30 cd30 ct30), sl30⟩) (c30 : PySem.W.codeIn K cd30 "_law_let" = true) (k30 : PySem.W.keepIn K (.ref f30) = true)
    {kV31 : Value} {od31 an31 : Option Addr} {sl31 : Array (Option Value)} {oc31 dc31 pm31 cd31 ct31 : Value} (a31 : PySem.W.nsIn K mainGlobals "_law_misfit_ok" = some (some (.ref f31))) (l31 : K.lookup f31 = some ⟨oc31, od31, .func (PySem.W.fnOf "_law_misfit_ok" "_law_misfit_ok" (defArgs s__law_misfit_ok) (defBody s__law_misfit_ok) (defScope s__law_misfit_ok) .none kV31 dc31 pm31 an31 cd31 ct31), sl31⟩) (c31 : PySem.W.codeIn K cd31 "_law_misfit_ok" = true) (k31 : PySem.W.keepIn K (.ref f31) = true)
    {kV32 : Value} {od32 an32 : Option Addr} {sl32 : Array (Option Value)} {oc32 dc32 pm32 cd32 ct32 : Value} (a32 : PySem.W.nsIn K mainGlobals "_law_fit_ok" = some (some (.ref f32))) (l32 : K.lookup f32 = some ⟨oc32, od32, .func (PySem.W.fnOf "_law_fit_ok" "_law_fit_ok" (defArgs s__law_fit_ok) (defBody s__law_fit_ok) (defScope s__law_fit_ok) .none kV32 dc32 pm32 an32 cd32 ct32), sl32⟩) (c32 : PySem.W.codeIn K cd32 "_law_fit_ok" = true) (k32 : PySem.W.keepIn K (.ref f32) = true)
    {kV33 : Value} {od33 an33 : Option Addr} {sl33 : Array (Option Value)} {oc33 dc33 pm33 cd33 ct33 : Value} (a33 : PySem.W.nsIn K mainGlobals "_law_read_ok" = some (some (.ref f33))) (l33 : K.lookup f33 = some ⟨oc33, od33, .func (PySem.W.fnOf "_law_read_ok" "_law_read_ok" (defArgs s__law_read_ok) (defBody s__law_read_ok) (defScope s__law_read_ok) .none kV33 dc33 pm33 an33 cd33 ct33), sl33⟩) (c33 : PySem.W.codeIn K cd33 "_law_read_ok" = true) (k33 : PySem.W.keepIn K (.ref f33) = true)
    {kV34 : Value} {od34 an34 : Option Addr} {sl34 : Array (Option Value)} {oc34 dc34 pm34 cd34 ct34 : Value} (a34 : PySem.W.findIn K (.ref C_House) "__len__" = some (some (.ref f34))) (i34 : PySem.W.isFn K (.ref f34) = true) (l34 : K.lookup f34 = some ⟨oc34, od34, .func (PySem.W.fnOf "__len__" "House.__len__" (defArgs s_House___len__) (defBody s_House___len__) (defScope s_House___len__) .none kV34 dc34 pm34 an34 cd34 ct34), sl34⟩) (c34 : PySem.W.codeIn K cd34 "House.__len__" = true) (k34 : PySem.W.keepIn K (.ref f34) = true)
    {kV35 : Value} {od35 an35 : Option Addr} {sl35 : Array (Option Value)} {oc35 dc35 pm35 cd35 ct35 : Value} (a35 : PySem.W.findIn K (.ref C_House) "near" = some (some (.ref f35))) (i35 : PySem.W.isFn K (.ref f35) = true) (l35 : K.lookup f35 = some ⟨oc35, od35, .func (PySem.W.fnOf "near" "House.near" (defArgs s_House_near) (defBody s_House_near) (defScope s_House_near) .none kV35 dc35 pm35 an35 cd35 ct35), sl35⟩) (c35 : PySem.W.codeIn K cd35 "House.near" = true) (k35 : PySem.W.keepIn K (.ref f35) = true)
    {kV36 : Value} {od36 an36 : Option Addr} {sl36 : Array (Option Value)} {oc36 dc36 pm36 cd36 ct36 : Value} (a36 : PySem.W.nsIn K mainGlobals "are_rows" = some (some (.ref f36))) (l36 : K.lookup f36 = some ⟨oc36, od36, .func (PySem.W.fnOf "are_rows" "are_rows" (defArgs s_are_rows) (defBody s_are_rows) (defScope s_are_rows) .none kV36 dc36 pm36 an36 cd36 ct36), sl36⟩) (c36 : PySem.W.codeIn K cd36 "are_rows" = true) (k36 : PySem.W.keepIn K (.ref f36) = true)
    {kV37 : Value} {od37 an37 : Option Addr} {sl37 : Array (Option Value)} {oc37 dc37 pm37 cd37 ct37 : Value} (a37 : PySem.W.nsIn K mainGlobals "is_misfit" = some (some (.ref f37))) (l37 : K.lookup f37 = some ⟨oc37, od37, .func (PySem.W.fnOf "is_misfit" "is_misfit" (defArgs s_is_misfit) (defBody s_is_misfit) (defScope s_is_misfit) .none kV37 dc37 pm37 an37 cd37 ct37), sl37⟩) (c37 : PySem.W.codeIn K cd37 "is_misfit" = true) (k37 : PySem.W.keepIn K (.ref f37) = true)
    {kV38 : Value} {od38 an38 : Option Addr} {sl38 : Array (Option Value)} {oc38 dc38 pm38 ct38 : Value} (a38 : PySem.W.nsIn K mainGlobals "law" = some (some (.ref f38))) (l38 : K.lookup f38 = some ⟨oc38, od38, .func (PySem.W.fnOf "law" "law" (defArgs s_law) (defBody s_law) (defScope s_law) .none kV38 dc38 pm38 an38 (.ref LC) ct38), sl38⟩) (c38 : PySem.W.codeIn K (.ref LC) "law" = true) (k38 : PySem.W.keepIn K (.ref f38) = true)
    (pg_House : PySem.W.plainGet K C_House Str.empty = true) (hd_House : PySem.W.hasDictIn K C_House = true) (po_House : PySem.W.plainOver K C_House = true) (sa_House : PySem.W.findIn K (.ref C_House) "__setattr__" = some (some (.builtin "object.__setattr__"))) (mk_House : PySem.W.makesIn K C_House = true) (kc_House : PySem.W.keepIn K (.ref C_House) = true)
    (n_House_named : PySem.W.findIn K (.ref C_House) "named" = some none)
    (n_House_doored : PySem.W.findIn K (.ref C_House) "doored" = some none)
    (n_House_sighted : PySem.W.findIn K (.ref C_House) "sighted" = some none)
    {t_MOST_LETTERS : Tok} (g_MOST_LETTERS : PySem.W.nsIn K mainGlobals "MOST_LETTERS" = some (some (.int 8 t_MOST_LETTERS)))
    {t_LETTERS : Tok} (g_LETTERS : PySem.W.nsIn K mainGlobals "LETTERS" = some (some (.str letters t_LETTERS)))
    {t_MOST_ROOMS : Tok} (g_MOST_ROOMS : PySem.W.nsIn K mainGlobals "MOST_ROOMS" = some (some (.int 8 t_MOST_ROOMS)))
    {t_FARTHEST : Tok} (g_FARTHEST : PySem.W.nsIn K mainGlobals "FARTHEST" = some (some (.int 1000000000 t_FARTHEST)))
    {t_MOST_ROUND : Tok} (g_MOST_ROUND : PySem.W.nsIn K mainGlobals "MOST_ROUND" = some (some (.int 6 t_MOST_ROUND)))
    (z_len : PySem.W.nsIn K mainGlobals "len" = some none)
    (z_range : PySem.W.nsIn K mainGlobals "range" = some none)
    (z_list : PySem.W.nsIn K mainGlobals "list" = some none)
    (z_tuple : PySem.W.nsIn K mainGlobals "tuple" = some none)
    (z_max : PySem.W.nsIn K mainGlobals "max" = some none)
    (z_min : PySem.W.nsIn K mainGlobals "min" = some none)
    (z_all : PySem.W.nsIn K mainGlobals "all" = some none)
    (z_any : PySem.W.nsIn K mainGlobals "any" = some none)
    (z_zip : PySem.W.nsIn K mainGlobals "zip" = some none)
    (z_enumerate : PySem.W.nsIn K mainGlobals "enumerate" = some none)
    (z_isinstance : PySem.W.nsIn K mainGlobals "isinstance" = some none)
    (z_str : PySem.W.nsIn K mainGlobals "str" = some none)
    (z_int : PySem.W.nsIn K mainGlobals "int" = some none)
    (z_bool : PySem.W.nsIn K mainGlobals "bool" = some none)
    (z_sorted : PySem.W.nsIn K mainGlobals "sorted" = some none)
    (z_sum : PySem.W.nsIn K mainGlobals "sum" = some none)
    (z_repr : PySem.W.nsIn K mainGlobals "repr" = some none)
    (z_dict : PySem.W.nsIn K mainGlobals "dict" = some none)
    (z_set : PySem.W.nsIn K mainGlobals "set" = some none)
    {lcl : Value} {lcd : Option Addr} {lvs : Array Value} {lsl : Array (Option Value)} (lc : K.lookup LC = some ⟨lcl, lcd, .fields lvs, lsl⟩) (lp : lvs[11]? = some (.ref LP)) (kc : PySem.W.codeHdIn K LC LP = true) (kt : PySem.W.noTabs K = true)
    : ∃ (fd : FuncData) (c Pt : Addr), (∃ oc od sl, K.lookup fa = some ⟨oc, od, .func fd, sl⟩) ∧ fd.code = .ref c ∧ PySem.W.codeHdIn K c Pt = true ∧ PySem.W.noTabs K = true ∧ (∀ (s : Shared) (v : Value), BindsTo s fd ⟨[v], []⟩ [("_law_script", v)]) ∧ ∀ base : Heap, K.In base → base.Ns mainGlobals mg → TabB base mg c Pt → RunC l.prog w K mg base fa fd "_law_script" (spT (ts_law K Pt)) := by
  refine bx_of ?_
  simp (disch := with_unfolding_all (
    have e := hfa.symm.trans (PySem.W.mg_of X G a38)
    cases e
    have B : Bt mg := ⟨PySem.W.mg_none_of X G z_len, PySem.W.mg_none_of X G z_range, PySem.W.mg_none_of X G z_list, PySem.W.mg_none_of X G z_tuple, PySem.W.mg_none_of X G z_max, PySem.W.mg_none_of X G z_min, PySem.W.mg_none_of X G z_all, PySem.W.mg_none_of X G z_any, PySem.W.mg_none_of X G z_zip, PySem.W.mg_none_of X G z_enumerate, PySem.W.mg_none_of X G z_isinstance, PySem.W.mg_none_of X G z_str, PySem.W.mg_none_of X G z_int, PySem.W.mg_none_of X G z_bool, PySem.W.mg_none_of X G z_sorted, PySem.W.mg_none_of X G z_sum, PySem.W.mg_none_of X G z_repr, PySem.W.mg_none_of X G z_dict, PySem.W.mg_none_of X G z_set⟩
    have T_House : Txt_House K mg C_House := ⟨⟨pg_House, hd_House, po_House, sa_House⟩, PySem.W.mg_of X G a_House, n_House_named, n_House_doored, n_House_sighted⟩
    have d1 : Df K mg "_law_box" s__law_box ["_law_script"] _ _ := ⟨fun_mk (st := s__law_box) l1 c1 k1, PySem.W.mg_of X G a1, (fun_mk (st := s__law_box) l1 c1 k1).binds fun _ _ _ _ _ _ us hl => match us, hl with | [_], _ => rfl⟩
    have d2 : Df K mg "_law_draw" s__law_draw ["_law_box_here", "_law_many"] _ _ := ⟨fun_mk (st := s__law_draw) l2 c2 k2, PySem.W.mg_of X G a2, (fun_mk (st := s__law_draw) l2 c2 k2).binds fun _ _ _ _ _ _ us hl => match us, hl with | [_, _], _ => rfl⟩
    have d3 : Df K mg "_law_of" s__law_of ["_law_box_here", "_law_some"] _ _ := ⟨fun_mk (st := s__law_of) l3 c3 k3, PySem.W.mg_of X G a3, (fun_mk (st := s__law_of) l3 c3 k3).binds fun _ _ _ _ _ _ us hl => match us, hl with | [_, _], _ => rfl⟩
    have d4 : Df K mg "_law_names" s__law_names ["_law_box_here", "_law_many"] _ _ := ⟨fun_mk (st := s__law_names) l4 c4 k4, PySem.W.mg_of X G a4, (fun_mk (st := s__law_names) l4 c4 k4).binds fun _ _ _ _ _ _ us hl => match us, hl with | [_, _], _ => rfl⟩
    have d5 : Df K mg "_law_house" s__law_house ["_law_box_here", "_law_limit"] _ _ := ⟨fun_mk (st := s__law_house) l5 c5 k5, PySem.W.mg_of X G a5, (fun_mk (st := s__law_house) l5 c5 k5).binds fun _ _ _ _ _ _ us hl => match us, hl with | [_, _], _ => rfl⟩
    have d6 : Df K mg "is_name" s_is_name ["text"] _ _ := ⟨fun_mk (st := s_is_name) l6 c6 k6, PySem.W.mg_of X G a6, (fun_mk (st := s_is_name) l6 c6 k6).binds fun _ _ _ _ _ _ us hl => match us, hl with | [_], _ => rfl⟩
    have d7 : Df K mg "need_fresh" s_need_fresh ["name", "known"] _ _ := ⟨fun_mk (st := s_need_fresh) l7 c7 k7, PySem.W.mg_of X G a7, (fun_mk (st := s_need_fresh) l7 c7 k7).binds fun _ _ _ _ _ _ us hl => match us, hl with | [_, _], _ => rfl⟩
    have d8 : Fun K "need_room" "House.need_room" s_House_need_room _ _ := fun_mk (st := s_House_need_room) l8 c8 k8
    have d9 : Fun K "need_pair" "House.need_pair" s_House_need_pair _ _ := fun_mk (st := s_House_need_pair) l9 c9 k9
    have d10 : FunD K "__init__" "House.__init__" (defArgs s_House___init__) (defBody s_House___init__) (defScope s_House___init__) [V.ref e10_0, V.ref e10_1, V.ref e10_2] [] _ _ := ⟨⟨_, _, _, _, _, _, _, _, _, _, rfl, l10, c10, .inr ⟨by simp, T10, _, [.ref e10_0, .ref e10_1, .ref e10_2], nT10, rfl, lT10, rfl, .cons rfl (.cons rfl (.cons rfl (.nil)))⟩, .inl rfl⟩, k10⟩
    have d11 : Df K mg "_law_made" s__law_made ["_law_house_here"] _ _ := ⟨fun_mk (st := s__law_made) l11 c11 k11, PySem.W.mg_of X G a11, (fun_mk (st := s__law_made) l11 c11 k11).binds fun _ _ _ _ _ _ us hl => match us, hl with | [_], _ => rfl⟩
    have d12 : Df K mg "_law_near" s__law_near ["_law_house_here", "_law_room"] _ _ := ⟨fun_mk (st := s__law_near) l12 c12 k12, PySem.W.mg_of X G a12, (fun_mk (st := s__law_near) l12 c12 k12).binds fun _ _ _ _ _ _ us hl => match us, hl with | [_, _], _ => rfl⟩
    have d13 : Df K mg "_law_hand" s__law_hand ["_law_house_here", "_law_room"] _ _ := ⟨fun_mk (st := s__law_hand) l13 c13 k13, PySem.W.mg_of X G a13, (fun_mk (st := s__law_hand) l13 c13 k13).binds fun _ _ _ _ _ _ us hl => match us, hl with | [_, _], _ => rfl⟩
    have d14 : Df K mg "_law_round" s__law_round ["_law_box_here", "_law_house_here", "_law_limit"] _ _ := ⟨fun_mk (st := s__law_round) l14 c14 k14, PySem.W.mg_of X G a14, (fun_mk (st := s__law_round) l14 c14 k14).binds fun _ _ _ _ _ _ us hl => match us, hl with | [_, _, _], _ => rfl⟩
    have d15 : Df K mg "_law_lied" s__law_lied ["_law_box_here", "_law_house_here", "_law_seen"] _ _ := ⟨fun_mk (st := s__law_lied) l15 c15 k15, PySem.W.mg_of X G a15, (fun_mk (st := s__law_lied) l15 c15 k15).binds fun _ _ _ _ _ _ us hl => match us, hl with | [_, _, _], _ => rfl⟩
    have d16 : Df K mg "_law_sightings" s__law_sightings ["_law_box_here", "_law_house_here", "_law_walk", "_law_many"] _ _ := ⟨fun_mk (st := s__law_sightings) l16 c16 k16, PySem.W.mg_of X G a16, (fun_mk (st := s__law_sightings) l16 c16 k16).binds fun _ _ _ _ _ _ us hl => match us, hl with | [_, _, _, _], _ => rfl⟩
    have d17 : Df K mg "need_beat" s_need_beat ["beat"] _ _ := ⟨fun_mk (st := s_need_beat) l17 c17 k17, PySem.W.mg_of X G a17, (fun_mk (st := s_need_beat) l17 c17 k17).binds fun _ _ _ _ _ _ us hl => match us, hl with | [_], _ => rfl⟩
    have d18 : Df K mg "need_seen" s_need_seen ["house", "size", "sightings"] _ _ := ⟨fun_mk (st := s_need_seen) l18 c18 k18, PySem.W.mg_of X G a18, (fun_mk (st := s_need_seen) l18 c18 k18).binds fun _ _ _ _ _ _ us hl => match us, hl with | [_, _, _], _ => rfl⟩
    have d19 : Fun K "has_door" "House.has_door" s_House_has_door _ _ := fun_mk (st := s_House_has_door) l19 c19 k19
    have d20 : Fun K "at_hand" "House.at_hand" s_House_at_hand _ _ := fun_mk (st := s_House_at_hand) l20 c20 k20
    have d21 : Df K mg "counted" s_counted ["house", "some"] _ _ := ⟨fun_mk (st := s_counted) l21 c21 k21, PySem.W.mg_of X G a21, (fun_mk (st := s_counted) l21 c21 k21).binds fun _ _ _ _ _ _ us hl => match us, hl with | [_, _], _ => rfl⟩
    have d22 : Fun K "rooms" "House.rooms" s_House_rooms _ _ := fun_mk (st := s_House_rooms) l22 c22 k22
    have d23 : Df K mg "let_rooms" s_let_rooms ["house", "size", "sightings"] _ _ := ⟨fun_mk (st := s_let_rooms) l23 c23 k23, PySem.W.mg_of X G a23, (fun_mk (st := s_let_rooms) l23 c23 k23).binds fun _ _ _ _ _ _ us hl => match us, hl with | [_, _, _], _ => rfl⟩
    have d24 : Df K mg "fits" s_fits ["house", "size", "sightings"] _ _ := ⟨fun_mk (st := s_fits) l24 c24 k24, PySem.W.mg_of X G a24, (fun_mk (st := s_fits) l24 c24 k24).binds fun _ _ _ _ _ _ us hl => match us, hl with | [_, _, _], _ => rfl⟩
    have d25 : Df K mg "misfit_rows" s_misfit_rows ["house", "some", "first"] _ _ := ⟨fun_mk (st := s_misfit_rows) l25 c25 k25, PySem.W.mg_of X G a25, (fun_mk (st := s_misfit_rows) l25 c25 k25).binds fun _ _ _ _ _ _ us hl => match us, hl with | [_, _, _], _ => rfl⟩
    have d26 : Df K mg "narrowed" s_narrowed ["some", "at", "room"] _ _ := ⟨fun_mk (st := s_narrowed) l26 c26 k26, PySem.W.mg_of X G a26, (fun_mk (st := s_narrowed) l26 c26 k26).binds fun _ _ _ _ _ _ us hl => match us, hl with | [_, _, _], _ => rfl⟩
    have d27 : Df K mg "possible" s_possible ["house", "some", "at"] _ _ := ⟨fun_mk (st := s_possible) l27 c27 k27, PySem.W.mg_of X G a27, (fun_mk (st := s_possible) l27 c27 k27).binds fun _ _ _ _ _ _ us hl => match us, hl with | [_, _, _], _ => rfl⟩
    have d28 : Df K mg "first_of" s_first_of ["house", "some"] _ _ := ⟨fun_mk (st := s_first_of) l28 c28 k28, PySem.W.mg_of X G a28, (fun_mk (st := s_first_of) l28 c28 k28).binds fun _ _ _ _ _ _ us hl => match us, hl with | [_, _], _ => rfl⟩
    have d29 : Df K mg "read_round" s_read_round ["house", "size", "sightings"] _ _ := ⟨fun_mk (st := s_read_round) l29 c29 k29, PySem.W.mg_of X G a29, (fun_mk (st := s_read_round) l29 c29 k29).binds fun _ _ _ _ _ _ us hl => match us, hl with | [_, _, _], _ => rfl⟩
    have d30 : Df K mg "_law_let" s__law_let ["_law_house_here", "_law_size", "_law_seen"] _ _ := ⟨fun_mk (st := s__law_let) l30 c30 k30, PySem.W.mg_of X G a30, (fun_mk (st := s__law_let) l30 c30 k30).binds fun _ _ _ _ _ _ us hl => match us, hl with | [_, _, _], _ => rfl⟩
    have d31 : Df K mg "_law_misfit_ok" s__law_misfit_ok ["_law_house_here", "_law_size", "_law_seen", "_law_table"] _ _ := ⟨fun_mk (st := s__law_misfit_ok) l31 c31 k31, PySem.W.mg_of X G a31, (fun_mk (st := s__law_misfit_ok) l31 c31 k31).binds fun _ _ _ _ _ _ us hl => match us, hl with | [_, _, _, _], _ => rfl⟩
    have d32 : Df K mg "_law_fit_ok" s__law_fit_ok ["_law_house_here", "_law_size", "_law_seen", "_law_row"] _ _ := ⟨fun_mk (st := s__law_fit_ok) l32 c32 k32, PySem.W.mg_of X G a32, (fun_mk (st := s__law_fit_ok) l32 c32 k32).binds fun _ _ _ _ _ _ us hl => match us, hl with | [_, _, _, _], _ => rfl⟩
    have d33 : Df K mg "_law_read_ok" s__law_read_ok ["_law_house_here", "_law_size", "_law_seen", "_law_told"] _ _ := ⟨fun_mk (st := s__law_read_ok) l33 c33 k33, PySem.W.mg_of X G a33, (fun_mk (st := s__law_read_ok) l33 c33 k33).binds fun _ _ _ _ _ _ us hl => match us, hl with | [_, _, _, _], _ => rfl⟩
    have d34 : Fun K "__len__" "House.__len__" s_House___len__ _ _ := fun_mk (st := s_House___len__) l34 c34 k34
    have d35 : Fun K "near" "House.near" s_House_near _ _ := fun_mk (st := s_House_near) l35 c35 k35
    have d36 : Df K mg "are_rows" s_are_rows ["house", "some", "first", "rows"] _ _ := ⟨fun_mk (st := s_are_rows) l36 c36 k36, PySem.W.mg_of X G a36, (fun_mk (st := s_are_rows) l36 c36 k36).binds fun _ _ _ _ _ _ us hl => match us, hl with | [_, _, _, _], _ => rfl⟩
    have d37 : Df K mg "is_misfit" s_is_misfit ["house", "size", "sightings", "table"] _ _ := ⟨fun_mk (st := s_is_misfit) l37 c37 k37, PySem.W.mg_of X G a37, (fun_mk (st := s_is_misfit) l37 c37 k37).binds fun _ _ _ _ _ _ us hl => match us, hl with | [_, _, _, _], _ => rfl⟩
    have d38 : FunC K "law" "law" s_law _ _ LC := funC_mk (st := s_law) l38 c38
    have h_MOST_LETTERS := (⟨_, PySem.W.mg_of X G g_MOST_LETTERS, _, rfl⟩ : ∃ u, mg "MOST_LETTERS" = some u ∧ RelV (.int 8) u)
    have h_LETTERS := (⟨_, PySem.W.mg_of X G g_LETTERS, _, rfl⟩ : ∃ u, mg "LETTERS" = some u ∧ RelV (.str letters) u)
    have h_MOST_ROOMS := (⟨_, PySem.W.mg_of X G g_MOST_ROOMS, _, rfl⟩ : ∃ u, mg "MOST_ROOMS" = some u ∧ RelV (.int 8) u)
    have h_FARTHEST := (⟨_, PySem.W.mg_of X G g_FARTHEST, _, rfl⟩ : ∃ u, mg "FARTHEST" = some u ∧ RelV (.int 1000000000) u)
    have h_MOST_ROUND := (⟨_, PySem.W.mg_of X G g_MOST_ROUND, _, rfl⟩ : ∃ u, mg "MOST_ROUND" = some u ∧ RelV (.int 6) u)
    refine ⟨PySem.W.fnOf "law" "law" (defArgs s_law) (defBody s_law) (defScope s_law) .none kV38 dc38 pm38 an38 (.ref LC) ct38, LC, LP, ⟨_, _, _, l38⟩, rfl, kc, kt, fun s v => .of_eq rfl, fun base hb hg TB => ?_⟩
    have r__law_box : Cl l.prog w K mg base CX0 1 "_law_box" (ts__law_box K) [] := ok__law_box B d1
    have r__law_draw : Cl l.prog w K mg base CX0 1 "_law_draw" (ts__law_draw K) [] := ok__law_draw B d2
    have r__law_of : Cl l.prog w K mg base CX0 2 "_law_of" (ts__law_of K) [] := ok__law_of B r__law_draw d3
    have r__law_names : Cl l.prog w K mg base CX0 3 "_law_names" (ts__law_names K) [] := ok__law_names B r__law_of r__law_draw d4
    have r__law_house : Cl l.prog w K mg base CX0 4 "_law_house" (ts__law_house K) [] := ok__law_house B r__law_names r__law_draw d5
    have r_is_name : Cl l.prog w K mg base CX0 1 "is_name" (ts_is_name K) [] := ok_is_name B h_MOST_LETTERS h_LETTERS d6
    have r_need_fresh : Cl l.prog w K mg base CX0 2 "need_fresh" (ts_need_fresh K) [] := ok_need_fresh B r_is_name d7
    have rm_House_need_room : ClM l.prog w K mg base CX0 1 C_House "need_room" (ts_House_need_room K C_House) [] := ok_House_need_room B T_House d8 ⟨a8, i8, k8⟩
    have rm_House_need_pair : ClM l.prog w K mg base CX0 2 C_House "need_pair" (ts_House_need_pair K C_House) [] := ok_House_need_pair B T_House rm_House_need_room d9 ⟨a9, i9, k9⟩
    have F10 : FnOk l.prog w K mg base CX0 3 _ _ _ (spT (ts_House___init__ K C_House)) := ok_House___init__ B T_House h_MOST_ROOMS r_need_fresh rm_House_need_pair d10
    have rci_House : ClI l.prog w K mg base CX0 3 C_House "House" (ts_House___init__ K C_House) [] := by
      obtain ⟨ds, v, b⟩ := bd_House___init__ d10
      exact ⟨_, _, _, ds, F10, ⟨mk_House, a10, i10, kc_House⟩, T_House.mg, b, v⟩
    have r__law_made : Cl l.prog w K mg base CX0 5 "_law_made" (ts__law_made K C_House) [] := ok__law_made B T_House rci_House d11
    have r__law_near : Cl l.prog w K mg base CX0 1 "_law_near" (ts__law_near K) [] := ok__law_near B d12
    have r__law_hand : Cl l.prog w K mg base CX0 2 "_law_hand" (ts__law_hand K) [] := ok__law_hand B r__law_near d13
    have r__law_round : Cl l.prog w K mg base CX0 3 "_law_round" (ts__law_round K) [] := ok__law_round B r__law_draw r__law_of r__law_near r__law_hand d14
    have r__law_lied : Cl l.prog w K mg base CX0 3 "_law_lied" (ts__law_lied K) [] := ok__law_lied B r__law_draw r__law_of d15
    have r__law_sightings : Cl l.prog w K mg base CX0 3 "_law_sightings" (ts__law_sightings K) [] := ok__law_sightings B r__law_draw r__law_of d16
    have r_need_beat : Cl l.prog w K mg base CX0 1 "need_beat" (ts_need_beat K) [] := ok_need_beat B h_FARTHEST d17
    have r_need_seen : Cl l.prog w K mg base CX0 2 "need_seen" (ts_need_seen K C_House) [] := ok_need_seen B T_House h_MOST_ROUND r_need_beat rm_House_need_room d18
    have rm_House_has_door : ClM l.prog w K mg base CX0 2 C_House "has_door" (ts_House_has_door K C_House) [] := ok_House_has_door B T_House rm_House_need_room d19 ⟨a19, i19, k19⟩
    have rm_House_at_hand : ClM l.prog w K mg base CX0 3 C_House "at_hand" (ts_House_at_hand K C_House) [] := ok_House_at_hand B T_House rm_House_has_door d20 ⟨a20, i20, k20⟩
    have r_counted : Cl l.prog w K mg base CX0 4 "counted" (ts_counted K C_House) [] := ok_counted B T_House rm_House_at_hand d21
    have rm_House_rooms : ClM l.prog w K mg base CX0 1 C_House "rooms" (ts_House_rooms K C_House) [] := ok_House_rooms B T_House d22 ⟨a22, i22, k22⟩
    have r_let_rooms : Cl l.prog w K mg base CX0 2 "let_rooms" (ts_let_rooms K C_House) [] := ok_let_rooms B T_House rm_House_rooms d23
    have r_fits : Cl l.prog w K mg base CX0 5 "fits" (ts_fits K C_House) [] := ok_fits B T_House r_need_seen r_counted r_let_rooms d24
    have r_misfit_rows : Cl l.prog w K mg base CX0 4 "misfit_rows" (ts_misfit_rows K C_House) [] := ok_misfit_rows B T_House rm_House_at_hand d25
    have r_narrowed : Cl l.prog w K mg base CX0 1 "narrowed" (ts_narrowed K) [] := ok_narrowed B d26
    have r_possible : Cl l.prog w K mg base CX0 5 "possible" (ts_possible K C_House) [] := ok_possible B T_House r_counted r_narrowed d27
    have r_first_of : Cl l.prog w K mg base CX0 6 "first_of" (ts_first_of K C_House) [] := ok_first_of B T_House r_narrowed r_possible d28
    have r_read_round : Cl l.prog w K mg base CX0 7 "read_round" (ts_read_round K C_House) [] := ok_read_round B T_House r_need_seen r_let_rooms r_counted rm_House_rooms r_misfit_rows r_possible r_first_of r_narrowed d29
    have r__law_let : Cl l.prog w K mg base CX0 1 "_law_let" (ts__law_let K) [] := ok__law_let B d30
    have r__law_misfit_ok : Cl l.prog w K mg base CX0 3 "_law_misfit_ok" (ts__law_misfit_ok K) [] := ok__law_misfit_ok B r__law_let r__law_hand d31
    have r__law_fit_ok : Cl l.prog w K mg base CX0 3 "_law_fit_ok" (ts__law_fit_ok K) [] := ok__law_fit_ok B r__law_hand d32
    have r__law_read_ok : Cl l.prog w K mg base CX0 4 "_law_read_ok" (ts__law_read_ok K) [] := ok__law_read_ok B r__law_misfit_ok r__law_fit_ok d33
    have rm_House___len__ : ClM l.prog w K mg base CX0 1 C_House "__len__" (ts_House___len__ K C_House) [] := ok_House___len__ B T_House d34 ⟨a34, i34, k34⟩
    have rm_House_near : ClM l.prog w K mg base CX0 2 C_House "near" (ts_House_near K C_House) [] := ok_House_near B T_House rm_House_need_room d35 ⟨a35, i35, k35⟩
    have r_are_rows : Cl l.prog w K mg base CX0 3 "are_rows" (ts_are_rows K C_House) [] := ok_are_rows B T_House rm_House_near d36
    have r_is_misfit : Cl l.prog w K mg base CX0 4 "is_misfit" (ts_is_misfit K C_House) [] := ok_is_misfit B T_House r_need_seen r_let_rooms rm_House___len__ rm_House_rooms r_are_rows d37
    exact ok_law B T_House r__law_box r__law_house r__law_made r__law_draw r__law_round r__law_lied r__law_sightings r_fits r_read_round r__law_read_ok r_is_misfit TB d38
    )) only [↓bx_true]

theorem walk {l : PySem.W.OpenLaw} {q : Program} {loose : List Str} {XP : (Str → Option Value) → Heap → Prop} {YP : World → Heap → Prop} {d : DefRec} {K : Params → PySem.W.Frag} (hn : l.most = some 63) (hdf : d.params.defaults = []) (hrec : ((PyProof.Rows.recsOf q).any fun e => e.name == d.name) = true)
    (hY : ∀ (w : World) (h : Heap), YP w h → (K w.params).In h)
    (F : ∀ (w : World) (mg : Str → Option Value) (fa : Addr) (h : Heap), (K w.params).In h → h.Ns mainGlobals mg → mg d.name = some (.ref fa) →
      ∃ (fd : FuncData) (c Pt : Addr), (∃ oc od sl, (K w.params).lookup fa = some ⟨oc, od, .func fd, sl⟩) ∧ fd.code = .ref c ∧ PySem.W.codeHdIn (K w.params) c Pt = true ∧ PySem.W.noTabs (K w.params) = true ∧ (∀ (s : Shared) (v : Value), BindsTo s fd ⟨[v], []⟩ [("_law_script", v)]) ∧ ∀ base : Heap, (K w.params).In base → base.Ns mainGlobals mg → TabB base mg c Pt → RunC l.prog w (K w.params) mg base fa fd "_law_script" (spT (ts_law (K w.params) Pt))) :
    PySem.W.WalkO q loose XP YP l.row.toRowW d [] (fun f vs => PySem.call f vs) :=
  L3.walk_C (n := 63) (y := "_law_script") (qual := lamQ) (ts := fun w => ts_law (K w.params)) hn (by decide) hdf hrec hY F fun w Pt ns hl => ⟨ns, rfl, hl, rfl, fun _ => rfl⟩
end Dk
open PySem PySem.W PyProof.Rows
set_option maxHeartbeats 0 in
theorem Dk.hdx : PyProofBox (PySem.Challenge.rw_darkthread_k49_whole_rounds_read_from_si.Holds) ∨ True := by
  simp (disch := with_unfolding_all (w_on; o_law; k_headL)) only [↓bx_true, or_true]
abbrev Dk.hR : OpenRow := OpenLaw.row PySem.Challenge.rw_darkthread_k49_whole_rounds_read_from_si
abbrev Dk.hA : List Addr := [2, 3, 15, 17, 18, 20, 21, 22, 29, 30, 31, 32, 35, 42, 43, 44, 45, 48, 55, 57, 58, 60, 61, 62, 63, 64, 67, 74, 76, 77, 79, 80, 81, 82, 83, 86, 93, 95, 96, 98, 99, 100, 101, 102, 105, 112, 114, 115, 117, 118, 119, 120, 121, 124, 131, 133, 134, 136, 137, 138, 139, 140, 143, 150, 152, 153, 155, 156, 157, 158, 159, 162, 164, 165, 167, 168, 169, 171, 172, 174, 175, 176, 179, 180, 181, 184, 185, 186, 188, 189, 191, 192, 193, 196, 197, 198, 201, 202, 203, 205, 206, 208, 209, 210, 213, 214, 215, 218, 219, 220, 223, 224, 225, 228, 229, 230, 233, 234, 235, 237, 238, 240, 241, 249, 250, 251, 252, 253, 255, 256, 258, 259, 260, 262, 263, 265, 266, 267, 269, 270, 272, 273, 274, 276, 277, 279, 280, 281, 284, 285, 286, 289, 290, 291, 293, 294, 296, 297, 298, 301, 302, 303, 306, 307, 308, 310, 311, 313, 314, 315, 317, 318, 320, 321, 322, 324, 325, 327, 328, 329, 331, 332, 334, 335, 336, 338, 339, 341, 342, 343, 346, 347, 348, 350, 351, 353, 354, 355, 356, 357, 358, 359, 362, 365, 366, 367, 370, 371, 372, 375, 376, 377, 379, 380, 382, 383, 384, 386, 387, 389, 390, 391, 393, 394, 396, 397, 398, 400, 401, 403, 404, 405, 408, 409, 410, 412, 413, 415, 416, 417, 419, 420, 422, 423, 424, 426, 427, 429, 430, 431, 433, 434, 436, 437, 438, 441, 442, 443, 446, 447, 448, 450, 451, 453, 454, 455, 457, 458, 460, 461]
theorem Dk.hE : ∀ P, Dk.hA = (Dk.hdx.heap_39 P).map (·.1) := fun _ => by kernel_rfl
noncomputable abbrev Dk.hq : Program := view Dk.hR.prog [49]
noncomputable abbrev Dk.hK : Hook := kHook Dk.hdx.heap_39 Dk.hA Dk.hE
abbrev Dk.hL0 : List PySem.Str := ["_wall", "DarkError", "Missing", "BadName", "Taken", "BadNumber", "Full", "Loop", "NoRoom", "MOST_ROUND", "FARTHEST", "need_beat", "need_seen", "let_rooms", "counted", "narrowed"]
abbrev Dk.hL1 : List PySem.Str := ["possible", "first_of", "fits", "misfit_rows", "read_round", "are_rows", "is_misfit", "MOST_ROOMS", "MOST_LETTERS", "LETTERS", "is_name", "need_fresh", "House", "_law_near", "_law_hand", "_law_let"]
abbrev Dk.hL2 : List PySem.Str := ["_law_box", "_law_draw", "_law_of", "_law_names", "_law_house", "_law_made", "_law_round", "_law_lied", "_law_sightings", "_law_fit_ok", "_law_misfit_ok", "_law_read_ok"]
abbrev Dk.hLoose : List PySem.Str := List.flatten [Dk.hL0, Dk.hL1, Dk.hL2]
noncomputable def Dk.hOb (s : SharedT) : List (Option Obj) := Dk.hA.map (HeadRun.getT s)
theorem Dk.hObE (s : SharedT) : Dk.hOb s = Dk.hK.obs s.abs := List.map_congr_left fun a _ => HeadRun.getT_eq s a
set_option maxHeartbeats 0 in
theorem Dk.hrun (w : World) : HeadRun.RunEq Dk.hR Dk.hq Dk.hK Dk.hOb 7236 Dk.hLoose w := by
  intro os
  kernel_rfl
noncomputable abbrev Dk.hD : DefRec := HeadRun.topDef Dk.hR.prog 49
theorem Dk.hN : Dk.hD.name = ("law" : PySem.Str) := by kernel_rfl
set_option maxRecDepth 100000 in
set_option maxHeartbeats 0 in
theorem PySem.Challenge.cw_darkthread_k49_whole_rounds_read_from_si_holds : PySem.Challenge.rw_darkthread_k49_whole_rounds_read_from_si.Holds := by
  w_on; o_law
  refine HeadRun.head_any (r := Dk.hR) (q := Dk.hq) (H := Dk.hK) (ob := Dk.hOb) (M := 7236) (loose := Dk.hLoose) (d := Dk.hD) (kwd := []) Dk.hObE (by kernel_rfl) (fun s => by kernel_rfl) Dk.hrun (by kernel_rfl) (by kernel_rfl) (by kernel_rfl) (by rfl) (by first | assumption | decide +kernel) (by decide +kernel) ⟨rfl, rfl, rfl, rfl, rfl, by decide +kernel⟩ ?hw ?hc
  case hw => w_witness2
  k_fill
  refine Dk.walk (l := PySem.Challenge.rw_darkthread_k49_whole_rounds_read_from_si) rfl (by kernel_rfl) ?hrec (fun w h Y => by first | exact PySem.W.km_in_of Y | exact PySem.W.kIn_of Y) ?F
  case hrec => first | rfl | kernel_rfl
  case F =>
    intro w mg fa h KX G hmg
    rw [Dk.hN] at hmg
    refine' Dk.all_mk KX G hmg ?a_House ?a1 ?l1 ?c1 ?k1 ?a2 ?l2 ?c2 ?k2 ?a3 ?l3 ?c3 ?k3 ?a4 ?l4 ?c4 ?k4 ?a5 ?l5 ?c5 ?k5 ?a6 ?l6 ?c6 ?k6 ?a7 ?l7 ?c7 ?k7 ?a8 ?i8 ?l8 ?c8 ?k8 ?a9 ?i9 ?l9 ?c9 ?k9 ?a10 ?i10 ?l10 ?c10 ?k10 ?lT10 ?a11 ?l11 ?c11 ?k11 ?a12 ?l12 ?c12 ?k12 ?a13 ?l13 ?c13 ?k13 ?a14 ?l14 ?c14 ?k14 ?a15 ?l15 ?c15 ?k15 ?a16 ?l16 ?c16 ?k16 ?a17 ?l17 ?c17 ?k17 ?a18 ?l18 ?c18 ?k18 ?a19 ?i19 ?l19 ?c19 ?k19 ?a20 ?i20 ?l20 ?c20 ?k20 ?a21 ?l21 ?c21 ?k21 ?a22 ?i22 ?l22 ?c22 ?k22 ?a23 ?l23 ?c23 ?k23 ?a24 ?l24 ?c24 ?k24 ?a25 ?l25 ?c25 ?k25 ?a26 ?l26 ?c26 ?k26 ?a27 ?l27 ?c27 ?k27 ?a28 ?l28 ?c28 ?k28 ?a29 ?l29 ?c29 ?k29 ?a30 ?l30 ?c30 ?k30 ?a31 ?l31 ?c31 ?k31 ?a32 ?l32 ?c32 ?k32 ?a33 ?l33 ?c33 ?k33 ?a34 ?i34 ?l34 ?c34 ?k34 ?a35 ?i35 ?l35 ?c35 ?k35 ?a36 ?l36 ?c36 ?k36 ?a37 ?l37 ?c37 ?k37 ?a38 ?l38 ?c38 ?k38 ?pg_House ?hd_House ?po_House ?sa_House ?mk_House ?kc_House ?n_House_named ?n_House_doored ?n_House_sighted ?g_MOST_LETTERS ?g_LETTERS ?g_MOST_ROOMS ?g_FARTHEST ?g_MOST_ROUND ?z_len ?z_range ?z_list ?z_tuple ?z_max ?z_min ?z_all ?z_any ?z_zip ?z_enumerate ?z_isinstance ?z_str ?z_int ?z_bool ?z_sorted ?z_sum ?z_repr ?z_dict ?z_set ?lc ?lp ?kc ?kt
    (case a_House => k_is)
    (case a1 => k_is)
    (case l1 => k_is)
    (case c1 => k_is)
    (case k1 => k_is)
    (case a2 => k_is)
    (case l2 => k_is)
    (case c2 => k_is)
    (case k2 => k_is)
    (case a3 => k_is)
    (case l3 => k_is)
    (case c3 => k_is)
    (case k3 => k_is)
    (case a4 => k_is)
    (case l4 => k_is)
    (case c4 => k_is)
    (case k4 => k_is)
    (case a5 => k_is)
    (case l5 => k_is)
    (case c5 => k_is)
    (case k5 => k_is)
    (case a6 => k_is)
    (case l6 => k_is)
    (case c6 => k_is)
    (case k6 => k_is)
    (case a7 => k_is)
    (case l7 => k_is)
    (case c7 => k_is)
    (case k7 => k_is)
    (case a8 => k_is)
    (case i8 => k_is)
    (case l8 => k_is)
    (case c8 => k_is)
    (case k8 => k_is)
    (case a9 => k_is)
    (case i9 => k_is)
    (case l9 => k_is)
    (case c9 => k_is)
    (case k9 => k_is)
    (case a10 => k_is)
    (case i10 => k_is)
    (case l10 => k_is)
    (case c10 => k_is)
    (case k10 => k_is)
    (case lT10 => k_is)
    (case a11 => k_is)
    (case l11 => k_is)
    (case c11 => k_is)
    (case k11 => k_is)
    (case a12 => k_is)
    (case l12 => k_is)
    (case c12 => k_is)
    (case k12 => k_is)
    (case a13 => k_is)
    (case l13 => k_is)
    (case c13 => k_is)
    (case k13 => k_is)
    (case a14 => k_is)
    (case l14 => k_is)
    (case c14 => k_is)
    (case k14 => k_is)
    (case a15 => k_is)
    (case l15 => k_is)
    (case c15 => k_is)
    (case k15 => k_is)
    (case a16 => k_is)
    (case l16 => k_is)
    (case c16 => k_is)
    (case k16 => k_is)
    (case a17 => k_is)
    (case l17 => k_is)
    (case c17 => k_is)
    (case k17 => k_is)
    (case a18 => k_is)
    (case l18 => k_is)
    (case c18 => k_is)
    (case k18 => k_is)
    (case a19 => k_is)
    (case i19 => k_is)
    (case l19 => k_is)
    (case c19 => k_is)
    (case k19 => k_is)
    (case a20 => k_is)
    (case i20 => k_is)
    (case l20 => k_is)
    (case c20 => k_is)
    (case k20 => k_is)
    (case a21 => k_is)
    (case l21 => k_is)
    (case c21 => k_is)
    (case k21 => k_is)
    (case a22 => k_is)
    (case i22 => k_is)
    (case l22 => k_is)
    (case c22 => k_is)
    (case k22 => k_is)
    (case a23 => k_is)
    (case l23 => k_is)
    (case c23 => k_is)
    (case k23 => k_is)
    (case a24 => k_is)
    (case l24 => k_is)
    (case c24 => k_is)
    (case k24 => k_is)
    (case a25 => k_is)
    (case l25 => k_is)
    (case c25 => k_is)
    (case k25 => k_is)
    (case a26 => k_is)
    (case l26 => k_is)
    (case c26 => k_is)
    (case k26 => k_is)
    (case a27 => k_is)
    (case l27 => k_is)
    (case c27 => k_is)
    (case k27 => k_is)
    (case a28 => k_is)
    (case l28 => k_is)
    (case c28 => k_is)
    (case k28 => k_is)
    (case a29 => k_is)
    (case l29 => k_is)
    (case c29 => k_is)
    (case k29 => k_is)
    (case a30 => k_is)
    (case l30 => k_is)
    (case c30 => k_is)
    (case k30 => k_is)
    (case a31 => k_is)
    (case l31 => k_is)
    (case c31 => k_is)
    (case k31 => k_is)
    (case a32 => k_is)
    (case l32 => k_is)
    (case c32 => k_is)
    (case k32 => k_is)
    (case a33 => k_is)
    (case l33 => k_is)
    (case c33 => k_is)
    (case k33 => k_is)
    (case a34 => k_is)
    (case i34 => k_is)
    (case l34 => k_is)
    (case c34 => k_is)
    (case k34 => k_is)
    (case a35 => k_is)
    (case i35 => k_is)
    (case l35 => k_is)
    (case c35 => k_is)
    (case k35 => k_is)
    (case a36 => k_is)
    (case l36 => k_is)
    (case c36 => k_is)
    (case k36 => k_is)
    (case a37 => k_is)
    (case l37 => k_is)
    (case c37 => k_is)
    (case k37 => k_is)
    (case a38 => k_is)
    (case l38 => k_is)
    (case c38 => k_is)
    (case k38 => k_is)
    (case pg_House => k_is)
    (case hd_House => k_is)
    (case po_House => k_is)
    (case sa_House => k_is)
    (case mk_House => k_is)
    (case kc_House => k_is)
    (case n_House_named => k_is)
    (case n_House_doored => k_is)
    (case n_House_sighted => k_is)
    (case g_MOST_LETTERS => k_is)
    (case g_LETTERS => k_is)
    (case g_MOST_ROOMS => k_is)
    (case g_FARTHEST => k_is)
    (case g_MOST_ROUND => k_is)
    (case z_len => k_is)
    (case z_range => k_is)
    (case z_list => k_is)
    (case z_tuple => k_is)
    (case z_max => k_is)
    (case z_min => k_is)
    (case z_all => k_is)
    (case z_any => k_is)
    (case z_zip => k_is)
    (case z_enumerate => k_is)
    (case z_isinstance => k_is)
    (case z_str => k_is)
    (case z_int => k_is)
    (case z_bool => k_is)
    (case z_sorted => k_is)
    (case z_sum => k_is)
    (case z_repr => k_is)
    (case z_dict => k_is)
    (case z_set => k_is)
    (case lc => k_is)
    (case lp => first | exact rfl | kernel_rfl)
    (case kc => first | exact rfl | kernel_rfl)
    (case kt => first | exact rfl | kernel_rfl)



