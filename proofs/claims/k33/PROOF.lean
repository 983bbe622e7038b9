import PyProof.Rows.All
import Wide.All
import OpenK.AllK
import Wide.FinOn
import HandS.ForMost
import HandS.ForExc
import HandS.Wide
import HandS.Flow
import HandS.Style
import HandS.IsInst
import HandS.Defaults
import HandS.Zip
import HandS.EndBits
import HandS.Walk
import PyProof.StrBlock2
import HandS.TupAny
import KE.KUnpackStar
import PyProof.P3Eq
import HandS.Small
import HandS.Iter
import HandS.MakeKw
import HandS.Deep
import KE.GoesMore
import HandS.Conv
import KE.GoesZip
import HandS.More
import HandS.DictComp
import HandS.Strs
import PyProof.SliceList
import HandS.SortInts
import HandS.OwnEq
import HandS.ListItems
import PyProof.Rows.FactsN_isinstance
import HandS.TupLen
import HandS.HotCalls
import HandS.Lambda
import HandS.ExcInit
import HandS.ExcIs
import HandS.ExcField
import PyProof.ZipIter
import PyProof.Rows.TupIter
import KE.KExcInit
import KE.KTryMore
import KE.KExcIs
import HandS.EndOwn
import KE.KNestM
import HandS.TupMul
import HandS.NoneIn
import KE.KDflt
import OpenK.KOps
import KE.KDictPairs
import HandS.HeadHook3
import KE.KDictZip
import KE.OsRunLaw
import PySem.Challenge.RW_darkthread_k33_whole_names_and_orders_te
set_option Elab.async false
set_option linter.all false
set_option maxRecDepth 100000
set_option maxHeartbeats 8000000
def PyProofBox (P : Prop) : Prop := P
theorem bx_of {P : Prop} (h : PyProofBox P) : P := h
theorem bx_true {P : Prop} (h : P) : PyProofBox P = True := eq_true h
/-! L3: a typed layer of our own over the hand layer: what a reading comes to, said by representations of data. -/
namespace L3
open PySem L2

/-! ### representations -/
structure Rep where
  p : Hp → V → Prop
  m : ∀ {S S' : Hp} {v : V}, Same S S' → p S v → p S' v
structure MRep where
  p : Hp → HO → Prop
  m : ∀ {S S' : Hp} {o : HO}, Same S S' → p S o → p S' o
  nt : ∀ {S : Hp} {o : HO}, p S o → ∀ xs, o ≠ .tup xs
/-- free, or a tuple, which nothing changes -/
def Fre (H : Hp) (a : Addr) : Prop := ∀ o, H a = some o → ∃ xs, o = .tup xs
theorem fre_none {H : Hp} {a : Addr} (h : H a = none) : Fre H a := fun o q => by rw [h] at q; cases q
def All2 (S : Hp) : List Rep → List V → Prop
  | [], [] => True
  | r :: rs, v :: vs => r.p S v ∧ All2 S rs vs
  | _, _ => False
theorem All2.mono {S S' : Hp} (e : Same S S') : ∀ {rs : List Rep} {vs : List V}, All2 S rs vs → All2 S' rs vs
  | [], [], _ => True.intro
  | r :: rs, v :: vs, h => ⟨r.m e h.1, All2.mono e h.2⟩
  | [], _ :: _, h => h.elim
  | _ :: _, [], h => h.elim
theorem All2.len {S : Hp} : ∀ {rs : List Rep} {vs : List V}, All2 S rs vs → vs.length = rs.length
  | [], [], _ => rfl
  | _ :: rs, _ :: vs, h => congrArg Nat.succ (All2.len (rs := rs) (vs := vs) h.2)
  | [], _ :: _, h => h.elim
  | _ :: _, [], h => h.elim
theorem All2.get {S : Hp} : ∀ {rs : List Rep} {vs : List V} {i : Nat} {r : Rep}, All2 S rs vs → rs[i]? = some r → ∃ v, vs[i]? = some v ∧ r.p S v
  | r :: rs, v :: vs, 0, q, h, e => by
    have e' : r = q := Option.some.inj e
    subst e'
    exact ⟨v, rfl, h.1⟩
  | r :: rs, v :: vs, i + 1, q, h, e => All2.get (rs := rs) (vs := vs) (i := i) h.2 e
  | [], [], _, _, _, e => by cases e
  | [], _ :: _, _, _, h, _ => h.elim
  | _ :: _, [], _, _, h, _ => h.elim
theorem All2.getV {S : Hp} : ∀ {rs : List Rep} {vs : List V} {i : Nat} {v : V}, All2 S rs vs → vs[i]? = some v → ∃ r, rs[i]? = some r ∧ r.p S v
  | r :: rs, v :: vs, 0, q, h, e => by
    have e' : v = q := Option.some.inj e
    subst e'
    exact ⟨r, rfl, h.1⟩
  | r :: rs, v :: vs, i + 1, q, h, e => All2.getV (rs := rs) (vs := vs) (i := i) h.2 e
  | [], [], _, _, _, e => by cases e
  | [], _ :: _, _, _, h, _ => h.elim
  | _ :: _, [], _, _, h, _ => h.elim
theorem All2.app {S : Hp} : ∀ {rs qs : List Rep} {vs ws : List V}, All2 S rs vs → All2 S qs ws → All2 S (rs ++ qs) (vs ++ ws)
  | [], _, [], _, _, h => h
  | _ :: rs, _, _ :: vs, _, h, k => ⟨h.1, All2.app (rs := rs) (vs := vs) h.2 k⟩
  | [], _, _ :: _, _, h, _ => h.elim
  | _ :: _, _, [], _, h, _ => h.elim
theorem All2.one {S : Hp} {r : Rep} {v : V} (h : r.p S v) : All2 S [r] [v] := ⟨h, True.intro⟩
theorem All2.take {S : Hp} : ∀ (n : Nat) {rs : List Rep} {vs : List V}, All2 S rs vs → All2 S (rs.take n) (vs.take n)
  | 0, _, _, _ => by simp only [List.take_zero]; exact True.intro
  | n + 1, [], [], _ => True.intro
  | n + 1, _ :: rs, _ :: vs, h => ⟨h.1, All2.take n (rs := rs) (vs := vs) h.2⟩
  | _ + 1, [], _ :: _, h => h.elim
  | _ + 1, _ :: _, [], h => h.elim
theorem All2.drop {S : Hp} : ∀ (n : Nat) {rs : List Rep} {vs : List V}, All2 S rs vs → All2 S (rs.drop n) (vs.drop n)
  | 0, _, _, h => h
  | n + 1, [], [], _ => True.intro
  | n + 1, _ :: rs, _ :: vs, h => All2.drop n (rs := rs) (vs := vs) h.2
  | _ + 1, [], _ :: _, h => h.elim
  | _ + 1, _ :: _, [], h => h.elim
theorem All2.rev {S : Hp} : ∀ {rs : List Rep} {vs : List V}, All2 S rs vs → All2 S rs.reverse vs.reverse
  | [], [], _ => True.intro
  | r :: rs, v :: vs, h => by
    rw [List.reverse_cons, List.reverse_cons]
    exact (All2.rev (rs := rs) (vs := vs) h.2).app (All2.one h.1)
  | [], _ :: _, h => h.elim
  | _ :: _, [], h => h.elim
theorem All2.set {S : Hp} {r : Rep} {v : V} (hr : r.p S v) : ∀ {rs : List Rep} {vs : List V} (i : Nat), All2 S rs vs → All2 S (rs.set i r) (vs.set i v)
  | [], [], _, _ => True.intro
  | _ :: rs, _ :: vs, 0, h => ⟨hr, h.2⟩
  | _ :: rs, _ :: vs, i + 1, h => ⟨h.1, All2.set hr (rs := rs) (vs := vs) i h.2⟩
  | [], _ :: _, _, h => h.elim
  | _ :: _, [], _, h => h.elim
/-- flat representations: one value, no heap -/
theorem All2.flat {S : Hp} {α : Type} {r : α → Rep} {g : α → V} (h : ∀ x v, (r x).p S v → v = g x) : ∀ {l : List α} {vs : List V}, All2 S (l.map r) vs → vs = l.map g
  | [], [], _ => rfl
  | x :: l, v :: vs, k => by
    have e := h x v k.1
    have e2 := All2.flat h (l := l) (vs := vs) k.2
    rw [e, e2]
    rfl
  | [], _ :: _, h => h.elim
  | _ :: _, [], h => h.elim
theorem All2.unflat {S : Hp} {α : Type} {r : α → Rep} {g : α → V} (h : ∀ x, (r x).p S (g x)) : ∀ (l : List α), All2 S (l.map r) (l.map g)
  | [] => True.intro
  | x :: l => ⟨h x, All2.unflat h l⟩

theorem Same.sql {K : PySem.W.Frag} {H H' : Hp} {a : Addr} {xs : List V} (e : Same H H') (h : SqL K H a xs) : SqL K H' a xs := Same.seq e h
theorem Same.sqt {K : PySem.W.Frag} {H H' : Hp} {a : Addr} {xs : List V} (e : Same H H') (h : SqT K H a xs) : SqT K H' a xs := by
  rcases h with (h | ⟨o, h⟩) | h
  · exact .inl (.inl (e _ _ h))
  · exact .inl (.inr ⟨o, e _ _ h⟩)
  · exact .inr h

def iNon : Rep := ⟨fun _ v => v = .non, fun _ h => h⟩
def iBl (b : Bool) : Rep := ⟨fun _ v => v = .bl b, fun _ h => h⟩
def iInt (i : Int) : Rep := ⟨fun _ v => v = .int i, fun _ h => h⟩
def aStr (x : Str) : Rep := ⟨fun _ v => v = .str x, fun _ h => h⟩
def iRef (a : Addr) : Rep := ⟨fun _ v => v = .ref a, fun _ h => h⟩
def iAny : Rep := ⟨fun _ _ => True, fun _ h => h⟩
def iLst (rs : List Rep) : Rep := ⟨fun S v => ∃ a xs, v = .ref a ∧ S a = some (.lst xs) ∧ All2 S rs xs, fun e ⟨a, xs, h1, h2, h3⟩ => ⟨a, xs, h1, e _ _ h2, h3.mono e⟩⟩
/-- a list that is read alone (the script) -/
def iScr (K : PySem.W.Frag) (ns : List Int) : Rep := ⟨fun S v => ∃ a, v = .ref a ∧ SqL K S a (ns.map V.int), fun e ⟨a, h1, h2⟩ => ⟨a, h1, Same.sql e h2⟩⟩
def aTup (K : PySem.W.Frag) (rs : List Rep) : Rep := ⟨fun S v => ∃ a xs, v = .ref a ∧ SqT K S a xs ∧ All2 S rs xs, fun e ⟨a, xs, h1, h2, h3⟩ => ⟨a, xs, h1, Same.sqt e h2, h3.mono e⟩⟩
def mLst (rs : List Rep) : MRep := ⟨fun S o => ∃ xs, o = .lst xs ∧ All2 S rs xs, fun e ⟨xs, h1, h3⟩ => ⟨xs, h1, h3.mono e⟩, fun ⟨xs, h1, _⟩ ys z => by rw [h1] at z; cases z⟩

/-! ### the symbolic heap -/
abbrev SH := List (Addr × MRep)
abbrev dm (M : SH) : List Addr := M.map (·.1)
abbrev Ct := List (Option Rep)
structure MOk (S H : Hp) (M : SH) : Prop where
  at_ : ∀ a P, (a, P) ∈ M → S a = none ∧ ∃ o, H a = some o ∧ P.p S o
  nd : (dm M).Nodup
structure Stp (S H S2 H2 : Hp) (M M2 : SH) : Prop where
  s : Same S S2
  e : Same S2 H2
  new : ∀ a, S a = none → S2 a ≠ none → Fre H a ∨ a ∈ dm M
  fr : ∀ a o, a ∉ dm M → H a = some o → H2 a = some o
  m : MOk S2 H2 M2
  dn : ∀ a ∈ dm M2, a ∈ dm M ∨ H a = none
structure Nv (S H : Hp) (σ : L2.St) (Γ : Ct) (M : SH) : Prop where
  ex : Same S H
  len : σ.length = Γ.length
  sl : ∀ (i : Nat) (R : Rep), Γ[i]? = some (some R) → ∃ v, σ[i]? = some (some v) ∧ R.p S v
  m : MOk S H M

theorem MOk.mem {S H : Hp} {M : SH} (m : MOk S H M) {a : Addr} (h : a ∈ dm M) : S a = none ∧ ∃ o, H a = some o := by
  obtain ⟨⟨b, P⟩, h1, h2⟩ := List.mem_map.mp h
  have e : b = a := h2
  subst e
  obtain ⟨z, o, q, _⟩ := m.at_ b P h1
  exact ⟨z, o, q⟩
theorem Stp.refl {S H : Hp} {M : SH} (e : Same S H) (m : MOk S H M) : Stp S H S H M M :=
  ⟨Same.refl _, e, fun a h1 h2 => absurd h1 h2, fun _ _ _ h => h, m, fun _ h => .inl h⟩
theorem Stp.trans {S H S1 H1 S2 H2 : Hp} {M M1 M2 : SH} (a : Stp S H S1 H1 M M1) (b : Stp S1 H1 S2 H2 M1 M2) : Stp S H S2 H2 M M2 := by
  have back : ∀ c, H1 c = none → H c = none ∨ c ∈ dm M := fun c h => by
    by_cases hc : c ∈ dm M
    · exact .inr hc
    · cases q : H c with
      | none => exact .inl rfl
      | some o => rw [a.fr c o hc q] at h; cases h
  have backF : ∀ c, Fre H1 c → Fre H c ∨ c ∈ dm M := fun c h => by
    by_cases hc : c ∈ dm M
    · exact .inr hc
    · exact .inl fun o q => h o (a.fr c o hc q)
  refine ⟨a.s.trans b.s, b.e, fun c h1 h2 => ?_, fun c o h1 h2 => ?_, b.m, fun c h => ?_⟩
  · by_cases h3 : S1 c = none
    · rcases b.new c h3 h2 with h | h
      · exact backF c h
      · exact (a.dn c h).elim .inr fun z => .inl (fre_none z)
    · exact a.new c h1 h3
  · refine b.fr c o (fun z => ?_) (a.fr c o h1 h2)
    rcases a.dn c z with z | z
    · exact h1 z
    · rw [h2] at z; cases z
  · rcases b.dn c h with h | h
    · exact a.dn c h
    · exact (back c h).symm
theorem Nv.step {S H S2 H2 : Hp} {σ : L2.St} {Γ : Ct} {M M2 : SH} (I : Nv S H σ Γ M) (st : Stp S H S2 H2 M M2) : Nv S2 H2 σ Γ M2 :=
  ⟨st.e, I.len, fun i R h => let ⟨v, h1, h2⟩ := I.sl i R h; ⟨v, h1, R.m st.s h2⟩, st.m⟩
theorem Nv.set {S H : Hp} {σ : L2.St} {Γ : Ct} {M : SH} (I : Nv S H σ Γ M) (j : Nat) {v : V} {R : Rep} (h : R.p S v) : Nv S H (σ.set j (some v)) (Γ.set j (some R)) M := by
  refine ⟨I.ex, by simp [I.len], fun i Q e => ?_, I.m⟩
  by_cases hj : j = i
  · subst hj
    have hl : j < Γ.length := by
      have := (List.getElem?_eq_some_iff.mp e).1
      simpa using this
    rw [List.getElem?_set_self hl] at e
    cases e
    exact ⟨v, List.getElem?_set_self (by rw [I.len]; exact hl), h⟩
  · rw [List.getElem?_set_ne hj] at e ⊢
    exact I.sl i Q e
theorem Nv.weak {S H : Hp} {σ : L2.St} {Γ Γ' : Ct} {M : SH} (I : Nv S H σ Γ M) (hl : Γ'.length = Γ.length) (h : ∀ (i : Nat) (R : Rep), Γ'[i]? = some (some R) → Γ[i]? = some (some R)) : Nv S H σ Γ' M :=
  ⟨I.ex, I.len.trans hl.symm, fun i R e => I.sl i R (h i R e), I.m⟩
/-- framing -/
theorem Stp.frame {S H S2 H2 : Hp} {M M2 F : SH} (st : Stp S H S2 H2 M M2) (m : MOk S H (M ++ F)) : Stp S H S2 H2 (M ++ F) (M2 ++ F) := by
  have nd := m.nd
  have eM : dm (M ++ F) = dm M ++ dm F := List.map_append
  have eM2 : dm (M2 ++ F) = dm M2 ++ dm F := List.map_append
  rw [eM, List.nodup_append] at nd
  obtain ⟨n1, n2, n3⟩ := nd
  have hF : ∀ a, a ∈ dm F → S a = none ∧ (∃ o, H a = some o) ∧ a ∉ dm M := fun a h => by
    obtain ⟨z, o⟩ := m.mem (a := a) (by rw [eM]; exact List.mem_append_right _ h)
    exact ⟨z, o, fun q => n3 a q a h rfl⟩
  refine ⟨st.s, st.e, fun a h1 h2 => ?_, fun a o h1 h2 => ?_, ⟨fun a P h => ?_, ?_⟩, fun a h => ?_⟩
  · rcases st.new a h1 h2 with h | h
    · exact .inl h
    · exact .inr (by rw [eM]; exact List.mem_append_left _ h)
  · exact st.fr a o (fun z => h1 (by rw [eM]; exact List.mem_append_left _ z)) h2
  · rcases List.mem_append.mp h with h | h
    · exact st.m.at_ a P h
    · have ha : a ∈ dm F := List.mem_map.mpr ⟨(a, P), h, rfl⟩
      obtain ⟨z, _, z3⟩ := hF a ha
      obtain ⟨_, o, q1, q2⟩ := m.at_ a P (List.mem_append_right _ h)
      refine ⟨?_, o, st.fr a o z3 q1, P.m st.s q2⟩
      cases q : S2 a with
      | none => rfl
      | some u =>
        rcases st.new a z (by rw [q]; exact fun c => by cases c) with w | w
        · obtain ⟨xs, e⟩ := w o q1
          exact absurd e (P.nt q2 xs)
        · exact absurd w z3
  · rw [eM2, List.nodup_append]
    refine ⟨st.m.nd, n2, fun a h1 b h2 e => ?_⟩
    subst e
    obtain ⟨_, ⟨o, q⟩, z3⟩ := hF a h2
    rcases st.dn a h1 with w | w
    · exact z3 w
    · rw [w] at q; cases q
  · rw [eM2] at h
    rw [eM]
    rcases List.mem_append.mp h with h | h
    · rcases st.dn a h with w | w
      · exact .inl (List.mem_append_left _ w)
      · exact .inr w
    · exact .inl (List.mem_append_right _ h)
theorem MOk.left {S H : Hp} {M F : SH} (m : MOk S H (M ++ F)) : MOk S H M := by
  refine ⟨fun a P h => m.at_ a P (List.mem_append_left _ h), ?_⟩
  have nd := m.nd
  rw [show dm (M ++ F) = dm M ++ dm F from List.map_append, List.nodup_append] at nd
  exact nd.1
theorem MOk.perm {S H : Hp} {M M' : SH} (m : MOk S H M) (h : M.Perm M') : MOk S H M' :=
  ⟨fun a P e => m.at_ a P (h.symm.subset e), (h.map _).nodup_iff.mp m.nd⟩
theorem Stp.permL {S H S2 H2 : Hp} {M M' M2 : SH} (st : Stp S H S2 H2 M' M2) (h : M.Perm M') : Stp S H S2 H2 M M2 := by
  have e : ∀ a, a ∈ dm M ↔ a ∈ dm M' := fun a => (h.map _).mem_iff
  exact ⟨st.s, st.e, fun a h1 h2 => by rw [e a]; exact st.new a h1 h2, fun a o h1 h2 => st.fr a o (fun z => h1 ((e a).mpr z)) h2, st.m, fun a h1 => by rw [e a]; exact st.dn a h1⟩

/-! ### a new object: kept in the stable part, or as a mutable one -/
theorem Same.newS {S H : Hp} {p : Addr} {o : HO} (e : Same S H) (h : H p = none) : Same S (upd S p o) := fun a u q => by
  rw [upd_ne (ne_of_none (e _ _ q) h)]; exact q
theorem Stp.newS {S H : Hp} {M : SH} {p : Addr} {o : HO} (e : Same S H) (m : MOk S H M) (h : H p = none) : Stp S H (upd S p o) (upd H p o) M M := by
  have nm : ∀ a, a ∈ dm M → a ≠ p := fun a ha z => by
    obtain ⟨_, o, q⟩ := m.mem ha
    rw [z, h] at q; cases q
  refine ⟨Same.newS e h, fun a u q => ?_, fun a h1 h2 => ?_, fun a u _ q => ?_, ⟨fun a P hp => ?_, m.nd⟩, fun _ h => .inl h⟩
  · by_cases ha : a = p
    · subst ha; rw [upd_same] at q ⊢; exact q
    · rw [upd_ne ha] at q ⊢; exact e _ _ q
  · by_cases ha : a = p
    · subst ha; exact .inl (fre_none h)
    · rw [upd_ne ha] at h2; exact absurd h1 h2
  · rw [upd_ne (ne_of_none q h)]; exact q
  · obtain ⟨z, u, q1, q2⟩ := m.at_ a P hp
    have ha := nm a (List.mem_map.mpr ⟨(a, P), hp, rfl⟩)
    exact ⟨by rw [upd_ne ha]; exact z, u, by rw [upd_ne ha]; exact q1, P.m (Same.newS e h) q2⟩
theorem Stp.newM {S H : Hp} {M : SH} {p : Addr} {o : HO} {P : MRep} (e : Same S H) (m : MOk S H M) (h : H p = none) (hP : P.p S o) : Stp S H S (upd H p o) M (M ++ [(p, P)]) := by
  have hS : S p = none := by
    cases q : S p with
    | none => rfl
    | some u => rw [e _ _ q] at h; cases h
  have nm : ∀ a, a ∈ dm M → a ≠ p := fun a ha z => by
    obtain ⟨_, o, q⟩ := m.mem ha
    rw [z, h] at q; cases q
  refine ⟨Same.refl _, fun a u q => ?_, fun a h1 h2 => absurd h1 h2, fun a u _ q => ?_, ⟨fun a P' hp => ?_, ?_⟩, fun a ha => ?_⟩
  · rw [upd_ne (ne_of_none (e _ _ q) h)]; exact e _ _ q
  · rw [upd_ne (ne_of_none q h)]; exact q
  · rcases List.mem_append.mp hp with hp | hp
    · obtain ⟨z, u, q1, q2⟩ := m.at_ a P' hp
      have ha := nm a (List.mem_map.mpr ⟨(a, P'), hp, rfl⟩)
      exact ⟨z, u, by rw [upd_ne ha]; exact q1, q2⟩
    · have e1 : (a, P') = (p, P) := List.mem_singleton.mp hp
      cases e1
      exact ⟨hS, o, upd_same, hP⟩
  · rw [show dm (M ++ [(p, P)]) = dm M ++ [p] from List.map_append, List.nodup_append]
    refine ⟨m.nd, by simp, fun a h1 b h2 => ?_⟩
    have e1 : b = p := List.mem_singleton.mp h2
    subst e1
    exact nm a h1
  · rw [show dm (M ++ [(p, P)]) = dm M ++ [p] from List.map_append] at ha
    rcases List.mem_append.mp ha with ha | ha
    · exact .inl ha
    · have e1 : a = p := List.mem_singleton.mp ha
      subst e1
      exact .inr h
/-- a mutable object written -/
theorem Stp.wrM {S H : Hp} {A B : SH} {a : Addr} {P P' : MRep} {o : HO} (e : Same S H) (m : MOk S H (A ++ (a, P) :: B)) (hP : P'.p S o) : Stp S H S (upd H a o) (A ++ (a, P) :: B) (A ++ (a, P') :: B) := by
  have dme : ∀ Q : MRep, dm (A ++ (a, Q) :: B) = dm A ++ a :: dm B := fun Q => by simp [dm]
  have ha : a ∈ dm (A ++ (a, P) :: B) := by rw [dme]; simp
  obtain ⟨hS, _⟩ := m.mem ha
  have nd := m.nd
  rw [dme] at nd
  have nd2 : a ∉ dm A ∧ a ∉ dm B := by
    rw [List.nodup_append] at nd
    obtain ⟨_, n2, n3⟩ := nd
    exact ⟨fun h => n3 a h a (List.mem_cons_self ..) rfl, (List.nodup_cons.mp n2).1⟩
  refine ⟨Same.refl _, fun b u q => ?_, fun b h1 h2 => absurd h1 h2, fun b u h1 q => ?_, ⟨fun b Q hq => ?_, ?_⟩, fun b hb => .inl (by rw [dme] at hb ⊢; exact hb)⟩
  · have hb : b ≠ a := fun z => by rw [z, hS] at q; cases q
    rw [upd_ne hb]; exact e _ _ q
  · have hb : b ≠ a := fun z => h1 (by rw [z]; exact ha)
    rw [upd_ne hb]; exact q
  · have old : ∀ Q, b ≠ a → (b, Q) ∈ A ++ (a, P) :: B → S b = none ∧ ∃ o_1, upd H a o b = some o_1 ∧ Q.p S o_1 := fun Q hb hq => by
      obtain ⟨z, u, q1, q2⟩ := m.at_ b Q hq
      exact ⟨z, u, by rw [upd_ne hb]; exact q1, q2⟩
    rcases List.mem_append.mp hq with hq | hq
    · refine old Q (fun z => ?_) (List.mem_append_left _ hq)
      rw [z] at hq
      exact nd2.1 (List.mem_map.mpr ⟨_, hq, rfl⟩)
    · rcases List.mem_cons.mp hq with hq | hq
      · cases hq
        exact ⟨hS, o, upd_same, hP⟩
      · refine old Q (fun z => ?_) (List.mem_append_right _ (List.mem_cons_of_mem _ hq))
        rw [z] at hq
        exact nd2.2 (List.mem_map.mpr ⟨_, hq, rfl⟩)
  · rw [dme]; exact nd
/-- a mutable object becomes stable -/
theorem Stp.fz {S H : Hp} {A B : SH} {a : Addr} {P : MRep} {o : HO} (e : Same S H) (m : MOk S H (A ++ (a, P) :: B)) (ho : H a = some o) : Stp S H (upd S a o) H (A ++ (a, P) :: B) (A ++ B) := by
  have dme : dm (A ++ (a, P) :: B) = dm A ++ a :: dm B := by simp [dm]
  have dme2 : dm (A ++ B) = dm A ++ dm B := by simp [dm]
  have ha : a ∈ dm (A ++ (a, P) :: B) := by rw [dme]; simp
  obtain ⟨hS, _⟩ := m.mem ha
  have nd := m.nd
  rw [dme] at nd
  have nd2 : a ∉ dm A ∧ a ∉ dm B := by
    rw [List.nodup_append] at nd
    obtain ⟨_, n2, n3⟩ := nd
    exact ⟨fun h => n3 a h a (List.mem_cons_self ..) rfl, (List.nodup_cons.mp n2).1⟩
  have sm : Same S (upd S a o) := fun b u q => by
    have hb : b ≠ a := fun z => by rw [z, hS] at q; cases q
    rw [upd_ne hb]; exact q
  refine ⟨sm, fun b u q => ?_, fun b h1 h2 => ?_, fun _ _ _ q => q, ⟨fun b Q hq => ?_, ?_⟩, fun b hb => .inl ?_⟩
  · by_cases hb : b = a
    · subst hb; rw [upd_same] at q; rw [ho]; exact q
    · rw [upd_ne hb] at q; exact e _ _ q
  · by_cases hb : b = a
    · subst hb; exact .inr ha
    · rw [upd_ne hb] at h2; exact absurd h1 h2
  · have hq' : (b, Q) ∈ A ++ (a, P) :: B := by
      rcases List.mem_append.mp hq with h | h
      · exact List.mem_append_left _ h
      · exact List.mem_append_right _ (List.mem_cons_of_mem _ h)
    have hb : b ≠ a := fun z => by
      rw [z] at hq
      rcases List.mem_append.mp hq with h | h
      · exact nd2.1 (List.mem_map.mpr ⟨_, h, rfl⟩)
      · exact nd2.2 (List.mem_map.mpr ⟨_, h, rfl⟩)
    obtain ⟨z, u, q1, q2⟩ := m.at_ b Q hq'
    exact ⟨by rw [upd_ne hb]; exact z, u, q1, Q.m sm q2⟩
  · rw [dme2]
    rw [List.nodup_append] at nd ⊢
    obtain ⟨n1, n2, n3⟩ := nd
    exact ⟨n1, (List.nodup_cons.mp n2).2, fun x h1 y h2 => n3 x h1 y (List.mem_cons_of_mem _ h2)⟩
  · rw [dme2] at hb
    rw [dme]
    rcases List.mem_append.mp hb with h | h
    · exact List.mem_append_left _ h
    · exact List.mem_append_right _ (List.mem_cons_of_mem _ h)
end L3

namespace L3
open PySem L2

/-! ### exceptions of our own classes: the class, its fields -/
structure XR where
  cls : Addr
  fs : List (Str × Rep)
def XR.p (x : XR) (S : Hp) (cls : Value) (d : Option Addr) : Prop :=
  cls = .ref x.cls ∧ ∃ dd vs, d = some dd ∧ S dd = some (.xd vs) ∧ vs.map (·.1) = x.fs.map (·.1) ∧ All2 S (x.fs.map (·.2)) (vs.map (·.2))
abbrev KR := Rep → SH → Prop
abbrev KX := XR → SH → Prop
def Out (S H : Hp) (M : SH) (K : KR) (Q : VK) : Prop := ∀ v S2 H2 R M2, K R M2 → Stp S H S2 H2 M M2 → R.p S2 v → Q v H2
def OutX (S H : Hp) (M : SH) (X : KX) (E : XK) : Prop := ∀ cls d S2 H2 x M2, X x M2 → Stp S H S2 H2 M M2 → x.p S2 cls d → E cls d H2
theorem Out.step {S H S1 H1 : Hp} {M M1 : SH} {K : KR} {Q : VK} (o : Out S H M K Q) (st : Stp S H S1 H1 M M1) : Out S1 H1 M1 K Q :=
  fun v S2 H2 R M2 k st2 p => o v S2 H2 R M2 k (st.trans st2) p
theorem OutX.step {S H S1 H1 : Hp} {M M1 : SH} {X : KX} {E : XK} (o : OutX S H M X E) (st : Stp S H S1 H1 M M1) : OutX S1 H1 M1 X E :=
  fun c d S2 H2 x M2 k st2 p => o c d S2 H2 x M2 k (st.trans st2) p
abbrev X0 : KX := fun _ _ => False

/-! ### what readings come to -/
def Ev (E : XK) (te : TE) (Γ : Ct) (M : SH) (K : KR) (X : KX) : Prop := ∀ σ S H Q, Nv S H σ Γ M → Out S H M K Q → OutX S H M X E → te σ H Q
def Ep (E : XK) (te : TE) (Γ : Ct) (M : SH) (R : Rep) : Prop := ∀ (K : KR) (X : KX), K R M → Ev E te Γ M K X
def Et (E : XK) (tt : TT) (Γ : Ct) (M : SH) (K : Bool → SH → Prop) (X : KX) : Prop := ∀ σ S H Q, Nv S H σ Γ M → (∀ b S2 H2 M2, K b M2 → Stp S H S2 H2 M M2 → Q b H2) → OutX S H M X E → tt σ H Q
def Etp (E : XK) (tt : TT) (Γ : Ct) (M : SH) (b : Bool) : Prop := ∀ (K : Bool → SH → Prop) (X : KX), K b M → Et E tt Γ M K X
def Ea (E : XK) (ta : TA) (Γ : Ct) (M : SH) (K : List Rep → SH → Prop) (X : KX) : Prop := ∀ σ S H Q, Nv S H σ Γ M → (∀ vs S2 H2 Rs M2, K Rs M2 → Stp S H S2 H2 M M2 → All2 S2 Rs vs → Q vs H2) → OutX S H M X E → ta σ H Q
def Eap (E : XK) (ta : TA) (Γ : Ct) (M : SH) (Rs : List Rep) : Prop := ∀ (K : List Rep → SH → Prop) (X : KX), K Rs M → Ea E ta Γ M K X
/-- by values: two places, one place, a list -/
def O2 (r : R2) (R1 R2 : Rep) (M : SH) (K : KR) : Prop := ∀ x y S H Q, Same S H → MOk S H M → R1.p S x → R2.p S y → Out S H M K Q → r x y H Q
def O2p (r : R2) (R1 R2 : Rep) (M : SH) (R : Rep) : Prop := ∀ K : KR, K R M → O2 r R1 R2 M K
def O1 (r : V → Hp → VK → Prop) (R1 : Rep) (M : SH) (K : KR) : Prop := ∀ x S H Q, Same S H → MOk S H M → R1.p S x → Out S H M K Q → r x H Q
def O1p (r : V → Hp → VK → Prop) (R1 : Rep) (M : SH) (R : Rep) : Prop := ∀ K : KR, K R M → O1 r R1 M K
def Ol (r : List V → Hp → VK → Prop) (Rs : List Rep) (M : SH) (K : KR) : Prop := ∀ xs S H Q, Same S H → MOk S H M → All2 S Rs xs → Out S H M K Q → r xs H Q
def Olp (r : List V → Hp → VK → Prop) (Rs : List Rep) (M : SH) (R : Rep) : Prop := ∀ K : KR, K R M → Ol r Rs M K
/-- a method of a built-in type -/
def Om (r : V → List V → Hp → VK → Prop) (R1 : Rep) (Rs : List Rep) (M : SH) (K : KR) : Prop := ∀ x xs S H Q, Same S H → MOk S H M → R1.p S x → All2 S Rs xs → Out S H M K Q → r x xs H Q
def Omp (r : V → List V → Hp → VK → Prop) (R1 : Rep) (Rs : List Rep) (M : SH) (R : Rep) : Prop := ∀ K : KR, K R M → Om r R1 Rs M K

section
variable {E : XK} {K : PySem.W.Frag} {Γ : Ct} {M : SH} {k : KR} {X : KX} {R R1 R2 : Rep} {te ta tb : TE} {t u : TT} {r : L2.R2}
theorem Ep.ev (h : Ep E te Γ M R) (q : k R M) : Ev E te Γ M k X := h k X q
theorem Etp.et {kb : Bool → SH → Prop} {b : Bool} (h : Etp E t Γ M b) (q : kb b M) : Et E t Γ M kb X := h kb X q
theorem Ep.to (h : Ep E te Γ M R) (e : R = R1) : Ep E te Γ M R1 := e ▸ h
theorem Etp.to {b c : Bool} (h : Etp E t Γ M b) (e : b = c) : Etp E t Γ M c := e ▸ h
theorem Ep.wk (h : Ep E te Γ M R) (e : ∀ S v, R.p S v → R1.p S v) : Ep E te Γ M R1 := fun k X q σ S H Q I o ox =>
  h (fun R' M' => R' = R ∧ M' = M) X ⟨rfl, rfl⟩ σ S H Q I (fun v S2 H2 R' M2 ⟨e1, e2⟩ st p => by
    subst e1; subst e2
    exact o v S2 H2 R1 _ q st (e _ _ p)) ox
theorem Ev.mono {k' : KR} (h : Ev E te Γ M k X) (e : ∀ R M, k R M → k' R M) : Ev E te Γ M k' X := fun σ S H Q I o ox =>
  h σ S H Q I (fun v S2 H2 R M2 q st p => o v S2 H2 R M2 (e _ _ q) st p) ox

/-! ### names, constants -/
theorem ev_var {i : Nat} (h : Γ[i]? = some (some R)) (q : k R M) : Ev E (tVar i) Γ M k X := fun σ S H Q I o _ => by
  obtain ⟨v, h1, h2⟩ := I.sl i R h
  exact ⟨v, h1, o v S H R M q (Stp.refl I.ex I.m) h2⟩
theorem ep_var {i : Nat} (h : Γ[i]? = some (some R)) : Ep E (tVar i) Γ M R := fun _ _ q => ev_var h q
theorem ep_c {v : V} (h : ∀ S, R.p S v) : Ep E (tC v) Γ M R := fun _ _ q σ S H Q I o _ => o v S H R M q (Stp.refl I.ex I.m) (h S)
theorem ep_int {i : Int} : Ep E (tC (.int i)) Γ M (iInt i) := ep_c fun _ => rfl
theorem ep_str {z : Str} : Ep E (tC (.str z)) Γ M (aStr z) := ep_c fun _ => rfl
theorem ep_bl {b : Bool} : Ep E (tC (.bl b)) Γ M (iBl b) := ep_c fun _ => rfl
theorem ep_non : Ep E (tC .non) Γ M iNon := ep_c fun _ => rfl

/-! ### operators -/
theorem ev_op (h : Ev E ta Γ M (fun R1 M1 => Ev E tb Γ M1 (fun R2 M2 => O2 r R1 R2 M2 k) X) X) : Ev E (tOp r ta tb) Γ M k X := fun σ S H Q I o ox =>
  h σ S H _ I (fun x S1 H1 R1 M1 h1 st1 p1 => h1 σ S1 H1 _ (I.step st1) (fun y S2 H2 R2 M2 h2 st2 p2 =>
    h2 x y S2 H2 Q st2.e st2.m (R1.m st2.s p1) p2 (o.step (st1.trans st2))) (ox.step st1)) ox
theorem ep_op (ha : Ep E ta Γ M R1) (hb : Ep E tb Γ M R2) (hr : O2p r R1 R2 M R) : Ep E (tOp r ta tb) Γ M R := fun _ _ q => ev_op (ha _ _ (hb _ _ (hr _ q)))
theorem ev_un {ru : V → Hp → VK → Prop} (h : Ev E ta Γ M (fun R1 M1 => O1 ru R1 M1 k) X) : Ev E (tUn ru ta) Γ M k X := fun σ S H Q I o ox =>
  h σ S H _ I (fun x S1 H1 R1 M1 h1 st1 p1 => h1 x S1 H1 Q st1.e st1.m p1 (o.step st1)) ox
theorem o2_val (h : ∀ x y S H, Same S H → MOk S H M → R1.p S x → R2.p S y → ∃ v, R.p S v ∧ ∀ Q : VK, Q v H → r x y H Q) : O2p r R1 R2 M R := fun _ q x y S H Q e m h1 h2 o => by
  obtain ⟨v, p, g⟩ := h x y S H e m h1 h2
  exact g Q (o v S H R M q (Stp.refl e m) p)
theorem o1_val {ru : V → Hp → VK → Prop} (h : ∀ x S H, Same S H → MOk S H M → R1.p S x → ∃ v, R.p S v ∧ ∀ Q : VK, Q v H → ru x H Q) : O1p ru R1 M R := fun _ q x S H Q e m h1 o => by
  obtain ⟨v, p, g⟩ := h x S H e m h1
  exact g Q (o v S H R M q (Stp.refl e m) p)
theorem ol_val {rl : List V → Hp → VK → Prop} {Rs : List Rep} (h : ∀ xs S H, Same S H → MOk S H M → All2 S Rs xs → ∃ v, R.p S v ∧ ∀ Q : VK, Q v H → rl xs H Q) : Olp rl Rs M R := fun _ q xs S H Q e m h1 o => by
  obtain ⟨v, p, g⟩ := h xs S H e m h1
  exact g Q (o v S H R M q (Stp.refl e m) p)
theorem o_I0 {g : Int → Int → V} {i j : Int} (hR : ∀ S, R.p S (g i j)) : O2p (rI0 g) (iInt i) (iInt j) M R := o2_val fun x y S H _ _ h1 h2 => by
  cases h1; cases h2
  exact ⟨g i j, hR S, fun Q q => ⟨i, j, rfl, rfl, q⟩⟩
theorem o_I {C : Int → Int → Prop} {g : Int → Int → V} {i j : Int} (hc : C i j) (hR : ∀ S, R.p S (g i j)) : O2p (rI C g) (iInt i) (iInt j) M R := o2_val fun x y S H _ _ h1 h2 => by
  cases h1; cases h2
  exact ⟨g i j, hR S, fun Q q => ⟨i, j, rfl, rfl, hc, q⟩⟩
variable {i j : Int}
theorem o_add : O2p (rI0 fun i j => .int (i + j)) (iInt i) (iInt j) M (iInt (i + j)) := o_I0 fun _ => rfl
theorem o_sub : O2p (rI0 fun i j => .int (i - j)) (iInt i) (iInt j) M (iInt (i - j)) := o_I0 fun _ => rfl
theorem o_lt : O2p (rI0 fun i j => .bl (decide (i < j))) (iInt i) (iInt j) M (iBl (decide (i < j))) := o_I0 fun _ => rfl
theorem o_le : O2p (rI0 fun i j => .bl (decide (i ≤ j))) (iInt i) (iInt j) M (iBl (decide (i ≤ j))) := o_I0 fun _ => rfl
theorem o_gt : O2p (rI0 fun i j => .bl (decide (j < i))) (iInt i) (iInt j) M (iBl (decide (j < i))) := o_I0 fun _ => rfl
theorem o_ge : O2p (rI0 fun i j => .bl (decide (j ≤ i))) (iInt i) (iInt j) M (iBl (decide (j ≤ i))) := o_I0 fun _ => rfl
theorem o_mul (hc : CMul i j) : O2p (rI CMul fun i j => .int (i * j)) (iInt i) (iInt j) M (iInt (i * j)) := o_I hc fun _ => rfl
theorem o_fdivW (hc : CDivW i j) : O2p (rI CDivW fun i j => .int (i / j)) (iInt i) (iInt j) M (iInt (i / j)) := o_I hc fun _ => rfl
theorem o_mod (hc : 0 < j) : O2p (rI (fun _ j => 0 < j) fun i j => .int (i % j)) (iInt i) (iInt j) M (iInt (i % j)) := o_I hc fun _ => rfl
theorem o_pow (hc : CPow i j) : O2p (rI CPow fun i j => .int (i ^ j.toNat)) (iInt i) (iInt j) M (iInt (i ^ j.toNat)) := o_I hc fun _ => rfl
theorem o_neg : O1p (rU fun i => .int (-i)) (iInt i) M (iInt (-i)) := o1_val fun x S H _ _ h1 => by
  cases h1
  exact ⟨_, rfl, fun Q q => ⟨i, rfl, q⟩⟩
/-! == and != of flat things -/
theorem o_eqI : O2p rEq (iInt i) (iInt j) M (iBl (decide (i = j))) := o2_val fun x y S H _ _ h1 h2 => by
  cases h1; cases h2
  exact ⟨_, rfl, fun Q q => ⟨rfl, by rw [show decide (V.int i = V.int j) = decide (i = j) by rw [dec_int, Bool.beq_eq_decide_eq]]; exact q⟩⟩
theorem o_neI : O2p rNe (iInt i) (iInt j) M (iBl (!decide (i = j))) := o2_val fun x y S H _ _ h1 h2 => by
  cases h1; cases h2
  exact ⟨_, rfl, fun Q q => ⟨rfl, by rw [show decide (V.int i = V.int j) = decide (i = j) by rw [dec_int, Bool.beq_eq_decide_eq]]; exact q⟩⟩
theorem o_eqS {a b : Str} : O2p rEq (aStr a) (aStr b) M (iBl (decide (a = b))) := o2_val fun x y S H _ _ h1 h2 => by
  cases h1; cases h2
  exact ⟨_, rfl, fun Q q => ⟨rfl, by rw [show decide (V.str a = V.str b) = decide (a = b) by rw [dec_str, Bool.beq_eq_decide_eq]]; exact q⟩⟩
theorem o_neS {a b : Str} : O2p rNe (aStr a) (aStr b) M (iBl (!decide (a = b))) := o2_val fun x y S H _ _ h1 h2 => by
  cases h1; cases h2
  exact ⟨_, rfl, fun Q q => ⟨rfl, by rw [show decide (V.str a = V.str b) = decide (a = b) by rw [dec_str, Bool.beq_eq_decide_eq]]; exact q⟩⟩
theorem o_eqB {a b : Bool} : O2p rEq (iBl a) (iBl b) M (iBl (a == b)) := o2_val fun x y S H _ _ h1 h2 => by
  cases h1; cases h2
  exact ⟨_, rfl, fun Q q => ⟨rfl, by rw [dec_bl]; exact q⟩⟩
theorem o_neB {a b : Bool} : O2p rNe (iBl a) (iBl b) M (iBl (!(a == b))) := o2_val fun x y S H _ _ h1 h2 => by
  cases h1; cases h2
  exact ⟨_, rfl, fun Q q => ⟨rfl, by rw [dec_bl]; exact q⟩⟩
/-! texts -/
theorem o_addS {a b : Str} (h : a.length + b.length ≤ 16000000) : O2p (fun x y H Q => ∃ i j, x = .str i ∧ y = .str j ∧ i.length + j.length ≤ sizeLine ∧ Q (.str (i ++ j)) H) (aStr a) (aStr b) M (aStr (a ++ b)) := o2_val fun x y S H _ _ h1 h2 => by
  cases h1; cases h2
  exact ⟨_, rfl, fun Q q => ⟨a, b, rfl, rfl, by rw [sizeLine_eq]; omega, q⟩⟩
theorem o_inSign {c : Nat} {z : Str} : O2p (fun x y H Q => ∃ (c : Nat) (z : Str), x = .str ⟨#[c]⟩ ∧ y = .str z ∧ Q (.bl (decide (c ∈ z.cps.toList))) H) (aStr ⟨#[c]⟩) (aStr z) M (iBl (decide (c ∈ z.cps.toList))) := o2_val fun x y S H _ _ h1 h2 => by
  cases h1; cases h2
  exact ⟨_, rfl, fun Q q => ⟨c, z, rfl, rfl, q⟩⟩

/-! ### tests -/
theorem et_test {kb : Bool → SH → Prop} (h : Ev E te Γ M (fun R M1 => ∃ b, R = iBl b ∧ kb b M1) X) : Et E (tTest te) Γ M kb X := fun σ S H Q I o ox =>
  h σ S H _ I (fun v S2 H2 R M2 ⟨b, e, q⟩ st p => by
    subst e; cases p
    exact ⟨b, rfl, o b S2 H2 M2 q st⟩) ox
theorem et_tB {kb : Bool → SH → Prop} (h : Ev E te Γ M (fun R M1 => ∃ b, R = iBl b ∧ kb b M1) X) : Et E (tB te) Γ M kb X := fun σ S H Q I o ox =>
  h σ S H _ I (fun v S2 H2 R M2 ⟨b, e, q⟩ st p => by
    subst e; cases p
    exact ⟨b, rfl, o b S2 H2 M2 q st⟩) ox
theorem etp_test {b : Bool} (h : Ep E te Γ M (iBl b)) : Etp E (tTest te) Γ M b := fun _ _ q => et_test (h _ _ ⟨b, rfl, q⟩)
theorem etp_tB {b : Bool} (h : Ep E te Γ M (iBl b)) : Etp E (tB te) Γ M b := fun _ _ q => et_tB (h _ _ ⟨b, rfl, q⟩)
theorem et_and {kb : Bool → SH → Prop} (h : Et E t Γ M (fun b M1 => if b = true then Et E u Γ M1 kb X else kb false M1) X) : Et E (tAnd t u) Γ M kb X := fun σ S H Q I o ox =>
  h σ S H _ I (fun b S2 H2 M2 q st => by
    cases b with
    | true =>
      have q' : Et E u Γ M2 kb X := by simpa using q
      show u σ H2 Q
      exact q' σ S2 H2 Q (I.step st) (fun c S3 H3 M3 q3 st3 => o c S3 H3 M3 q3 (st.trans st3)) (ox.step st)
    | false =>
      have q' : kb false M2 := by simpa using q
      exact o false S2 H2 M2 q' st) ox
theorem et_or {kb : Bool → SH → Prop} (h : Et E t Γ M (fun b M1 => if b = true then kb true M1 else Et E u Γ M1 kb X) X) : Et E (tOr t u) Γ M kb X := fun σ S H Q I o ox =>
  h σ S H _ I (fun b S2 H2 M2 q st => by
    cases b with
    | false =>
      have q' : Et E u Γ M2 kb X := by simpa using q
      show u σ H2 Q
      exact q' σ S2 H2 Q (I.step st) (fun c S3 H3 M3 q3 st3 => o c S3 H3 M3 q3 (st.trans st3)) (ox.step st)
    | true =>
      have q' : kb true M2 := by simpa using q
      exact o true S2 H2 M2 q' st) ox
theorem et_not {kb : Bool → SH → Prop} (h : Et E t Γ M (fun b M1 => kb (!b) M1) X) : Et E (tNot t) Γ M kb X := fun σ S H Q I o ox =>
  h σ S H _ I (fun b S2 H2 M2 q st => o (!b) S2 H2 M2 q st) ox
theorem etp_and {a b : Bool} (h1 : Etp E t Γ M a) (h2 : a = true → Etp E u Γ M b) : Etp E (tAnd t u) Γ M (a && b) := fun _ _ q => et_and (h1 _ _ (by
  cases a with
  | true => simpa using h2 rfl _ _ q
  | false => simpa using q))
theorem etp_or {a b : Bool} (h1 : Etp E t Γ M a) (h2 : a = false → Etp E u Γ M b) : Etp E (tOr t u) Γ M (a || b) := fun _ _ q => et_or (h1 _ _ (by
  cases a with
  | false => simpa using h2 rfl _ _ q
  | true => simpa using q))
theorem etp_not {a : Bool} (h1 : Etp E t Γ M a) : Etp E (tNot t) Γ M (!a) := fun _ _ q => et_not (h1 _ _ q)
/-! and, or, not as values -/
theorem ev_andV (h : Ev E ta Γ M (fun R M1 => ∃ b, R = iBl b ∧ if b = true then Ev E tb Γ M1 k X else k (iBl false) M1) X) : Ev E (tAndV ta tb) Γ M k X := fun σ S H Q I o ox =>
  h σ S H _ I (fun v S2 H2 R M2 ⟨b, e, q⟩ st p => by
    subst e; cases p
    refine ⟨b, rfl, ?_⟩
    cases b with
    | true =>
      have q' : Ev E tb Γ M2 k X := by simpa using q
      show tb σ H2 Q
      exact q' σ S2 H2 Q (I.step st) (o.step st) (ox.step st)
    | false =>
      have q' : k (iBl false) M2 := by simpa using q
      exact o _ S2 H2 (iBl false) M2 q' st rfl) ox
theorem ev_orV (h : Ev E ta Γ M (fun R M1 => ∃ b, R = iBl b ∧ if b = true then k (iBl true) M1 else Ev E tb Γ M1 k X) X) : Ev E (tOrV ta tb) Γ M k X := fun σ S H Q I o ox =>
  h σ S H _ I (fun v S2 H2 R M2 ⟨b, e, q⟩ st p => by
    subst e; cases p
    refine ⟨b, rfl, ?_⟩
    cases b with
    | false =>
      have q' : Ev E tb Γ M2 k X := by simpa using q
      show tb σ H2 Q
      exact q' σ S2 H2 Q (I.step st) (o.step st) (ox.step st)
    | true =>
      have q' : k (iBl true) M2 := by simpa using q
      exact o _ S2 H2 (iBl true) M2 q' st rfl) ox
theorem ep_andV {a b : Bool} (h1 : Ep E ta Γ M (iBl a)) (h2 : a = true → Ep E tb Γ M (iBl b)) : Ep E (tAndV ta tb) Γ M (iBl (a && b)) := fun _ _ q => ev_andV (h1 _ _ ⟨a, rfl, by
  cases a with
  | true => simpa using h2 rfl _ _ q
  | false => simpa using q⟩)
theorem ev_if (h : Et E t Γ M (fun b M1 => if b = true then Ev E ta Γ M1 k X else Ev E tb Γ M1 k X) X) : Ev E (tIf t ta tb) Γ M k X := fun σ S H Q I o ox =>
  h σ S H _ I (fun b S2 H2 M2 q st => by
    cases b with
    | true =>
      have q' : Ev E ta Γ M2 k X := by simpa using q
      show ta σ H2 Q
      exact q' σ S2 H2 Q (I.step st) (o.step st) (ox.step st)
    | false =>
      have q' : Ev E tb Γ M2 k X := by simpa using q
      show tb σ H2 Q
      exact q' σ S2 H2 Q (I.step st) (o.step st) (ox.step st)) ox
/-- a chain a op b op' c -/
theorem ev_chain {r' : L2.R2} {tc : TE} (h : Ev E ta Γ M (fun R1 M1 => Ev E tb Γ M1 (fun R2 M2 => O2 r R1 R2 M2 fun R3 M3 => ∃ b, R3 = iBl b ∧ if b = true then Ev E tc Γ M3 (fun R4 M4 => O2 r' R2 R4 M4 k) X else k (iBl false) M3) X) X) : Ev E (tChain r r' ta tb tc) Γ M k X := fun σ S H Q I o ox =>
  h σ S H _ I (fun x S1 H1 R1 M1 h1 st1 p1 => h1 σ S1 H1 _ (I.step st1) (fun y S2 H2 R2 M2 h2 st2 p2 =>
    h2 x y S2 H2 _ st2.e st2.m (R1.m st2.s p1) p2 fun z S3 H3 R3 M3 ⟨b, e, q⟩ st3 p3 => by
      subst e; cases p3
      refine ⟨b, rfl, ?_⟩
      have s3 := (st1.trans st2).trans st3
      cases b with
      | true =>
        have q' : Ev E tc Γ M3 (fun R4 M4 => O2 r' R2 R4 M4 k) X := by simpa using q
        rw [if_pos rfl]
        exact q' σ S3 H3 _ (I.step s3) (fun w S4 H4 R4 M4 h4 st4 p4 => h4 y w S4 H4 Q st4.e st4.m (R2.m (st3.s.trans st4.s) p2) p4 (o.step (s3.trans st4))) (ox.step s3)
      | false =>
        have q' : k (iBl false) M3 := by simpa using q
        rw [if_neg Bool.false_ne_true]
        exact o _ S3 H3 (iBl false) M3 q' s3 rfl) (ox.step st1)) ox
theorem ep_chain {r' : L2.R2} {tc : TE} {R4 : Rep} {a b : Bool} (ha : Ep E ta Γ M R1) (hb : Ep E tb Γ M R2) (hr : O2p r R1 R2 M (iBl a)) (hc : a = true → Ep E tc Γ M R4) (hr' : a = true → O2p r' R2 R4 M (iBl b)) : Ep E (tChain r r' ta tb tc) Γ M (iBl (a && b)) := fun _ _ q =>
  ev_chain (ha _ _ (hb _ _ (hr _ ⟨a, rfl, by
    cases a with
    | true => simpa using hc rfl _ _ (hr' rfl _ q)
    | false => simpa using q⟩)))

/-! ### arguments -/
variable {tr : TA} {Rs : List Rep}
theorem ea_nil {ka : List Rep → SH → Prop} (q : ka [] M) : Ea E tNil Γ M ka X := fun σ S H Q I o _ => o [] S H [] M q (Stp.refl I.ex I.m) True.intro
theorem ea_cons {ka : List Rep → SH → Prop} (h : Ev E ta Γ M (fun R M1 => Ea E tr Γ M1 (fun Rs M2 => ka (R :: Rs) M2) X) X) : Ea E (tCons ta tr) Γ M ka X := fun σ S H Q I o ox =>
  h σ S H _ I (fun x S1 H1 R1 M1 h1 st1 p1 => h1 σ S1 H1 _ (I.step st1) (fun xs S2 H2 Rs M2 h2 st2 p2 => o (x :: xs) S2 H2 (R1 :: Rs) M2 h2 (st1.trans st2) ⟨R1.m st2.s p1, p2⟩) (ox.step st1)) ox
theorem eap_nil : Eap E tNil Γ M [] := fun _ _ q => ea_nil q
theorem eap_cons (h : Ep E ta Γ M R) (h2 : Eap E tr Γ M Rs) : Eap E (tCons ta tr) Γ M (R :: Rs) := fun _ _ q => ea_cons (h _ _ (h2 _ _ q))
/-! displays -/
theorem sz_le {n : Nat} (h : n ≤ 1000000) : n ≤ sizeLine := by rw [sizeLine_eq]; omega
theorem sz_lt {n : Nat} (h : n ≤ 1000000) : n < sizeLine := by rw [sizeLine_eq]; omega
theorem ev_lst (h : Ea E tr Γ M (fun Rs M1 => Rs.length ≤ 1000000 ∧ k (iLst Rs) M1) X) : Ev E (tLst tr) Γ M k X := fun σ S H Q I o ox =>
  h σ S H _ I (fun xs S1 H1 Rs M1 ⟨hl, q⟩ st p => ⟨sz_le (by rw [p.len]; exact hl), fun a ha => o (.ref a) (upd S1 a (.lst xs)) _ (iLst Rs) M1 q (st.trans (Stp.newS st.e st.m ha))
    ⟨a, xs, rfl, upd_same, p.mono (Same.newS (Same.refl _) (st.e.free ha))⟩⟩) ox
theorem ev_tup (h : Ea E tr Γ M (fun Rs M1 => Rs.length ≤ 1000000 ∧ k (aTup K Rs) M1) X) : Ev E (tTup tr) Γ M k X := fun σ S H Q I o ox =>
  h σ S H _ I (fun xs S1 H1 Rs M1 ⟨hl, q⟩ st p => ⟨sz_le (by rw [p.len]; exact hl), fun a ha => o (.ref a) (upd S1 a (.tup xs)) _ (aTup K Rs) M1 q (st.trans (Stp.newS st.e st.m ha))
    ⟨a, xs, rfl, SqT.of upd_same, p.mono (Same.newS (Same.refl _) (st.e.free ha))⟩⟩) ox
/-- a list that is to be changed -/
theorem ev_lstM (h : Ea E tr Γ M (fun Rs M1 => Rs.length ≤ 1000000 ∧ ∀ a, k (iRef a) (M1 ++ [(a, mLst Rs)])) X) : Ev E (tLst tr) Γ M k X := fun σ S H Q I o ox =>
  h σ S H _ I (fun xs S1 H1 Rs M1 ⟨hl, q⟩ st p => ⟨sz_le (by rw [p.len]; exact hl), fun a ha => o (.ref a) S1 _ (iRef a) _ (q a) (st.trans (Stp.newM st.e st.m ha ⟨xs, rfl, p⟩)) rfl⟩) ox

/-! ### subscripts -/
theorem atI_map {α β : Type} {f : α → β} {l : List α} {i : Int} {x : α} (h : atI l i = some x) : atI (l.map f) i = some (f x) := by
  obtain ⟨j, h1, h2, h3, h4, h5⟩ := atI_get h
  unfold atI at h ⊢
  rw [List.length_map]
  cases e : ixN l.length i with
  | none => rw [e] at h; cases h
  | some j' =>
    rw [e] at h
    have h' : l[j']? = some x := h
    show (l.map f)[j']? = some (f x)
    rw [List.getElem?_map, h']
    rfl
theorem All2.atI {S : Hp} {rs : List Rep} {vs : List V} (p : All2 S rs vs) {i : Int} {r : Rep} (h : L2.atI rs i = some r) : ∃ v, L2.atI vs i = some v ∧ r.p S v := by
  unfold L2.atI at h ⊢
  rw [p.len]
  cases e : ixN rs.length i with
  | none => rw [e] at h; cases h
  | some j =>
    rw [e] at h
    obtain ⟨v, h1, h2⟩ := p.get (i := j) h
    exact ⟨v, h1, h2⟩
theorem o_ixL {rs : List Rep} (h : atI rs i = some R) : O2p (rIxL K) (iLst rs) (iInt i) M R := o2_val fun x y S H e _ h1 h2 => by
  obtain ⟨a, xs, rfl, q1, q2⟩ := h1
  cases h2
  obtain ⟨v, h3, h4⟩ := q2.atI h
  exact ⟨v, h4, fun Q q => ⟨a, xs, i, v, rfl, rfl, SqL.of (e _ _ q1), h3, q⟩⟩
theorem o_ixT {rs : List Rep} (h : atI rs i = some R) : O2p (rIxT K) (aTup K rs) (iInt i) M R := o2_val fun x y S H e _ h1 h2 => by
  obtain ⟨a, xs, rfl, q1, q2⟩ := h1
  cases h2
  obtain ⟨v, h3, h4⟩ := q2.atI h
  exact ⟨v, h4, fun Q q => ⟨a, xs, i, v, rfl, rfl, Same.sqt e q1, h3, q⟩⟩
theorem o_ixS {z : Str} {c : Nat} (hz : z.length ≤ 1000000) (h : atI z.cps.toList i = some c) : O2p rIxS (aStr z) (iInt i) M (aStr ⟨#[c]⟩) := o2_val fun x y S H e _ h1 h2 => by
  cases h1; cases h2
  exact ⟨_, rfl, fun Q q => ⟨z, i, c, rfl, rfl, sz_le hz, h, q⟩⟩
theorem o_ixM {a : Addr} {rs : List Rep} (hm : (a, mLst rs) ∈ M) (h : atI rs i = some R) : O2p (rIxL K) (iRef a) (iInt i) M R := o2_val fun x y S H e m h1 h2 => by
  cases h1; cases h2
  obtain ⟨_, o, ho, xs, rfl, q2⟩ := m.at_ _ _ hm
  obtain ⟨v, h3, h4⟩ := q2.atI h
  exact ⟨v, h4, fun Q q => ⟨a, xs, i, v, rfl, rfl, SqL.of ho, h3, q⟩⟩
theorem o_or1 {r r' : L2.R2} (h : O2p r R1 R2 M R) : O2p (fun x y H Q => r x y H Q ∨ r' x y H Q) R1 R2 M R := fun k q x y S H Q e m h1 h2 o => .inl (h k q x y S H Q e m h1 h2 o)
theorem o_or2 {r r' : L2.R2} (h : O2p r' R1 R2 M R) : O2p (fun x y H Q => r x y H Q ∨ r' x y H Q) R1 R2 M R := fun k q x y S H Q e m h1 h2 o => .inr (h k q x y S H Q e m h1 h2 o)

/-! ### built-ins by name -/
theorem ev_cb {rl : List V → Hp → VK → Prop} (h : Ea E tr Γ M (fun Rs M1 => Ol rl Rs M1 k) X) : Ev E (tCB rl tr) Γ M k X := fun σ S H Q I o ox =>
  h σ S H _ I (fun xs S1 H1 Rs M1 h1 st p => h1 xs S1 H1 Q st.e st.m p (o.step st)) ox
theorem ep_cb {rl : List V → Hp → VK → Prop} (h : Eap E tr Γ M Rs) (hr : Olp rl Rs M R) : Ep E (tCB rl tr) Γ M R := fun _ _ q => ev_cb (h _ _ (hr _ q))
def rLn (K : PySem.W.Frag) : List V → Hp → VK → Prop := fun xs H Q => ∃ x n, xs = [x] ∧ LenV K x H n ∧ Q (.int n) H
theorem all2_1 {S : Hp} {R : Rep} {xs : List V} (h : All2 S [R] xs) : ∃ v, xs = [v] ∧ R.p S v := by
  match xs, h with
  | [v], h => exact ⟨v, rfl, h.1⟩
  | [], h => exact h.elim
  | _ :: _ :: _, h => exact h.2.elim
theorem all2_2 {S : Hp} {R R' : Rep} {xs : List V} (h : All2 S [R, R'] xs) : ∃ v w, xs = [v, w] ∧ R.p S v ∧ R'.p S w := by
  match xs, h with
  | [v, w], h => exact ⟨v, w, rfl, h.1, h.2.1⟩
  | [], h => exact h.elim
  | [_], h => exact h.2.elim
  | _ :: _ :: _ :: _, h => exact h.2.2.elim
theorem c_lenL {rs : List Rep} : Olp (rLn K) [iLst rs] M (iInt rs.length) := ol_val fun xs S H e _ h => by
  obtain ⟨v, rfl, a, ys, rfl, q1, q2⟩ := all2_1 h
  exact ⟨.int rs.length, rfl, fun Q q => ⟨_, rs.length, rfl, .inl ⟨ys, SqL.of (e _ _ q1), q2.len.symm⟩, q⟩⟩
theorem c_lenT {rs : List Rep} : Olp (rLn K) [aTup K rs] M (iInt rs.length) := ol_val fun xs S H e _ h => by
  obtain ⟨v, rfl, a, ys, rfl, q1, q2⟩ := all2_1 h
  exact ⟨.int rs.length, rfl, fun Q q => ⟨_, rs.length, rfl, .inr ⟨ys, Same.sqt e q1, q2.len.symm⟩, q⟩⟩
theorem c_lenS {z : Str} (hz : z.length ≤ 1000000) : Olp (rLn K) [aStr z] M (iInt z.length) := ol_val fun xs S H e _ h => by
  obtain ⟨v, rfl, h1⟩ := all2_1 h
  cases h1
  exact ⟨_, rfl, fun Q q => ⟨_, z.length, rfl, ⟨sz_le hz, rfl⟩, q⟩⟩
theorem c_max2 : Olp (fun xs H Q => ∃ i j, xs = [.int i, .int j] ∧ Q (.int (if j > i then j else i)) H) [iInt i, iInt j] M (iInt (max i j)) := ol_val fun xs S H e _ h => by
  obtain ⟨v, w, rfl, h1, h2⟩ := all2_2 h
  cases h1; cases h2
  refine ⟨_, rfl, fun Q q => ⟨i, j, rfl, ?_⟩⟩
  have : (if j > i then j else i) = max i j := by
    split <;> omega
  rw [this]
  exact q
end
end L3

namespace L3
open PySem L2

/-! ### statements -/
structure EndT where
  nx : Ct → SH → Prop
  rt : KR
  bk : Ct → SH → Prop := fun _ _ => False
  ct : Ct → SH → Prop := fun _ _ => False
  ex : KX := X0
abbrev KC := Ct → SH → Prop
def OutS (S H : Hp) (M : SH) (k : KC) (q : L2.St → Hp → Prop) : Prop := ∀ σ2 S2 H2 Γ2 M2, k Γ2 M2 → Stp S H S2 H2 M M2 → Nv S2 H2 σ2 Γ2 M2 → q σ2 H2
theorem OutS.step {S H S1 H1 : Hp} {M M1 : SH} {k : KC} {q : L2.St → Hp → Prop} (o : OutS S H M k q) (st : Stp S H S1 H1 M M1) : OutS S1 H1 M1 k q :=
  fun σ2 S2 H2 Γ2 M2 a st2 I => o σ2 S2 H2 Γ2 M2 a (st.trans st2) I
structure EndOk (S H : Hp) (M : SH) (D : EndT) (D0 : Ends) (E : XK) : Prop where
  nx : OutS S H M D.nx D0.nx
  rt : Out S H M D.rt D0.rt
  bk : OutS S H M D.bk D0.bk
  ct : OutS S H M D.ct D0.ct
  ex : OutX S H M D.ex E
theorem EndOk.step {S H S1 H1 : Hp} {M M1 : SH} {D : EndT} {D0 : Ends} {E : XK} (o : EndOk S H M D D0 E) (st : Stp S H S1 H1 M M1) : EndOk S1 H1 M1 D D0 E :=
  ⟨o.nx.step st, o.rt.step st, o.bk.step st, o.ct.step st, o.ex.step st⟩
def St (E : XK) (t : TS) (Γ : Ct) (M : SH) (D : EndT) : Prop := ∀ σ S H D0, Nv S H σ Γ M → EndOk S H M D D0 E → t D0 σ H

/-! ### targets -/
def Tg (g : TG) (R : Rep) (Γ : Ct) (M : SH) (vs : List Nat) (k : KC) : Prop := ∀ v σ S H Q, Nv S H σ Γ M → R.p S v → (∀ σ2 S2 H2 Γ2 M2, k Γ2 M2 → Stp S H S2 H2 M M2 → Nv S2 H2 σ2 Γ2 M2 → (vs ≠ [] → wipe σ2 vs = wipe σ vs) → Q σ2 H2) → g v σ H Q
def Tgs (g : TGs) (Rs : List Rep) (Γ : Ct) (M : SH) (vs : List Nat) (k : KC) : Prop := ∀ xs σ S H Q, Nv S H σ Γ M → All2 S Rs xs → (∀ σ2 S2 H2 Γ2 M2, k Γ2 M2 → Stp S H S2 H2 M M2 → Nv S2 H2 σ2 Γ2 M2 → (vs ≠ [] → wipe σ2 vs = wipe σ vs) → Q σ2 H2) → g xs σ H Q
theorem wipe_set {σ : L2.St} {j : Nat} {x : Option V} : ∀ {vs : List Nat}, j ∈ vs → wipe (σ.set j x) vs = wipe σ vs
  | [], h => by cases h
  | v :: vs, h => by
    unfold wipe
    by_cases hv : j = v
    · subst hv
      by_cases h2 : j ∈ vs
      · rw [wipe_set h2]
      · have aux : ∀ {vs : List Nat}, j ∉ vs → wipe (σ.set j x) vs = (wipe σ vs).set j x := by
          intro vs
          induction vs with
          | nil => intro _; rfl
          | cons w ws ih =>
            intro hn
            unfold wipe
            rw [ih fun z => hn (List.mem_cons_of_mem _ z), List.set_comm _ _ (fun z => hn (by rw [z]; exact List.mem_cons_self ..))]
        rw [aux h2, List.set_set]
    · rcases List.mem_cons.mp h with e | h
      · exact absurd e hv
      · rw [wipe_set h]
section
variable {E : XK} {K : PySem.W.Frag} {Γ : Ct} {M : SH} {k : KC} {X : KX} {R R1 R2 : Rep} {te ta tb : TE} {vs : List Nat} {D : EndT} {t u : TS} {c : TT}
theorem tg_name {j : Nat} (q : k (Γ.set j (some R)) M) (hj : vs = [] ∨ j ∈ vs := by first | exact .inl rfl | exact .inr (by decide)) : Tg (gName j) R Γ M vs k := fun v σ S H Q I p o =>
  o _ S H _ M q (Stp.refl I.ex I.m) (I.set j p) fun hv => wipe_set (hj.resolve_left hv)
theorem tgs_nil (q : k Γ M) : Tgs gNil [] Γ M vs k := fun xs σ S H Q I p o => by
  match xs, p with
  | [], _ => exact ⟨rfl, o σ S H Γ M q (Stp.refl I.ex I.m) I fun _ => rfl⟩
  | _ :: _, p => exact p.elim
theorem tgs_cons {g : TG} {gs : TGs} {Rs : List Rep} (h : Tg g R Γ M vs fun Γ1 M1 => Tgs gs Rs Γ1 M1 vs k) : Tgs (gCons g gs) (R :: Rs) Γ M vs k := fun xs σ S H Q I p o => by
  match xs, p with
  | [], p => exact p.elim
  | x :: xs, p =>
    refine ⟨x, xs, rfl, h x σ S H _ I p.1 fun σ1 S1 H1 Γ1 M1 q st I1 w1 => q xs σ1 S1 H1 Q I1 (All2.mono st.s p.2) fun σ2 S2 H2 Γ2 M2 q2 st2 I2 w2 => o σ2 S2 H2 Γ2 M2 q2 (st.trans st2) I2 fun z => (w2 z).trans (w1 z)⟩
theorem tg_tup {gs : TGs} {Rs : List Rep} {n : Nat} (hn : Rs.length = n) (h : Tgs gs Rs Γ M vs k) : Tg (gTup K n gs) (aTup K Rs) Γ M vs k := fun v σ S H Q I p o => by
  obtain ⟨a, xs, rfl, q1, q2⟩ := p
  exact ⟨a, xs, rfl, Same.sqt I.ex q1, by rw [q2.len]; exact hn, h xs σ S H Q I q2 o⟩

/-! ### simple statements -/
theorem st_seq (h : St E t Γ M { D with nx := fun Γ1 M1 => St E u Γ1 M1 D }) : St E (tSeq t u) Γ M D := fun σ S H D0 I o =>
  h σ S H { D0 with nx := u D0 } I ⟨fun σ2 S2 H2 Γ2 M2 q st I2 => q σ2 S2 H2 D0 I2 (o.step st), o.rt, o.bk, o.ct, o.ex⟩
theorem st_next (q : D.nx Γ M) : St E tNext Γ M D := fun σ S H D0 I o => o.nx σ S H Γ M q (Stp.refl I.ex I.m) I
theorem st_brk (q : D.bk Γ M) : St E tBreak Γ M D := fun σ S H D0 I o => o.bk σ S H Γ M q (Stp.refl I.ex I.m) I
theorem st_cont (q : D.ct Γ M) : St E tCont Γ M D := fun σ S H D0 I o => o.ct σ S H Γ M q (Stp.refl I.ex I.m) I
theorem st_asg {j : Nat} (h : Ev E te Γ M (fun R M1 => D.nx (Γ.set j (some R)) M1) D.ex) : St E (tAsg te (gName j)) Γ M D := fun σ S H D0 I o =>
  h σ S H _ I (fun v S2 H2 R M2 q st p => o.nx _ S2 H2 _ M2 q st ((I.step st).set j p)) o.ex
/-- any target -/
theorem st_asgT {g : TG} (h : Ev E te Γ M (fun R M1 => Tg g R Γ M1 vs D.nx) D.ex) : St E (tAsg te g) Γ M D := fun σ S H D0 I o =>
  h σ S H _ I (fun v S2 H2 R M2 q st p => q v σ S2 H2 _ (I.step st) p fun σ3 S3 H3 Γ3 M3 q3 st3 I3 _ => o.nx σ3 S3 H3 Γ3 M3 q3 (st.trans st3) I3) o.ex
theorem st_drop (h : Ev E te Γ M (fun _ M1 => D.nx Γ M1) D.ex) : St E (tDrop te) Γ M D := fun σ S H D0 I o =>
  h σ S H _ I (fun v S2 H2 R M2 q st p => o.nx σ S2 H2 Γ M2 q st (I.step st)) o.ex
theorem st_ret (h : Ev E te Γ M D.rt D.ex) : St E (tRet te) Γ M D := fun σ S H D0 I o => h σ S H _ I o.rt o.ex
theorem st_retN (h : D.rt iNon M) : St E tRetN Γ M D := fun σ S H D0 I o => o.rt .non S H iNon M h (Stp.refl I.ex I.m) rfl
theorem st_if (h : Et E c Γ M (fun b M1 => if b = true then St E t Γ M1 D else St E u Γ M1 D) D.ex) : St E (tIfS c t u) Γ M D := fun σ S H D0 I o =>
  h σ S H _ I (fun b S2 H2 M2 q st => by
    cases b with
    | true =>
      have q' : St E t Γ M2 D := by simpa using q
      exact q' σ S2 H2 D0 (I.step st) (o.step st)
    | false =>
      have q' : St E u Γ M2 D := by simpa using q
      exact q' σ S2 H2 D0 (I.step st) (o.step st)) o.ex
theorem st_ifp {b : Bool} (h : Etp E c Γ M b) (h1 : b = true → St E t Γ M D) (h2 : b = false → St E u Γ M D) : St E (tIfS c t u) Γ M D := st_if (h _ _ (by
  cases b with
  | true => simpa using h1 rfl
  | false => simpa using h2 rfl))
theorem st_par {i j : Nat} {ta : TA} (h : Ea E ta Γ M (fun Rs M1 => ∃ R1 R2, Rs = [R1, R2] ∧ D.nx ((Γ.set i (some R1)).set j (some R2)) M1) D.ex) : St E (tPar i j ta) Γ M D := fun σ S H D0 I o =>
  h σ S H _ I (fun xs S2 H2 Rs M2 ⟨R1, R2, e, q⟩ st p => by
    subst e
    obtain ⟨v, w, rfl, p1, p2⟩ := all2_2 p
    exact ⟨v, w, rfl, o.nx _ S2 H2 _ M2 q st (((I.step st).set i p1).set j p2)⟩) o.ex
/-- a word between a statement and the rest -/
theorem st_mono {D' : EndT} (h : St E t Γ M D') (h1 : ∀ Γ M, D'.nx Γ M → D.nx Γ M) (h2 : ∀ R M, D'.rt R M → D.rt R M) (h3 : ∀ Γ M, D'.bk Γ M → D.bk Γ M) (h4 : ∀ Γ M, D'.ct Γ M → D.ct Γ M) (h5 : ∀ x M, D'.ex x M → D.ex x M) : St E t Γ M D := fun σ S H D0 I o =>
  h σ S H D0 I ⟨fun a b c d e q => o.nx a b c d e (h1 _ _ q), fun a b c d e q => o.rt a b c d e (h2 _ _ q), fun a b c d e q => o.bk a b c d e (h3 _ _ q), fun a b c d e q => o.ct a b c d e (h4 _ _ q), fun a b c d e f q => o.ex a b c d e f (h5 _ _ q)⟩
theorem st_cut (J : KC) (h : St E t Γ M { D with nx := J }) (h2 : ∀ Γ1 M1, J Γ1 M1 → St E u Γ1 M1 D) : St E (tSeq t u) Γ M D :=
  st_seq (st_mono h (fun Γ1 M1 q => h2 Γ1 M1 q) (fun _ _ q => q) (fun _ _ q => q) (fun _ _ q => q) (fun _ _ q => q))
/-- what is known of slots may be forgotten -/
theorem st_ctx {Γ' : Ct} (h : St E t Γ M D) (hl : Γ'.length = Γ.length) (hw : ∀ (i : Nat) (R : Rep), Γ[i]? = some (some R) → Γ'[i]? = some (some R)) : St E t Γ' M D := fun σ S H D0 I o =>
  h σ S H D0 (I.weak hl.symm hw) o

/-! ### what is walked -/
def TW (J : It) (n : Nat) (S1 : Hp) (rs : Nat → Rep → Prop) : Prop := ∃ G Y, Walk J n G Y ∧ (∀ Sx H, Same S1 Sx → Same Sx H → G H) ∧
  ∀ i H x H', i < n → Y i H x H' → ∀ Sx Mx, Same S1 Sx → Same Sx H → MOk Sx H Mx → ∃ S' r, Stp Sx H S' H' Mx Mx ∧ rs i r ∧ r.p S' x
def Ti (E : XK) (wi : TI) (Γ : Ct) (M : SH) (k : Nat → (Nat → Rep → Prop) → SH → Prop) (X : KX) : Prop := ∀ σ S H R, Nv S H σ Γ M → (∀ J S1 H1 n rs M1, k n rs M1 → Stp S H S1 H1 M M1 → TW J n S1 rs → R J H1) → OutX S H M X E → wi σ H R
def Tip (E : XK) (wi : TI) (Γ : Ct) (M : SH) (n : Nat) (rs : Nat → Rep → Prop) : Prop := ∀ (k : Nat → (Nat → Rep → Prop) → SH → Prop) (X : KX), k n rs M → Ti E wi Γ M k X
theorem tw_list {S1 : Hp} {a : Addr} {xs : List V} {rl : List Rep} (h : S1 a = some (.lst xs)) (p : All2 S1 rl xs) : TW (Itl K a) rl.length S1 (fun i r => rl[i]? = some r) := by
  refine ⟨_, _, by have w := walk_list (K := K) (a := a) (xs := xs); rw [p.len] at w; exact w, fun Sx H e1 e2 => SqL.of ((e1.trans e2) _ _ h), fun i H x H' hi y Sx Mx e1 e2 m => ?_⟩
  obtain ⟨rfl, hx⟩ := y
  obtain ⟨r, h1, h2⟩ := p.getV hx
  exact ⟨Sx, r, Stp.refl e2 m, h1, r.m e1 h2⟩
theorem tw_tup {S1 : Hp} {a : Addr} {xs : List V} {rl : List Rep} (h : SqT K S1 a xs) (p : All2 S1 rl xs) : TW (Itt K a) rl.length S1 (fun i r => rl[i]? = some r) := by
  refine ⟨_, _, by have w := walk_tup (K := K) (a := a) (xs := xs); rw [p.len] at w; exact w, fun Sx H e1 e2 => Same.sqt (e1.trans e2) h, fun i H x H' hi y Sx Mx e1 e2 m => ?_⟩
  obtain ⟨rfl, hx⟩ := y
  obtain ⟨r, h1, h2⟩ := p.getV hx
  exact ⟨Sx, r, Stp.refl e2 m, h1, r.m e1 h2⟩
theorem tw_range {S1 : Hp} {lo : Int} {n : Nat} : TW (Itr lo n) n S1 (fun i r => r = iInt (lo + (i : Nat))) :=
  ⟨_, _, walk_range, fun _ _ _ _ => True.intro, fun i H x H' hi y Sx Mx e1 e2 m => by
    obtain ⟨rfl, rfl⟩ := y
    exact ⟨Sx, _, Stp.refl e2 m, rfl, rfl⟩⟩
theorem tw_str {S1 : Hp} {z : Str} : TW (Its z) z.cps.size S1 (fun i r => ∃ c, z.cps[i]? = some c ∧ r = aStr ⟨#[c]⟩) :=
  ⟨_, _, walk_str, fun _ _ _ _ => True.intro, fun i H x H' hi y Sx Mx e1 e2 m => by
    obtain ⟨rfl, c, h1, rfl⟩ := y
    exact ⟨Sx, _, Stp.refl e2 m, ⟨c, h1, rfl⟩, rfl⟩⟩
theorem tw_pair {J : It} {n : Nat} {S1 : Hp} {G : Hp → Prop} {f g : Nat → Option V} {rs qs : Nat → Rep → Prop} (w : Walk J n G (YPair f g)) (hG : ∀ Sx H, Same S1 Sx → Same Sx H → G H)
    (hf : ∀ i x, i < n → f i = some x → ∃ r, rs i r ∧ r.p S1 x) (hg : ∀ i x, i < n → g i = some x → ∃ r, qs i r ∧ r.p S1 x) : TW J n S1 (fun i r => ∃ r1 r2, rs i r1 ∧ qs i r2 ∧ r = aTup K [r1, r2]) :=
  ⟨G, _, w, hG, fun i H x H' hi y Sx Mx e1 e2 m => by
    obtain ⟨T, u, v, rfl, hT, rfl, h1, h2⟩ := y
    obtain ⟨r1, a1, b1⟩ := hf i u hi h1
    obtain ⟨r2, a2, b2⟩ := hg i v hi h2
    have e3 : Same S1 (upd Sx T (.tup [u, v])) := e1.trans (Same.newS (Same.refl _) (e2.free hT))
    exact ⟨upd Sx T (.tup [u, v]), _, Stp.newS e2 m hT, ⟨r1, r2, a1, a2, rfl⟩, T, [u, v], rfl, SqT.of upd_same, r1.m e3 b1, r2.m e3 b2, True.intro⟩⟩
theorem ti_list {tl : TE} {ki : Nat → (Nat → Rep → Prop) → SH → Prop} (h : Ev E tl Γ M (fun R M1 => ∃ rl, R = iLst rl ∧ ki rl.length (fun i r => rl[i]? = some r) M1) X) : Ti E (iList K tl) Γ M ki X := fun σ S H R I o ox =>
  h σ S H _ I (fun v S2 H2 R' M2 ⟨rl, e, q⟩ st p => by
    subst e
    obtain ⟨a, xs, rfl, p1, p2⟩ := p
    exact ⟨a, rfl, ⟨xs, SqL.of (st.e _ _ p1)⟩, o _ S2 H2 _ _ M2 q st (tw_list p1 p2)⟩) ox
theorem ti_tup {tl : TE} {ki : Nat → (Nat → Rep → Prop) → SH → Prop} (h : Ev E tl Γ M (fun R M1 => ∃ rl, R = aTup K rl ∧ ki rl.length (fun i r => rl[i]? = some r) M1) X) : Ti E (L2.iTup K tl) Γ M ki X := fun σ S H R I o ox =>
  h σ S H _ I (fun v S2 H2 R' M2 ⟨rl, e, q⟩ st p => by
    subst e
    obtain ⟨a, xs, rfl, p1, p2⟩ := p
    exact ⟨a, rfl, ⟨xs, Same.sqt st.e p1⟩, o _ S2 H2 _ _ M2 q st (tw_tup p1 p2)⟩) ox
end
end L3

namespace L3
open PySem L2 RZ PyProof.Rows
section
variable {E : XK} {K : PySem.W.Frag} {Γ : Ct} {M : SH} {k : KR} {X : KX} {R R1 R2 : Rep} {te ta tb tl : TE} {vs : List Nat} {D : EndT} {t u : TS} {c tt : TT} {tr : TA} {wi : TI} {n : Nat} {rs : Nat → Rep → Prop}
theorem tip_list {rl : List Rep} (h : Ep E tl Γ M (iLst rl)) : Tip E (iList K tl) Γ M rl.length (fun i r => rl[i]? = some r) := fun _ _ q => ti_list (h _ _ ⟨rl, rfl, q⟩)
theorem tip_tup {rl : List Rep} (h : Ep E tl Γ M (aTup K rl)) : Tip E (L2.iTup K tl) Γ M rl.length (fun i r => rl[i]? = some r) := fun _ _ q => ti_tup (h _ _ ⟨rl, rfl, q⟩)
theorem ti_rng1 {ki : Nat → (Nat → Rep → Prop) → SH → Prop} (h : Ea E tr Γ M (fun Rs M1 => ∃ m : Nat, Rs = [iInt m] ∧ m ≤ 1000000 ∧ ki m (fun i r => r = iInt (i : Nat)) M1) X) : Ti E (iRng1 tr) Γ M ki X := fun σ S H R I o ox =>
  h σ S H _ I (fun xs S2 H2 Rs M2 ⟨m, e, hm, q⟩ st p => by
    subst e
    obtain ⟨v, rfl, p1⟩ := all2_1 p
    cases p1
    refine ⟨(m : Int), rfl, by omega, by omega, o _ S2 H2 m _ M2 q st ?_⟩
    have w := tw_range (S1 := S2) (lo := 0) (n := m)
    simp only [Int.zero_add] at w
    exact w) ox
theorem ti_rng2 {ki : Nat → (Nat → Rep → Prop) → SH → Prop} (h : Ea E tr Γ M (fun Rs M1 => ∃ lo hi : Int, Rs = [iInt lo, iInt hi] ∧ -1000000 ≤ lo ∧ lo ≤ 1000000 ∧ -1000000 ≤ hi ∧ hi ≤ 1000000 ∧ ki (hi - lo).toNat (fun i r => r = iInt (lo + (i : Nat))) M1) X) : Ti E (iRng2 tr) Γ M ki X := fun σ S H R I o ox =>
  h σ S H _ I (fun xs S2 H2 Rs M2 ⟨lo, hi, e, h1, h2, h3, h4, q⟩ st p => by
    subst e
    obtain ⟨v, w, rfl, p1, p2⟩ := all2_2 p
    cases p1; cases p2
    exact ⟨lo, hi, rfl, ⟨by omega, by omega, by omega, by omega⟩, o _ S2 H2 _ _ M2 q st tw_range⟩) ox
theorem tip_str {z : Str} (h : Ep E te Γ M (aStr z)) : Tip E (L2.iStr te) Γ M z.cps.size (fun i r => ∃ c, z.cps[i]? = some c ∧ r = aStr ⟨#[c]⟩) := fun ki X q σ S H R I o ox =>
  h (fun R' M' => R' = aStr z ∧ M' = M) X ⟨rfl, rfl⟩ σ S H _ I (fun v S2 H2 R' M2 ⟨e1, e2⟩ st p => by
    subst e1; subst e2; cases p
    exact ⟨z, rfl, o _ S2 H2 _ _ _ q st tw_str⟩) ox
theorem tip_zipL {r1 r2 : List Rep} (h : Ep E ta Γ M (iLst r1)) (h' : Ep E tb Γ M (iLst r2)) (hn : n = min r1.length r2.length) : Tip E (iZipA K (tCons ta (tCons tb tNil))) Γ M n (fun i r => ∃ q1 q2, r1[i]? = some q1 ∧ r2[i]? = some q2 ∧ r = aTup K [q1, q2]) := fun ki X q σ S H R I o ox =>
  eap_cons h (eap_cons h' eap_nil) (fun Rs M' => Rs = [iLst r1, iLst r2] ∧ M' = M) X ⟨rfl, rfl⟩ σ S H _ I (fun xs S2 H2 Rs M2 ⟨e1, e2⟩ st p => by
    subst e1; subst e2
    obtain ⟨v, w, rfl, ⟨a, ys, rfl, p1, p2⟩, b, zs, rfl, p3, p4⟩ := all2_2 p
    refine ⟨a, b, ys, zs, rfl, .inl ⟨SqL.of (st.e _ _ p1), SqL.of (st.e _ _ p3), o _ S2 H2 _ _ _ q st ?_⟩⟩
    exact tw_pair (walk_zip (by rw [p2.len, p4.len]; exact hn)) (fun Sx H e1 e2 => ⟨SqL.of ((e1.trans e2) _ _ p1), SqL.of ((e1.trans e2) _ _ p3)⟩) (fun i x hi hx => p2.getV hx) (fun i x hi hx => p4.getV hx)) ox
theorem walk_zipTT {a b : Addr} {xs ys : List V} {n : Nat} (hn : n = min xs.length ys.length) : Walk (ItzT K a b) n (fun H => SqT K H a xs ∧ SqT K H b ys) (YPair (fun i => xs[i]?) (fun i => ys[i]?)) := by
  subst hn
  refine ⟨fun i _ hi q => ?_, fun _ q => ⟨xs, ys, q.1, q.2, by omega⟩, fun i H v H' _ q y => ?_⟩
  · have h1 : i < xs.length := by omega
    have h2 : i < ys.length := by omega
    exact ⟨xs, ys, xs[i], ys[i], q.1, q.2, by simp [h1], by simp [h2]⟩
  · obtain ⟨T, x, z, h1, h2, h3, h4, h5⟩ := y
    exact ⟨T, x, z, h1, h2, h3, h4 xs q.1, h5 ys q.2⟩
theorem tip_zipT {r1 r2 : List Rep} (h : Ep E ta Γ M (aTup K r1)) (h' : Ep E tb Γ M (aTup K r2)) (hn : n = min r1.length r2.length) : Tip E (iZipA K (tCons ta (tCons tb tNil))) Γ M n (fun i r => ∃ q1 q2, r1[i]? = some q1 ∧ r2[i]? = some q2 ∧ r = aTup K [q1, q2]) := fun ki X q σ S H R I o ox =>
  eap_cons h (eap_cons h' eap_nil) (fun Rs M' => Rs = [aTup K r1, aTup K r2] ∧ M' = M) X ⟨rfl, rfl⟩ σ S H _ I (fun xs S2 H2 Rs M2 ⟨e1, e2⟩ st p => by
    subst e1; subst e2
    obtain ⟨v, w, rfl, ⟨a, ys, rfl, p1, p2⟩, b, zs, rfl, p3, p4⟩ := all2_2 p
    refine ⟨a, b, ys, zs, rfl, .inr ⟨Same.sqt st.e p1, Same.sqt st.e p3, o _ S2 H2 _ _ _ q st ?_⟩⟩
    exact tw_pair (walk_zipTT (by rw [p2.len, p4.len]; exact hn)) (fun Sx H e1 e2 => ⟨Same.sqt (e1.trans e2) p1, Same.sqt (e1.trans e2) p3⟩) (fun i x hi hx => p2.getV hx) (fun i x hi hx => p4.getV hx)) ox

/-! ### loops -/
theorem st_for {g : TG} (h : Ti E wi Γ M (fun n rs M1 => ∃ J : Nat → KC, J 0 Γ M1 ∧ (∀ i r Γ1 M1, i < n → rs i r → J i Γ1 M1 → Tg g r Γ1 M1 [] fun Γ2 M2 => St E t Γ2 M2 { D with nx := J (i + 1), ct := J (i + 1), bk := D.nx }) ∧ ∀ Γ1 M1, J n Γ1 M1 → D.nx Γ1 M1) D.ex) : St E (tFor wi g t) Γ M D := fun σ S H D0 I o =>
  h σ S H _ I (fun J S1 H1 n rs M1 ⟨V, v0, vs, vd⟩ st w => by
    obtain ⟨G, Y, wk, hG, hY⟩ := w
    refine for_it wk (fun i σ' H' => ∃ Sx Γx Mx, Nv Sx H' σ' Γx Mx ∧ Stp S1 H1 Sx H' M1 Mx ∧ V i Γx Mx) ⟨S1, Γ, M1, I.step st, Stp.refl st.e st.m, v0⟩ (fun i σ' H' _ ⟨Sx, Γx, Mx, Ix, sx, _⟩ => hG Sx H' sx.s Ix.ex) ?_ ?_
    · rintro i x σ' H' H'' hi ⟨Sx, Γx, Mx, Ix, sx, vx⟩ y
      obtain ⟨S', r, s', hr, pr⟩ := hY i H' x H'' hi y Sx Mx sx.s Ix.ex Ix.m
      refine vs i r Γx Mx hi hr vx x σ' S' H'' _ (Ix.step s') pr fun σ2 S2 H2 Γ2 M2 q st2 I2 _ => ?_
      have s2 := (sx.trans s').trans st2
      exact q σ2 S2 H2 _ I2 ⟨fun σ3 S3 H3 Γ3 M3 q3 st3 I3 => ⟨S3, Γ3, M3, I3, s2.trans st3, q3⟩, (o.step (st.trans s2)).rt, (o.step (st.trans s2)).nx, fun σ3 S3 H3 Γ3 M3 q3 st3 I3 => ⟨S3, Γ3, M3, I3, s2.trans st3, q3⟩, (o.step (st.trans s2)).ex⟩
    · rintro σ' H' ⟨Sx, Γx, Mx, Ix, sx, vx⟩
      exact o.nx σ' Sx H' Γx Mx (vd Γx Mx vx) (st.trans sx) Ix) o.ex
theorem st_while (W : Nat → KC) (m0 : Nat) (h0 : W m0 Γ M) (hs : ∀ m Γ1 M1, W m Γ1 M1 → Et E c Γ1 M1 (fun b M2 => if b = true then St E t Γ1 M2 { D with nx := fun Γ2 M3 => ∃ m', m' < m ∧ W m' Γ2 M3, ct := fun Γ2 M3 => ∃ m', m' < m ∧ W m' Γ2 M3, bk := D.nx } else D.nx Γ1 M2) D.ex) : St E (tWhile c t) Γ M D := fun σ S H D0 I o => by
  refine ⟨fun m σ' H' => ∃ Sx Γx Mx, Nv Sx H' σ' Γx Mx ∧ Stp S H Sx H' M Mx ∧ W m Γx Mx, ⟨m0, S, Γ, M, I, Stp.refl I.ex I.m, h0⟩, ?_⟩
  rintro m σ' H' ⟨Sx, Γx, Mx, Ix, sx, wx⟩
  refine hs m Γx Mx wx σ' Sx H' _ Ix (fun b S2 H2 M2 q st => ?_) (o.step sx).ex
  have s2 := sx.trans st
  cases b with
  | true =>
    rw [if_pos rfl] at q
    rw [if_pos rfl]
    refine ⟨fun σ3 H3 => ∃ m', m' < m ∧ ∃ Sx Γx Mx, Nv Sx H3 σ3 Γx Mx ∧ Stp S H Sx H3 M Mx ∧ W m' Γx Mx, fun _ _ z => z, q σ' S2 H2 _ (Ix.step st) ⟨fun σ3 S3 H3 Γ3 M3 ⟨m', hm, q3⟩ st3 I3 => ⟨m', hm, S3, Γ3, M3, I3, s2.trans st3, q3⟩, (o.step s2).rt, (o.step s2).nx, fun σ3 S3 H3 Γ3 M3 ⟨m', hm, q3⟩ st3 I3 => ⟨m', hm, S3, Γ3, M3, I3, s2.trans st3, q3⟩, (o.step s2).ex⟩⟩
  | false =>
    rw [if_neg Bool.false_ne_true] at q
    rw [if_neg Bool.false_ne_true]
    exact o.nx σ' S2 H2 Γx M2 q s2 (Ix.step st)

/-! ### comprehensions -/
def wipeC (Γ : Ct) : List Nat → Ct
  | [] => Γ
  | v :: vs => (wipeC Γ vs).set v none
theorem Nv.un {S H : Hp} {σ : L2.St} (I : Nv S H σ Γ M) (j : Nat) : Nv S H (σ.set j none) (Γ.set j none) M := by
  refine ⟨I.ex, by simp [I.len], fun i Q e => ?_, I.m⟩
  by_cases hj : j = i
  · subst hj
    have hl : j < Γ.length := by
      have := (List.getElem?_eq_some_iff.mp e).1
      simpa using this
    rw [List.getElem?_set_self hl] at e
    cases e
  · rw [List.getElem?_set_ne hj] at e ⊢
    exact I.sl i Q e
theorem Nv.wipe {S H : Hp} {σ : L2.St} (I : Nv S H σ Γ M) : ∀ vs : List Nat, Nv S H (L2.wipe σ vs) (wipeC Γ vs) M
  | [] => I
  | v :: vs => (Nv.wipe I vs).un v
/-- what is made so far stands at D, mutable -/
theorem ev_lc {g : TG} (hv : vs ≠ []) (h : Ti E wi Γ M (fun n rs M1 => n ≤ 1000000 ∧ ∃ J : Nat → List Rep → SH → Prop, J 0 [] M1 ∧ (∀ i r acc M2, i < n → rs i r → acc.length ≤ i → J i acc M2 →
      Tg g r (wipeC Γ vs) M2 vs fun Γ3 M3 => Et E tt Γ3 M3 (fun b M4 => if b = true then Ev E te Γ3 M4 (fun R M5 => J (i + 1) (acc ++ [R]) M5) X0 else J (i + 1) acc M4) X0) ∧ ∀ acc M2, acc.length ≤ n → J n acc M2 → k (iLst acc) M2) X) : Ev E (tLc wi g tt te vs) Γ M k X := fun σ S H Q I o ox =>
  h σ S H _ I (fun Jt S1 H1 n rs M1 ⟨hn, V, v0, vs', vd⟩ st w Dl hD => by
    obtain ⟨G, Y, wk, hG, hY⟩ := w
    have s0 := st.trans (Stp.newM (o := .lst []) (P := mLst []) st.e st.m hD ⟨[], rfl, True.intro⟩)
    refine lc_it wk (fun i H' => ∃ Sx Mx acc, Same Sx H' ∧ Stp S H Sx H' M (Mx ++ [(Dl, mLst acc)]) ∧ Same S1 Sx ∧ acc.length ≤ i ∧ V i acc Mx) ⟨S1, M1, [], s0.e, s0, Same.refl _, Nat.zero_le _, v0⟩ (fun i H' _ ⟨Sx, Mx, acc, ex, _, s1, _⟩ => hG Sx H' s1 ex) ?_ ?_
    · rintro i x H' H'' hi ⟨Sx, Mx, acc, ex, sx, s1, la, vx⟩ y
      obtain ⟨S', r, s', hr, pr⟩ := hY i H' x H'' hi y Sx (Mx ++ [(Dl, mLst acc)]) s1 ex sx.m
      have I' : Nv S' H'' (L2.wipe σ vs) (wipeC Γ vs) Mx := by
        have := (I.step (sx.trans s')).wipe vs
        exact ⟨this.ex, this.len, this.sl, this.m.left⟩
      have m' : MOk S' H'' (Mx ++ [(Dl, mLst acc)]) := s'.m
      refine vs' i r acc Mx hi hr la vx x (L2.wipe σ vs) S' H'' _ I' pr fun σ2 S2 H2 Γ2 M2 q st2 I2 w2 => ⟨?_, ?_⟩
      · rw [w2 hv]
        have aux : ∀ us : List Nat, (∀ u ∈ us, u ∈ vs) → L2.wipe (L2.wipe σ vs) us = L2.wipe σ vs := by
          have un : ∀ u ∈ vs, (L2.wipe σ vs).set u none = L2.wipe σ vs := by
            intro u hu
            have gen : ∀ ws : List Nat, u ∈ ws → (L2.wipe σ ws).set u none = L2.wipe σ ws := by
              intro ws
              induction ws with
              | nil => intro z; cases z
              | cons w ws ih =>
                intro z
                show ((L2.wipe σ ws).set w none).set u none = (L2.wipe σ ws).set w none
                by_cases e : w = u
                · subst e; rw [List.set_set]
                · rcases List.mem_cons.mp z with z | z
                  · exact absurd z.symm e
                  · rw [List.set_comm _ _ e, ih z]
            exact gen vs hu
          intro us
          induction us with
          | nil => intro _; rfl
          | cons u us ih =>
            intro hu
            show (L2.wipe (L2.wipe σ vs) us).set u none = L2.wipe σ vs
            rw [ih fun z hz => hu z (List.mem_cons_of_mem _ hz)]
            exact un u (hu u (List.mem_cons_self ..))
        exact aux vs fun _ h => h
      · have sf2 := st2.frame m'
        refine q σ2 S2 H2 _ I2 (fun b S3 H3 M3 q3 st3 => ?_) (fun _ _ _ _ _ _ z => z.elim)
        have sf3 := st3.frame sf2.m
        cases b with
        | true =>
          rw [if_pos rfl] at q3
          rw [if_pos rfl]
          refine q3 σ2 S3 H3 _ (I2.step st3) (fun z S4 H4 R4 M4 q4 st4 p4 => ?_) (fun _ _ _ _ _ _ z => z.elim)
          have sf4 := st4.frame sf3.m
          have tot := (((sx.trans s').trans sf2).trans sf3).trans sf4
          obtain ⟨_, ob, ho, xs, rfl, pa⟩ := tot.m.at_ Dl (mLst acc) (List.mem_append_right _ (List.mem_singleton.mpr rfl))
          have wr := Stp.wrM (A := M4) (B := []) (a := Dl) (P := mLst acc) (P' := mLst (acc ++ [R4])) (o := .lst (xs ++ [z])) tot.e tot.m ⟨_, rfl, pa.app (All2.one p4)⟩
          refine ⟨xs, ho, by rw [pa.len]; exact sz_lt (by omega), S4, M4, acc ++ [R4], wr.e, tot.trans wr, ?_, by simp; omega, q4⟩
          exact s1.trans (s'.s.trans (sf2.s.trans (sf3.s.trans sf4.s)))
        | false =>
          rw [if_neg Bool.false_ne_true] at q3
          rw [if_neg Bool.false_ne_true]
          exact ⟨S3, M3, acc, sf3.e, ((sx.trans s').trans sf2).trans sf3, s1.trans (s'.s.trans (sf2.s.trans sf3.s)), by omega, q3⟩
    · rintro H' ⟨Sx, Mx, acc, ex, sx, s1, la, vx⟩
      obtain ⟨_, ob, ho, xs, rfl, pa⟩ := sx.m.at_ Dl (mLst acc) (List.mem_append_right _ (List.mem_singleton.mpr rfl))
      have fz := Stp.fz (A := Mx) (B := []) ex sx.m ho
      have fin := sx.trans fz
      rw [List.append_nil] at fin
      exact o (.ref Dl) _ H' (iLst acc) Mx (vd acc Mx la vx) fin ⟨Dl, xs, rfl, upd_same, pa.mono fz.s⟩) ox
theorem et_yes {kb : Bool → SH → Prop} (q : kb true M) : Et E tYes Γ M kb X := fun σ S H Q I o _ => o true S H M q (Stp.refl I.ex I.m)
theorem etp_yes : Etp E tYes Γ M true := fun _ _ q => et_yes q
/-- the turns below n with f, told by v -/
def given {α : Type} (n : Nat) (f : Nat → Bool) (v : Nat → α) : List α := ((List.range n).filter f).map v
theorem given_yes {α : Type} {n : Nat} {f : Nat → Bool} {v : Nat → α} (h : f n = true) : given (n + 1) f v = given n f v ++ [v n] := by
  unfold given
  rw [List.range_succ, List.filter_append, List.map_append, List.filter_cons, if_pos h]
  rfl
theorem given_no {α : Type} {n : Nat} {f : Nat → Bool} {v : Nat → α} (h : f n = false) : given (n + 1) f v = given n f v := by
  unfold given
  rw [List.range_succ, List.filter_append, List.map_append, List.filter_cons, if_neg (by rw [h]; decide)]
  simp
theorem given_list {α β : Type} (l : List α) (f : α → Bool) (v : α → β) (d : α) : given l.length (fun i => f (l.getD i d)) (fun i => v (l.getD i d)) = (l.filter f).map v := by
  have gen : ∀ m, m ≤ l.length → given m (fun i => f (l.getD i d)) (fun i => v (l.getD i d)) = ((l.take m).filter f).map v := by
    intro m
    induction m with
    | zero => intro _; rfl
    | succ m ih =>
      intro hm
      have ih' := ih (by omega)
      have hlt : m < l.length := by omega
      have e1 : l.getD m d = l[m] := by simp [hlt]
      have e2 : l.take (m + 1) = l.take m ++ [l[m]] := by rw [List.take_succ]; simp [hlt]
      cases hf : f l[m] with
      | true => rw [given_yes (by rw [e1]; exact hf), ih', e2, List.filter_append, List.map_append, e1]; simp [hf]
      | false => rw [given_no (by rw [e1]; exact hf), ih', e2, List.filter_append, List.map_append]; simp [hf]
  rw [gen l.length (Nat.le_refl _), List.take_length]
theorem ep_lc {g : TG} (hv : vs ≠ []) (hi : Tip E wi Γ M n rs) (hn : n ≤ 1000000) (f : Nat → Bool) (v : Nat → Rep)
    (h : ∀ i r, i < n → rs i r → Tg g r (wipeC Γ vs) M vs fun Γ3 M3 => M3 = M ∧ Etp E tt Γ3 M (f i) ∧ (f i = true → Ep E te Γ3 M (v i))) : Ep E (tLc wi g tt te vs) Γ M (iLst (given n f v)) := fun k X q =>
  ev_lc hv (hi _ _ ⟨hn, fun i acc M2 => given i f v = acc ∧ M = M2, ⟨rfl, rfl⟩, fun i r acc M2 hlt hr _ ⟨e1, e2⟩ => by
    subst e1; subst e2
    refine fun x σ S H Q I p o => h i r hlt hr x σ S H Q I p fun σ2 S2 H2 Γ2 M3 ⟨e3, h1, h2⟩ st I2 w2 => ?_
    subst e3
    refine o σ2 S2 H2 Γ2 _ (h1 _ _ ?_) st I2 w2
    cases hf : f i with
    | true => simpa using h2 hf _ _ ⟨given_yes hf, rfl⟩
    | false => simpa using given_no (v := v) hf, fun acc M2 _ ⟨e1, e2⟩ => by
    subst e1; subst e2
    exact q⟩)
/-- over a list of data, the target one name -/
theorem ep_lcL {α β : Type} {l : List α} {e : α → Rep} {j : Nat} {p : α → Bool} {q : α → β} {e' : β → Rep} (hi : Ep E tl Γ M (iLst (l.map e))) (hn : l.length ≤ 1000000) (hj : j ∈ vs)
    (ht : ∀ x ∈ l, Etp E tt ((wipeC Γ vs).set j (some (e x))) M (p x)) (he : ∀ x ∈ l, p x = true → Ep E te ((wipeC Γ vs).set j (some (e x))) M (e' (q x))) : Ep E (tLc (iList K tl) (gName j) tt te vs) Γ M (iLst (((l.filter p).map q).map e')) := by
  cases l with
  | nil =>
    refine Ep.to (R := iLst (given (([] : List α).map e).length (fun _ => true) (fun _ => iNon))) (ep_lc (fun z => by rw [z] at hj; cases hj) (tip_list hi) (by simp) (fun _ => true) (fun _ => iNon) (fun i r hi _ => by simp at hi)) ?_
    rfl
  | cons d l' =>
    refine Ep.to (R := iLst (given ((d :: l').map e).length (fun i => p ((d :: l').getD i d)) (fun i => e' (q ((d :: l').getD i d))))) (ep_lc (fun z => by rw [z] at hj; cases hj) (tip_list hi) (by simpa using hn) (fun i => p ((d :: l').getD i d)) (fun i => e' (q ((d :: l').getD i d))) (fun i r hi hr => ?_)) ?_
    · rw [List.getElem?_map] at hr
      have hi' : i < (d :: l').length := by simpa using hi
      rw [List.getElem?_eq_getElem hi'] at hr
      have hx : (d :: l').getD i d = (d :: l')[i] := by rw [List.getD_eq_getElem?_getD, List.getElem?_eq_getElem hi']; rfl
      have hm : (d :: l')[i] ∈ (d :: l') := List.getElem_mem hi'
      cases hr
      rw [hx]
      exact tg_name ⟨rfl, ht _ hm, fun z => he _ hm z⟩ (.inr hj)
    · congr 1
      have := given_list (d :: l') p (fun x => e' (q x)) d
      rw [List.length_map, this, List.map_map]
      rfl
/-- .. over a tuple -/
theorem ep_lcT {α β : Type} {l : List α} {e : α → Rep} {j : Nat} {p : α → Bool} {q : α → β} {e' : β → Rep} (hi : Ep E tl Γ M (aTup K (l.map e))) (hn : l.length ≤ 1000000) (hj : j ∈ vs)
    (ht : ∀ x ∈ l, Etp E tt ((wipeC Γ vs).set j (some (e x))) M (p x)) (he : ∀ x ∈ l, p x = true → Ep E te ((wipeC Γ vs).set j (some (e x))) M (e' (q x))) : Ep E (tLc (L2.iTup K tl) (gName j) tt te vs) Γ M (iLst (((l.filter p).map q).map e')) := by
  cases l with
  | nil =>
    refine Ep.to (R := iLst (given (([] : List α).map e).length (fun _ => true) (fun _ => iNon))) (ep_lc (fun z => by rw [z] at hj; cases hj) (tip_tup hi) (by simp) (fun _ => true) (fun _ => iNon) (fun i r hi _ => by simp at hi)) ?_
    rfl
  | cons d l' =>
    refine Ep.to (R := iLst (given ((d :: l').map e).length (fun i => p ((d :: l').getD i d)) (fun i => e' (q ((d :: l').getD i d))))) (ep_lc (fun z => by rw [z] at hj; cases hj) (tip_tup hi) (by simpa using hn) (fun i => p ((d :: l').getD i d)) (fun i => e' (q ((d :: l').getD i d))) (fun i r hi hr => ?_)) ?_
    · rw [List.getElem?_map] at hr
      have hi' : i < (d :: l').length := by simpa using hi
      rw [List.getElem?_eq_getElem hi'] at hr
      have hx : (d :: l').getD i d = (d :: l')[i] := by rw [List.getD_eq_getElem?_getD, List.getElem?_eq_getElem hi']; rfl
      have hm : (d :: l')[i] ∈ (d :: l') := List.getElem_mem hi'
      cases hr
      rw [hx]
      exact tg_name ⟨rfl, ht _ hm, fun z => he _ hm z⟩ (.inr hj)
    · congr 1
      have := given_list (d :: l') p (fun x => e' (q x)) d
      rw [List.length_map, this, List.map_map]
      rfl

/-! ### promises, typed -/
abbrev TSp := List Rep → SH → KR → KX → Prop
def spT (ts : TSp) : Sp := fun vs H Q E => ∃ S Rs M k X, ts Rs M k X ∧ Same S H ∧ MOk S H M ∧ All2 S Rs vs ∧ Out S H M k Q ∧ OutX S H M X E
theorem spT_in {ts : TSp} {S H : Hp} {vs : List V} {Rs : List Rep} {Mf Fr : SH} {E' : XK} {Q : VK} (h : ts Rs Mf (fun R M2 => k R (M2 ++ Fr)) (fun x M2 => X x (M2 ++ Fr))) (e : Same S H) (m : MOk S H (Mf ++ Fr)) (p : All2 S Rs vs) (o : Out S H (Mf ++ Fr) k Q) (ox : OutX S H (Mf ++ Fr) X E') : spT ts vs H Q E' :=
  ⟨S, Rs, Mf, _, _, h, e, m.left, p, fun v S2 H2 R M2 q st pr => o v S2 H2 R _ q (st.frame m) pr, fun c d S2 H2 x M2 q st px => ox c d S2 H2 x _ q (st.frame m) px⟩
/-- .. that raises nothing here -/
theorem ev_call0 {ts : TSp} {dvs : List V} {Ds : List Rep} (hd : ∀ S, All2 S Ds dvs) (h : Ea E tr Γ M (fun Rs M1 => ∃ Mf Fr, M1 = Mf ++ Fr ∧ ts (Rs ++ Ds) Mf (fun R M2 => k R (M2 ++ Fr)) X0) X) : Ev E (tCall (spT ts) dvs E0 tr) Γ M k X := fun σ S H Q I o ox =>
  h σ S H _ I (fun xs S1 H1 Rs M1 ⟨Mf, Fr, e, q⟩ st p => by
    subst e
    exact spT_in (X := X0) q st.e st.m (p.app (hd S1)) (o.step st) (fun _ _ _ _ _ _ z => z.elim)) ox
/-- a def that only reckons: no mutable object, nothing raised -/
def pureTs {α : Type} (args : α → List Rep) (pre : α → Prop) (res : α → Rep) : TSp := fun Rs M k _ => ∃ x, Rs = args x ∧ pre x ∧ M = [] ∧ k (res x) []
theorem ep_callP {α : Type} {args : α → List Rep} {pre : α → Prop} {res : α → Rep} {Rs : List Rep} (x : α) (h : Eap E tr Γ M Rs) (ha : Rs = args x) (hp : pre x) : Ep E (tCall (spT (pureTs args pre res)) [] E0 tr) Γ M (res x) := fun k X q =>
  ev_call0 (Ds := []) (fun _ => True.intro) (h _ _ ⟨[], M, rfl, x, by rw [List.append_nil]; exact ha, hp, rfl, q⟩)
section
variable {P : Program} {w : World} {mg : Str → Option Value} {base : Heap}
def startC (N : List Str) (Rs : List Rep) : Ct := Rs.map some ++ List.replicate (N.length - Rs.length) none
theorem nv_start {S H : Hp} {N : List Str} {Rs : List Rep} {vs : List V} (e : Same S H) (m : MOk S H M) (p : All2 S Rs vs) : Nv S H (L2.start N vs) (startC N Rs) M := by
  refine ⟨e, by simp [L2.start, startC, p.len], fun i R h => ?_, m⟩
  unfold startC at h
  unfold L2.start
  have hl := p.len
  by_cases hi : i < Rs.length
  · rw [List.getElem?_append_left (by simpa using hi), List.getElem?_map] at h
    rw [List.getElem?_append_left (by simpa [hl] using hi), List.getElem?_map]
    cases q : Rs[i]? with
    | none => rw [q] at h; cases h
    | some r =>
      rw [q] at h
      cases h
      obtain ⟨v, h1, h2⟩ := p.get q
      exact ⟨v, by rw [h1]; rfl, h2⟩
  · rw [List.getElem?_append_right (by simpa using hi), List.getElem?_replicate] at h
    split at h <;> cases h
theorem okT {x qual : Str} {st : Stmt} {f : Addr} {fd : FuncData} {N ps : List Str} {kk : Nat} {ts : TSp} (F : Fun K x qual st f fd) (S : FnScope N ps (defScope st)) (len : ∀ Rs M k X, ts Rs M k X → Rs.length = ps.length)
    (hbody : ∀ (cdv : Value) (A : Around) (outer : List PySem.Env) (s : Shared) (H : Hp) (E : XK), Room kk (A.deeper (envOfC qual (defScope st) s.heap.objs.size f cdv)) →
      ∃ t, PSs (cxOf CX0 P w K mg base N qual (defScope st) f cdv A outer s H E).nox (defBody st) t ∧ ∀ Rs M k X, ts Rs M k X → St E t (startC N Rs) M { nx := fun _ M' => k iNon M', rt := k, ex := X }) : FnOk P w K mg base CX0 (kk + 1) f fd ps (spT ts) := by
  refine F.ok S (fun vs H Q E h => ?_) (fun cdv A outer s H vs Q E hr h => ?_)
  · obtain ⟨_, Rs, M, k, X, h1, _, _, p, _⟩ := h
    exact p.len.trans (len Rs M k X h1)
  · obtain ⟨t, h1, h2⟩ := hbody cdv A outer s H E hr
    obtain ⟨S0, Rs, M, k, X, h3, e, m, p, o, ox⟩ := h
    exact ⟨t, h1, h2 Rs M k X h3 _ S0 H _ (nv_start e m p) ⟨fun σ2 S2 H2 Γ2 M2 q st I2 => o .non S2 H2 iNon M2 q st rfl, o, fun _ _ _ _ _ z => z.elim, fun _ _ _ _ _ z => z.elim, ox⟩⟩
theorem okTX {x qual : Str} {st : Stmt} {f : Addr} {fd : FuncData} {N ps : List Str} {kk : Nat} {ts : TSp} (F : Fun K x qual st f fd) (S : FnScope N ps (defScope st)) (len : ∀ Rs M k X, ts Rs M k X → Rs.length = ps.length)
    (hbody : ∀ (cdv : Value) (A : Around) (outer : List PySem.Env) (s : Shared) (H : Hp) (E : XK), Room kk (A.deeper (envOfC qual (defScope st) s.heap.objs.size f cdv)) →
      ∃ t, PSs (cxOf (L2.CX P w) P w K mg base N qual (defScope st) f cdv A outer s H E) (defBody st) t ∧ ∀ Rs M k X, ts Rs M k X → St E t (startC N Rs) M { nx := fun _ M' => k iNon M', rt := k, ex := X }) : FnOk P w K mg base (L2.CX P w) (kk + 1) f fd ps (spT ts) := by
  refine F.okX S (fun vs H Q E h => ?_) (fun cdv A outer s H vs Q E hr h => ?_)
  · obtain ⟨_, Rs, M, k, X, h1, _, _, p, _⟩ := h
    exact p.len.trans (len Rs M k X h1)
  · obtain ⟨t, h1, h2⟩ := hbody cdv A outer s H E hr
    obtain ⟨S0, Rs, M, k, X, h3, e, m, p, o, ox⟩ := h
    exact ⟨t, h1, h2 Rs M k X h3 _ S0 H _ (nv_start e m p) ⟨fun σ2 S2 H2 Γ2 M2 q st I2 => o .non S2 H2 iNon M2 q st rfl, o, fun _ _ _ _ _ z => z.elim, fun _ _ _ _ _ z => z.elim, ox⟩⟩
end
end
end L3

namespace L3
open PySem L2 RZ PyProof.Rows

/-! ### data -/
mutual
def iDat (K : PySem.W.Frag) : PyData → Rep
  | .none => iNon
  | .bool b => iBl b
  | .int i => iInt i
  | .str s => aStr s
  | .list ds => iLst (iDats K ds)
  | .tuple ds => aTup K (iDats K ds)
  | .dict _ => ⟨fun _ _ => False, fun _ h => h⟩
def iDats (K : PySem.W.Frag) : List PyData → List Rep
  | [] => []
  | d :: ds => iDat K d :: iDats K ds
end
theorem iDats_map (K : PySem.W.Frag) : ∀ ds : List PyData, iDats K ds = ds.map (iDat K)
  | [] => by simp [iDats]
  | d :: ds => by simp [iDats, iDats_map K ds]
theorem dat_list (K : PySem.W.Frag) (ds : List PyData) : iLst (ds.map (iDat K)) = iDat K (.list ds) := by rw [iDat, iDats_map]
theorem dat_tuple (K : PySem.W.Frag) (ds : List PyData) : aTup K (ds.map (iDat K)) = iDat K (.tuple ds) := by rw [iDat, iDats_map]
theorem dat_int (K : PySem.W.Frag) (i : Int) : iInt i = iDat K (.int i) := by rw [iDat]
theorem dat_str (K : PySem.W.Frag) (s : Str) : aStr s = iDat K (.str s) := by rw [iDat]
theorem dat_bl (K : PySem.W.Frag) (b : Bool) : iBl b = iDat K (.bool b) := by rw [iDat]
theorem dat_non (K : PySem.W.Frag) : iNon = iDat K .none := by rw [iDat]
theorem dat_lst {K : PySem.W.Frag} {rs : List Rep} {ds : List PyData} (h : rs = ds.map (iDat K)) : iLst rs = iDat K (.list ds) := by rw [h, dat_list]
theorem dat_tup {K : PySem.W.Frag} {rs : List Rep} {ds : List PyData} (h : rs = ds.map (iDat K)) : aTup K rs = iDat K (.tuple ds) := by rw [h, dat_tuple]
theorem dat_maps {α : Type} {K : PySem.W.Frag} {r : α → Rep} {g : α → PyData} (h : ∀ x, r x = iDat K (g x)) (l : List α) : l.map r = (l.map g).map (iDat K) := by
  rw [List.map_map]
  exact List.map_congr_left fun x _ => h x
theorem dats_cons {K : PySem.W.Frag} {r : Rep} {rs : List Rep} {d : PyData} {ds : List PyData} (h : r = iDat K d) (hs : rs = ds.map (iDat K)) : r :: rs = (d :: ds).map (iDat K) := by rw [h, hs]; rfl
theorem dats_nil {K : PySem.W.Frag} : ([] : List Rep) = ([] : List PyData).map (iDat K) := rfl
mutual
theorem iDat_dp (K : PySem.W.Frag) {S : Hp} : ∀ (d : PyData) {v : V}, (iDat K d).p S v → Dp K S v d
  | .none, v, h => by
    unfold iDat at h
    cases h
    exact .non
  | .bool b, v, h => by
    unfold iDat at h
    cases h
    exact .bl b
  | .int i, v, h => by
    unfold iDat at h
    cases h
    exact .int i
  | .str s, v, h => by
    unfold iDat at h
    cases h
    exact .str s
  | .list ds, v, h => by
    unfold iDat at h
    obtain ⟨a, xs, rfl, h1, h2⟩ := h
    exact .lst (SqL.of h1) (iDats_dp K ds h2)
  | .tuple ds, v, h => by
    unfold iDat at h
    obtain ⟨a, xs, rfl, h1, h2⟩ := h
    exact .tup h1 (iDats_dp K ds h2)
  | .dict _, v, h => by
    unfold iDat at h
    exact h.elim
theorem iDats_dp (K : PySem.W.Frag) {S : Hp} : ∀ (ds : List PyData) {vs : List V}, All2 S (iDats K ds) vs → DpAll K S vs ds
  | [], [], _ => .nil
  | [], _ :: _, h => by
    unfold iDats at h
    exact h.elim
  | d :: ds, [], h => by
    unfold iDats at h
    exact h.elim
  | d :: ds, v :: vs, h => by
    unfold iDats at h
    exact .cons (iDat_dp K d h.1) (iDats_dp K ds h.2)
end
section
variable {E : XK} {K : PySem.W.Frag} {Γ : Ct} {M : SH} {k : KR} {X : KX} {R R1 R2 : Rep} {te ta tb tl : TE} {vs : List Nat} {D : EndT} {t u : TS} {c tt : TT} {tr : TA}
mutual
theorem Dp.mono {K : PySem.W.Frag} {S S' : Hp} (e : Same S S') : ∀ {v : V} {d : PyData}, Dp K S v d → Dp K S' v d
  | _, _, .non => .non
  | _, _, .bl b => .bl b
  | _, _, .int i => .int i
  | _, _, .str x => .str x
  | _, _, .lst h hs => .lst (Same.sql e h) (DpAll.mono e hs)
  | _, _, .tup h hs => .tup (Same.sqt e h) (DpAll.mono e hs)
theorem DpAll.mono {K : PySem.W.Frag} {S S' : Hp} (e : Same S S') : ∀ {vs : List V} {ds : List PyData}, DpAll K S vs ds → DpAll K S' vs ds
  | _, _, .nil => .nil
  | _, _, .cons h hs => .cons (Dp.mono e h) (DpAll.mono e hs)
end
theorem o_neD {d e : PyData} (h1 : SeqAt.shaped d = true) (h2 : SeqAt.shaped e = true) : O2p (rNeD K) (iDat K d) (iDat K e) M (iBl (!PyData.eqv d e)) := o2_val fun x y S H ex _ p1 p2 =>
  ⟨_, rfl, fun Q q => ⟨d, e, Dp.mono ex (iDat_dp K d p1), Dp.mono ex (iDat_dp K e p2), h1, h2, q⟩⟩
theorem O2p.as (h : O2p r R1 R2 M R) {R1' R2' : Rep} (e1 : R1' = R1) (e2 : R2' = R2) : O2p r R1' R2' M R := by rw [e1, e2]; exact h

/-! ### new lists and tuples by operators -/
theorem o2_newL {r : L2.R2} {rs : List Rep} (h : ∀ x y S H, Same S H → MOk S H M → R1.p S x → R2.p S y → ∃ xs, All2 S rs xs ∧ ∀ Q : VK, (∀ p, H p = none → Q (.ref p) (upd H p (.lst xs))) → r x y H Q) : O2p r R1 R2 M (iLst rs) := fun _ q x y S H Q e m h1 h2 o => by
  obtain ⟨xs, p, g⟩ := h x y S H e m h1 h2
  exact g Q fun a ha => o (.ref a) (upd S a (.lst xs)) _ (iLst rs) M q (Stp.newS e m ha) ⟨a, xs, rfl, upd_same, p.mono (Same.newS (Same.refl _) (e.free ha))⟩
theorem o_cat {r1 r2 : List Rep} (h : r1.length + r2.length ≤ 1000000) : O2p rCat (iLst r1) (iLst r2) M (iLst (r1 ++ r2)) := o2_newL fun x y S H e _ h1 h2 => by
  obtain ⟨a, xs, rfl, q1, q2⟩ := h1
  obtain ⟨b, ys, rfl, q3, q4⟩ := h2
  exact ⟨xs ++ ys, q2.app q4, fun Q q => ⟨a, b, xs, ys, rfl, rfl, e _ _ q1, e _ _ q3, by rw [q2.len, q4.len]; exact sz_le h, q⟩⟩
theorem ol_newL {rl : List V → Hp → VK → Prop} {Rs rs : List Rep} (h : ∀ xs S H, Same S H → MOk S H M → All2 S Rs xs → ∃ ys, All2 S rs ys ∧ ∀ Q : VK, (∀ p, H p = none → Q (.ref p) (upd H p (.lst ys))) → rl xs H Q) : Olp rl Rs M (iLst rs) := fun _ q xs S H Q e m h1 o => by
  obtain ⟨ys, p, g⟩ := h xs S H e m h1
  exact g Q fun a ha => o (.ref a) (upd S a (.lst ys)) _ (iLst rs) M q (Stp.newS e m ha) ⟨a, ys, rfl, upd_same, p.mono (Same.newS (Same.refl _) (e.free ha))⟩
theorem ol_newT {rl : List V → Hp → VK → Prop} {Rs rs : List Rep} (h : ∀ xs S H, Same S H → MOk S H M → All2 S Rs xs → ∃ ys, All2 S rs ys ∧ ∀ Q : VK, (∀ p, H p = none → Q (.ref p) (upd H p (.tup ys))) → rl xs H Q) : Olp rl Rs M (aTup K rs) := fun _ q xs S H Q e m h1 o => by
  obtain ⟨ys, p, g⟩ := h xs S H e m h1
  exact g Q fun a ha => o (.ref a) (upd S a (.tup ys)) _ (aTup K rs) M q (Stp.newS e m ha) ⟨a, ys, rfl, SqT.of upd_same, p.mono (Same.newS (Same.refl _) (e.free ha))⟩
def rListOf (K : PySem.W.Frag) : List V → Hp → VK → Prop := fun xs H Q => ∃ p ys, xs = [.ref p] ∧ (SqL K H p ys ∨ SqT K H p ys) ∧ ∀ l, H l = none → Q (.ref l) (upd H l (.lst ys))
def rTupOf (K : PySem.W.Frag) : List V → Hp → VK → Prop := fun xs H Q => ∃ p ys, xs = [.ref p] ∧ ((SqL K H p ys ∧ ∀ l, H l = none → Q (.ref l) (upd H l (.tup ys))) ∨ (SqT K H p ys ∧ Q (.ref p) H))
theorem c_listL {rs : List Rep} : Olp (rListOf K) [iLst rs] M (iLst rs) := ol_newL fun xs S H e _ h => by
  obtain ⟨v, rfl, a, ys, rfl, q1, q2⟩ := all2_1 h
  exact ⟨ys, q2, fun Q q => ⟨a, ys, rfl, .inl (SqL.of (e _ _ q1)), q⟩⟩
theorem c_listT {rs : List Rep} : Olp (rListOf K) [aTup K rs] M (iLst rs) := ol_newL fun xs S H e _ h => by
  obtain ⟨v, rfl, a, ys, rfl, q1, q2⟩ := all2_1 h
  exact ⟨ys, q2, fun Q q => ⟨a, ys, rfl, .inr (Same.sqt e q1), q⟩⟩
theorem c_tupL {rs : List Rep} : Olp (rTupOf K) [iLst rs] M (aTup K rs) := ol_newT fun xs S H e _ h => by
  obtain ⟨v, rfl, a, ys, rfl, q1, q2⟩ := all2_1 h
  exact ⟨ys, q2, fun Q q => ⟨a, ys, rfl, .inl ⟨SqL.of (e _ _ q1), q⟩⟩⟩
theorem c_tupT {rs : List Rep} : Olp (rTupOf K) [aTup K rs] M (aTup K rs) := ol_val fun xs S H e _ h => by
  obtain ⟨v, rfl, a, ys, rfl, q1, q2⟩ := all2_1 h
  exact ⟨.ref a, ⟨a, ys, rfl, q1, q2⟩, fun Q q => ⟨a, ys, rfl, .inr ⟨Same.sqt e q1, q⟩⟩⟩
/-- list(..) as a new object that is to be changed -/
theorem ev_listM {rs : List Rep} (h : Ev E ta Γ M (fun R M1 => (R = iLst rs ∨ R = aTup K rs) ∧ ∀ a, k (iRef a) (M1 ++ [(a, mLst rs)])) X) : Ev E (tCB (rListOf K) (tCons ta tNil)) Γ M k X := fun σ S H Q I o ox =>
  h σ S H _ I (fun v S1 H1 R M1 ⟨hR, q⟩ st p => by
    rcases hR with e | e
    · subst e
      obtain ⟨a, xs, rfl, q1, q2⟩ := p
      exact ⟨a, xs, rfl, .inl (SqL.of (st.e _ _ q1)), fun l hl => o (.ref l) S1 _ (iRef l) _ (q l) (st.trans (Stp.newM st.e st.m hl ⟨xs, rfl, q2⟩)) rfl⟩
    · subst e
      obtain ⟨a, xs, rfl, q1, q2⟩ := p
      exact ⟨a, xs, rfl, .inr (Same.sqt st.e q1), fun l hl => o (.ref l) S1 _ (iRef l) _ (q l) (st.trans (Stp.newM st.e st.m hl ⟨xs, rfl, q2⟩)) rfl⟩) ox

/-! ### slices -/
def Eo (E : XK) (to : TO) (Γ : Ct) (M : SH) (o : Option Int) : Prop := ∀ σ S H (Q : Option Int → Hp → Prop), Nv S H σ Γ M → (∀ S2 H2, Stp S H S2 H2 M M → Q o H2) → to σ H Q
theorem eo_none : Eo E tNoPart Γ M none := fun σ S H Q I o => o S H (Stp.refl I.ex I.m)
theorem eo_someX {i : Int} (h : Ep E te Γ M (iInt i)) : Eo E (tPart te) Γ M (some i) := fun σ S H Q I o =>
  h (fun R M' => R = iInt i ∧ M' = M) X0 ⟨rfl, rfl⟩ σ S H _ I (fun v S2 H2 R M2 ⟨e1, e2⟩ st p => by
    subst e1; subst e2; cases p
    exact ⟨i, rfl, o S2 H2 st⟩) (fun _ _ _ _ _ _ z => z.elim)
/-- what a slice leaves -/
def cutL {α : Type} (l : List α) (lo hi : Option Int) : List α := (l.drop (HT.sIx l.length 0 lo)).take (HT.sIx l.length l.length hi - HT.sIx l.length 0 lo)
theorem All2.cut {S : Hp} {rs : List Rep} {xs : List V} (h : All2 S rs xs) (lo hi : Option Int) : All2 S (cutL rs lo hi) (cutV xs lo hi) := by
  unfold cutL cutV
  rw [h.len]
  exact (h.drop _).take _
theorem cutL_map {α β : Type} (f : α → β) (l : List α) (lo hi : Option Int) : cutL (l.map f) lo hi = (cutL l lo hi).map f := by
  unfold cutL
  rw [List.length_map, List.map_take, List.map_drop]
theorem ep_sl {r : V → Option Int → Option Int → Hp → VK → Prop} {tlo thi : TO} {lo hi : Option Int} (h : Ep E te Γ M R1) (h1 : Eo E tlo Γ M lo) (h2 : Eo E thi Γ M hi) (hr : ∀ k : KR, k R M → ∀ x S H Q, Same S H → MOk S H M → R1.p S x → Out S H M k Q → r x lo hi H Q) : Ep E (tSl r te tlo thi) Γ M R := fun k X q σ S H Q I o ox =>
  h (fun R' M' => R' = R1 ∧ M' = M) X ⟨rfl, rfl⟩ σ S H _ I (fun v S1 H1 R' M1 ⟨e1, e2⟩ st p => by
    subst e1; subst e2
    exact h1 σ S1 H1 _ (I.step st) fun S2 H2 st2 => h2 σ S2 H2 _ (I.step (st.trans st2)) fun S3 H3 st3 =>
      hr k q v S3 H3 Q st3.e st3.m (R'.m (st2.s.trans st3.s) p) (o.step ((st.trans st2).trans st3))) ox
theorem s_list {rs : List Rep} {lo hi : Option Int} : ∀ k : KR, k (iLst (cutL rs lo hi)) M → ∀ x S H Q, Same S H → MOk S H M → (iLst rs).p S x → Out S H M k Q → rSlL K x lo hi H Q := fun k q x S H Q e m p o => by
  obtain ⟨a, xs, rfl, q1, q2⟩ := p
  exact ⟨a, xs, rfl, SqL.of (e _ _ q1), fun b hb => o (.ref b) (upd S b (.lst (cutV xs lo hi))) _ _ M q (Stp.newS e m hb) ⟨b, _, rfl, upd_same, (q2.cut lo hi).mono (Same.newS (Same.refl _) (e.free hb))⟩⟩
theorem s_scr {ns : List Int} {lo hi : Option Int} : ∀ k : KR, k (iLst ((cutL ns lo hi).map iInt)) M → ∀ x S H Q, Same S H → MOk S H M → (iScr K ns).p S x → Out S H M k Q → rSlL K x lo hi H Q := fun k q x S H Q e m p o => by
  obtain ⟨a, rfl, q1⟩ := p
  refine ⟨a, _, rfl, Same.sql e q1, fun b hb => o (.ref b) (upd S b (.lst (cutV (ns.map V.int) lo hi))) _ _ M q (Stp.newS e m hb) ⟨b, _, rfl, upd_same, ?_⟩⟩
  rw [← cutL_map]
  exact ((All2.unflat (S := S) (r := iInt) (g := V.int) (fun _ => rfl) ns).cut lo hi).mono (Same.newS (Same.refl _) (e.free hb))

/-! ### all, any, in -/
theorem c_all {bs : List Bool} : Olp (rAll K) [iLst (bs.map iBl)] M (iBl (bs.all id)) := ol_val fun xs S H e _ h => by
  obtain ⟨v, rfl, a, ys, rfl, q1, q2⟩ := all2_1 h
  rw [All2.flat (r := iBl) (g := V.bl) (fun _ _ h => h) q2] at q1
  exact ⟨_, rfl, fun Q q => ⟨a, bs, rfl, SqL.of (e _ _ q1), q⟩⟩
theorem c_any {bs : List Bool} : Olp (rAny K) [iLst (bs.map iBl)] M (iBl (bs.any id)) := ol_val fun xs S H e _ h => by
  obtain ⟨v, rfl, a, ys, rfl, q1, q2⟩ := all2_1 h
  rw [All2.flat (r := iBl) (g := V.bl) (fun _ _ h => h) q2] at q1
  exact ⟨_, rfl, fun Q q => ⟨a, bs, rfl, SqL.of (e _ _ q1), q⟩⟩
theorem inV_str (x : Str) : ∀ l : List Str, inV (.str x) (l.map V.str) = decide (x ∈ l)
  | [] => by simp [inV]
  | y :: l => by
    have ih := inV_str x l
    unfold inV at ih ⊢
    rw [List.map_cons, List.any_cons, ih]
    have e : eqV (V.str y) (V.str x) = decide (x = y) := by
      unfold eqV
      by_cases h : x = y
      · subst h; simp
      · have h' : ¬ y = x := fun z => h z.symm
        simp [h, h']
    rw [e]
    by_cases h : x = y
    · simp [h]
    · simp [h]
theorem all_flat_str (l : List Str) : (l.map V.str).all flatV = true := by
  rw [List.all_eq_true]
  intro v hv
  obtain ⟨x, _, rfl⟩ := List.mem_map.mp hv
  rfl
theorem o_isN (d : Bool) (h : ∀ S v, R.p S v → decide (v = V.non) = d) : O2p (fun x y H Q => y = .non ∧ Q (.bl (decide (x = .non))) H) R iNon M (iBl d) := o2_val fun x y S H _ _ h1 h2 => by
  cases h2
  exact ⟨_, rfl, fun Q q => ⟨rfl, by rw [h S x h1]; exact q⟩⟩
theorem o_notN (d : Bool) (h : ∀ S v, R.p S v → decide (v = V.non) = d) : O2p (fun x y H Q => y = .non ∧ Q (.bl (!decide (x = .non))) H) R iNon M (iBl (!d)) := o2_val fun x y S H _ _ h1 h2 => by
  cases h2
  exact ⟨_, rfl, fun Q q => ⟨rfl, by rw [h S x h1]; exact q⟩⟩

/-! ### texts -/
theorem ev_tM1 {r : V → List V → Hp → VK → Prop} (h : Ev E ta Γ M (fun R M1 => ∃ z, R = aStr z ∧ Ev E te Γ M1 (fun R2 M2 => Om r (aStr z) [R2] M2 k) X) X) : Ev E (tM1 r ta te) Γ M k X := fun σ S H Q I o ox =>
  h σ S H _ I (fun v S1 H1 R1 M1 ⟨z, e, q⟩ st p => by
    subst e
    have p' := p
    cases p
    exact ⟨⟨z, rfl⟩, q σ S1 H1 _ (I.step st) (fun y S2 H2 R2 M2 q2 st2 p2 => q2 _ _ S2 H2 Q st2.e st2.m ((aStr z).m st2.s p') ⟨p2, True.intro⟩ (o.step (st.trans st2))) (ox.step st)⟩) ox
theorem op_mulS {X : Cx} : OpR X (binaryOp .Mult) (fun x y H Q => ∃ z n, x = .str z ∧ y = .int n ∧ MulOk z n ∧ Q (.str (Txt.mul z n)) H) := by
  intro pins s σ H x y v u Q I rx ry h
  obtain ⟨z, n, rfl, rfl, hm, q⟩ := h
  obtain ⟨t, rfl⟩ := rx
  obtain ⟨t', rfl⟩ := ry
  exact SB.mul hm fun t2 k => ⟨.str _, H, I.tok k, ⟨_, rfl⟩, q⟩
theorem mulOk_01 {z : Str} {n : Int} (h0 : 0 ≤ n) (h1 : n ≤ 1) : MulOk z n := by
  refine ⟨by simp; omega, fun h2 h3 => ?_, fun h2 h3 => ?_⟩
  · have : n = 1 := by omega
    subst this
    simp at h3
  · have : n = 1 := by omega
    subst this
    simp at h3
theorem o_mulS {z : Str} {n : Int} (h : MulOk z n) : O2p (fun x y H Q => ∃ z n, x = .str z ∧ y = .int n ∧ MulOk z n ∧ Q (.str (Txt.mul z n)) H) (aStr z) (iInt n) M (aStr (Txt.mul z n)) := o2_val fun x y S H _ _ h1 h2 => by
  cases h1; cases h2
  exact ⟨_, rfl, fun Q q => ⟨z, n, rfl, rfl, h, q⟩⟩

/-! ### mutable lists -/
/-- f(l, ..) of a list's method -/
theorem ev_bm {T : String} {r : V → List V → Hp → VK → Prop} (h : Ev E ta Γ M (fun R1 M1 => (∀ x S H, Same S H → MOk S H M1 → R1.p S x → tyV K T x H) ∧ Ea E tr Γ M1 (fun Rs M2 => Om r R1 Rs M2 k) X) X) : Ev E (tBM K T r ta tr) Γ M k X := fun σ S H Q I o ox =>
  h σ S H _ I (fun v S1 H1 R1 M1 ⟨ty, q⟩ st p => ⟨ty v S1 H1 st.e st.m p, q σ S1 H1 _ (I.step st) (fun ys S2 H2 Rs M2 q2 st2 p2 => q2 v ys S2 H2 Q st2.e st2.m (R1.m st2.s p) p2 (o.step (st.trans st2))) (ox.step st)⟩) ox
theorem ty_mLst {a : Addr} {rs : List Rep} (hm : (a, mLst rs) ∈ M) : ∀ x S H, Same S H → MOk S H M → (iRef a).p S x → tyV K "list" x H := fun x S H e m p => by
  cases p
  obtain ⟨_, o, ho, xs, rfl, _⟩ := m.at_ _ _ hm
  exact .inl ⟨rfl, xs, SqL.of ho⟩
theorem ty_lst {rs : List Rep} : ∀ x S H, Same S H → MOk S H M → (iLst rs).p S x → tyV K "list" x H := fun x S H e m p => by
  obtain ⟨a, xs, rfl, q1, q2⟩ := p
  exact .inl ⟨rfl, xs, SqL.of (e _ _ q1)⟩
/-- l.append(e), l at place A of the symbolic heap -/
theorem om_append {A B : SH} {a : Addr} {rs : List Rep} (hl : rs.length < 1000000) (q : k iNon (A ++ (a, mLst (rs ++ [R])) :: B)) : Om rAppend (iRef a) [R] (A ++ (a, mLst rs) :: B) k := fun x xs S H Q e m h1 h2 o => by
  cases h1
  obtain ⟨v, rfl, p⟩ := all2_1 h2
  obtain ⟨_, ob, ho, ys, rfl, py⟩ := m.at_ a (mLst rs) (by simp)
  exact ⟨a, ys, v, rfl, rfl, ho, by rw [py.len]; exact sz_lt (by omega), o .non S _ iNon _ q (Stp.wrM e m ⟨_, rfl, py.app (All2.one p)⟩) rfl⟩
/-- l[i] = v -/
theorem tg_subM {A B : SH} {a : Addr} {rs : List Rep} {to ti : TE} {i : Int} {j : Nat} {kc : KC} (ho : Ep E0 to Γ (A ++ (a, mLst rs) :: B) (iRef a)) (hi : Ep E0 ti Γ (A ++ (a, mLst rs) :: B) (iInt i)) (hj : ixN rs.length i = some j) (q : kc Γ (A ++ (a, mLst (rs.set j R)) :: B)) : Tg (gSub to ti rSetL) R Γ (A ++ (a, mLst rs) :: B) vs kc := fun v σ S H Q I p o =>
  ho (fun R' M' => R' = iRef a ∧ M' = A ++ (a, mLst rs) :: B) X0 ⟨rfl, rfl⟩ σ S H _ I (fun x S1 H1 R1 M1 ⟨e1, e2⟩ st p1 => by
    subst e1; subst e2; cases p1
    exact hi (fun R' M' => R' = iInt i ∧ M' = A ++ (a, mLst rs) :: B) X0 ⟨rfl, rfl⟩ σ S1 H1 _ (I.step st) (fun y S2 H2 R2 M2 ⟨e1, e2⟩ st2 p2 => by
      subst e1; subst e2; cases p2
      have s2 := st.trans st2
      obtain ⟨_, ob, hob, ys, rfl, py⟩ := s2.m.at_ a (mLst rs) (by simp)
      have w := Stp.wrM (P' := mLst (rs.set j R)) s2.e s2.m ⟨_, rfl, py.set (R.m s2.s p) j⟩
      exact ⟨a, ys, i, j, rfl, rfl, hob, by rw [py.len]; exact hj, o σ S2 _ Γ _ q (s2.trans w) (I.step (s2.trans w)) fun _ => rfl⟩) (fun _ _ _ _ _ _ z => z.elim)) (fun _ _ _ _ _ _ z => z.elim)

/-! ### the symbolic heap: opened, closed, made stable -/
/-- the slots' and the heap's words weakened -/
theorem Stp.wkL {S H S2 H2 : Hp} {A B M2 : SH} {a : Addr} {P P' : MRep} (st : Stp S H S2 H2 (A ++ (a, P') :: B) M2) : Stp S H S2 H2 (A ++ (a, P) :: B) M2 := by
  have e : dm (A ++ (a, P) :: B) = dm (A ++ (a, P') :: B) := by simp [dm]
  exact ⟨st.s, st.e, fun b h1 h2 => by rw [e]; exact st.new b h1 h2, fun b o h1 h2 => st.fr b o (by rw [← e]; exact h1) h2, st.m, fun b hb => by rw [e]; exact st.dn b hb⟩
theorem MOk.re {S H : Hp} {A B : SH} {a : Addr} {P P' : MRep} (m : MOk S H (A ++ (a, P) :: B)) (h : ∀ o, P.p S o → P'.p S o) : MOk S H (A ++ (a, P') :: B) := by
  have e : dm (A ++ (a, P) :: B) = dm (A ++ (a, P') :: B) := by simp [dm]
  refine ⟨fun b Q hq => ?_, by rw [← e]; exact m.nd⟩
  rcases List.mem_append.mp hq with hq | hq
  · exact m.at_ b Q (List.mem_append_left _ hq)
  · rcases List.mem_cons.mp hq with hq | hq
    · cases hq
      obtain ⟨z, o, ho, p⟩ := m.at_ a P (by simp)
      exact ⟨z, o, ho, h o p⟩
    · exact m.at_ b Q (List.mem_append_right _ (List.mem_cons_of_mem _ hq))
theorem st_open {α : Type} {A B : SH} {a : Addr} {P : MRep} (P' : α → MRep) (h : ∀ S o, P.p S o → ∃ x, (P' x).p S o) (q : ∀ x, St E t Γ (A ++ (a, P' x) :: B) D) : St E t Γ (A ++ (a, P) :: B) D := fun σ S H D0 I o => by
  obtain ⟨_, ob, ho, p⟩ := I.m.at_ a P (by simp)
  obtain ⟨x, px⟩ := h S ob p
  have m' : MOk S H (A ++ (a, P' x) :: B) := by
    have e : dm (A ++ (a, P) :: B) = dm (A ++ (a, P' x) :: B) := by simp [dm]
    have m := I.m
    refine ⟨fun b Q hq => ?_, by rw [← e]; exact m.nd⟩
    rcases List.mem_append.mp hq with hq | hq
    · exact m.at_ b Q (List.mem_append_left _ hq)
    · rcases List.mem_cons.mp hq with hq | hq
      · cases hq
        exact ⟨(m.at_ a P (by simp)).1, ob, ho, px⟩
      · exact m.at_ b Q (List.mem_append_right _ (List.mem_cons_of_mem _ hq))
  exact q x σ S H D0 ⟨I.ex, I.len, I.sl, m'⟩ ⟨fun a b c d e k st I2 => o.nx a b c d e k st.wkL I2, fun a b c d e k st p => o.rt a b c d e k st.wkL p, fun a b c d e k st I2 => o.bk a b c d e k st.wkL I2, fun a b c d e k st I2 => o.ct a b c d e k st.wkL I2, fun a b c d e f k st p => o.ex a b c d e f k st.wkL p⟩
/-- the ends may be said of a weaker heap -/
def KR.dn (k : KR) : KR := fun R M => ∃ A B a, ∃ P P' : MRep, M = A ++ (a, P) :: B ∧ (∀ S o, P.p S o → P'.p S o) ∧ k R (A ++ (a, P') :: B)
theorem out_dn {S H : Hp} {Q : VK} (o : Out S H M k Q) : Out S H M (KR.dn k) Q := fun v S2 H2 R M2 ⟨A, B, a, P, P', e, h, q⟩ st p => by
  subst e
  refine o v S2 H2 R _ q ⟨st.s, st.e, st.new, st.fr, st.m.re (h S2), fun b hb => ?_⟩ p
  have e : dm (A ++ (a, P') :: B) = dm (A ++ (a, P) :: B) := by simp [dm]
  exact st.dn b (by rw [← e]; exact hb)
/-- a mutable list whose name is read as a value is stable from then on -/
theorem ev_fzL {A B : SH} (h : Ev E te Γ M (fun R M1 => ∃ a rs A B, R = iRef a ∧ M1 = A ++ (a, mLst rs) :: B ∧ k (iLst rs) (A ++ B)) X) : Ev E te Γ M k X := fun σ S H Q I o ox =>
  h σ S H Q I (fun v S2 H2 R M2 ⟨a, rs, A, B, e1, e2, q⟩ st p => by
    subst e1; subst e2; cases p
    obtain ⟨_, ob, ho, xs, rfl, px⟩ := st.m.at_ a (mLst rs) (by simp)
    have f := Stp.fz st.e st.m ho
    exact o (.ref a) _ H2 (iLst rs) _ q (st.trans f) ⟨a, xs, rfl, upd_same, px.mono f.s⟩) ox
/-- .. slot i holds a stable list from then on -/
theorem st_fzS {A B : SH} {a : Addr} {rs : List Rep} {i : Nat} (hi : Γ[i]? = some (some (iRef a))) (h : St E t (Γ.set i (some (iLst rs))) (A ++ B) D) : St E t Γ (A ++ (a, mLst rs) :: B) D := fun σ S H D0 I o => by
  obtain ⟨_, ob, ho, xs, rfl, px⟩ := I.m.at_ a (mLst rs) (by simp)
  have f := Stp.fz I.ex I.m ho
  have I2 := I.step f
  obtain ⟨v, h1, h2⟩ := I.sl i _ hi
  cases h2
  have I3 : Nv (upd S a (.lst xs)) H σ (Γ.set i (some (iLst rs))) (A ++ B) := by
    refine ⟨I2.ex, by rw [List.length_set]; exact I2.len, fun j R e => ?_, I2.m⟩
    by_cases hj : i = j
    · subst hj
      have hl : i < Γ.length := (List.getElem?_eq_some_iff.mp hi).1
      rw [List.getElem?_set_self hl] at e
      cases e
      exact ⟨.ref a, h1, a, xs, rfl, upd_same, px.mono f.s⟩
    · rw [List.getElem?_set_ne hj] at e
      exact I2.sl j R e
  exact h σ _ H D0 I3 (o.step f)
theorem ite_b {b : Bool} {P Q : Prop} (h1 : b = true → P) (h2 : b = false → Q) : if b = true then P else Q := by
  cases b with
  | true => simpa using h1 rfl
  | false => simpa using h2 rfl
end

/-- a comprehension's target of two names -/
theorem blk_tup2 {X : Cx} {i j : Nat} {x y : Str} {scope : Scope} {px py tpos : Pos} {kk : Nat} (hN : X.N.Nodup) (hc : X.calm = true := by rfl) (hi : X.N[i]? = some x := by rfl) (hj : X.N[j]? = some y := by rfl)
    (hx : ∀ C cl, (compEnvC scope cl C X.env).scope.names.lookup x = some .local := by intro _ _; rfl) (hy : ∀ C cl, (compEnvC scope cl C X.env).scope.names.lookup y = some .local := by intro _ _; rfl) (s : Shared) (H : Hp) (C : Addr) (cl : List (Str × Addr)) (fp : List Addr) :
    PG (X.blk s H scope (compEnvC scope cl C X.env) fp) (.Tuple [.Name x px, .Name y py] kk tpos) (gTup X.K 2 (gCons (gName i) (gCons (gName j) gNil))) :=
  pg_tup (X := X.blk s H scope (compEnvC scope cl C X.env) fp) hc (pgs_cons (pg_name hN hi (.inl (hx C cl)) (.inr (hx C cl))) (pgs_cons (pg_name hN hj (.inl (hy C cl)) (.inr (hy C cl))) pgs_nil))
/-- a module's constant -/
theorem pe_gc {X : Cx} {x : Str} {v : V} {pos : Pos} (hg : Gl X x) (h : ∃ u, X.mg x = some u ∧ RelV v u) (hd : (x == ("__debug__" : Str)) = false := by decide) : PE X (.Name x pos) (tC v) := by
  obtain ⟨u, h1, h2⟩ := h
  exact pe_glob hg h1 h2 hd
/-! ### what may be called by its name -/
structure Cl (P : Program) (w : World) (K : PySem.W.Frag) (mg : Str → Option Value) (base : Heap) (CX : CXT) (k : Nat) (x : Str) (ts : TSp) (dvs : List V) : Prop where
  ex : ∃ (f : Addr) (fd : FuncData) (ps : List Str) (ds : List Value), FnOk P w K mg base CX k f fd ps (spT ts) ∧ mg x = some (.ref f) ∧ PySem.W.keepIn K (.ref f) = true ∧ Binds K fd ps ds ∧ Vals dvs ds
section
variable {X : Cx} {CX : CXT} {k j : Nat} {x : Str} {ts : TSp} {dvs : List V} {p pos : Pos} {e : Expr} {es : List Expr} {t : TA} {E : XK}
theorem pe_cl (c : Cl X.prog X.w X.K X.mg X.base CX k x ts dvs) (hr : Room j X.A) (hk : k ≤ j) (hx : Passes CX X E) (hg : Gl X x) (ha : PA X (e :: es) t)
    (hdb : (x == ("__debug__" : Str)) = false := by decide) (he : starEach (e :: es) X.env = (false, eval e X.env) :: starEach es X.env := by rfl) (hpl : (backTo pos (starEach es X.env)).any (·.1) = false := by rfl) :
    PE X (.Call (.Name x p) (e :: es) [] pos) (tCall (spT ts) dvs E t) := by
  obtain ⟨f, fd, ps, ds, F, hm, kp, b, d⟩ := c.ex
  exact pe_call F (hr.mono hk) hg hm kp b d hx ha hdb he hpl
end
section
variable {P : Program} {w : World} {K : PySem.W.Frag} {mg : Str → Option Value} {base : Heap}
/-- a def of the top without defaults -/
structure Df (K : PySem.W.Frag) (mg : Str → Option Value) (x : Str) (st : Stmt) (ps : List Str) (f : Addr) (fd : FuncData) : Prop where
  fn : Fun K x x st f fd
  mg : mg x = some (.ref f)
  bd : Binds K fd ps []
theorem cl_of {x : Str} {st : Stmt} {ps : List Str} {f : Addr} {fd : FuncData} {CX : CXT} {k : Nat} {ts : TSp} (d : Df K mg x st ps f fd) (F : FnOk P w K mg base CX k f fd ps (spT ts)) : Cl P w K mg base CX k x ts [] :=
  ⟨f, fd, ps, [], F, d.mg, d.fn.kp, d.bd, .nil⟩
theorem Cl.mono {x : Str} {CX : CXT} {k j : Nat} {ts : TSp} {dvs : List V} (c : Cl P w K mg base CX k x ts dvs) (h : k ≤ j) : Cl P w K mg base CX j x ts dvs := by
  obtain ⟨f, fd, ps, ds, F, hm, kp, b, d⟩ := c.ex
  exact ⟨f, fd, ps, ds, F.mono h, hm, kp, b, d⟩
end
/-- the built-in names that the program's top leaves alone -/
structure Bt (mg : Str → Option Value) : Prop where
  len : mg "len" = none
  range : mg "range" = none
  list : mg "list" = none
  tuple : mg "tuple" = none
  max : mg "max" = none
  min : mg "min" = none
  all : mg "all" = none
  any : mg "any" = none
  zip : mg "zip" = none
  enumerate : mg "enumerate" = none
  isinstance : mg "isinstance" = none
  str : mg "str" = none
  int : mg "int" = none
  bool : mg "bool" = none
  sorted : mg "sorted" = none
  sum : mg "sum" = none
  repr : mg "repr" = none
  dict : mg "dict" = none
  set : mg "set" = none
/-! ### comprehensions over a text, over a range -/
section
variable {E : XK} {K : PySem.W.Frag} {Γ : Ct} {M : SH} {te ta tb tl : TE} {vs : List Nat} {tt : TT}
theorem given_all {α β : Type} (l : List α) (v : α → β) (d : α) : given l.length (fun _ => true) (fun i => v (l.getD i d)) = l.map v := by
  have := given_list l (fun _ => true) v d
  rw [this]
  congr 1
  simp
theorem ep_lcS {β : Type} {z : Str} {j : Nat} {g : Nat → β} {e' : β → Rep} (hi : Ep E tl Γ M (aStr z)) (hz : z.length ≤ 1000000) (hj : j ∈ vs)
    (he : ∀ c ∈ z.cps.toList, Ep E te ((wipeC Γ vs).set j (some (aStr ⟨#[c]⟩))) M (e' (g c))) : Ep E (tLc (L2.iStr tl) (gName j) tYes te vs) Γ M (iLst ((z.cps.toList.map g).map e')) := by
  refine Ep.to (R := iLst (given z.cps.size (fun _ => true) (fun i => e' (g (z.cps.toList.getD i 0))))) (ep_lc (fun z => by rw [z] at hj; cases hj) (tip_str hi) hz (fun _ => true) (fun i => e' (g (z.cps.toList.getD i 0))) (fun i r hi hr => ?_)) ?_
  · obtain ⟨c, hc, rfl⟩ := hr
    have h1 : z.cps.toList[i]? = some c := by rw [Array.getElem?_toList]; exact hc
    have h2 : z.cps.toList.getD i 0 = c := by rw [List.getD_eq_getElem?_getD, h1]; rfl
    rw [h2]
    exact tg_name ⟨rfl, etp_yes, fun _ => he c (List.mem_of_getElem? h1)⟩ (.inr hj)
  · congr 1
    have := given_all z.cps.toList (fun c => e' (g c)) 0
    rw [Array.length_toList] at this
    rw [this, List.map_map]
    rfl
end
end L3

namespace L3
open PySem L2 RZ PyProof.Rows
/-! ### the box of draws -/
structure BoxV where
  ns : List Int
  pos : Int
  big : Int
  seed : Int
  cnt : Int
  h1 : 0 ≤ pos
  h2 : 0 ≤ big
  h3 : 0 ≤ seed
  h4 : seed < 2147483629
  h5 : ns.length ≤ 1000
def BoxV.l (x : BoxV) : List Rep := [iLst (x.ns.map iInt), iInt x.pos, iInt x.big, iInt x.seed, iInt x.cnt]
def mBox : MRep := ⟨fun S o => ∃ x : BoxV, (mLst x.l).p S o, fun e ⟨x, h⟩ => ⟨x, (mLst x.l).m e h⟩, fun ⟨x, h⟩ => (mLst x.l).nt h⟩
def tsDraw : TSp := fun Rs M k _ => ∃ b n, Rs = [iRef b, iInt n] ∧ 0 < n ∧ n < 2 ^ 100 ∧ M = [(b, mBox)] ∧ ∀ r : Int, 0 ≤ r → r < n → k (iInt r) [(b, mBox)]
def tsBox (K : PySem.W.Frag) : TSp := fun Rs M k _ => ∃ ns, Rs = [iScr K ns] ∧ ns.length ≤ 63 ∧ M = [] ∧ ∀ b, k (iRef b) [(b, mBox)]
section
variable {E : XK} {K : PySem.W.Frag} {Γ : Ct} {M : SH} {k : KR} {X : KX} {R R1 R2 : Rep} {te ta tb tl : TE} {vs : List Nat} {D : EndT} {t u : TS} {c tt : TT} {tr : TA}
theorem o_ixH {i : Int} {a : Addr} {rs : List Rep} {F : SH} (h : atI rs i = some R) : O2p (rIxL K) (iRef a) (iInt i) ((a, mLst rs) :: F) R := o_ixM (List.mem_cons_self ..) h
theorem st_dn (h : St E t Γ M { D with rt := KR.dn D.rt }) : St E t Γ M D := fun σ S H D0 I o => h σ S H D0 I ⟨o.nx, out_dn o.rt, o.bk, o.ct, o.ex⟩
theorem kdn {A B : SH} {a : Addr} {P P' : MRep} (h : ∀ S o, P.p S o → P'.p S o) (q : k R (A ++ (a, P') :: B)) : KR.dn k R (A ++ (a, P) :: B) := ⟨A, B, a, P, P', rfl, h, q⟩
/-- a call with the box and nothing else that is mutable, as the rest stands -/
theorem ev_callB {ts : TSp} {b : Addr} {F : SH} (h : Ea E tr Γ M (fun Rs M1 => ∃ F, M1 = (b, mBox) :: F ∧ ts Rs [(b, mBox)] (fun R M2 => k R (M2 ++ F)) X0) X) : Ev E (tCall (spT ts) [] E0 tr) Γ M k X :=
  ev_call0 (Ds := []) (fun _ => True.intro) (fun σ S H Q I o ox => h σ S H Q I (fun vs S2 H2 Rs M2 ⟨F, e, q⟩ st p => o vs S2 H2 Rs M2 ⟨[(b, mBox)], F, e, by rw [List.append_nil]; exact q⟩ st p) ox)
/-- a draw -/
theorem ev_draw {b : Addr} {n : Int} {F : SH} (h0 : Γ[0]? = Γ[0]?) (hb : Ep E ta Γ ((b, mBox) :: F) (iRef b)) (hn : Ep E tb Γ ((b, mBox) :: F) (iInt n)) (h1 : 0 < n) (h2 : n < 2 ^ 100) (q : ∀ r : Int, 0 ≤ r → r < n → k (iInt r) ((b, mBox) :: F)) :
    Ev E (tCall (spT tsDraw) [] E0 (tCons ta (tCons tb tNil))) Γ ((b, mBox) :: F) k X :=
  ev_callB (b := b) (F := F) (eap_cons hb (eap_cons hn eap_nil) _ _ ⟨F, rfl, b, n, rfl, h1, h2, rfl, fun r a b => q r a b⟩)
theorem at_some {α : Type} (l : List α) {r : Int} (h0 : 0 ≤ r) (h1 : r < l.length) : ∃ x, atI l r = some x ∧ x ∈ l := by
  have h : r.toNat < l.length := by omega
  refine ⟨l[r.toNat], ?_, List.getElem_mem h⟩
  have := atI_nat (xs := l) (j := r.toNat) (v := l[r.toNat]) (by simp)
  rwa [show ((r.toNat : Nat) : Int) = r by omega] at this
end
/-- draw one of a list, a tuple, a text -/
def tsOf (K : PySem.W.Frag) : TSp := fun Rs M k _ =>
  (∃ b rs, Rs = [iRef b, iLst rs] ∧ 0 < rs.length ∧ rs.length ≤ 1000000 ∧ M = [(b, mBox)] ∧ ∀ r ∈ rs, k r [(b, mBox)]) ∨
  (∃ b rs, Rs = [iRef b, aTup K rs] ∧ 0 < rs.length ∧ rs.length ≤ 1000000 ∧ M = [(b, mBox)] ∧ ∀ r ∈ rs, k r [(b, mBox)]) ∨
  (∃ b z, Rs = [iRef b, aStr z] ∧ 0 < z.length ∧ z.length ≤ 1000000 ∧ M = [(b, mBox)] ∧ ∀ c ∈ z.cps.toList, k (aStr ⟨#[c]⟩) [(b, mBox)])
end L3

namespace L3
open PySem L2 RZ PyProof.Rows
/-! ### isinstance -/
def iTy (n : String) : Rep := ⟨fun _ v => v = .ty n, fun _ h => h⟩
def iTupS (rs : List Rep) : Rep := ⟨fun S v => ∃ a xs, v = .ref a ∧ S a = some (.tup xs) ∧ All2 S rs xs, fun e ⟨a, xs, h1, h2, h3⟩ => ⟨a, xs, h1, e _ _ h2, h3.mono e⟩⟩
section
variable {E : XK} {K : PySem.W.Frag} {Γ : Ct} {M : SH} {k : KR} {X : KX} {R R1 R2 : Rep} {te ta tb tl : TE} {vs : List Nat} {D : EndT} {t u : TS} {c tt : TT} {tr : TA}
theorem ep_ty {n : String} : Ep E (tC (.ty n)) Γ M (iTy n) := ep_c fun _ => rfl
theorem ep_tupS {Rs : List Rep} (h : Eap E tr Γ M Rs) (hl : Rs.length ≤ 1000000) : Ep E (tTup tr) Γ M (iTupS Rs) := fun k X q σ S H Q I o ox =>
  h (fun Rs' M' => Rs' = Rs ∧ M' = M) X ⟨rfl, rfl⟩ σ S H _ I (fun xs S1 H1 Rs' M1 ⟨e1, e2⟩ st p => by
    subst e1; subst e2
    exact ⟨sz_le (by rw [p.len]; exact hl), fun a ha => o (.ref a) (upd S1 a (.tup xs)) _ _ _ q (st.trans (Stp.newS st.e st.m ha))
      ⟨a, xs, rfl, upd_same, p.mono (Same.newS (Same.refl _) (st.e.free ha))⟩⟩) ox
/-- R tells the type -/
def IsT (K : PySem.W.Frag) (R : Rep) (T : String) : Prop := ∀ S H v, Same S H → R.p S v → TyX K H v (.type T)
theorem isT_int {i : Int} : IsT K (iInt i) "int" := fun S H v _ p => by cases p; exact .base (.int i)
theorem isT_str {x : Str} : IsT K (aStr x) "str" := fun S H v _ p => by cases p; exact .base (.str x)
theorem isT_bl {b : Bool} : IsT K (iBl b) "bool" := fun S H v _ p => by cases p; exact .base (.bl b)
theorem isT_non : IsT K iNon "NoneType" := fun S H v _ p => by cases p; exact .base .non
theorem isT_lst {rs : List Rep} : IsT K (iLst rs) "list" := fun S H v e p => by
  obtain ⟨a, xs, rfl, h, _⟩ := p
  exact .base (.lst (e _ _ h))
theorem isT_tup {rs : List Rep} : IsT K (aTup K rs) "tuple" := fun S H v e p => by
  obtain ⟨a, xs, rfl, h, _⟩ := p
  rcases h with (h | ⟨o, h⟩) | ⟨o, its, n, h, hc, _⟩
  · exact .base (.tup (e _ _ h))
  · exact .fTuple (e _ _ h)
  · exact .kTuple h hc
theorem c_isi {T n : String} {b : Bool} (h : IsT K R T) (hb : kitB T n = some b) : Olp (rIsi K) [R, iTy n] M (iBl b) := ol_val fun xs S H e _ p => by
  obtain ⟨v, w, rfl, p1, p2⟩ := all2_2 p
  cases p2
  exact ⟨_, rfl, fun Q q => ⟨v, .ty n, _, _, b, rfl, .ty n, h S H v e p1, kit_ty hb, q⟩⟩
theorem kitAny2 {t c1 c2 : Value} {b1 b2 : Bool} (h1 : PySem.W.kitOne K t c1 = some b1) (h2 : PySem.W.kitOne K t c2 = some b2) : PySem.W.kitAny K t [c1, c2] = some (b1 || b2) := by
  unfold PySem.W.kitAny
  rw [h1]
  cases b1 with
  | true => rfl
  | false =>
    show (PySem.W.kitAny K t [c2]) = _
    unfold PySem.W.kitAny
    rw [h2]
    cases b2 <;> rfl
theorem c_isi2 {T n m : String} {b1 b2 : Bool} (h : IsT K R T) (hb : kitB T n = some b1) (hb2 : kitB T m = some b2) : Olp (rIsiT K) [R, iTupS [iTy n, iTy m]] M (iBl (b1 || b2)) := ol_val fun xs S H e _ p => by
  obtain ⟨v, w, rfl, p1, a, ys, rfl, h1, p2⟩ := all2_2 p
  obtain ⟨y1, y2, rfl, q1, q2⟩ := all2_2 p2
  cases q1; cases q2
  exact ⟨_, rfl, fun Q q => ⟨v, a, [.ty n, .ty m], _, [.type n, .type m], _, rfl, e _ _ h1, .cons (.ty n) (.cons (.ty m) .nil), h S H v e p1, kitAny2 (kit_ty hb) (kit_ty hb2), q⟩⟩
end
/-! ### data that the law's own likeness takes -/
inductive Fit : Nat → PyData → Prop
  | non {n : Nat} : Fit (n + 1) .none
  | bl {n : Nat} (b : Bool) : Fit (n + 1) (.bool b)
  | int {n : Nat} (i : Int) : Fit (n + 1) (.int i)
  | str {n : Nat} (s : Str) : Fit (n + 1) (.str s)
  | list {n : Nat} {ds : List PyData} (hl : ds.length ≤ 1000000) (h : ∀ d ∈ ds, Fit n d) : Fit (n + 1) (.list ds)
  | tup {n : Nat} {ds : List PyData} (hl : ds.length ≤ 1000000) (h : ∀ d ∈ ds, Fit n d) : Fit (n + 1) (.tuple ds)
def tsLike (K : PySem.W.Frag) (n : Nat) : TSp := pureTs (fun d : PyData => [iDat K d, iDat K d]) (Fit n) (fun _ => iBl true)
theorem iDats_get (K : PySem.W.Frag) {ds : List PyData} {i : Nat} {r : Rep} (h : (iDats K ds)[i]? = some r) : ∃ d ∈ ds, r = iDat K d := by
  rw [iDats_map, List.getElem?_map] at h
  cases q : ds[i]? with
  | none => rw [q] at h; cases h
  | some d =>
    rw [q] at h
    exact ⟨d, List.mem_of_getElem? q, (Option.some.inj h).symm⟩
theorem iDats_len (K : PySem.W.Frag) (ds : List PyData) : (iDats K ds).length = ds.length := by rw [iDats_map, List.length_map]
theorem given_true (n : Nat) : given n (fun _ => true) (fun _ => iBl true) = (List.replicate n true).map iBl := by
  unfold given
  rw [List.map_replicate]
  have : (List.range n).filter (fun _ => true) = List.range n := by simp
  rw [this]
  apply List.ext_getElem
  · simp
  · simp
theorem all_true (n : Nat) : (List.replicate n true).all id = true := by simp
theorem cl_false {P : Program} {w : World} {K : PySem.W.Frag} {mg : Str → Option Value} {base : Heap} {x : Str} {st : Stmt} {ps : List Str} {f : Addr} {fd : FuncData} {CX : CXT} {k : Nat} {ts : TSp} (d : Df K mg x st ps f fd) (h : ∀ Rs M k X, ¬ ts Rs M k X) : Cl P w K mg base CX k x ts [] :=
  cl_of d ⟨fun vs H Q E ⟨_, Rs, M, k, X, q, _⟩ => (h Rs M k X q).elim, fun A outer s H args us vs Q E _ _ _ _ ⟨_, Rs, M, k, X, q, _⟩ => (h Rs M k X q).elim⟩
/-- the law's own call -/
theorem law_in {K : PySem.W.Frag} {ts : TSp} {H : Hp} {a : Addr} {ns : List Int} (hS : SqL K H a (ns.map V.int)) (h : ts [iScr K ns] [] (fun R _ => R = iBl true) X0) : spT ts [.ref a] H (fun v _ => v = .bl true) (fun _ _ _ => False) :=
  ⟨H, [iScr K ns], [], _, _, h, Same.refl _, ⟨fun _ _ h => absurd h List.not_mem_nil, List.nodup_nil⟩, ⟨⟨a, rfl, hS⟩, True.intro⟩, fun v S2 H2 R M2 e st p => by subst e; exact p, fun _ _ _ _ _ _ z => z.elim⟩
end L3

namespace L3
open PySem L2 RZ PyProof.Rows
/-! ### a list or a tuple, walked -/
def iSeq (K : PySem.W.Frag) (tl : TE) : TI := fun σ H R => tl σ H fun x H1 => (∃ a, x = .ref a ∧ (∃ xs, SqL K H1 a xs) ∧ R (Itl K a) H1) ∨ ∃ a, x = .ref a ∧ (∃ xs, SqT K H1 a xs) ∧ R (Itt K a) H1
section
variable {X : Cx} {tg : Expr}
theorem walk_new {pins : List (Addr × Obj)} {σ : L2.St} {H : Hp} {s : Shared} {R : It → Hp → Prop} {J : It} {o : Obj} {tn : Nat → Heap → Prop} (I : Inv X pins σ H s) (T : Turn X.prog X.w X.K tg J [s.heap.objs.size] s.heap.objs.size tn) (h0 : tn 0 (s.heap.push o)) (q : R J H) :
    PIE X pins σ tg R (.ref s.heap.objs.size) { s with heap := s.heap.push o } := by
  have Ik : Inv X pins σ H { s with heap := s.heap.push o, toks := s.toks } := I.kept fun _ _ z => Heap.get?_push_of_some _ z
  refine ⟨_, _, _, J, H, rfl, Ik, T, h0, ?_, q⟩
  intro c hc
  rw [List.mem_singleton.mp hc]
  exact I.fpOk (Nat.le_refl _) (I.hok.fresh (Nat.le_refl _))
theorem pi_seq {l : Expr} {tl : TE} (hl : PE X l tl) : PI X tg l (iSeq X.K tl) := ⟨fun pins s σ H R I h => by
  refine thn (hl.run pins s σ H _ I h) fun v s1 hx => ?_
  obtain ⟨x, H1, I1, r1, hc⟩ := hx
  rcases hc with ⟨a, rfl, ⟨xs, hs⟩, q⟩ | ⟨a, rfl, ⟨xs, hs⟩, q⟩
  · cases r1
    obtain ⟨its, _, pl, _⟩ := I1.list hs
    exact wpAny_pyIter_list pl.isList (walk_new I1 (turn_list a _) ⟨_, Heap.get?_push_size _ rfl, rfl, rfl⟩ q)
  · cases r1
    obtain ⟨its, _, pt, _⟩ := I1.tuple hs
    exact wpAny_pyIter_tuple (show s1.heap.IsTuple a its.toArray from pt) (walk_new I1 (turn_tuple a _) ⟨_, Heap.get?_push_size _ rfl, rfl, rfl⟩ q)⟩
end
section
variable {E : XK} {K : PySem.W.Frag} {Γ : Ct} {M : SH} {k : KR} {X : KX} {R R1 R2 : Rep} {te ta tb tc tl : TE} {vs : List Nat} {D : EndT} {t u : TS} {c tt : TT} {tr : TA}
/-- a list or a tuple of these -/
def aSeq (K : PySem.W.Frag) (rs : List Rep) : Rep := ⟨fun S v => (iLst rs).p S v ∨ (aTup K rs).p S v, fun e h => h.elim (fun z => .inl ((iLst rs).m e z)) (fun z => .inr ((aTup K rs).m e z))⟩
theorem seq_l {rs : List Rep} (S : Hp) (v : V) (h : (iLst rs).p S v) : (aSeq K rs).p S v := .inl h
theorem seq_t {rs : List Rep} (S : Hp) (v : V) (h : (aTup K rs).p S v) : (aSeq K rs).p S v := .inr h
theorem tip_seq {rl : List Rep} (h : Ep E tl Γ M (aSeq K rl)) : Tip E (iSeq K tl) Γ M rl.length (fun i r => rl[i]? = some r) := fun ki X q σ S H R I o ox =>
  h (fun R' M' => R' = aSeq K rl ∧ M' = M) X ⟨rfl, rfl⟩ σ S H _ I (fun v S2 H2 R' M2 ⟨e1, e2⟩ st p => by
    subst e1; subst e2
    rcases p with ⟨a, xs, rfl, p1, p2⟩ | ⟨a, xs, rfl, p1, p2⟩
    · exact .inl ⟨a, rfl, ⟨xs, SqL.of (st.e _ _ p1)⟩, o _ S2 H2 _ _ _ q st (tw_list p1 p2)⟩
    · exact .inr ⟨a, rfl, ⟨xs, Same.sqt st.e p1⟩, o _ S2 H2 _ _ _ q st (tw_tup p1 p2)⟩) ox
theorem c_lenQ {rs : List Rep} : Olp (rLn K) [aSeq K rs] M (iInt rs.length) := fun k q xs S H Q e m h o => by
  obtain ⟨v, rfl, h1⟩ := all2_1 h
  rcases h1 with h1 | h1
  · exact c_lenL k q [v] S H Q e m ⟨h1, True.intro⟩ o
  · exact c_lenT k q [v] S H Q e m ⟨h1, True.intro⟩ o
theorem o_ixQ {rs : List Rep} {i : Int} (h : atI rs i = some R) : O2p (rIx K) (aSeq K rs) (iInt i) M R := fun k q x y S H Q e m h1 h2 o => by
  rcases h1 with h1 | h1
  · exact Or.inl (o_ixL (K := K) h k q x y S H Q e m h1 h2 o)
  · exact Or.inr (Or.inl (o_ixT h k q x y S H Q e m h1 h2 o))
theorem c_tupQ {rs : List Rep} : Olp (rTupOf K) [aSeq K rs] M (aTup K rs) := fun k q xs S H Q e m h o => by
  obtain ⟨v, rfl, h1⟩ := all2_1 h
  rcases h1 with h1 | h1
  · exact c_tupL k q [v] S H Q e m ⟨h1, True.intro⟩ o
  · exact c_tupT k q [v] S H Q e m ⟨h1, True.intro⟩ o
theorem c_listQ {rs : List Rep} : Olp (rListOf K) [aSeq K rs] M (iLst rs) := fun k q xs S H Q e m h o => by
  obtain ⟨v, rfl, h1⟩ := all2_1 h
  rcases h1 with h1 | h1
  · exact c_listL k q [v] S H Q e m ⟨h1, True.intro⟩ o
  · exact c_listT k q [v] S H Q e m ⟨h1, True.intro⟩ o
theorem o_rep2 {rs : List Rep} (h : rs.length ≤ 400000) : O2p rRep (iLst rs) (iInt 2) M (iLst (rs ++ rs)) := o2_newL fun x y S H e _ h1 h2 => by
  obtain ⟨a, xs, rfl, q1, q2⟩ := h1
  cases h2
  refine ⟨xs ++ xs, q2.app q2, fun Q q => ⟨a, 2, xs, rfl, rfl, e _ _ q1, by decide, by decide, ?_, fun p hp => ?_⟩⟩
  · rw [q2.len]; exact sz_le (by show rs.length * 2 ≤ 1000000; omega)
  · have : (List.replicate (2 : Int).toNat xs).flatten = xs ++ xs := by
      show (List.replicate 2 xs).flatten = xs ++ xs
      simp [List.replicate]
    rw [this]
    exact q p hp
/-! ### ranges with a step -/
theorem ti_rng3 {ki : Nat → (Nat → Rep → Prop) → SH → Prop} (h : Ea E tr Γ M (fun Rs M1 => ∃ (i j c : Int) (n : Nat), Rs = [iInt i, iInt j, iInt c] ∧ RgC i j c n ∧ ki n (fun t r => r = iInt (i + (t : Nat) * c)) M1) X) : Ti E (iRng3 tr) Γ M ki X := fun σ S H R I o ox =>
  h σ S H _ I (fun xs S2 H2 Rs M2 ⟨i, j, c, n, e, hr, q⟩ st p => by
    subst e
    match xs, p with
    | [], p => exact p.elim
    | [_], p => exact p.2.elim
    | [_, _], p => exact p.2.2.elim
    | _ :: _ :: _ :: _ :: _, p => exact p.2.2.2.elim
    | [v1, v2, v3], p =>
      obtain ⟨p1, p2, p3, _⟩ := p
      cases p1; cases p2; cases p3
      exact ⟨i, j, c, n, rfl, hr, o _ S2 H2 n _ M2 q st ⟨_, _, walk_rangeC, fun _ _ _ _ => True.intro, fun t H x H' _ y Sx Mx _ e2 m => by
        obtain ⟨rfl, rfl⟩ := y
        exact ⟨Sx, _, Stp.refl e2 m, rfl, rfl⟩⟩⟩) ox
end
end L3

namespace L3
open PySem L2 RZ PyProof.Rows
section
variable {E : XK} {K : PySem.W.Frag} {Γ : Ct} {M : SH} {k : KR} {X : KX} {R R1 R2 : Rep} {te ta tb tc tl : TE} {vs : List Nat} {D : EndT} {t u : TS} {c tt : TT} {tr : TA}
theorem ev_int {i : Int} (q : k (iInt i) M) : Ev E (tC (.int i)) Γ M k X := ep_int _ _ q
theorem ev_str {z : Str} (q : k (aStr z) M) : Ev E (tC (.str z)) Γ M k X := ep_str _ _ q
theorem ev_bl {b : Bool} (q : k (iBl b) M) : Ev E (tC (.bl b)) Γ M k X := ep_bl _ _ q
theorem ev_non (q : k iNon M) : Ev E (tC .non) Γ M k X := ep_non _ _ q
theorem ev_ty {n : String} (q : k (iTy n) M) : Ev E (tC (.ty n)) Γ M k X := ep_ty _ _ q
theorem ev_notV (h : Ev E ta Γ M (fun R M1 => ∃ b, R = iBl b ∧ k (iBl (!b)) M1) X) : Ev E (tNotV ta) Γ M k X := fun σ S H Q I o ox =>
  h σ S H _ I (fun v S2 H2 R M2 ⟨b, e, q⟩ st p => by
    subst e; cases p
    exact ⟨b, rfl, o _ S2 H2 (iBl (!b)) _ q st rfl⟩) ox
theorem ev_call_at {sp : Sp} {dvs : List V} {E' : XK} (h : Ev E (tCall sp dvs E' tr) Γ M k X) : Ev E (tCall sp dvs E' tr) Γ M k X := h
theorem ev_varM {i : Nat} (h : ∃ R, Γ[i]? = some (some R) ∧ k R M) : Ev E (tVar i) Γ M k X := let ⟨_, h1, h2⟩ := h; ev_var h1 h2
theorem k_at {i : Nat} {P : Rep → Prop} (h : Γ[i]? = some (some R)) (q : P R) : ∃ R, Γ[i]? = some (some R) ∧ P R := ⟨R, h, q⟩
/-- the words of the walk -/
theorem k_b {b : Bool} {P : Bool → Prop} (h : P b) : ∃ c, iBl b = iBl c ∧ P c := ⟨b, rfl, h⟩
theorem k_len {n : Nat} {P : Prop} (hn : n ≤ 1000000) (h : P) : n ≤ 1000000 ∧ P := ⟨hn, h⟩
theorem k_par {P : Rep → Rep → Prop} (h : P R1 R2) : ∃ A B, [R1, R2] = [A, B] ∧ P A B := ⟨_, _, rfl, h⟩
theorem k_str {z : Str} {P : Str → Prop} (h : P z) : ∃ c, aStr z = aStr c ∧ P c := ⟨z, rfl, h⟩
theorem k_lst {rs : List Rep} {P : List Rep → Prop} (h : P rs) : ∃ c, iLst rs = iLst c ∧ P c := ⟨rs, rfl, h⟩
theorem k_tup {rs : List Rep} {P : List Rep → Prop} (h : P rs) : ∃ c, aTup K rs = aTup K c ∧ P c := ⟨rs, rfl, h⟩
theorem k_t {P Q : Prop} (h : P) : if true = true then P else Q := by simpa using h
theorem k_f {P Q : Prop} (h : Q) : if false = true then P else Q := by simpa using h
theorem k_nt {P Q : Prop} (h : Q) : if (!true) = true then P else Q := by simpa using h
theorem k_nf {P Q : Prop} (h : P) : if (!false) = true then P else Q := by simpa using h
theorem cmul_at {a b : Int} (h : CMul a b) : CMul a b := h
theorem nle_at {a b : Nat} (h : a ≤ b) : a ≤ b := h
theorem ile_at {a b : Int} (h : a ≤ b) : a ≤ b := h
theorem ilt_at {a b : Int} (h : a < b) : a < b := h
theorem ol_at {rl : List V → Hp → VK → Prop} {Rs : List Rep} (h : Ol rl Rs M k) : Ol rl Rs M k := h
theorem o1_at {r : V → Hp → VK → Prop} (h : O1 r R1 M k) : O1 r R1 M k := h
theorem o2_at {r : L2.R2} (h : O2 r R1 R2 M k) : O2 r R1 R2 M k := h
theorem ep_at (h : ∀ (k : KR) (X : KX), k R M → Ev E te Γ M k X) : Ep E te Γ M R := h
theorem etp_at {b : Bool} (h : ∀ (k : Bool → SH → Prop) (X : KX), k b M → Et E c Γ M k X) : Etp E c Γ M b := h
theorem eap_at {Rs : List Rep} (h : ∀ (k : List Rep → SH → Prop) (X : KX), k Rs M → Ea E tr Γ M k X) : Eap E tr Γ M Rs := h
/-- weaker words of arguments -/
def LeS (a b : List Rep) : Prop := ∀ S vs, All2 S a vs → All2 S b vs
theorem leS_rfl {a : List Rep} : LeS a a := fun _ _ h => h
theorem leS_nil : LeS [] [] := fun _ _ h => h
theorem leS_cons {a b : List Rep} (h : ∀ S v, R1.p S v → R2.p S v) (h2 : LeS a b) : LeS (R1 :: a) (R2 :: b) := fun S vs p => by
  match vs, p with
  | [], p => exact p.elim
  | v :: vs, p => exact ⟨h S v p.1, h2 S vs p.2⟩
theorem leS_seqL {rs : List Rep} : LeS [iLst rs] [aSeq K rs] := leS_cons seq_l leS_nil
/-- a call of a def that only reckons -/
theorem ev_callP0 {α : Type} {args : α → List Rep} {pre : α → Prop} {res : α → Rep} (h : Ea E tr Γ M (fun Rs M1 => ∃ x, LeS Rs (args x) ∧ pre x ∧ k (res x) M1) X) : Ev E (tCall (spT (pureTs args pre res)) [] E0 tr) Γ M k X :=
  ev_call0 (Ds := []) (fun _ => True.intro) fun σ S H Q I o ox => h σ S H Q I (fun vs S2 H2 Rs M2 ⟨x, e, hp, q⟩ st p => o vs S2 H2 (args x) M2 ⟨[], M2, rfl, x, by rw [List.append_nil], hp, rfl, q⟩ st (e S2 vs p)) ox
/-- a def that changes nothing, with several ends -/
def pureK (sp : List Rep → (Rep → Prop) → Prop) : TSp := fun Rs M k _ => M = [] ∧ sp Rs fun R => k R []
theorem ev_callK {sp : List Rep → (Rep → Prop) → Prop} (h : Ea E tr Γ M (fun Rs M1 => ∃ Rs', LeS Rs Rs' ∧ sp Rs' fun R => k R M1) X) : Ev E (tCall (spT (pureK sp)) [] E0 tr) Γ M k X :=
  ev_call0 (Ds := []) (fun _ => True.intro) fun σ S H Q I o ox => h σ S H Q I (fun vs S2 H2 Rs M2 ⟨Rs', e, q⟩ st p => o vs S2 H2 Rs' M2 ⟨[], M2, rfl, rfl, by rw [List.append_nil]; exact q⟩ st (e S2 vs p)) ox
/-- a def that draws, and changes nothing else -/
def boxK (sp : List Rep → (Rep → Prop) → Prop) : TSp := fun Rs M k _ => ∃ b Rs', Rs = iRef b :: Rs' ∧ M = [(b, mBox)] ∧ sp Rs' fun R => k R [(b, mBox)]
theorem ev_callB2 {sp : List Rep → (Rep → Prop) → Prop} (h : Ea E tr Γ M (fun Rs M1 => ∃ b Rs0 F, Rs = iRef b :: Rs0 ∧ M1 = (b, mBox) :: F ∧ ∃ Rs', LeS Rs0 Rs' ∧ sp Rs' fun R => k R M1) X) : Ev E (tCall (spT (boxK sp)) [] E0 tr) Γ M k X :=
  ev_call0 (Ds := []) (fun _ => True.intro) fun σ S H Q I o ox => h σ S H Q I (fun vs S2 H2 Rs M2 ⟨b, Rs0, F, e, eM, Rs', le, q⟩ st p => o vs S2 H2 (iRef b :: Rs') M2 ⟨[(b, mBox)], F, by rw [eM]; rfl, b, Rs', by rw [List.append_nil], rfl, by rw [eM] at q; exact q⟩ st (by
    subst e
    match vs, p with
    | [], p => exact p.elim
    | v :: vs, p => exact ⟨p.1, le S2 vs p.2⟩)) ox
theorem k_box {b : Addr} {Rs : List Rep} {F : SH} {P : Addr → List Rep → SH → Prop} (h : P b Rs F) : ∃ c Rs0 G, iRef b :: Rs = iRef c :: Rs0 ∧ (b, mBox) :: F = (c, mBox) :: G ∧ P c Rs0 G := ⟨b, Rs, F, rfl, rfl, h⟩
def tsOf2 (K : PySem.W.Frag) : TSp := boxK fun Rs q =>
  (∃ rs, Rs = [iLst rs] ∧ 0 < rs.length ∧ rs.length ≤ 1000000 ∧ ∀ r ∈ rs, q r) ∨
  (∃ rs, Rs = [aTup K rs] ∧ 0 < rs.length ∧ rs.length ≤ 1000000 ∧ ∀ r ∈ rs, q r) ∨
  (∃ z : Str, Rs = [aStr z] ∧ 0 < z.length ∧ z.length ≤ 1000000 ∧ ∀ c ∈ z.cps.toList, q (aStr ⟨#[c]⟩))
/-- a call, all of the symbolic heap handed over -/
theorem ev_callT {ts : TSp} (h : Ea E tr Γ M (fun Rs M1 => ∃ Mf Fr, M1 = Mf ++ Fr ∧ ts Rs Mf (fun R M2 => k R (M2 ++ Fr)) X0) X) : Ev E (tCall (spT ts) [] E0 tr) Γ M k X :=
  ev_call0 (Ds := []) (fun _ => True.intro) fun σ S H Q I o ox => h σ S H Q I (fun vs S2 H2 Rs M2 ⟨Mf, Fr, e, q⟩ st p => o vs S2 H2 Rs M2 ⟨Mf, Fr, e, by rw [List.append_nil]; exact q⟩ st p) ox
/-- a draw, the box first in the heap -/
theorem ev_draw0 (h : Ea E tr Γ M (fun Rs M1 => ∃ b n F, Rs = [iRef b, iInt n] ∧ M1 = (b, mBox) :: F ∧ 0 < n ∧ n < 2 ^ 100 ∧ ∀ r : Int, 0 ≤ r → r < n → k (iInt r) M1) X) : Ev E (tCall (spT tsDraw) [] E0 tr) Γ M k X :=
  ev_callT fun σ S H Q I o ox => h σ S H Q I (fun vs S2 H2 Rs M2 ⟨b, n, F, e, eM, h1, h2, q⟩ st p => o vs S2 H2 Rs M2 ⟨[(b, mBox)], F, by rw [eM]; rfl, b, n, e, h1, h2, rfl, fun r r0 r1 => by
    have := q r r0 r1
    rw [eM] at this
    exact this⟩ st p) ox
theorem k_draw {b : Addr} {n : Int} {F : SH} {P : Addr → Int → SH → Prop} (hn : 0 < n ∧ n < 2 ^ 100) (h : P b n F) : ∃ c m G, [iRef b, iInt n] = [iRef c, iInt m] ∧ (b, mBox) :: F = (c, mBox) :: G ∧ 0 < m ∧ m < 2 ^ 100 ∧ P c m G := ⟨b, n, F, rfl, rfl, hn.1, hn.2, h⟩
theorem k_nat {n : Int} {P : Int → Prop} (h : ∀ r : Nat, (r : Int) < n → P r) : ∀ r : Int, 0 ≤ r → r < n → P r := fun r h0 h1 => by
  obtain ⟨m, rfl⟩ := Int.eq_ofNat_of_zero_le h0
  exact h m h1
theorem ev_rev (h : Ev E te Γ M (fun R M1 => ∃ rs, R = iLst rs ∧ k (iLst rs.reverse) M1) X) : Ev E (tRevL K te) Γ M k X := fun σ S H Q I o ox =>
  h σ S H _ I (fun v S1 H1 R' M1 ⟨rs, e, q⟩ st p => by
    subst e
    obtain ⟨a, xs, rfl, q1, q2⟩ := p
    exact ⟨a, xs, rfl, SqL.of (st.e _ _ q1), fun b hb => o (.ref b) (upd S1 b (.lst xs.reverse)) _ (iLst rs.reverse) _ q (st.trans (Stp.newS st.e st.m hb)) ⟨b, _, rfl, upd_same, q2.rev.mono (Same.newS (Same.refl _) (st.e.free hb))⟩⟩) ox
end
/-! ### loops with a word of their own; slots forgotten -/
inductive Wk : Ct → Ct → Prop
  | nil : Wk [] []
  | no {c : Option Rep} {a b : Ct} : Wk a b → Wk (none :: a) (c :: b)
  | so {R : Rep} {a b : Ct} : Wk a b → Wk (some R :: a) (some R :: b)
theorem Wk.len {a b : Ct} (h : Wk a b) : b.length = a.length := by
  induction h with
  | nil => rfl
  | no _ ih => simp [ih]
  | so _ ih => simp [ih]
theorem Wk.at {a b : Ct} (h : Wk a b) : ∀ (i : Nat) (R : Rep), a[i]? = some (some R) → b[i]? = some (some R) := by
  induction h with
  | nil => intro i R e; simp at e
  | no _ ih =>
    intro i R e
    cases i with
    | zero => simp at e
    | succ i => simpa using ih i R (by simpa using e)
  | so _ ih =>
    intro i R e
    cases i with
    | zero => simpa using e
    | succ i => simpa using ih i R (by simpa using e)
theorem Wk.refl : ∀ a : Ct, Wk a a
  | [] => .nil
  | none :: a => .no (Wk.refl a)
  | some _ :: a => .so (Wk.refl a)
section
variable {E : XK} {K : PySem.W.Frag} {Γ Γ0 : Ct} {M : SH} {k : KR} {X : KX} {R : Rep} {te : TE} {vs : List Nat} {D : EndT} {t : TS} {c : TT} {wi : TI} {g : TG}
theorem st_wk (w : Wk Γ0 Γ) (h : St E t Γ0 M D) : St E t Γ M D := st_ctx h w.len w.at
theorem tg_wk {kc : KC} (w : Wk Γ0 Γ) (h : Tg g R Γ0 M vs kc) : Tg g R Γ M vs kc := fun v σ S H Q I p o => h v σ S H Q (I.weak w.len.symm w.at) p o
theorem et_wk {kb : Bool → SH → Prop} (w : Wk Γ0 Γ) (h : Et E c Γ0 M kb X) : Et E c Γ M kb X := fun σ S H Q I o ox => h σ S H Q (I.weak w.len.symm w.at) o ox
def LJ {α : Type} (P : α → Prop) (G : α → Ct) (N : α → SH) : KC := fun Γ M => ∃ a, P a ∧ Wk (G a) Γ ∧ M = N a
theorem lj {α : Type} {P : α → Prop} {G : α → Ct} {N : α → SH} (a : α) (h1 : P a) (h2 : Wk (G a) Γ) (h3 : M = N a) : LJ P G N Γ M := ⟨a, h1, h2, h3⟩
/-- what is walked, the words of the loop behind it -/
def FJ (E : XK) (g : TG) (t : TS) (D : EndT) (α : Type) (Γ : Ct) (n : Nat) (rs : Nat → Rep → Prop) (M : SH) : Prop :=
  ∃ (P : Nat → α → Prop) (G : α → Ct) (N : α → SH), LJ (P 0) G N Γ M ∧ (∀ i r a, i < n → rs i r → P i a → Tg g r (G a) (N a) [] fun Γ2 M2 => St E t Γ2 M2 { D with nx := LJ (P (i + 1)) G N, ct := LJ (P (i + 1)) G N, bk := D.nx }) ∧ ∀ a Γ1, P n a → Wk (G a) Γ1 → D.nx Γ1 (N a)
theorem st_forG (α : Type) (h : Ti E wi Γ M (FJ E g t D α Γ) D.ex) : St E (tFor wi g t) Γ M D := st_for fun σ S H R I o ox =>
  h σ S H R I (fun J S1 H1 n rs M1 ⟨P, G, N, h0, h1, h2⟩ st w => o J S1 H1 n rs M1 ⟨fun i => LJ (P i) G N, h0, fun i r Γ1 M1 hi hr ⟨a, ha, hw, hm⟩ => by
    subst hm
    exact tg_wk hw (h1 i r a hi hr ha), fun Γ1 M1 ⟨a, ha, hw, hm⟩ => by
    subst hm
    exact h2 a Γ1 ha hw⟩ st w) ox
theorem st_whileG (α : Type) (P : Nat → α → Prop) (G : α → Ct) (N : α → SH) (m0 : Nat) (h0 : LJ (P m0) G N Γ M) (hs : ∀ m a, P m a → Et E c (G a) (N a) (fun b M2 => if b = true then St E t (G a) M2 { D with nx := fun Γ2 M3 => ∃ m', m' < m ∧ LJ (P m') G N Γ2 M3, ct := fun Γ2 M3 => ∃ m', m' < m ∧ LJ (P m') G N Γ2 M3, bk := D.nx } else ∀ Γ1, Wk (G a) Γ1 → D.nx Γ1 M2) D.ex) : St E (tWhile c t) Γ M D :=
  st_while (fun m => LJ (P m) G N) m0 h0 fun m Γ1 M1 ⟨a, ha, hw, hm⟩ => by
    subst hm
    refine et_wk hw fun σ S H Q I o ox => hs m a ha σ S H Q I (fun b S2 H2 M2 q st => o b S2 H2 M2 ?_ st) ox
    cases b with
    | true =>
      rw [if_pos rfl] at q ⊢
      exact st_wk hw q
    | false =>
      rw [if_neg Bool.false_ne_true] at q ⊢
      exact q Γ1 hw
end
theorem atI_0 {α : Type} {x : α} {l : List α} : atI (x :: l) 0 = some x := atI_nat (xs := x :: l) (j := 0) (v := x) (by simp)
/-! ### likeness -/
def FitAll (n : Nat) (ds : List PyData) : Prop := ∀ d ∈ ds, Fit n d
theorem fitA_nil {n : Nat} : FitAll n [] := fun _ h => by cases h
theorem fitA_cons {n : Nat} {d : PyData} {ds : List PyData} (h : Fit n d) (h2 : FitAll n ds) : FitAll n (d :: ds) := fun x hx => by
  rcases List.mem_cons.mp hx with e | e
  · rw [e]; exact h
  · exact h2 x e
theorem fit_l {n : Nat} {ds : List PyData} (h : FitAll n ds) (hl : ds.length ≤ 1000000) : Fit (n + 1) (.list ds) := .list hl h
theorem fit_t {n : Nat} {ds : List PyData} (h : FitAll n ds) (hl : ds.length ≤ 1000000) : Fit (n + 1) (.tuple ds) := .tup hl h
theorem k_like {K : PySem.W.Frag} {R1 R2 : Rep} {d : PyData} {P : Prop} (h2 : R2 = iDat K d) (h1 : R1 = iDat K d) (hf : Fit 7 d) (q : P) : ∃ x, LeS [R1, R2] [iDat K x, iDat K x] ∧ Fit 7 x ∧ P := ⟨d, by rw [h1, h2]; exact leS_rfl, hf, q⟩
/-- the written part, as the trees name it -/
theorem cxK {CX : CXT} {P : Program} {w : World} {K : PySem.W.Frag} {mg : Str → Option Value} {base : Heap} {N : List Str} {qual : Str} {scope : Scope} {f : Addr} {cd : Value} {A : Around} {outer : List PySem.Env} {s : Shared} {H : Hp} {E : XK} : (cxOf CX P w K mg base N qual scope f cd A outer s H E).nox.K = K := rfl
theorem cxKX {CX : CXT} {P : Program} {w : World} {K : PySem.W.Frag} {mg : Str → Option Value} {base : Heap} {N : List Str} {qual : Str} {scope : Scope} {f : Addr} {cd : Value} {A : Around} {outer : List PySem.Env} {s : Shared} {H : Hp} {E : XK} : (cxOf CX P w K mg base N qual scope f cd A outer s H E).K = K := rfl
end L3

namespace L3
open PySem PySem.Spec PySem.W L2 RZ PyProof.Rows
/-! ### first, *rest = a list or a tuple -/
/-- what the spreading of one head and a rest asks of the thing spread: it is iterable, its iterator gives x, then all the others -/
structure Spread (P : Program) (w : World) (A : Around) (E : Value → Shared → Prop) (s : Shared) (v x : Value) (rest : List Value) : Prop where
  ok : ∀ Q : Bool → Shared → Prop, Q false s → wpAny (model P w) A (notIterableAtAll v) Q E s
  go : ∃ (J0 J1 : Addr → Heap → Prop),
    (∀ Q : Value → Shared → Prop, (∀ (it : Addr) (h : Heap), (∀ b o, s.heap.get? b = some o → h.get? b = some o) → J0 it h → Q (.ref it) { s with heap := h }) → wpAny (model P w) A (pyIter v) Q E s) ∧
    (∀ (it : Addr) (h0 : Heap) (Q : List Value → Shared → Prop), (∀ b o, s.heap.get? b = some o → h0.get? b = some o) → J0 it h0 → (∀ h : Heap, (∀ b o, s.heap.get? b = some o → h.get? b = some o) → J1 it h → Q [x] { s with heap := h }) → wpAny (model P w) A (draw (.ref it) 1) Q E { s with heap := h0 }) ∧
    (∀ (it : Addr) (h1 : Heap) (Q : List Value → Shared → Prop), (∀ b o, s.heap.get? b = some o → h1.get? b = some o) → J1 it h1 → (∀ (h : Heap) (tk : Nat), (∀ b o, s.heap.get? b = some o → h.get? b = some o) → Q rest { s with heap := h, toks := tk }) → wpAny (model P w) A (collect (.ref it)) Q E { s with heap := h1 })
theorem Spread.run {P : Program} {w : World} {A : Around} {E : Value → Shared → Prop} {s : Shared} {v x : Value} {rest : List Value} (sp : Spread P w A E s v x rest) (hz : rest.length ≤ 16000) {Q : List Value → Shared → Prop}
    (h : ∀ (h' : Heap) (tk : Nat), (∀ b o, s.heap.get? b = some o → h'.get? b = some o) → Q [x, .ref h'.objs.size] { s with heap := h'.push { cls := .type "list", data := .seq rest.toArray }, toks := tk }) : wpAny (model P w) A (unpackItems v 2 (some 1)) Q E s := by
  obtain ⟨J0, J1, g0, g1, g2⟩ := sp.go
  have hlast : ∀ (h1 : Heap) (tk : Nat), (∀ b o, s.heap.get? b = some o → h1.get? b = some o) →
      wpAny (model P w) A (newList (rest.take (rest.length - 0)) >>= fun d => pure ([x] ++ [d] ++ rest.drop (rest.length - 0))) Q E { s with heap := h1, toks := tk } := fun h1 tk k1 => by
    rw [Nat.sub_zero, List.take_length, List.drop_length]
    exact wpAny_bind (wpAny_newList (s := { s with heap := h1, toks := tk }) (wpAny_pure (h h1 tk k1)) (by rw [sizeLine_eq]; omega))
  unfold unpackItems
  refine wpAny_bind (sp.ok _ ?_)
  rw [if_neg Bool.false_ne_true]
  refine wpAny_bind (wpAny_holding (g0 _ fun it h0 k0 j0 => ?_))
  refine wpAny_bind (wpAny_holding (g1 it h0 _ k0 j0 fun h1 k1 j1 => ?_))
  rw [if_neg (show ¬ [x].length < 1 from Nat.lt_irrefl 1)]
  refine wpAny_bind (wpAny_holding (g2 it h1 _ k1 j1 fun h2 tk k2 => ?_))
  show wpAny _ _ (if rest.length < 0 then _ else _) _ _ _
  rw [if_neg (Nat.not_lt_zero _)]
  exact hlast h2 tk k2
section
variable {P : Program} {w : World} {A : Around} {E : Value → Shared → Prop} {s : Shared} {l : Addr} {items : Array Value} {x : Value} {rest : List Value}
end
def gStar (K : PySem.W.Frag) (t : TGs) : TG := fun v σ H Q => ∃ a x xs, v = .ref a ∧ (SqL K H a (x :: xs) ∨ SqT K H a (x :: xs)) ∧ xs.length ≤ 16000 ∧ ∀ p, H p = none → t [x, .ref p] σ (upd H p (.lst xs)) Q
section
variable {X : Cx} {e0 e1 : Expr} {t : TGs} {sp pos : Pos} {kk : Nat}
end
section
variable {K : PySem.W.Frag} {Γ : Ct} {M : SH} {R : Rep} {vs : List Nat} {k : KC} {g0 g1 : TG}
theorem tg_star_at {gs : TGs} (h : Tg (gStar K gs) R Γ M vs k) : Tg (gStar K gs) R Γ M vs k := h
theorem tg_star {rs : List Rep} (hl : rs.length ≤ 16000) (h : Tgs (gCons g0 (gCons g1 gNil)) [R, iLst rs] Γ M vs k) (R' : Rep) (hR : R' = iLst (R :: rs) ∨ R' = aTup K (R :: rs) ∨ R' = aSeq K (R :: rs)) : Tg (gStar K (gCons g0 (gCons g1 gNil))) R' Γ M vs k := fun v σ S H Q I p o => by
  have go : ∀ a (xs : List V), v = .ref a → (SqL K H a xs ∨ SqT K H a xs) → All2 S (R :: rs) xs → gStar K (gCons g0 (gCons g1 gNil)) v σ H Q := by
    intro a xs e hq p2
    match xs, p2 with
    | [], p2 => exact p2.elim
    | x :: xs, p2 =>
      refine ⟨a, x, xs, e, hq, by rw [All2.len p2.2]; exact hl, fun q hq => ?_⟩
      have st := Stp.newS (o := .lst xs) I.ex I.m hq
      exact h [x, .ref q] σ _ _ Q (I.step st) ⟨R.m st.s p2.1, ⟨q, xs, rfl, upd_same, All2.mono st.s p2.2⟩, True.intro⟩ fun σ2 S2 H2 Γ2 M2 q2 st2 I2 w2 => o σ2 S2 H2 Γ2 M2 q2 (st.trans st2) I2 w2
  rcases hR with e | e | e
  · subst e
    obtain ⟨a, xs, e, q1, q2⟩ := p
    exact go a xs e (.inl (SqL.of (I.ex _ _ q1))) q2
  · subst e
    obtain ⟨a, xs, e, q1, q2⟩ := p
    exact go a xs e (.inr (Same.sqt I.ex q1)) q2
  · subst e
    rcases p with ⟨a, xs, e, q1, q2⟩ | ⟨a, xs, e, q1, q2⟩
    · exact go a xs e (.inl (SqL.of (I.ex _ _ q1))) q2
    · exact go a xs e (.inr (Same.sqt I.ex q1)) q2
end
end L3

namespace L3
open PySem L2 RZ PyProof.Rows
section
variable {E : XK} {K : PySem.W.Frag} {Γ : Ct} {M : SH} {k : KR} {X : KX} {R R1 R2 : Rep} {te ta tb tc tl : TE} {vs : List Nat} {D : EndT} {t u : TS} {c tt : TT} {tr : TA}
/-! ### slices, read from the left -/
def EoC (E : XK) (to : TO) (Γ : Ct) (M : SH) (ko : Option Int → SH → Prop) : Prop := ∀ σ S H (Q : Option Int → Hp → Prop), Nv S H σ Γ M → (∀ o S2 H2 M2, ko o M2 → Stp S H S2 H2 M M2 → Q o H2) → to σ H Q
theorem eoc_none {ko : Option Int → SH → Prop} (h : ko none M) : EoC E tNoPart Γ M ko := fun σ S H Q I o => o none S H M h (Stp.refl I.ex I.m)
theorem eoc_some {ko : Option Int → SH → Prop} (h : Ev E te Γ M (fun R M1 => ∃ i, R = iInt i ∧ ko (some i) M1) X0) : EoC E (tPart te) Γ M ko := fun σ S H Q I o =>
  h σ S H _ I (fun v S2 H2 R M2 ⟨i, e, q⟩ st p => by
    subst e; cases p
    exact ⟨i, rfl, o (some i) S2 H2 M2 q st⟩) (fun _ _ _ _ _ _ z => z.elim)
theorem k_int {i : Int} {P : Int → Prop} (h : P i) : ∃ j, iInt i = iInt j ∧ P j := ⟨i, rfl, h⟩
def Os (r : V → Option Int → Option Int → Hp → VK → Prop) (R : Rep) (lo hi : Option Int) (M : SH) (k : KR) : Prop := ∀ x S H Q, Same S H → MOk S H M → R.p S x → Out S H M k Q → r x lo hi H Q
theorem ev_slC {r : V → Option Int → Option Int → Hp → VK → Prop} {tlo thi : TO} (h : Ev E te Γ M (fun R1 M1 => EoC E tlo Γ M1 fun lo M2 => EoC E thi Γ M2 fun hi M3 => Os r R1 lo hi M3 k) X) : Ev E (tSl r te tlo thi) Γ M k X := fun σ S H Q I o ox =>
  h σ S H _ I (fun v S1 H1 R' M1 q st p => q σ S1 H1 _ (I.step st) fun lo S2 H2 M2 q2 st2 => q2 σ S2 H2 _ (I.step (st.trans st2)) fun hi S3 H3 M3 q3 st3 =>
    q3 v S3 H3 Q st3.e st3.m (R'.m (st2.s.trans st3.s) p) (o.step ((st.trans st2).trans st3))) ox
theorem os_list {rs : List Rep} {lo hi : Option Int} (q : k (iLst (cutL rs lo hi)) M) : Os (rSlL K) (iLst rs) lo hi M k := fun x S H Q e m p o => s_list k q x S H Q e m p o
theorem os_tup {rs : List Rep} {lo hi : Option Int} (q : k (aTup K (cutL rs lo hi)) M) : Os (rSlA K) (aTup K rs) lo hi M k := fun x S H Q e m p o => by
  obtain ⟨a, xs, rfl, h1, h2⟩ := p
  refine ⟨a, xs, rfl, Same.sqt e h1, fun ⟨c1, c2⟩ => ?_, fun _ b hb => ?_⟩
  · refine o (.ref a) S H _ M q (Stp.refl e m) ⟨a, xs, rfl, h1, ?_⟩
    have e2 : cutL rs lo hi = rs := by
      unfold cutL
      rw [← h2.len, c1, c2, Nat.sub_zero, List.drop_zero]
      exact List.take_of_length_le (by rw [h2.len]; exact Nat.le_refl _)
    rw [e2]
    exact h2
  · exact o (.ref b) (upd S b (.tup (cutV xs lo hi))) _ _ M q (Stp.newS e m hb) ⟨b, _, rfl, SqT.of upd_same, (h2.cut lo hi).mono (Same.newS (Same.refl _) (e.free hb))⟩
theorem cutL_take {α : Type} (l : List α) (n : Nat) : cutL l none (some (n : Int)) = l.take n := by
  unfold cutL
  rw [HT.sIx_nat, HT.sIx_none, List.drop_zero, Nat.sub_zero]
  by_cases h : n ≤ l.length
  · rw [Nat.min_eq_left h]
  · rw [Nat.min_eq_right (by omega), List.take_of_length_le (Nat.le_refl _), List.take_of_length_le (by omega)]
theorem Wk.trans {a b : Ct} (h : Wk a b) : ∀ {c : Ct}, Wk b c → Wk a c := by
  induction h with
  | nil => intro c h; exact h
  | no _ ih =>
    intro c h
    cases h with
    | no h => exact .no (ih h)
    | so h => exact .no (ih h)
  | so _ ih =>
    intro c h
    cases h with
    | so h => exact .so (ih h)
theorem k_ofL {rs : List Rep} {q : Rep → Prop} (h0 : 0 < rs.length) (h1 : rs.length ≤ 1000000) (h : ∀ r ∈ rs, q r) : ∃ Rs', LeS [iLst rs] Rs' ∧ ((∃ rs, Rs' = [iLst rs] ∧ 0 < rs.length ∧ rs.length ≤ 1000000 ∧ ∀ r ∈ rs, q r) ∨
  (∃ rs, Rs' = [aTup K rs] ∧ 0 < rs.length ∧ rs.length ≤ 1000000 ∧ ∀ r ∈ rs, q r) ∨
  (∃ z : Str, Rs' = [aStr z] ∧ 0 < z.length ∧ z.length ≤ 1000000 ∧ ∀ c ∈ z.cps.toList, q (aStr ⟨#[c]⟩))) := ⟨_, leS_rfl, .inl ⟨rs, rfl, h0, h1, h⟩⟩
theorem k_ofT {rs : List Rep} {q : Rep → Prop} (h0 : 0 < rs.length) (h1 : rs.length ≤ 1000000) (h : ∀ r ∈ rs, q r) : ∃ Rs', LeS [aTup K rs] Rs' ∧ ((∃ rs, Rs' = [iLst rs] ∧ 0 < rs.length ∧ rs.length ≤ 1000000 ∧ ∀ r ∈ rs, q r) ∨
  (∃ rs, Rs' = [aTup K rs] ∧ 0 < rs.length ∧ rs.length ≤ 1000000 ∧ ∀ r ∈ rs, q r) ∨
  (∃ z : Str, Rs' = [aStr z] ∧ 0 < z.length ∧ z.length ≤ 1000000 ∧ ∀ c ∈ z.cps.toList, q (aStr ⟨#[c]⟩))) := ⟨_, leS_rfl, .inr (.inl ⟨rs, rfl, h0, h1, h⟩)⟩
theorem k_ofS {z : Str} {q : Rep → Prop} (h0 : 0 < z.length) (h1 : z.length ≤ 1000000) (h : ∀ c ∈ z.cps.toList, q (aStr ⟨#[c]⟩)) : ∃ Rs', LeS [aStr z] Rs' ∧ ((∃ rs, Rs' = [iLst rs] ∧ 0 < rs.length ∧ rs.length ≤ 1000000 ∧ ∀ r ∈ rs, q r) ∨
  (∃ rs, Rs' = [aTup K rs] ∧ 0 < rs.length ∧ rs.length ≤ 1000000 ∧ ∀ r ∈ rs, q r) ∨
  (∃ z : Str, Rs' = [aStr z] ∧ 0 < z.length ∧ z.length ≤ 1000000 ∧ ∀ c ∈ z.cps.toList, q (aStr ⟨#[c]⟩))) := ⟨_, leS_rfl, .inr (.inr ⟨z, rfl, h0, h1, h⟩)⟩
theorem k_map {α : Type} {f : α → Rep} {l : List α} {P : Rep → Prop} (h : ∀ x ∈ l, P (f x)) : ∀ r ∈ l.map f, P r := fun r hr => by
  obtain ⟨x, hx, rfl⟩ := List.mem_map.mp hr
  exact h x hx
/-! ### tuples put together -/
theorem o_catT {r1 r2 : List Rep} (h : r1.length + r2.length ≤ 1000000) : O2p (rCatA K) (aTup K r1) (aTup K r2) M (aTup K (r1 ++ r2)) := fun k q x y S H Q e m h1 h2 o => by
  obtain ⟨a, xs, rfl, q1, q2⟩ := h1
  obtain ⟨b, ys, rfl, q3, q4⟩ := h2
  have q5 := q2.app q4
  refine ⟨a, b, xs, ys, rfl, rfl, Same.sqt e q1, Same.sqt e q3, by rw [q2.len, q4.len]; exact sz_le h, fun hx => ?_, fun _ hy => ?_, fun _ _ p hp => ?_⟩
  · subst hx
    exact o (.ref b) S H _ M q (Stp.refl e m) ⟨b, ys, rfl, q3, q5⟩
  · subst hy
    rw [List.append_nil] at q5
    exact o (.ref a) S H _ M q (Stp.refl e m) ⟨a, xs, rfl, q1, q5⟩
  · exact o (.ref p) (upd S p (.tup (xs ++ ys))) _ _ M q (Stp.newS e m hp) ⟨p, _, rfl, SqT.of upd_same, q5.mono (Same.newS (Same.refl _) (e.free hp))⟩
/-! ### lists that are changed, by their place in the symbolic heap -/
theorem at_split : ∀ {M : SH} {i : Nat} {a : Addr} {P P' : MRep}, M[i]? = some (a, P) → M = M.take i ++ (a, P) :: M.drop (i + 1) ∧ M.set i (a, P') = M.take i ++ (a, P') :: M.drop (i + 1)
  | [], i, a, P, P', h => by simp at h
  | x :: M, 0, a, P, P', h => by
    have e : x = (a, P) := by simpa using h
    subst e
    exact ⟨rfl, rfl⟩
  | x :: M, i + 1, a, P, P', h => by
    obtain ⟨h1, h2⟩ := at_split (M := M) (i := i) (P' := P') (by simpa using h)
    exact ⟨by simpa using h1, by simpa using h2⟩
theorem at_mem {M : SH} {i : Nat} {x : Addr × MRep} (h : M[i]? = some x) : x ∈ M := List.mem_of_getElem? h
theorem ev_append (h : Ev E ta Γ M (fun R1 M1 => ∃ (a : Addr) (i : Nat) (rs : List Rep), R1 = iRef a ∧ M1[i]? = some (a, mLst rs) ∧ Ea E tr Γ M1 (fun Rs M2 => ∃ (R : Rep) (j : Nat) (rs : List Rep), Rs = [R] ∧ M2[j]? = some (a, mLst rs) ∧ rs.length < 1000000 ∧ k iNon (M2.set j (a, mLst (rs ++ [R])))) X) X) : Ev E (tBM K "list" rAppend ta tr) Γ M k X :=
  ev_bm fun σ S H Q I o ox => h σ S H Q I (fun v S2 H2 R M2 ⟨a, i, rs, e, hm, q⟩ st p => by
    subst e
    refine o v S2 H2 (iRef a) M2 ⟨ty_mLst (at_mem hm), fun σ S H Q I o ox => q σ S H Q I (fun vs S2 H2 Rs M2 ⟨R, j, rs, e, hj, hl, q⟩ st p => ?_) ox⟩ st p
    subst e
    refine o vs S2 H2 [R] M2 ?_ st p
    obtain ⟨e1, e2⟩ := at_split (P' := mLst (rs ++ [R])) hj
    rw [e2] at q
    rw [e1]
    exact om_append hl q) ox
theorem k_app {a : Addr} {M : SH} {i : Nat} {rs : List Rep} {P : Addr → Prop} (hm : M[i]? = some (a, mLst rs)) (h : P a) : ∃ (b : Addr) (i : Nat) (rs : List Rep), iRef a = iRef b ∧ M[i]? = some (b, mLst rs) ∧ P b := ⟨a, i, rs, rfl, hm, h⟩
theorem k_app2_at {a : Addr} {M : SH} {P : Rep → Nat → List Rep → Prop} (h : ∃ (R' : Rep) (j : Nat) (rs : List Rep), [R] = [R'] ∧ M[j]? = some (a, mLst rs) ∧ rs.length < 1000000 ∧ P R' j rs) : ∃ (R' : Rep) (j : Nat) (rs : List Rep), [R] = [R'] ∧ M[j]? = some (a, mLst rs) ∧ rs.length < 1000000 ∧ P R' j rs := h
theorem nlt_at {a b : Nat} (h : a < b) : a < b := h
theorem k_app2 {a : Addr} {M : SH} {j : Nat} {rs : List Rep} {P : Rep → Nat → List Rep → Prop} (hm : M[j]? = some (a, mLst rs)) (hl : rs.length < 1000000) (h : P R j rs) : ∃ (R' : Rep) (j : Nat) (rs : List Rep), [R] = [R'] ∧ M[j]? = some (a, mLst rs) ∧ rs.length < 1000000 ∧ P R' j rs := ⟨R, j, rs, rfl, hm, hl, h⟩
/-- x = [], a list that is to be changed -/
theorem st_asgM {j : Nat} (h : ∀ a, D.nx (Γ.set j (some (iRef a))) (M ++ [(a, mLst [])])) : St E (tAsg (tLst tNil) (gName j)) Γ M D := st_asg (ev_lstM (ea_nil ⟨by simp, fun a => h a⟩))
/-- a list that was changed is told, and stays from then on -/
theorem ev_told (h : Ev E te Γ M (fun R M1 => ∃ (a : Addr) (i : Nat) (rs : List Rep), R = iRef a ∧ M1[i]? = some (a, mLst rs) ∧ k (iLst rs) (M1.eraseIdx i)) X) : Ev E te Γ M k X := ev_fzL (A := []) (B := []) fun σ S H Q I o ox => h σ S H Q I (fun v S2 H2 R M2 ⟨a, i, rs, e, hm, q⟩ st p => by
  refine o v S2 H2 R M2 ⟨a, rs, M2.take i, M2.drop (i + 1), e, (at_split (P' := mLst rs) hm).1, ?_⟩ st p
  rwa [← List.eraseIdx_eq_take_drop_succ]) ox
theorem st_told {i j : Nat} {a : Addr} {rs : List Rep} (hj : Γ[j]? = some (some (iRef a))) (hm : M[i]? = some (a, mLst rs)) (h : St E t (Γ.set j (some (iLst rs))) (M.eraseIdx i) D) : St E t Γ M D := by
  have e := (at_split (P' := mLst rs) hm).1
  rw [e]
  refine st_fzS (i := j) hj ?_
  rwa [← List.eraseIdx_eq_take_drop_succ]
/-! ### calls with defaults, by keywords -/
theorem ev_callPD {α : Type} {args : α → List Rep} {pre : α → Prop} {res : α → Rep} {dvs : List V} {Ds : List Rep} (hd : ∀ S, All2 S Ds dvs) (h : Ea E tr Γ M (fun Rs M1 => ∃ x, LeS (Rs ++ Ds) (args x) ∧ pre x ∧ k (res x) M1) X) : Ev E (tCall (spT (pureTs args pre res)) dvs E0 tr) Γ M k X := fun σ S H Q I o ox =>
  h σ S H _ I (fun xs S1 H1 Rs M1 ⟨x, le, hp, q⟩ st p => by
    refine spT_in (Mf := []) (Fr := M1) (Rs := args x) (X := X0) (k := k) ⟨x, rfl, hp, rfl, q⟩ st.e st.m (le S1 _ (p.app (hd S1))) (o.step st) (fun _ _ _ _ _ _ z => z.elim)) ox
theorem ev_callKP {α : Type} {args : α → List Rep} {pre : α → Prop} {res : α → Rep} {n m : Nat} {tk : TA} {gV : List V → List V → List V} {gR : List Rep → List Rep → List Rep} (hg : ∀ S Rs Zs vs zs, All2 S Rs vs → All2 S Zs zs → All2 S (gR Rs Zs) (gV vs zs))
    (h : Ea E tr Γ M (fun Rs M1 => Rs.length = n ∧ Ea E tk Γ M1 (fun Zs M2 => Zs.length = m ∧ ∃ x, LeS (gR Rs Zs) (args x) ∧ pre x ∧ k (res x) M2) X) X) : Ev E (tCallN n m (spT (pureTs args pre res)) gV E0 tr tk) Γ M k X := fun σ S H Q I o ox =>
  h σ S H _ I (fun vs S1 H1 Rs M1 ⟨e1, q⟩ st p => q σ S1 H1 _ (I.step st) (fun zs S2 H2 Zs M2 ⟨e2, x, le, hp, q2⟩ st2 p2 => by
    refine ⟨p.len.trans e1, p2.len.trans e2, ?_⟩
    refine spT_in (Mf := []) (Fr := M2) (Rs := args x) (X := X0) (k := k) ⟨x, rfl, hp, rfl, q2⟩ st2.e st2.m (le S2 _ (hg S2 Rs Zs vs zs (p.mono st2.s) p2)) (o.step (st.trans st2)) (fun _ _ _ _ _ _ z => z.elim)) (ox.step st)) ox
theorem ev_callPDi {α : Type} {args : α → List Rep} {pre : α → Prop} {res : α → Rep} {i : Int} (h : Ea E tr Γ M (fun Rs M1 => ∃ x, LeS (Rs ++ [iInt i]) (args x) ∧ pre x ∧ k (res x) M1) X) : Ev E (tCall (spT (pureTs args pre res)) [.int i] E0 tr) Γ M k X :=
  ev_callPD (Ds := [iInt i]) (fun _ => ⟨rfl, True.intro⟩) h
theorem ev_callN_at {n m : Nat} {sp : Sp} {gV : List V → List V → List V} {tk : TA} (h : Ev E (tCallN n m sp gV E0 tr tk) Γ M k X) : Ev E (tCallN n m sp gV E0 tr tk) Γ M k X := h
theorem k_leneq {a b : Nat} {P : Prop} (e : a = b) (h : P) : a = b ∧ P := ⟨e, h⟩
theorem all2_gapp (S : Hp) (Rs Zs : List Rep) (vs zs : List V) (h : All2 S Rs vs) (h2 : All2 S Zs zs) : All2 S (Rs ++ Zs) (vs ++ zs) := h.app h2
end
/-! ### what may be called by its name, keywords handed over -/
structure ClN (P : Program) (w : World) (K : PySem.W.Frag) (mg : Str → Option Value) (base : Heap) (CX : CXT) (k : Nat) (x : Str) (ts : TSp) (n : Nat) (ks : List Str) (gV : List V → List V → List V) : Prop where
  ex : ∃ (f : Addr) (fd : FuncData) (ps : List Str) (g : List Value → List Value → List Value), FnOk P w K mg base CX k f fd ps (spT ts) ∧ mg x = some (.ref f) ∧ PySem.W.keepIn K (.ref f) = true ∧ KBn K fd ps n ks g gV
section
variable {X : Cx} {CX : CXT} {k j n : Nat} {x : Str} {ts : TSp} {p pos : Pos} {e : Expr} {es : List Expr} {t tk : TA} {E : XK} {ks : List Str} {gV : List V → List V → List V} {kws : List Keyword}
theorem pe_clN (c : ClN X.prog X.w X.K X.mg X.base CX k x ts n ks gV) (hr : Room j X.A) (hk : k ≤ j) (hx : Passes CX X E) (hg : Gl X x) (ha : PA X (e :: es) t) (hkw : PK X kws tk)
    (hall : (backToKw pos (keywordEach kws X.env)).all (·.1.isSome) = true := by rfl) (hks : (backToKw pos (keywordEach kws X.env)).filterMap (·.1) = ks := by rfl)
    (hdb : (x == ("__debug__" : Str)) = false := by decide) (he : starEach (e :: es) X.env = (false, eval e X.env) :: starEach es X.env := by rfl)
    (hpl : ((backTo pos (starEach (e :: es) X.env)).any (·.1) || (backToKw pos (keywordEach kws X.env)).any (·.1.isNone)) = false := by rfl) :
    PE X (.Call (.Name x p) (e :: es) kws pos) (tCallN n ks.length (spT ts) gV E t tk) := by
  obtain ⟨f, fd, ps, g, F, hm, kp, b⟩ := c.ex
  exact pe_callN F (hr.mono hk) hg hm kp b hx ha hkw hall hks hdb he hpl
end
/-! ### texts as data -/
theorem shaped_str {z : Str} (h : ∀ c ∈ z.cps.toList, c < 1114112) : PyData.canLay0 (.str z) = true := by
  unfold PyData.canLay0
  show z.cps.all (· < 0x110000) = true
  rw [Array.all_eq_true']
  intro c hc
  exact decide_eq_true (h c (Array.mem_toList_iff.mpr hc))
theorem canAll {ds : List PyData} (h : ∀ d ∈ ds, PyData.canLay0 d = true) : PyData.canLayAll0 ds = true := by
  induction ds with
  | nil => rfl
  | cons d ds ih =>
    unfold PyData.canLayAll0
    rw [h d (List.mem_cons_self ..), ih fun x hx => h x (List.mem_cons_of_mem _ hx)]
    rfl
def Shp (n : Nat) (d : PyData) : Prop := PyData.canLay0 d = true ∧ PyData.depth d ≤ n
theorem depthAll_le {n : Nat} {ds : List PyData} (h : ∀ d ∈ ds, PyData.depth d ≤ n) : PyData.depthAll ds ≤ n := by
  induction ds with
  | nil => exact Nat.zero_le _
  | cons d ds ih =>
    unfold PyData.depthAll
    exact Nat.max_le.mpr ⟨h d (List.mem_cons_self ..), ih fun x hx => h x (List.mem_cons_of_mem _ hx)⟩
def StrOk (z : Str) : Prop := ∀ c ∈ z.cps.toList, c < 1114112
theorem shp_str {n : Nat} {z : Str} (h : StrOk z) : Shp n (.str z) := ⟨shaped_str h, by unfold PyData.depth; exact Nat.zero_le _⟩
theorem shp_list {n : Nat} {ds : List PyData} (h : ∀ d ∈ ds, Shp n d) : Shp (n + 1) (.list ds) := ⟨by unfold PyData.canLay0; exact canAll fun d hd => (h d hd).1, by unfold PyData.depth; exact Nat.succ_le_succ (depthAll_le fun d hd => (h d hd).2)⟩
theorem shp_tup {n : Nat} {ds : List PyData} (h : ∀ d ∈ ds, Shp n d) : Shp (n + 1) (.tuple ds) := ⟨by unfold PyData.canLay0; exact canAll fun d hd => (h d hd).1, by unfold PyData.depth; exact Nat.succ_le_succ (depthAll_le fun d hd => (h d hd).2)⟩
theorem Shp.ok {d : PyData} (h : Shp 64 d) : SeqAt.shaped d = true := by
  unfold SeqAt.shaped
  rw [Bool.and_eq_true]
  exact ⟨h.1, decide_eq_true h.2⟩
theorem shp_strs {n : Nat} {l : List Str} (h : ∀ z ∈ l, StrOk z) : ∀ d ∈ l.map PyData.str, Shp n d := fun d hd => by
  obtain ⟨z, hz, rfl⟩ := List.mem_map.mp hd
  exact shp_str (h z hz)
end L3

namespace L3
open PySem L2 RZ PyProof.Rows
/-! ### objects of own classes -/
abbrev FR := List (Str × Rep)
structure InsOk (S : Hp) (fs : FR) (vs : List (Str × V)) : Prop where
  nm : vs.map (·.1) = fs.map (·.1)
  al : All2 S (fs.map (·.2)) (vs.map (·.2))
theorem InsOk.mono {S S' : Hp} {fs : FR} {vs : List (Str × V)} (h : InsOk S fs vs) (e : Same S S') : InsOk S' fs vs := ⟨h.nm, h.al.mono e⟩
def iObj (C : Addr) (fs : FR) : Rep := ⟨fun S v => ∃ a dx vs, v = .ref a ∧ S a = some (.ins C dx vs) ∧ InsOk S fs vs, fun e ⟨a, dx, vs, h1, h2, h3⟩ => ⟨a, dx, vs, h1, e _ _ h2, h3.mono e⟩⟩
def mObj (C : Addr) (fs : FR) : MRep := ⟨fun S o => ∃ dx vs, o = .ins C dx vs ∧ InsOk S fs vs, fun e ⟨dx, vs, h1, h2⟩ => ⟨dx, vs, h1, h2.mono e⟩, fun ⟨dx, vs, h1, _⟩ ys z => by rw [h1] at z; cases z⟩
theorem InsOk.look {S : Hp} : ∀ {fs : FR} {vs : List (Str × V)}, InsOk S fs vs → ∀ f, (fs.lookup f = none → vs.lookup f = none) ∧ ∀ R, fs.lookup f = some R → ∃ v, vs.lookup f = some v ∧ R.p S v
  | [], [], _, f => ⟨fun _ => rfl, fun R e => by cases e⟩
  | [], _ :: _, h, f => by have := h.nm; simp at this
  | _ :: _, [], h, f => by have := h.nm; simp at this
  | (g, R) :: fs, (g', v) :: vs, h, f => by
    have e : g' = g := by have := h.nm; simp at this; exact this.1
    subst e
    have ih := InsOk.look (fs := fs) (vs := vs) ⟨by have := h.nm; simp at this; exact this, h.al.2⟩ f
    rw [List.lookup_cons, List.lookup_cons]
    by_cases hf : (f == g') = true
    · rw [hf]
      refine ⟨fun z => (nomatch z), fun R' z => ?_⟩
      have e : R = R' := Option.some.inj z
      subst e
      exact ⟨v, rfl, h.al.1⟩
    · rw [show (f == g') = false by simpa using hf]
      exact ih
def putR (f : Str) (R : Rep) : FR → FR
  | [] => [(f, R)]
  | (g, Q) :: r => if g = f then (g, R) :: r else (g, Q) :: putR f R r
theorem InsOk.put {S : Hp} {f : Str} {R : Rep} {v : V} (hR : R.p S v) : ∀ {fs : FR} {vs : List (Str × V)}, InsOk S fs vs → InsOk S (putR f R fs) (putF f v vs)
  | [], [], _ => ⟨rfl, hR, True.intro⟩
  | [], _ :: _, h => by have := h.nm; simp at this
  | _ :: _, [], h => by have := h.nm; simp at this
  | (g, Q) :: fs, (g', x) :: vs, h => by
    have e : g' = g := by have := h.nm; simp at this; exact this.1
    subst e
    have t : InsOk S fs vs := ⟨by have := h.nm; simp at this; exact this, h.al.2⟩
    unfold putR putF
    by_cases hf : g' = f
    · rw [if_pos hf, if_pos hf]
      exact ⟨by simpa using t.nm, hR, t.al⟩
    · rw [if_neg hf, if_neg hf]
      have ih := InsOk.put (f := f) hR t
      exact ⟨by simpa using ih.nm, h.al.1, ih.al⟩
theorem InsOk.len {S : Hp} {fs : FR} {vs : List (Str × V)} (h : InsOk S fs vs) : vs.length = fs.length := by
  have := congrArg List.length h.nm
  simpa using this
theorem Stp.wrAt {S H : Hp} {M : SH} {j : Nat} {a : Addr} {P P' : MRep} {o : HO} (hj : M[j]? = some (a, P)) (e : Same S H) (m : MOk S H M) (hP : P'.p S o) : Stp S H S (upd H a o) M (M.set j (a, P')) := by
  obtain ⟨e1, e2⟩ := at_split (P' := P') hj
  rw [e2]
  generalize M.take j = A at *
  generalize M.drop (j + 1) = B at *
  subst e1
  exact Stp.wrM e m hP
/-- an object, stable or in the symbolic heap -/
def HasO (M : SH) (R : Rep) (C : Addr) (fs : FR) : Prop := R = iObj C fs ∨ ∃ (a : Addr) (i : Nat), R = iRef a ∧ M[i]? = some (a, mObj C fs)
theorem HasO.get {M : SH} {R : Rep} {C : Addr} {fs : FR} (h : HasO M R C fs) {S H : Hp} {v : V} (e : Same S H) (m : MOk S H M) (p : R.p S v) : ∃ a dx vs, v = .ref a ∧ H a = some (.ins C dx vs) ∧ InsOk S fs vs := by
  rcases h with h | ⟨a, i, h, hm⟩
  · subst h
    obtain ⟨a, dx, vs, h1, h2, h3⟩ := p
    exact ⟨a, dx, vs, h1, e _ _ h2, h3⟩
  · subst h
    cases p
    obtain ⟨_, o, ho, dx, vs, rfl, h3⟩ := m.at_ _ _ (at_mem hm)
    exact ⟨a, dx, vs, rfl, ho, h3⟩
section
variable {E : XK} {K : PySem.W.Frag} {Γ : Ct} {M : SH} {k : KR} {X : KX} {R R1 R2 : Rep} {te ta tb tc tl tv : TE} {vs : List Nat} {D : EndT} {t u : TS} {c tt : TT} {tr : TA} {C : Addr} {f : Str}
theorem ev_fld (hc : Cls K C) (hn : NoAttr K C f) (h : Ev E ta Γ M (fun R M1 => ∃ fs, HasO M1 R C fs ∧ ∃ Rf, fs.lookup f = some Rf ∧ k Rf M1) X) : Ev E (tFld K ta f) Γ M k X := fun σ S H Q I o ox =>
  h σ S H _ I (fun v S1 H1 R M1 ⟨fs, ho, Rf, hf, q⟩ st p => by
    obtain ⟨a, dx, vs, e, ha, hi⟩ := ho.get st.e st.m p
    obtain ⟨w, hw, pw⟩ := (hi.look f).2 Rf hf
    exact ⟨a, C, dx, vs, w, e, ha, hc, hn, hw, o w S1 H1 Rf M1 q st pw⟩) ox
theorem k_fldS {fs : FR} {Rf : Rep} {P : Rep → Prop} (hf : fs.lookup f = some Rf) (h : P Rf) : ∃ fs', HasO M (iObj C fs) C fs' ∧ ∃ Rf, fs'.lookup f = some Rf ∧ P Rf := ⟨fs, .inl rfl, Rf, hf, h⟩
theorem k_fldM {fs : FR} {Rf : Rep} {a : Addr} {i : Nat} {P : Rep → Prop} (hm : M[i]? = some (a, mObj C fs)) (hf : fs.lookup f = some Rf) (h : P Rf) : ∃ fs', HasO M (iRef a) C fs' ∧ ∃ Rf, fs'.lookup f = some Rf ∧ P Rf := ⟨fs, .inr ⟨a, i, rfl, hm⟩, Rf, hf, h⟩
theorem st_fld (hc : Cls K C) (hn : NoAttr K C f) (h : Ev E tv Γ M (fun R1 M1 => Ev E ta Γ M1 (fun R2 M2 => ∃ (a : Addr) (j : Nat) (fs : FR), R2 = iRef a ∧ M2[j]? = some (a, mObj C fs) ∧ fs.length < 1000 ∧ D.nx Γ (M2.set j (a, mObj C (putR f R1 fs)))) D.ex) D.ex) : St E (sFld K ta tv f) Γ M D := fun σ S H D0 I o =>
  h σ S H _ I (fun v S1 H1 R1 M1 q1 st1 p1 => q1 σ S1 H1 _ (I.step st1) (fun x S2 H2 R2 M2 ⟨a, j, fs, e, hj, hl, q⟩ st2 p2 => by
    subst e
    cases p2
    have st := st1.trans st2
    obtain ⟨_, ob, ho, dx, vs, rfl, hi⟩ := st.m.at_ _ _ (at_mem hj)
    have wr := Stp.wrAt (P' := mObj C (putR f R1 fs)) (o := .ins C dx (putF f v vs)) hj st.e st.m ⟨dx, _, rfl, hi.put (R1.m st2.s p1)⟩
    exact ⟨a, C, dx, vs, rfl, ho, hc, hn, by rw [hi.len]; exact hl, o.nx σ S2 _ Γ _ q (st.trans wr) ((I.step st).step wr)⟩) (o.ex.step st1)) o.ex
/-! ### methods that change nothing; making -/
theorem erase_perm : ∀ {M : SH} {i : Nat} {x : Addr × MRep}, M[i]? = some x → M.Perm (x :: M.eraseIdx i)
  | [], i, x, h => by simp at h
  | y :: M, 0, x, h => by
    have e : y = x := by simpa using h
    subst e
    exact List.Perm.refl _
  | y :: M, i + 1, x, h => by
    have ih := erase_perm (M := M) (i := i) (x := x) (by simpa using h)
    exact (List.Perm.cons y ih).trans (List.Perm.swap x y _)
/-- a def, a method that changes nothing that is there -/
def roK (sp : SH → List Rep → (Rep → Prop) → Prop) : TSp := fun Rs M k _ => sp M Rs fun R => k R M
theorem ev_callRO {sp : SH → List Rep → (Rep → Prop) → Prop} (h : Ea E tr Γ M (fun Rs M1 => ∃ Rs', LeS Rs Rs' ∧ sp M1 Rs' fun R => k R M1) X) : Ev E (tCall (spT (roK sp)) [] E0 tr) Γ M k X := fun σ S H Q I o ox =>
  h σ S H _ I (fun xs S1 H1 Rs M1 ⟨Rs', le, q⟩ st p => by
    rw [List.append_nil]
    exact ⟨S1, Rs', M1, k, X0, q, st.e, st.m, le S1 _ p, o.step st, fun _ _ _ _ _ _ z => z.elim⟩) ox
def methK (C : Addr) (sp : SH → FR → List Rep → (Rep → Prop) → Prop) : TSp := fun Rs M k _ => ∃ R Rs' fs, Rs = R :: Rs' ∧ HasO M R C fs ∧ sp M fs Rs' fun R => k R M
theorem ev_methK {m : Str} {sp : SH → FR → List Rep → (Rep → Prop) → Prop} (h : Ev E ta Γ M (fun R M1 => ∃ fs, HasO M1 R C fs ∧ fs.lookup m = none ∧ Ea E tr Γ M1 (fun Rs M2 => HasO M2 R C fs ∧ ∃ Rs', LeS Rs Rs' ∧ sp M2 fs Rs' fun R' => k R' M2) X) X) : Ev E (tMeth C m (spT (methK C sp)) [] E0 ta tr) Γ M k X := fun σ S H Q I o ox =>
  h σ S H _ I (fun v S1 H1 R M1 ⟨fs, ho, hm, q⟩ st p => by
    obtain ⟨a, dx, vs, e, ha, hi⟩ := ho.get st.e st.m p
    refine ⟨a, dx, vs, e, ha, (hi.look m).1 hm, q σ S1 H1 _ (I.step st) (fun xs S2 H2 Rs M2 ⟨ho2, Rs', le, q2⟩ st2 p2 => ?_) (ox.step st)⟩
    rw [List.append_nil]
    exact ⟨S2, R :: Rs', M2, k, X0, ⟨R, Rs', fs, rfl, ho2, q2⟩, st2.e, st2.m, ⟨R.m st2.s p, le S2 _ p2⟩, o.step (st.trans st2), fun _ _ _ _ _ _ z => z.elim⟩) ox
def initK (C : Addr) (sp : List Rep → (FR → Prop) → Prop) : TSp := fun Rs M k _ => ∃ a Rs', Rs = iRef a :: Rs' ∧ M = [(a, mObj C [])] ∧ ∃ Z : FR → Prop, sp Rs' Z ∧ ∀ fs, Z fs → k iNon [(a, mObj C fs)]
theorem ev_make {sp : List Rep → (FR → Prop) → Prop} {dvs : List V} {Ds : List Rep} (hd : ∀ S, All2 S Ds dvs) (h : Ea E tr Γ M (fun Rs M1 => ∃ Rs', LeS (Rs ++ Ds) Rs' ∧ sp Rs' fun fs => k (iObj C fs) M1) X) : Ev E (tMake C (spT (initK C sp)) dvs E0 tr) Γ M k X := fun σ S H Q I o ox =>
  h σ S H _ I (fun xs S1 H1 Rs M1 ⟨Rs', le, q⟩ st p x dx hx hdx hne => by
    have s1 := Stp.newS (o := .own x) st.e st.m hdx
    have hx1 : upd H1 dx (.own x) x = none := by rw [upd_ne (Ne.symm hne)]; exact hx
    have s2 := Stp.newM (P := mObj C []) (o := .ins C dx []) s1.e s1.m hx1 ⟨dx, [], rfl, rfl, True.intro⟩
    have st2 := (st.trans s1).trans s2
    have pm : (M1 ++ [(x, mObj C [])]).Perm ([(x, mObj C [])] ++ M1) := List.perm_append_comm
    refine spT_in (ts := initK C sp) (Mf := [(x, mObj C [])]) (Fr := M1) (Rs := iRef x :: Rs') (X := X0) (k := fun R' M' => R' = iNon ∧ ∃ fs, M' = [(x, mObj C fs)] ++ M1 ∧ k (iObj C fs) M1) ⟨x, Rs', rfl, rfl, _, q, fun fs z => ⟨rfl, fs, rfl, z⟩⟩ s2.e (st2.m.perm pm) ⟨rfl, le _ _ ((p.mono s1.s).app (hd _))⟩ (fun w S3 H3 R3 M3 ⟨e3, fs, e4, q3⟩ st3 p3 => ?_) (fun _ _ _ _ _ _ z => z.elim)
    subst e3
    subst e4
    cases p3
    obtain ⟨_, ob, ho, dx', vs, rfl, hi⟩ := st3.m.at_ x (mObj C fs) (by simp)
    have fz := Stp.fz (A := []) (B := M1) (P := mObj C fs) st3.e st3.m ho
    exact ⟨rfl, o (.ref x) _ H3 (iObj C fs) M1 q3 ((st2.trans (st3.permL pm)).trans fz) ⟨x, dx', vs, rfl, upd_same, hi.mono fz.s⟩⟩) ox
/-! ### a list, however it stands -/
def HasL (K : PySem.W.Frag) (M : SH) (R : Rep) (rs : List Rep) : Prop := R = iLst rs ∨ R = aTup K rs ∨ R = aSeq K rs ∨ ∃ (a : Addr) (i : Nat), R = iRef a ∧ M[i]? = some (a, mLst rs)
theorem HasL.get {rs : List Rep} (h : HasL K M R rs) {S H : Hp} {v : V} (e : Same S H) (m : MOk S H M) (p : R.p S v) : ∃ a xs, v = .ref a ∧ (SqL K H a xs ∨ SqT K H a xs) ∧ All2 S rs xs := by
  rcases h with h | h | h | ⟨a, i, h, hm⟩
  · subst h
    obtain ⟨a, xs, e1, q1, q2⟩ := p
    exact ⟨a, xs, e1, .inl (SqL.of (e _ _ q1)), q2⟩
  · subst h
    obtain ⟨a, xs, e1, q1, q2⟩ := p
    exact ⟨a, xs, e1, .inr (Same.sqt e q1), q2⟩
  · subst h
    rcases p with ⟨a, xs, e1, q1, q2⟩ | ⟨a, xs, e1, q1, q2⟩
    · exact ⟨a, xs, e1, .inl (SqL.of (e _ _ q1)), q2⟩
    · exact ⟨a, xs, e1, .inr (Same.sqt e q1), q2⟩
  · subst h
    cases p
    obtain ⟨_, o, ho, xs, rfl, q2⟩ := m.at_ _ _ (at_mem hm)
    exact ⟨a, xs, rfl, .inl (SqL.of ho), q2⟩
theorem o_inG {x : Str} {l : List Str} (h : HasL K M R (l.map aStr)) : O2p (rIn K false) (aStr x) R M (iBl (decide (x ∈ l))) := o2_val fun v y S H e m h1 h2 => by
  cases h1
  obtain ⟨a, xs, rfl, q1, q2⟩ := h.get e m h2
  rw [All2.flat (r := aStr) (g := V.str) (fun _ _ h => h) q2] at q1
  exact ⟨_, rfl, fun Q q => ⟨a, _, rfl, q1, rfl, all_flat_str l, by rw [if_neg Bool.false_ne_true, inV_str]; exact q⟩⟩
theorem o_ninG {x : Str} {l : List Str} (h : HasL K M R (l.map aStr)) : O2p (rIn K true) (aStr x) R M (iBl (!decide (x ∈ l))) := o2_val fun v y S H e m h1 h2 => by
  cases h1
  obtain ⟨a, xs, rfl, q1, q2⟩ := h.get e m h2
  rw [All2.flat (r := aStr) (g := V.str) (fun _ _ h => h) q2] at q1
  exact ⟨_, rfl, fun Q q => ⟨a, _, rfl, q1, rfl, all_flat_str l, by rw [if_pos rfl, inV_str]; exact q⟩⟩
theorem c_lenG {rs : List Rep} (h : HasL K M R rs) : Olp (rLn K) [R] M (iInt rs.length) := ol_val fun xs S H e m p => by
  obtain ⟨v, rfl, p1⟩ := all2_1 p
  obtain ⟨a, ys, rfl, q1, q2⟩ := h.get e m p1
  rcases q1 with q1 | q1
  · exact ⟨_, rfl, fun Q q => ⟨_, rs.length, rfl, .inl ⟨ys, q1, q2.len.symm⟩, q⟩⟩
  · exact ⟨_, rfl, fun Q q => ⟨_, rs.length, rfl, .inr ⟨ys, q1, q2.len.symm⟩, q⟩⟩
/-! ### dicts whose keys are pairs of texts, all True -/
def pkV (p : Str × Str) : List Key × V := ([.inr p.1, .inr p.2], .bl true)
def iPD (ps : List (Str × Str)) : Rep := ⟨fun S v => ∃ a, v = .ref a ∧ S a = some (.dT (ps.map pkV)), fun e ⟨a, h1, h2⟩ => ⟨a, h1, e _ _ h2⟩⟩
def mPD (ps : List (Str × Str)) : MRep := ⟨fun _ o => o = .dT (ps.map pkV), fun _ h => h, fun h ys z => by rw [h] at z; cases z⟩
def HasP (M : SH) (R : Rep) (ps : List (Str × Str)) : Prop := R = iPD ps ∨ ∃ (a : Addr) (i : Nat), R = iRef a ∧ M[i]? = some (a, mPD ps)
theorem HasP.get {ps : List (Str × Str)} (h : HasP M R ps) {S H : Hp} {v : V} (e : Same S H) (m : MOk S H M) (p : R.p S v) : ∃ a, v = .ref a ∧ H a = some (.dT (ps.map pkV)) := by
  rcases h with h | ⟨a, i, h, hm⟩
  · subst h
    obtain ⟨a, h1, h2⟩ := p
    exact ⟨a, h1, e _ _ h2⟩
  · subst h
    cases p
    obtain ⟨_, o, ho, q⟩ := m.at_ _ _ (at_mem hm)
    cases q
    exact ⟨a, rfl, ho⟩
theorem valV_pk (p : Str × Str) : ∀ ps : List (Str × Str), (valV (ps.map pkV) [Sum.inr p.1, Sum.inr p.2]).isSome = decide (p ∈ ps)
  | [] => by simp [valV]
  | q :: ps => by
    rw [List.map_cons]
    by_cases e : q = p
    · subst e
      rw [show valV (pkV q :: ps.map pkV) [Sum.inr q.1, Sum.inr q.2] = some (pkV q).2 from valV_pos (p := pkV q) rfl]
      simp
    · have ne : ¬ (pkV q).1 = [Sum.inr p.1, Sum.inr p.2] := fun z => e (by
        have : ([Sum.inr q.1, Sum.inr q.2] : List Key) = [Sum.inr p.1, Sum.inr p.2] := z
        simp at this
        exact Prod.ext this.1 this.2)
      rw [valV_neg ne, valV_pk p ps]
      have : ¬ p = q := fun z => e z.symm
      simp [this]
def putP (ps : List (Str × Str)) (p : Str × Str) : List (Str × Str) := if p ∈ ps then ps else ps ++ [p]
theorem putK_pk (ps : List (Str × Str)) (p : Str × Str) : putK (ps.map pkV) [Sum.inr p.1, Sum.inr p.2] (.bl true) = (putP ps p).map pkV := by
  unfold putK putP
  rw [valV_any, valV_pk]
  by_cases h : p ∈ ps
  · rw [if_pos (by simpa using h), if_pos h, List.map_map]
    refine List.map_congr_left fun q _ => ?_
    show (if (pkV q).1 = _ then ((pkV q).1, V.bl true) else pkV q) = pkV q
    split <;> rfl
  · rw [if_neg (by simpa using h), if_neg h, List.map_append]
    rfl
theorem ev_dinP {tx ty td : TE} (h : Ea E (tCons tx (tCons ty tNil)) Γ M (fun Rs M1 => ∃ a b, Rs = [aStr a, aStr b] ∧ Ev E td Γ M1 (fun R M2 => ∃ ps, HasP M2 R ps ∧ k (iBl (decide ((a, b) ∈ ps))) M2) X) X) : Ev E (tDIn (tTup (tCons tx (tCons ty tNil))) td) Γ M k X := fun σ S H Q I o ox => by
  unfold tDIn tTup
  exact h σ S H _ I (fun xs S1 H1 Rs M1 ⟨a, b, e, q⟩ st p => by
    subst e
    obtain ⟨v, w, rfl, p1, p2⟩ := all2_2 p
    cases p1; cases p2
    refine ⟨sz_le (by simp), fun T hT => ?_⟩
    have s2 := Stp.newS (o := .tup [.str a, .str b]) st.e st.m hT
    exact q σ _ _ _ (I.step (st.trans s2)) (fun y S3 H3 R M3 ⟨ps, hp, q3⟩ st3 p3 => by
      obtain ⟨d, rfl, hd⟩ := hp.get st3.e st3.m p3
      have eb : H3 T = some (.tup ([Sum.inr a, Sum.inr b].map kV)) := st3.e _ _ (st3.s _ _ upd_same)
      refine ⟨d, _, rfl, DGet.t hd eb, ?_⟩
      rw [valV_pk (a, b)]
      exact (o.step (st.trans s2)) _ S3 H3 _ M3 q3 st3 rfl) (ox.step (st.trans s2))) ox
theorem ev_dnewT (h : ∀ a, k (iRef a) (M ++ [(a, mPD [])])) : Ev E tDNewT Γ M k X := fun σ S H Q I o ox p hp =>
  o (.ref p) S _ (iRef p) _ (h p) (Stp.newM (P := mPD []) I.ex I.m hp rfl) rfl
/-- d[a, b] = True -/
theorem tg_putP {to tx ty : TE} {kc : KC} (h : Ev E0 to Γ M (fun R M1 => ∃ d, R = iRef d ∧ Ea E0 (tCons tx (tCons ty tNil)) Γ M1 (fun Rs M2 => ∃ (a b : Str) (i : Nat) (ps : List (Str × Str)), Rs = [aStr a, aStr b] ∧ M2[i]? = some (d, mPD ps) ∧ ps.length < 1000000 ∧ kc Γ (M2.set i (d, mPD (putP ps (a, b))))) X0) X0) : Tg (gSub to (tTup (tCons tx (tCons ty tNil))) rSetD) (iBl true) Γ M vs kc := fun v σ S H Q I p o => by
  cases p
  refine h σ S H _ I (fun x S1 H1 R M1 ⟨d, e, q⟩ st p1 => ?_) (fun _ _ _ _ _ _ z => z.elim)
  subst e
  cases p1
  refine q σ S1 H1 _ (I.step st) (fun xs S2 H2 Rs M2 ⟨a, b, i, ps, e, hm, hl, q2⟩ st2 p2 => ?_) (fun _ _ _ _ _ _ z => z.elim)
  subst e
  obtain ⟨v, w, rfl, p3, p4⟩ := all2_2 p2
  cases p3; cases p4
  refine ⟨sz_le (by simp), fun T hT => ?_⟩
  have s12 := st.trans st2
  have s3 := Stp.newS (o := .tup [.str a, .str b]) s12.e s12.m hT
  obtain ⟨_, o', ho, qd⟩ := s3.m.at_ _ _ (at_mem hm)
  cases qd
  have w := Stp.wrAt (P' := mPD (putP ps (a, b))) (o := .dT (putK (ps.map pkV) [Sum.inr a, Sum.inr b] (.bl true))) hm s3.e s3.m (congrArg HO.dT (putK_pk ps (a, b)))
  refine ⟨d, _, rfl, DPut.t (k := [Sum.inr a, Sum.inr b]) ho (upd_same) (by rw [List.length_map]; exact sz_lt (by omega)), ?_⟩
  exact o σ _ _ Γ _ q2 ((s12.trans s3).trans w) (I.step ((s12.trans s3).trans w)) fun _ => rfl
theorem st_asg2 {g1 g2 : TG} (h : Ev E te Γ M (fun R M1 => Tg g1 R Γ M1 [] fun Γ1 M2 => Tg g2 R Γ1 M2 [] D.nx) D.ex) : St E (tAsg2 te g1 g2) Γ M D := fun σ S H D0 I o =>
  h σ S H _ I (fun v S2 H2 R M2 q st p => q v σ S2 H2 _ (I.step st) p fun σ3 S3 H3 Γ3 M3 q3 st3 I3 _ => q3 v σ3 S3 H3 _ I3 (R.m st3.s p) fun σ4 S4 H4 Γ4 M4 q4 st4 I4 _ => o.nx σ4 S4 H4 Γ4 M4 q4 ((st.trans st3).trans st4) I4) o.ex
/-! ### what was changed, and stays from then on: told by a field -/
theorem InsOk.re {S : Hp} {f : Str} {R R' : Rep} (hr : ∀ v, R.p S v → R'.p S v) : ∀ {fs : FR} {vs : List (Str × V)}, InsOk S fs vs → fs.lookup f = some R → InsOk S (putR f R' fs) vs
  | [], _, _, hf => by cases hf
  | _ :: _, [], h, _ => by have := h.nm; simp at this
  | (g, Q) :: fs, (g', x) :: vs, h, hf => by
    have e : g' = g := by have := h.nm; simp at this; exact this.1
    subst e
    have t : InsOk S fs vs := ⟨by have := h.nm; simp at this; exact this, h.al.2⟩
    rw [List.lookup_cons] at hf
    unfold putR
    by_cases hg : g' = f
    · subst hg
      rw [show (g' == g') = true from beq_self_eq_true g'] at hf
      have e : Q = R := Option.some.inj hf
      subst e
      rw [if_pos rfl]
      exact ⟨by simpa using t.nm, hr x h.al.1, t.al⟩
    · rw [show (f == g') = false from beq_eq_false_iff_ne.mpr fun z => hg z.symm] at hf
      rw [if_neg hg]
      have ih := InsOk.re hr t hf
      exact ⟨by simpa using ih.nm, h.al.1, ih.al⟩
theorem Stp.re {S H : Hp} {M : SH} {j : Nat} {a : Addr} {P P' : MRep} (hj : M[j]? = some (a, P)) (e : Same S H) (m : MOk S H M) (h : ∀ o, P.p S o → P'.p S o) : Stp S H S H M (M.set j (a, P')) := by
  obtain ⟨e1, e2⟩ := at_split (P' := P') hj
  rw [e2]
  generalize M.take j = A at *
  generalize M.drop (j + 1) = B at *
  subst e1
  have ed : dm (A ++ (a, P) :: B) = dm (A ++ (a, P') :: B) := by simp [dm]
  exact ⟨Same.refl _, e, fun b h1 h2 => absurd h1 h2, fun _ _ _ h => h, m.re h, fun b hb => .inl (by rw [ed]; exact hb)⟩
theorem Stp.fzAt {S H : Hp} {M : SH} {i : Nat} {a : Addr} {P : MRep} {o : HO} (hi : M[i]? = some (a, P)) (e : Same S H) (m : MOk S H M) (ho : H a = some o) : Stp S H (upd S a o) H M (M.eraseIdx i) := by
  have e1 := (at_split (P' := P) hi).1
  rw [List.eraseIdx_eq_take_drop_succ]
  generalize M.take i = A at *
  generalize M.drop (i + 1) = B at *
  subst e1
  exact Stp.fz e m ho
theorem Nv.cont {S H S2 H2 : Hp} {σ : L2.St} {M M2 : SH} (I : Nv S H σ Γ M) (st : Stp S H S2 H2 M M2) {t : TS} {D0 : Ends} (o : EndOk S H M D D0 E) (h : St E t Γ M2 D) (hH : H2 = H) : t D0 σ H := by
  have := h σ S2 H2 D0 (I.step st) (o.step st)
  rw [hH] at this
  exact this
theorem st_fzF {i j : Nat} {l x : Addr} {rs : List Rep} {fs : FR} {f : Str} (hl : M[i]? = some (l, mLst rs)) (hx : (M.eraseIdx i)[j]? = some (x, mObj C fs)) (hf : fs.lookup f = some (iRef l)) (h : St E t Γ ((M.eraseIdx i).set j (x, mObj C (putR f (iLst rs) fs))) D) : St E t Γ M D := fun σ S H D0 I o => by
  obtain ⟨_, ob, ho, xs, rfl, px⟩ := I.m.at_ l (mLst rs) (at_mem hl)
  have f1 := Stp.fzAt hl I.ex I.m ho
  have f2 := Stp.re (P' := mObj C (putR f (iLst rs) fs)) hx f1.e f1.m fun o ⟨dx, vs, e, hi⟩ => ⟨dx, vs, e, hi.re (fun v p => by cases p; exact ⟨l, xs, rfl, upd_same, px.mono f1.s⟩) hf⟩
  exact I.cont (f1.trans f2) o h rfl
theorem st_fzP {i j : Nat} {l x : Addr} {ps : List (Str × Str)} {fs : FR} {f : Str} (hl : M[i]? = some (l, mPD ps)) (hx : (M.eraseIdx i)[j]? = some (x, mObj C fs)) (hf : fs.lookup f = some (iRef l)) (h : St E t Γ ((M.eraseIdx i).set j (x, mObj C (putR f (iPD ps) fs))) D) : St E t Γ M D := fun σ S H D0 I o => by
  obtain ⟨_, ob, ho, px⟩ := I.m.at_ l (mPD ps) (at_mem hl)
  cases px
  have f1 := Stp.fzAt hl I.ex I.m ho
  have f2 := Stp.re (P' := mObj C (putR f (iPD ps) fs)) hx f1.e f1.m fun o ⟨dx, vs, e, hi⟩ => ⟨dx, vs, e, hi.re (fun v p => by cases p; exact ⟨l, rfl, upd_same⟩) hf⟩
  exact I.cont (f1.trans f2) o h rfl
end
end L3

namespace L3
open PySem L2 RZ PyProof.Rows
/-! ### methods, classes, as they may be called -/
structure ClM (P : Program) (w : World) (K : PySem.W.Frag) (mg : Str → Option Value) (base : Heap) (CX : CXT) (k : Nat) (C : Addr) (m : Str) (ts : TSp) (dvs : List V) : Prop where
  cl : Cls K C
  ex : ∃ (f : Addr) (fd : FuncData) (ps : List Str) (ds : List Value), FnOk P w K mg base CX k f fd ps (spT ts) ∧ Meth K C m f ∧ Binds K fd ps ds ∧ Vals dvs ds
structure ClI (P : Program) (w : World) (K : PySem.W.Frag) (mg : Str → Option Value) (base : Heap) (CX : CXT) (k : Nat) (C : Addr) (x : Str) (ts : TSp) (dvs : List V) : Prop where
  ex : ∃ (f : Addr) (fd : FuncData) (ps : List Str) (ds : List Value), FnOk P w K mg base CX k f fd ps (spT ts) ∧ Mk K C f ∧ mg x = some (.ref C) ∧ Binds K fd ps ds ∧ Vals dvs ds
structure ClIN (P : Program) (w : World) (K : PySem.W.Frag) (mg : Str → Option Value) (base : Heap) (CX : CXT) (k : Nat) (C : Addr) (x : Str) (ts : TSp) (n : Nat) (ks : List Str) (gV : List V → List V → List V) : Prop where
  ex : ∃ (f : Addr) (fd : FuncData) (ps : List Str) (g : List Value → List Value → List Value), FnOk P w K mg base CX k f fd ps (spT ts) ∧ Mk K C f ∧ mg x = some (.ref C) ∧ KBn K fd ps (n + 1) ks g gV
section
variable {X : Cx} {CX : CXT} {k j n : Nat} {C : Addr} {x m : Str} {ts : TSp} {dvs : List V} {p pos apos : Pos} {o e : Expr} {es : List Expr} {t tk : TA} {ta : TE} {E : XK} {ks : List Str} {gV : List V → List V → List V} {kws : List Keyword}
theorem pe_clM {pl : Sem Bool} (c : ClM X.prog X.w X.K X.mg X.base CX k C m ts dvs) (hr : Room j X.A) (hk : k ≤ j) (hx : Passes CX X E) (he : PE X o ta) (ha : PA X (e :: es) t)
    (hst : starEach (e :: es) X.env = (false, eval e X.env) :: starEach es X.env := by rfl) (hpl : (backTo pos (starEach es X.env)).any (·.1) = false := by rfl)
    (ht : eval (.Call (.Attribute o m apos) (e :: es) [] pos) X.env = (do
      let ov ← eval o X.env
      standAt apos.atName
      let (f, first) ← holding [ov] (getMethod ov m pl)
      callWith pos f first (backTo pos (starEach (e :: es) X.env)) (backToKw pos (keywordEach [] X.env))) := by rfl) :
    PE X (.Call (.Attribute o m apos) (e :: es) [] pos) (tMeth C m (spT ts) dvs E ta t) := by
  obtain ⟨f, fd, ps, ds, F, hm, b, d⟩ := c.ex
  exact pe_meth he c.cl hm F (hr.mono hk) b d hx ha hst hpl ht
theorem pe_clM0 {pl : Sem Bool} (c : ClM X.prog X.w X.K X.mg X.base CX k C m ts dvs) (hr : Room j X.A) (hk : k ≤ j) (hx : Passes CX X E) (he : PE X o ta)
    (ht : eval (.Call (.Attribute o m apos) [] [] pos) X.env = (do
      let ov ← eval o X.env
      standAt apos.atName
      let (f, first) ← holding [ov] (getMethod ov m pl)
      callWith pos f first (backTo pos (starEach [] X.env)) (backToKw pos (keywordEach [] X.env))) := by rfl) :
    PE X (.Call (.Attribute o m apos) [] [] pos) (tMeth C m (spT ts) dvs E ta tNil) := by
  obtain ⟨f, fd, ps, ds, F, hm, b, d⟩ := c.ex
  exact pe_meth0 he c.cl hm F (hr.mono hk) b d hx ht
theorem pe_clI (c : ClI X.prog X.w X.K X.mg X.base CX k C x ts dvs) (hr : Room j X.A) (hk : k + 1 ≤ j) (hx : Passes CX X E) (hg : Gl X x) (ha : PA X (e :: es) t)
    (hdb : (x == ("__debug__" : Str)) = false := by decide) (he : starEach (e :: es) X.env = (false, eval e X.env) :: starEach es X.env := by rfl) (hpl : (backTo pos (starEach es X.env)).any (·.1) = false := by rfl) :
    PE X (.Call (.Name x p) (e :: es) [] pos) (tMake C (spT ts) dvs E t) := by
  obtain ⟨f, fd, ps, ds, F, M, hm, b, d⟩ := c.ex
  exact pe_make M F (hr.mono hk) hg hm b d hx ha hdb he hpl
theorem pe_clIN (c : ClIN X.prog X.w X.K X.mg X.base CX k C x ts n ks gV) (hr : Room j X.A) (hk : k + 1 ≤ j) (hx : Passes CX X E) (hg : Gl X x) (ha : PA X (e :: es) t) (hkw : PK X kws tk)
    (hall : (backToKw pos (keywordEach kws X.env)).all (·.1.isSome) = true := by rfl) (hks : (backToKw pos (keywordEach kws X.env)).filterMap (·.1) = ks := by rfl)
    (hdb : (x == ("__debug__" : Str)) = false := by decide) (he : starEach (e :: es) X.env = (false, eval e X.env) :: starEach es X.env := by rfl)
    (hpl : ((backTo pos (starEach (e :: es) X.env)).any (·.1) || (backToKw pos (keywordEach kws X.env)).any (·.1.isNone)) = false := by rfl) :
    PE X (.Call (.Name x p) (e :: es) kws pos) (tMakeN C n ks.length (spT ts) gV E t tk) := by
  obtain ⟨f, fd, ps, g, F, M, hm, b⟩ := c.ex
  exact pe_makeN M F (hr.mono hk) hg hm b hx ha hkw hall hks hdb he hpl
theorem castOp {K : PySem.W.Frag} {g : Value → Value → Sem Value} {r : PySem.W.Frag → L2.R2} (h : X.K = K) (o : OpR X g (r X.K)) : OpR X g (r K) := h ▸ o
theorem castIx {K : PySem.W.Frag} {r : PySem.W.Frag → L2.R2} (h : X.K = K) (o : IxR X (r X.K)) : IxR X (r K) := h ▸ o
theorem castCall {K : PySem.W.Frag} {v : Value} {r : PySem.W.Frag → List V → Hp → VK → Prop} (h : X.K = K) (o : CallR X v (r X.K)) : CallR X v (r K) := h ▸ o
theorem pe_fldK {K : PySem.W.Frag} {f : Str} (h : X.K = K) (he : PE X e ta) (hb : attributeBase e f X.env (eval e X.env) = eval e X.env) : PE X (.Attribute e f pos) (tFld K ta f) := h ▸ pe_fld he hb
theorem pt_orr {e : Expr} {t1 t2 : TT} (h1 : PT X e t1) (h2 : PT X e t2) : PT X e (fun σ H Q => t1 σ H Q ∨ t2 σ H Q) := ⟨fun pins s σ H Q I h => h.elim (h1.run pins s σ H Q I) (h2.run pins s σ H Q I)⟩
end
section
variable {P : Program} {w : World} {K : PySem.W.Frag} {mg : Str → Option Value} {base : Heap}
theorem okTD {x qual : Str} {params : Arguments} {body : List Stmt} {scope : Scope} {dvs : List V} {kws : List (Str × V)} {f : Addr} {fd : FuncData} {N ps : List Str} {kk : Nat} {ts : TSp} (F : FunD K x qual params body scope dvs kws f fd) (S : FnScope N ps scope) (len : ∀ Rs M k X, ts Rs M k X → Rs.length = ps.length)
    (hbody : ∀ (cdv : Value) (A : Around) (outer : List PySem.Env) (s : Shared) (H : Hp) (E : XK), Room kk (A.deeper (envOfC qual scope s.heap.objs.size f cdv)) →
      ∃ t, PSs (cxOf CX0 P w K mg base N qual scope f cdv A outer s H E).nox body t ∧ ∀ Rs M k X, ts Rs M k X → St E t (startC N Rs) M { nx := fun _ M' => k iNon M', rt := k, ex := X }) : FnOk P w K mg base CX0 (kk + 1) f fd ps (spT ts) := by
  refine F.ok S (fun vs H Q E h => ?_) (fun cdv A outer s H vs Q E hr h => ?_)
  · obtain ⟨_, Rs, M, k, X, h1, _, _, p, _⟩ := h
    exact p.len.trans (len Rs M k X h1)
  · obtain ⟨t, h1, h2⟩ := hbody cdv A outer s H E hr
    obtain ⟨S0, Rs, M, k, X, h3, e, m, p, o, ox⟩ := h
    exact ⟨t, h1.nox, h2 Rs M k X h3 _ S0 H _ (nv_start e m p) ⟨fun σ2 S2 H2 Γ2 M2 q st I2 => o .non S2 H2 iNon M2 q st rfl, o, fun _ _ _ _ _ z => z.elim, fun _ _ _ _ _ z => z.elim, ox⟩⟩
end
section
variable {E : XK} {K : PySem.W.Frag} {Γ : Ct} {M : SH} {k : KR} {X : KX} {R R1 R2 : Rep} {te ta tb tc tl tv : TE} {vs : List Nat} {D : EndT} {t u : TS} {c tt : TT} {tr : TA} {C : Addr} {f : Str}
theorem et_or1 {t1 t2 : TT} {kb : Bool → SH → Prop} (h : Et E t1 Γ M kb X) : Et E (fun σ H Q => t1 σ H Q ∨ t2 σ H Q) Γ M kb X := fun σ S H Q I o ox => .inl (h σ S H Q I o ox)
theorem et_or2 {t1 t2 : TT} {kb : Bool → SH → Prop} (h : Et E t2 Γ M kb X) : Et E (fun σ H Q => t1 σ H Q ∨ t2 σ H Q) Γ M kb X := fun σ S H Q I o ox => .inr (h σ S H Q I o ox)
theorem ev_meth_at {sp : Sp} {dvs : List V} {E' : XK} {m : Str} (h : Ev E (tMeth C m sp dvs E' ta tr) Γ M k X) : Ev E (tMeth C m sp dvs E' ta tr) Γ M k X := h
theorem ev_make_at {sp : Sp} {dvs : List V} {E' : XK} (h : Ev E (tMake C sp dvs E' tr) Γ M k X) : Ev E (tMake C sp dvs E' tr) Γ M k X := h
theorem ev_make3 {sp : List Rep → (FR → Prop) → Prop} (h : Ea E tr Γ M (fun Rs M1 => ∃ Rs', LeS Rs Rs' ∧ sp Rs' fun fs => k (iObj C fs) M1) X) : Ev E (tMake C (spT (initK C sp)) [] E0 tr) Γ M k X :=
  ev_make (Ds := []) (fun _ => True.intro) fun σ S H Q I o ox => h σ S H Q I (fun vs S2 H2 Rs M2 ⟨Rs', le, q⟩ st p => o vs S2 H2 Rs M2 ⟨Rs', by rw [List.append_nil]; exact le, q⟩ st p) ox
theorem k_methS {m : Str} {fs : FR} {P : FR → Prop} (hm : fs.lookup m = none) (h : P fs) : ∃ fs', HasO M (iObj C fs) C fs' ∧ fs'.lookup m = none ∧ P fs' := ⟨fs, .inl rfl, hm, h⟩
theorem k_methM {m : Str} {fs : FR} {a : Addr} {i : Nat} {P : FR → Prop} (hi : M[i]? = some (a, mObj C fs)) (hm : fs.lookup m = none) (h : P fs) : ∃ fs', HasO M (iRef a) C fs' ∧ fs'.lookup m = none ∧ P fs' := ⟨fs, .inr ⟨a, i, rfl, hi⟩, hm, h⟩
theorem k_ho2S {fs : FR} {P : Prop} (h : P) : HasO M (iObj C fs) C fs ∧ P := ⟨.inl rfl, h⟩
theorem k_ho2M {fs : FR} {a : Addr} {i : Nat} {P : Prop} (hi : M[i]? = some (a, mObj C fs)) (h : P) : HasO M (iRef a) C fs ∧ P := ⟨.inr ⟨a, i, rfl, hi⟩, h⟩
theorem k_ho3 {fs : FR} {P : Prop} (hi : HasO M R C fs) (h : P) : HasO M R C fs ∧ P := ⟨hi, h⟩
theorem k_fldG {fs : FR} {Rf : Rep} {P : Rep → Prop} (ho : HasO M R C fs) (hf : fs.lookup f = some Rf) (h : P Rf) : ∃ fs', HasO M R C fs' ∧ ∃ Rf, fs'.lookup f = some Rf ∧ P Rf := ⟨fs, ho, Rf, hf, h⟩
theorem k_methG {m : Str} {fs : FR} {P : FR → Prop} (ho : HasO M R C fs) (hm : fs.lookup m = none) (h : P fs) : ∃ fs', HasO M R C fs' ∧ fs'.lookup m = none ∧ P fs' := ⟨fs, ho, hm, h⟩
theorem k_set {a : Addr} {j : Nat} {fs : FR} {P : Addr → Nat → FR → Prop} (hm : M[j]? = some (a, mObj C fs)) (hl : fs.length < 1000) (h : P a j fs) : ∃ (b : Addr) (j : Nat) (fs : FR), iRef a = iRef b ∧ M[j]? = some (b, mObj C fs) ∧ fs.length < 1000 ∧ P b j fs := ⟨a, j, fs, rfl, hm, hl, h⟩
theorem k_pd {ps : List (Str × Str)} {P : List (Str × Str) → Prop} (hp : HasP M R ps) (h : P ps) : ∃ ps', HasP M R ps' ∧ P ps' := ⟨ps, hp, h⟩
theorem k_ss {a b : Str} {P : Str → Str → Prop} (h : P a b) : ∃ c d, [aStr a, aStr b] = [aStr c, aStr d] ∧ P c d := ⟨a, b, rfl, h⟩
/-! ### dicts whose keys are texts -/
structure DkOk (S : Hp) (kvs : FR) (vs : List (Key × V)) : Prop where
  nm : vs.map (·.1) = kvs.map fun p => (Sum.inr p.1 : Key)
  al : All2 S (kvs.map (·.2)) (vs.map (·.2))
theorem DkOk.mono {S S' : Hp} {kvs : FR} {vs : List (Key × V)} (h : DkOk S kvs vs) (e : Same S S') : DkOk S' kvs vs := ⟨h.nm, h.al.mono e⟩
theorem DkOk.len {S : Hp} {kvs : FR} {vs : List (Key × V)} (h : DkOk S kvs vs) : vs.length = kvs.length := by
  have := congrArg List.length h.nm
  simpa using this
theorem DkOk.look {S : Hp} : ∀ {kvs : FR} {vs : List (Key × V)}, DkOk S kvs vs → ∀ z : Str, (kvs.lookup z = none → valV vs (.inr z) = none) ∧ ∀ R, kvs.lookup z = some R → ∃ v, valV vs (.inr z) = some v ∧ R.p S v
  | [], [], _, z => ⟨fun _ => rfl, fun R e => by cases e⟩
  | [], _ :: _, h, z => by have := h.nm; simp at this
  | _ :: _, [], h, z => by have := h.nm; simp at this
  | (g, R) :: kvs, (g', v) :: vs, h, z => by
    have e : g' = .inr g := by have := h.nm; simp at this; exact this.1
    subst e
    have ih := DkOk.look (kvs := kvs) (vs := vs) ⟨by have := h.nm; simp at this; exact this, h.al.2⟩ z
    rw [List.lookup_cons]
    by_cases hf : g = z
    · subst hf
      rw [beq_self_eq_true]
      refine ⟨fun z => (nomatch z), fun R' z => ?_⟩
      have e : R = R' := Option.some.inj z
      subst e
      exact ⟨v, valV_pos rfl, h.al.1⟩
    · rw [show (z == g) = false from beq_eq_false_iff_ne.mpr fun w => hf w.symm]
      rw [valV_neg (p := ((Sum.inr g : Key), v)) (fun w => hf (Sum.inr.inj w))]
      exact ih
def iDF (kvs : FR) : Rep := ⟨fun S v => ∃ a o vs, v = .ref a ∧ S a = some (.frz o (.dK vs)) ∧ DkOk S kvs vs, fun e ⟨a, o, vs, h1, h2, h3⟩ => ⟨a, o, vs, h1, e _ _ h2, h3.mono e⟩⟩
def mDK (kvs : FR) : MRep := ⟨fun S o => ∃ vs, o = .dK vs ∧ DkOk S kvs vs, fun e ⟨vs, h1, h2⟩ => ⟨vs, h1, h2.mono e⟩, fun ⟨vs, h1, _⟩ ys z => by rw [h1] at z; cases z⟩
def HasD (M : SH) (R : Rep) (kvs : FR) : Prop := R = iDF kvs ∨ ∃ (a : Addr) (i : Nat), R = iRef a ∧ M[i]? = some (a, mDK kvs)
theorem HasD.get {kvs : FR} (h : HasD M R kvs) {S H : Hp} {v : V} (e : Same S H) (m : MOk S H M) (p : R.p S v) : ∃ a vs, v = .ref a ∧ Rd H a (.dK vs) ∧ DkOk S kvs vs := by
  rcases h with h | ⟨a, i, h, hm⟩
  · subst h
    obtain ⟨a, o, vs, h1, h2, h3⟩ := p
    exact ⟨a, vs, h1, .inr ⟨o, e _ _ h2⟩, h3⟩
  · subst h
    cases p
    obtain ⟨_, o, ho, vs, rfl, h3⟩ := m.at_ _ _ (at_mem hm)
    exact ⟨a, vs, rfl, .inl ho, h3⟩
theorem ev_dinD {ty td : TE} (h : Ev E ty Γ M (fun R1 M1 => ∃ z, R1 = aStr z ∧ Ev E td Γ M1 (fun R M2 => ∃ kvs, HasD M2 R kvs ∧ k (iBl (kvs.lookup z).isSome) M2) X) X) : Ev E (tDIn ty td) Γ M k X := fun σ S H Q I o ox =>
  h σ S H _ I (fun v S1 H1 R1 M1 ⟨z, e, q⟩ st p => by
    subst e
    cases p
    exact q σ S1 H1 _ (I.step st) (fun y S2 H2 R M2 ⟨kvs, hd, q2⟩ st2 p2 => by
      obtain ⟨a, vs, rfl, hr, ok⟩ := hd.get st2.e st2.m p2
      refine ⟨a, valV vs (.inr z), rfl, .inl ⟨vs, .inr z, hr, rfl, rfl⟩, ?_⟩
      have e : (valV vs (.inr z)).isSome = (kvs.lookup z).isSome := by
        cases hl : kvs.lookup z with
        | none => rw [(ok.look z).1 hl]; rfl
        | some R => obtain ⟨w, hw, _⟩ := (ok.look z).2 R hl; rw [hw]; rfl
      rw [e]
      exact (o.step st) _ S2 H2 _ M2 q2 st2 rfl) (ox.step st)) ox
theorem ev_dgetD {ty td : TE} (h : Ev E td Γ M (fun R1 M1 => ∃ Rd : Rep, Rd = R1 ∧ Ev E ty Γ M1 (fun R2 M2 => ∃ z kvs, R2 = aStr z ∧ HasD M2 R1 kvs ∧ ∃ R, kvs.lookup z = some R ∧ k R M2) X) X) : Ev E (tDGet td ty) Γ M k X := fun σ S H Q I o ox =>
  h σ S H _ I (fun x S1 H1 R1 M1 ⟨_, _, q⟩ st p => q σ S1 H1 _ (I.step st) (fun y S2 H2 R2 M2 ⟨z, kvs, e, hd, R, hl, q2⟩ st2 p2 => by
    subst e
    cases p2
    obtain ⟨a, vs, rfl, hr, ok⟩ := hd.get st2.e st2.m (R1.m st2.s p)
    obtain ⟨w, hw, pw⟩ := (ok.look z).2 R hl
    exact ⟨a, w, rfl, .inl ⟨vs, .inr z, hr, rfl, hw.symm⟩, (o.step st) w S2 H2 R M2 q2 st2 pw⟩) (ox.step st)) ox
theorem ev_dnewK (h : ∀ a, k (iRef a) (M ++ [(a, mDK [])])) : Ev E tDNewK Γ M k X := fun σ S H Q I o ox p hp =>
  o (.ref p) S _ (iRef p) _ (h p) (Stp.newM (P := mDK []) I.ex I.m hp ⟨[], rfl, rfl, True.intro⟩) rfl
theorem st_fldM (hc : Cls K C) (hn : NoAttr K C f) (h : ∀ l, Ev E ta Γ (M ++ [(l, mLst [])]) (fun R2 M2 => ∃ (a : Addr) (j : Nat) (fs : FR), R2 = iRef a ∧ M2[j]? = some (a, mObj C fs) ∧ fs.length < 1000 ∧ D.nx Γ (M2.set j (a, mObj C (putR f (iRef l) fs)))) D.ex) : St E (sFld K ta (tLst tNil) f) Γ M D :=
  st_fld hc hn (ev_lstM (ea_nil ⟨by simp, fun l => h l⟩))
theorem st_fldT (hc : Cls K C) (hn : NoAttr K C f) (h : ∀ l, Ev E ta Γ (M ++ [(l, mPD [])]) (fun R2 M2 => ∃ (a : Addr) (j : Nat) (fs : FR), R2 = iRef a ∧ M2[j]? = some (a, mObj C fs) ∧ fs.length < 1000 ∧ D.nx Γ (M2.set j (a, mObj C (putR f (iRef l) fs)))) D.ex) : St E (sFld K ta tDNewT f) Γ M D :=
  st_fld hc hn (ev_dnewT fun l => h l)
theorem st_fldK (hc : Cls K C) (hn : NoAttr K C f) (h : ∀ l, Ev E ta Γ (M ++ [(l, mDK [])]) (fun R2 M2 => ∃ (a : Addr) (j : Nat) (fs : FR), R2 = iRef a ∧ M2[j]? = some (a, mObj C fs) ∧ fs.length < 1000 ∧ D.nx Γ (M2.set j (a, mObj C (putR f (iRef l) fs)))) D.ex) : St E (sFld K ta tDNewK f) Γ M D :=
  st_fld hc hn (ev_dnewK fun l => h l)
theorem k_ref {d : Addr} {P : Addr → Prop} (h : P d) : ∃ e, iRef d = iRef e ∧ P e := ⟨d, rfl, h⟩
theorem k_put {a b : Str} {d : Addr} {i : Nat} {ps : List (Str × Str)} {P : Str → Str → Nat → List (Str × Str) → Prop} (hm : M[i]? = some (d, mPD ps)) (hl : ps.length < 1000000) (h : P a b i ps) : ∃ (a' b' : Str) (i : Nat) (ps : List (Str × Str)), [aStr a, aStr b] = [aStr a', aStr b'] ∧ M[i]? = some (d, mPD ps) ∧ ps.length < 1000000 ∧ P a' b' i ps := ⟨a, b, i, ps, rfl, hm, hl, h⟩
/-! ### a last word at the end of a def -/
def TurnC (Γ : Ct) (M : SH) (Γ' : Ct) (M' : SH) : Prop := ∀ S H σ, Nv S H σ Γ M → ∃ S', Stp S H S' H M M' ∧ Nv S' H σ Γ' M'
def NT (kc : KC) : KC := fun Γ M => ∃ Γ' M', TurnC Γ M Γ' M' ∧ kc Γ' M'
theorem st_nt (h : St E t Γ M { D with nx := NT D.nx }) : St E t Γ M D := fun σ S H D0 I o =>
  h σ S H D0 I ⟨fun σ2 S2 H2 Γ2 M2 ⟨Γ3, M3, tn, q⟩ st I2 => let ⟨S3, st3, I3⟩ := tn S2 H2 σ2 I2; o.nx σ2 S3 H2 Γ3 M3 q (st.trans st3) I3, o.rt, o.bk, o.ct, o.ex⟩
theorem turn_fzP {i j : Nat} {l x : Addr} {ps : List (Str × Str)} {fs : FR} {f : Str} (hl : M[i]? = some (l, mPD ps)) (hx : (M.eraseIdx i)[j]? = some (x, mObj C fs)) (hf : fs.lookup f = some (iRef l)) : TurnC Γ M Γ ((M.eraseIdx i).set j (x, mObj C (putR f (iPD ps) fs))) := fun S H σ I => by
  obtain ⟨_, ob, ho, px⟩ := I.m.at_ l (mPD ps) (at_mem hl)
  cases px
  have f1 := Stp.fzAt hl I.ex I.m ho
  have f2 := Stp.re (P' := mObj C (putR f (iPD ps) fs)) hx f1.e f1.m fun o ⟨dx, vs, e, hi⟩ => ⟨dx, vs, e, hi.re (fun v p => by cases p; exact ⟨l, rfl, upd_same⟩) hf⟩
  exact ⟨_, f1.trans f2, I.step (f1.trans f2)⟩
theorem turn_fzF {i j : Nat} {l x : Addr} {rs : List Rep} {fs : FR} {f : Str} (hl : M[i]? = some (l, mLst rs)) (hx : (M.eraseIdx i)[j]? = some (x, mObj C fs)) (hf : fs.lookup f = some (iRef l)) : TurnC Γ M Γ ((M.eraseIdx i).set j (x, mObj C (putR f (iLst rs) fs))) := fun S H σ I => by
  obtain ⟨_, ob, ho, xs, rfl, px⟩ := I.m.at_ l (mLst rs) (at_mem hl)
  have f1 := Stp.fzAt hl I.ex I.m ho
  have f2 := Stp.re (P' := mObj C (putR f (iLst rs) fs)) hx f1.e f1.m fun o ⟨dx, vs, e, hi⟩ => ⟨dx, vs, e, hi.re (fun v p => by cases p; exact ⟨l, xs, rfl, upd_same, px.mono f1.s⟩) hf⟩
  exact ⟨_, f1.trans f2, I.step (f1.trans f2)⟩
/-! ### three at once; tests of some truth -/
theorem st_par3 {i j l : Nat} {ta : TA} (h : Ea E ta Γ M (fun Rs M1 => ∃ R1 R2 R3, Rs = [R1, R2, R3] ∧ D.nx (((Γ.set i (some R1)).set j (some R2)).set l (some R3)) M1) D.ex) : St E (tPar3 i j l ta) Γ M D := fun σ S H D0 I o =>
  h σ S H _ I (fun xs S2 H2 Rs M2 ⟨R1, R2, R3, e, q⟩ st p => by
    subst e
    match xs, p with
    | [], p => exact p.elim
    | [_], p => exact p.2.elim
    | [_, _], p => exact p.2.2.elim
    | _ :: _ :: _ :: _ :: _, p => exact p.2.2.2.elim
    | [u, v, w], p => exact ⟨u, v, w, rfl, o.nx _ S2 H2 _ M2 q st ((((I.step st).set i p.1).set j p.2.1).set l p.2.2.1)⟩) o.ex
theorem k_par3 {R3 : Rep} {P : Rep → Rep → Rep → Prop} (h : P R1 R2 R3) : ∃ A B C, [R1, R2, R3] = [A, B, C] ∧ P A B C := ⟨_, _, _, rfl, h⟩
theorem st_if_any (h : ∀ (kb : Bool → SH → Prop) (X : KX), (∀ b, kb b M) → Et E c Γ M kb X) (h1 : St E t Γ M D) (h2 : St E u Γ M D) : St E (tIfS c t u) Γ M D :=
  st_if fun σ S H Q I o ox => h (fun b M1 => M1 = M) D.ex (fun _ => rfl) σ S H Q I (fun b S2 H2 M2 e st => o b S2 H2 M2 (by
    subst e
    cases b with
    | true => simpa using h1
    | false => simpa using h2) st) ox
theorem o_ixN {α : Type} {l : List α} {g : α → Rep} {x : Int} (n : Nat) (e : x = n) (h : n < l.length) : O2p (rIxL K) (iLst (l.map g)) (iInt x) M (g l[n]) := by
  subst e
  exact o_ixL (atI_map (atI_nat (by simp [h])))
theorem o_ixNT {α : Type} {l : List α} {g : α → Rep} {x : Int} (n : Nat) (e : x = n) (h : n < l.length) : O2p (rIxT K) (aTup K (l.map g)) (iInt x) M (g l[n]) := by
  subst e
  exact o_ixT (atI_map (atI_nat (by simp [h])))
/-! ### comprehensions over a list of data -/
theorem ep_lcF {α : Type} {l : List α} {e : α → Rep} {j : Nat} {p : α → Bool} (hi : Ep E tl Γ M (iLst (l.map e))) (hn : l.length ≤ 1000000) (hj : j ∈ vs)
    (ht : ∀ x ∈ l, Etp E tt ((wipeC Γ vs).set j (some (e x))) M (p x)) (he : ∀ x ∈ l, p x = true → Ep E te ((wipeC Γ vs).set j (some (e x))) M (e x)) : Ep E (tLc (iList K tl) (gName j) tt te vs) Γ M (iLst ((l.filter p).map e)) := by
  have := ep_lcL (K := K) (q := id) (e' := e) hi hn hj ht he
  rwa [List.map_id] at this
theorem ep_lcM {α : Type} {l : List α} {e e' : α → Rep} {j : Nat} (hi : Ep E tl Γ M (iLst (l.map e))) (hn : l.length ≤ 1000000) (hj : j ∈ vs)
    (he : ∀ x ∈ l, Ep E te ((wipeC Γ vs).set j (some (e x))) M (e' x)) : Ep E (tLc (iList K tl) (gName j) tYes te vs) Γ M (iLst (l.map e')) := by
  have := ep_lcL (K := K) (p := fun _ => true) (q := id) (e' := e') (l := l) (e := e) (te := te) (tt := tYes) hi hn hj (fun _ _ => etp_yes) (fun x hx _ => he x hx)
  rwa [List.map_id, List.filter_eq_self.mpr fun _ _ => rfl] at this
/-- .. whose test draws: some of the items -/
theorem ev_lcD {α : Type} {l : List α} {e e' : α → Rep} {j : Nat} {p : α → Prop} (hi : Ep E tl Γ M (iLst (l.map e))) (hn : l.length ≤ 1000000) (hj : j ∈ vs)
    (ht : ∀ x ∈ l, ∀ (kb : Bool → SH → Prop), (p x → kb true M) → kb false M → Et E tt ((wipeC Γ vs).set j (some (e x))) M kb X0)
    (he : ∀ x ∈ l, p x → Ep E te ((wipeC Γ vs).set j (some (e x))) M (e' x)) (q : ∀ l' : List α, l'.Sublist l → (∀ x ∈ l', p x) → k (iLst (l'.map e')) M) : Ev E (tLc (iList K tl) (gName j) tt te vs) Γ M k X :=
  ev_lc (fun z => by rw [z] at hj; cases hj) (tip_list hi _ _ ⟨by simpa using hn, fun i acc M2 => ∃ l' : List α, acc = l'.map e' ∧ l'.Sublist (l.take i) ∧ (∀ x ∈ l', p x) ∧ M2 = M, ⟨[], rfl, by simp, by simp, rfl⟩, fun i r acc M2 hlt hr _ ⟨l', e1, e2, e3, e4⟩ => by
    subst e4
    have hlt' : i < l.length := by simpa using hlt
    replace hr : (l.map e)[i]? = some r := hr
    rw [List.getElem?_map, List.getElem?_eq_getElem hlt'] at hr
    have e5 : e l[i] = r := Option.some.inj hr
    subst e5
    have hm := List.getElem_mem hlt'
    have et : l.take (i + 1) = l.take i ++ [l[i]] := by rw [List.take_succ, List.getElem?_eq_getElem hlt']; rfl
    refine tg_name (ht _ hm _ (fun hp => ?_) ?_) (.inr hj)
    · refine (if_pos rfl).mpr (he _ hm hp _ _ ⟨l' ++ [l[i]], ?_, ?_, ?_, rfl⟩)
      · rw [e1]; simp
      · rw [et]; exact e2.append (List.Sublist.refl _)
      · intro x hx
        rcases List.mem_append.mp hx with h | h
        · exact e3 x h
        · rw [List.mem_singleton.mp h]; exact hp
    · refine (if_neg Bool.false_ne_true).mpr ⟨l', e1, ?_, e3, rfl⟩
      rw [et]
      exact e2.trans (List.sublist_append_left _ _), fun acc M2 _ ⟨l', e1, e2, e3, e4⟩ => by
    subst e1; subst e4
    rw [List.length_map, List.take_length] at e2
    exact q l' e2 e3⟩)
end
end L3

namespace L3
open PySem L2 RZ PyProof.Rows
theorem hu65_of {A : Around} {k : Nat} (hr : Room k A) : A.units + 65 < cLine := by have := hr.un; omega
/-! ### a pair among pairs -/
def prD (p : Str × Str) : PyData := .tuple [.str p.1, .str p.2]
theorem prD_rep (K : PySem.W.Frag) (p : Str × Str) : aTup K [aStr p.1, aStr p.2] = iDat K (prD p) := dat_tup (dats_cons (dat_str _ _) (dats_cons (dat_str _ _) dats_nil))
theorem eqv_prD (p q : Str × Str) : PyData.eqv (prD p) (prD q) = decide (p = q) := by
  unfold prD
  simp only [PyData.eqv, PyData.eqvAll, Bool.and_true]
  obtain ⟨a, b⟩ := p
  obtain ⟨c, d⟩ := q
  rw [Bool.eq_iff_iff]
  simp
theorem any_prD (p : Str × Str) (l : List (Str × Str)) : (l.map prD).any (fun z => PyData.eqv z (prD p)) = decide (p ∈ l) := by
  rw [List.any_map, Bool.eq_iff_iff]
  simp only [List.any_eq_true, Function.comp, eqv_prD, decide_eq_true_eq]
  exact ⟨fun ⟨x, h, e⟩ => e ▸ h, fun h => ⟨p, h, rfl⟩⟩
def PrOk (l : List (Str × Str)) : Prop := ∀ p ∈ l, StrOk p.1 ∧ StrOk p.2
theorem shp_prD {n : Nat} {p : Str × Str} (h : StrOk p.1 ∧ StrOk p.2) : Shp (n + 1) (prD p) := shp_tup fun d hd => by
  simp only [List.mem_cons, List.not_mem_nil, or_false] at hd
  rcases hd with rfl | rfl
  · exact shp_str h.1
  · exact shp_str h.2
theorem shp_prDs {n : Nat} {l : List (Str × Str)} (h : PrOk l) : Shp (n + 2) (.list (l.map prD)) := shp_list fun d hd => by
  obtain ⟨p, hp, rfl⟩ := List.mem_map.mp hd
  exact shp_prD (h p hp)
theorem prDs_rep (K : PySem.W.Frag) (l : List (Str × Str)) : iLst (l.map fun p => aTup K [aStr p.1, aStr p.2]) = iDat K (.list (l.map prD)) := by
  rw [← dat_list, List.map_map]
  congr 1
section
variable {E : XK} {K : PySem.W.Frag} {Γ : Ct} {M : SH} {k : KR} {X : KX} {R R1 R2 : Rep}
theorem o_inP {a b : Str} {l : List (Str × Str)} (hp : StrOk a ∧ StrOk b) (hl : PrOk l) : O2p (rInD K) (aTup K [aStr a, aStr b]) (iLst (l.map fun p => aTup K [aStr p.1, aStr p.2])) M (iBl (decide ((a, b) ∈ l))) := o2_val fun x y S H e _ h1 h2 => by
  rw [prDs_rep] at h2
  have h1' : (iDat K (prD (a, b))).p S x := by rw [← prD_rep]; exact h1
  refine ⟨_, rfl, fun Q q => ⟨prD (a, b), l.map prD, Dp.mono e (iDat_dp K _ h1'), Dp.mono e (iDat_dp K _ h2), (shp_prD hp).ok, (shp_prDs hl).ok, ?_⟩⟩
  rw [any_prD]
  exact q
end
end L3

namespace L3
open PySem PySem.Spec L2 RZ PyProof.Rows
/-! ### enumerate over a tuple -/
def IteT (K : PySem.W.Frag) (a : Addr) : It where
  go i H := ∃ (xs : List V) (x : V), SqT K H a xs ∧ xs[i]? = some x
  yld i H v H' := ∃ T x, v = .ref T ∧ H T = none ∧ H' = upd H T (.tup [.int (i : Nat), x]) ∧ ∀ xs, SqT K H a xs → xs[i]? = some x
  stop i H := ∃ xs : List V, SqT K H a xs ∧ xs.length ≤ i
theorem enum_apart {h : Heap} {e it a : Addr} {i : Int} {old : Value} {items : Array Value} (he : IsEnum h e it i old) (ht : h.IsTuple a items) : e ≠ a := fun z => by
  obtain ⟨o, ho, hc, _⟩ := ht
  have hq : h.get? e = some o := by rw [z]; exact ho
  have hp := he
  unfold IsEnum at hp
  rw [hq] at hp
  have := Option.some.inj hp
  rw [this] at hc
  injection hc with hz
  exact absurd hz (by decide)
theorem turn_enumT {P : Program} {w : World} {K : PySem.W.Frag} {elts : List Expr} {kk : Nat} {tpos : Pos} (a e it : Addr) (hai : a ≠ it) :
    Turn P w K (.Tuple elts kk tpos) (IteT K a) [e, it] e (fun i h => (∃ old, IsEnum h e it ((i : Nat) : Int) old) ∧ h.IsTupleIter it a i ∧ e ≠ it) := by
  have two : ∀ b, b ∈ [e, it] → b = e ∨ b = it := fun b hb => by simpa using hb
  refine ⟨by simp, fun i h st b hb => ?_, fun i h h' st k => ?_, ?_, ?_, fun A i s Q E st q => ?_⟩
  · obtain ⟨⟨old, he⟩, ⟨o, ho, _, hd⟩, _⟩ := st
    rcases two b hb with rfl | rfl
    · exact ⟨_, he, fun v q => (nomatch q)⟩
    · exact ⟨o, ho, fun v q => by rw [hd] at q; cases q⟩
  · obtain ⟨⟨old, he⟩, hi, hne⟩ := st
    exact ⟨⟨old, k e (by simp) _ he⟩, hi.at fun o q => k it (by simp) o q, hne⟩
  · rintro X rfl rfl rfl hc i pins s σ H E I hf ⟨⟨old, he⟩, hit, hne⟩ ⟨xs, x, hq, hx⟩
    obtain ⟨its, rv, pt, hz⟩ := I.tuple hq
    obtain ⟨u, hu, ru⟩ := rv.get hx
    have hel : e < s.heap.objs.size := Heap.lt_size he
    have hil : it < s.heap.objs.size := let ⟨_, q, _⟩ := hit; Heap.lt_size q
    have hlt : i < its.toArray.size := by
      have := (List.getElem?_eq_some_iff.mp hu).1
      simpa using this
    have hh : X.A.in1.handled = none := I.ok.hd hc
    refine wpAny_pyNext_enum_itemD (Draws.tuple hh it a hai its.toArray) he ⟨hit, pt⟩ hlt hne (by have := enum_apart he pt; simp [hne, this]) fun y h' tk hy ho hst hT hsz hk => ?_
    have ey : y = u := by
      have : its.toArray[i]? = some u := by simpa using hu
      rw [this] at hy
      exact (Option.some.inj hy).symm
    subst ey
    refine ⟨_, rfl, wpAny_letOwnedTupleGo_enum (s := { s with heap := h', toks := tk + 1 }) ho fun h'' he' sb => ?_⟩
    have hT2 := (sb.2 s.heap.objs.size (Nat.ne_of_gt hel)).trans hT
    have fresh : H s.heap.objs.size = none := I.hok.fresh (Nat.le_refl _)
    have I1 : Inv X pins σ (upd H s.heap.objs.size (.tup [.int (i : Nat), x])) { s with heap := h'', toks := tk + 1 } :=
      I.turnedNew (ch := [e, it]) (fun b o hb q => by
        have n1 : b ≠ e := fun z => hb (by simp [z])
        have n2 : b ≠ it := fun z => hb (by simp [z])
        exact (sb.2 b n1).trans (hk b o n1 n2 q)) hf (Nat.le_refl _) ⟨by show 2 ≤ sizeLine; decide, [.int i tk, y], .cons ⟨_, rfl⟩ (.cons ru .nil), ⟨_, hT2, rfl, _, rfl⟩⟩
    refine ⟨.ref s.heap.objs.size, _, I1, rfl, ⟨_, x, rfl, fresh, rfl, fun ys hy => by rw [I.tuple_inj hy hq]; exact hx⟩, ⟨⟨y, by rw [show ((i + 1 : Nat) : Int) = (i : Int) + 1 by omega]; exact he'⟩, hst.1.at fun o q => (sb.2 it (Ne.symm hne)).trans q, hne⟩, fun b hb => ?_⟩
    have hb' : b < s.heap.objs.size := by rcases two b hb with rfl | rfl <;> assumption
    rw [upd_ne (Nat.ne_of_lt hb')]
    exact (hf b hb).1
  · rintro X rfl rfl rfl hc i pins s σ H E I hf ⟨⟨old, he⟩, hit, hne⟩ ⟨xs, hq, hx⟩
    obtain ⟨its, rv, pt, hz⟩ := I.tuple hq
    obtain ⟨f0, f1, f2, f3, f4, f5⟩ := hf it (by simp)
    have hl := rv.length
    have hh : X.A.in1.handled = none := I.ok.hd hc
    have over : Draws X.prog X.w X.A.in1 it [it, a] i (fun _ _ => True) (fun j h => j = i ∧ h.IsTupleIter it a i ∧ h.IsTuple a its.toArray) :=
      ⟨fun _ _ q => let ⟨o, ho, _⟩ := q.2.1; ⟨o, ho⟩, fun _ _ _ q k => ⟨q.1, q.2.1.at fun o z => k it (by simp) o z, q.2.2.at fun o z => k a (by simp) o z⟩, fun j _ _ _ hj q => absurd q.1 (Nat.ne_of_lt hj),
        fun s' Q' E' q hE => wpAny_nextOf_tuple_end hh q.2.1 q.2.2 (by simp; omega) hE⟩
    exact wpAny_pyNext_enum_endD over he ⟨rfl, hit, pt⟩ fun h' eb => ⟨rfl, I.turned (t' := s.toks) (fun b o hb q => eb b o hb q) f0 f1 f3 f4 f5⟩
  · obtain ⟨⟨_, he⟩, _⟩ := st
    exact wpAny_pyIter_enum he q
theorem new_enum (a : Addr) (items : Array Value) (n : Nat) (dct : Option Addr) (sl : Array (Option Value)) :
    Meets (Builtin.«enumerate.__new__» ⟨[.type "enumerate", .ref a], []⟩) (fun _ R s => s.heap.get? a = some { cls := .type "tuple", dict := dct, data := .seq items n, slots := sl } ∧
      R (.ok (.ret (.ref (s.heap.push { cls := .type "tuple_iterator", data := .fields #[.ref a, .int 0 0] }).objs.size)))
        { s with heap := (s.heap.push { cls := .type "tuple_iterator", data := .fields #[.ref a, .int 0 0] }).push { cls := .type "enumerate", data := .fields #[.none, .bool false, .ref s.heap.objs.size, rawInt 0, .none, .none] } }) :=
  .of_wp fun prog w A R ⟨hp, g, d, tk, os⟩ ⟨hl, h⟩ => by
    have hT : Heap.IsTuple (Shared.heap ⟨hp, g, d, tk, os⟩) a items := ⟨_, hl, rfl, n, rfl⟩
    have hs := sub_enumerate
    wp_walk using AutoSeq1.wpAny_loadPart' hl
    refine wpAny_stack_any fun st => wpAny_pure ?_
    split
    · rename_i c _ _ _ _ _
      cases (c == Value.type "enumerate") <;> (wp_walk using AutoSeq1.wpAny_loadPart' hl, wpAny_pyIter_tuple hT; exact ⟨_, rfl, h⟩)
    · wp_walk using AutoSeq1.wpAny_loadPart' hl, wpAny_pyIter_tuple hT
      exact ⟨_, rfl, h⟩
theorem call_enumT {prog : Program} {w : World} {A : Around} {E : Value → Shared → Prop} {s : Shared} {a : Addr} {items : Array Value} {Q : Value → Shared → Prop} (hT : s.heap.IsTuple a items)
    (h : ∀ h' : Heap, IsEnum h' (s.heap.objs.size + 1) s.heap.objs.size 0 .none → h'.IsTupleIter s.heap.objs.size a 0 → (∀ b o, s.heap.get? b = some o → h'.get? b = some o) → Q (.ref (s.heap.objs.size + 1)) { s with heap := h' }) :
    wpAny (model prog w) A (call (.type "enumerate") [.ref a]) Q E s := by
  obtain ⟨⟨c, dct, dt, sl⟩, hl, hc, n, hd⟩ := hT
  have hc : c = .type "tuple" := hc
  have hd : dt = .seq items n := hd
  subst hc hd
  refine callType_new F.called_enumerate (by decide) (F.typeCall_enumerate_1 _) (F.newCall_enumerate_1 _) (fun obj => F.args_object_init_2 obj _) F.entry_enumerate_new (new_enum a items n dct sl) ⟨hl, ?_⟩
  generalize hp : s.heap.push { cls := .type "tuple_iterator", data := .fields #[.ref a, .int 0 0] } = p
  have hz : p.objs.size = s.heap.objs.size + 1 := by rw [← hp]; exact Heap.size_push ..
  have k1 : ∀ b o, s.heap.get? b = some o → p.get? b = some o := fun b o q => by rw [← hp]; exact Heap.get?_push_of_some _ q
  have it : p.IsTupleIter s.heap.objs.size a 0 := by rw [← hp]; exact ⟨_, Heap.get?_push_size _ rfl, rfl, rfl⟩
  have top := Heap.get?_push_size p (o := { cls := .type "enumerate", data := .fields #[.none, .bool false, .ref s.heap.objs.size, rawInt 0, .none, .none] }) rfl
  show _ ∧ _
  rw [hz] at top ⊢
  exact ⟨⟨_, top, rfl⟩, h _ top (it.at fun o q => Heap.get?_push_of_some _ q) fun b o q => Heap.get?_push_of_some _ (k1 b o q)⟩
def iEnumT (K : PySem.W.Frag) (ta : TA) : TI := fun σ H R => ta σ H fun vs H1 => ∃ a xs, vs = [.ref a] ∧ SqT K H1 a xs ∧ R (IteT K a) H1
theorem pi_enumT {X : Cx} {e : Expr} {ta : TA} {p pos tpos : Pos} {elts : List Expr} {kk : Nat} (hg : Gl X "enumerate") (hm : X.mg "enumerate" = none) (ha : PA X [e] ta) (hs : starEach [e] X.env = [(false, eval e X.env)] := by rfl) :
    PI X (.Tuple elts kk tpos) (.Call (.Name "enumerate" p) [e] [] pos) (iEnumT X.K ta) := by
  refine ⟨fun pins s σ H R I h => Call_ (ld_blt I hg hm boot_enumerate (callWith_type1 (thn (ha.run pos pins s σ H _ I h) fun us s1 ⟨vs, H1, I1, r1, a, xs, ex, hq, q⟩ => ?_) hs rfl))⟩
  subst ex
  obtain rfl := Vals.ref1 r1
  obtain ⟨its, rv, pt, hz⟩ := I1.tuple hq
  have hne : a ≠ s1.heap.objs.size := let ⟨_, ho, _⟩ := pt; Nat.ne_of_lt (Heap.lt_size ho)
  refine call_enumT (show s1.heap.IsTuple a its.toArray from pt) fun h' he hit hk => wpAny_pyIter_enum he ?_
  have I2 : Inv X pins σ H1 { s1 with heap := h' } := I1.kept (t' := s1.toks) hk
  refine ⟨_, [s1.heap.objs.size + 1, s1.heap.objs.size], _, _, H1, rfl, I2, turn_enumT a (s1.heap.objs.size + 1) s1.heap.objs.size hne, ⟨⟨.none, he⟩, hit, Nat.succ_ne_self _⟩, fun b hb => ?_, q⟩
  have hle : s1.heap.objs.size ≤ b := by
    have z : b = s1.heap.objs.size + 1 ∨ b = s1.heap.objs.size := by simpa using hb
    rcases z with z | z
    · rw [z]; exact Nat.le_succ _
    · rw [z]; exact Nat.le_refl _
  exact I1.fpOk hle (I1.hok.fresh hle)
theorem walk_enumT {K : PySem.W.Frag} {a : Addr} {xs : List V} : Walk (IteT K a) xs.length (fun H => SqT K H a xs) (YPair (fun i => some (.int (i : Nat))) (fun i => xs[i]?)) := by
  refine ⟨fun i _ hi q => ⟨xs, xs[i], q, by simp [hi]⟩, fun _ q => ⟨xs, q, Nat.le_refl _⟩, fun i H v H' _ q y => ?_⟩
  obtain ⟨T, x, h1, h2, h3, h4⟩ := y
  exact ⟨T, _, x, h1, h2, h3, rfl, h4 xs q⟩
section
variable {E : XK} {K : PySem.W.Frag} {Γ : Ct} {M : SH} {tl : TE}
theorem tip_enumT {rl : List Rep} (h : Ep E tl Γ M (aTup K rl)) : Tip E (iEnumT K (tCons tl tNil)) Γ M rl.length (fun i r => ∃ r1 r2, r1 = iInt (i : Nat) ∧ rl[i]? = some r2 ∧ r = aTup K [r1, r2]) := fun ki X q σ S H R I o ox =>
  eap_cons h eap_nil (fun Rs M' => Rs = [aTup K rl] ∧ M' = M) X ⟨rfl, rfl⟩ σ S H _ I (fun xs S2 H2 Rs M2 ⟨e1, e2⟩ st p => by
    subst e1; subst e2
    obtain ⟨v, rfl, a, ys, rfl, p1, p2⟩ := all2_1 p
    refine ⟨a, ys, rfl, Same.sqt st.e p1, o _ S2 H2 _ _ _ q st ?_⟩
    have w := walk_enumT (K := K) (a := a) (xs := ys)
    rw [p2.len] at w
    exact tw_pair w (fun Sx H e1 e2 => Same.sqt (e1.trans e2) p1) (fun i x hi hx => ⟨_, rfl, (Option.some.inj hx).symm⟩) (fun i x hi hx => p2.getV hx)) ox
end
end L3

namespace L3
open PySem PySem.Spec L2 RZ PyProof.Rows
/-! ### a dict that is never changed again -/
def tFz (t : TS) : TS := fun D σ H => ∃ d u, H d = some u ∧ Mut (some u) ∧ ∀ od, t D σ (upd H d (.frz od u))
theorem ps_fz {X : Cx} {st : Stmt} {t : TS} (h : PS X st t) : PS X st (tFz t) := ⟨fun pins s σ H D I ⟨d, u, hd, mu, q⟩ => let ⟨od, I2⟩ := I.lock hd mu; h.run pins s σ _ D I2 (q od)⟩
theorem Stp.frzAt {S H : Hp} {M : SH} {i : Nat} {d : Addr} {P : MRep} {u : HO} {od : Obj} (hi : M[i]? = some (d, P)) (e : Same S H) (m : MOk S H M) : Stp S H (upd S d (.frz od u)) (upd H d (.frz od u)) M (M.eraseIdx i) := by
  obtain ⟨hS, _⟩ := m.mem (a := d) (List.mem_map.mpr ⟨_, at_mem hi, rfl⟩)
  have pm := erase_perm hi
  have pq : (dm M).Perm (d :: dm (M.eraseIdx i)) := List.Perm.map (fun p : Addr × MRep => p.1) pm
  have nd : (d :: dm (M.eraseIdx i)).Nodup := (pq.nodup_iff).mp m.nd
  have out : d ∉ dm (M.eraseIdx i) := (List.nodup_cons.mp nd).1
  have sub : ∀ a ∈ dm (M.eraseIdx i), a ∈ dm M := fun a ha => (pq.mem_iff).mpr (List.mem_cons_of_mem _ ha)
  have dM : d ∈ dm M := List.mem_map.mpr ⟨_, at_mem hi, rfl⟩
  have sm : Same S (upd S d (.frz od u)) := fun b o q => by rw [upd_ne (fun z => by rw [z, hS] at q; cases q)]; exact q
  refine ⟨sm, fun b o q => ?_, fun b h1 h2 => ?_, fun b o h1 q => ?_, ⟨fun b Q hq => ?_, (List.nodup_cons.mp nd).2⟩, fun b hb => .inl (sub b hb)⟩
  · by_cases hb : b = d
    · subst hb; rw [upd_same] at q ⊢; exact q
    · rw [upd_ne hb] at q ⊢; exact e _ _ q
  · by_cases hb : b = d
    · subst hb; exact .inr dM
    · rw [upd_ne hb] at h2; exact absurd h1 h2
  · rw [upd_ne (fun z => h1 (by rw [z]; exact dM))]; exact q
  · have hb : b ≠ d := fun z => out (by rw [← z]; exact List.mem_map.mpr ⟨_, hq, rfl⟩)
    obtain ⟨z, o, q1, q2⟩ := m.at_ b Q (pm.symm.subset (List.mem_cons_of_mem _ hq))
    exact ⟨by rw [upd_ne hb]; exact z, o, by rw [upd_ne hb]; exact q1, Q.m sm q2⟩
section
variable {E : XK} {K : PySem.W.Frag} {Γ : Ct} {M : SH} {k : KR} {X : KX} {R R1 R2 : Rep} {te td tl : TE} {vs : List Nat} {D : EndT} {t u : TS} {tr : TA} {C : Addr}
theorem st_tFz {i j : Nat} {d x : Addr} {kvs : FR} {fs : FR} {f : Str} (hd : M[i]? = some (d, mDK kvs)) (hx : (M.eraseIdx i)[j]? = some (x, mObj C fs)) (hf : fs.lookup f = some (iRef d)) (h : St E t Γ ((M.eraseIdx i).set j (x, mObj C (putR f (iDF kvs) fs))) D) : St E (tFz t) Γ M D := fun σ S H D0 I o => by
  obtain ⟨_, ob, ho, vs, rfl, ok⟩ := I.m.at_ d (mDK kvs) (at_mem hd)
  refine ⟨d, .dK vs, ho, True.intro, fun od => ?_⟩
  have f1 := Stp.frzAt (od := od) (u := .dK vs) hd I.ex I.m
  have f2 := Stp.re (P' := mObj C (putR f (iDF kvs) fs)) hx f1.e f1.m fun o ⟨dx, ws, e, hi⟩ => ⟨dx, ws, e, hi.re (fun v p => by cases p; exact ⟨d, od, vs, rfl, upd_same, ok.mono f1.s⟩) hf⟩
  exact h σ _ _ D0 (I.step (f1.trans f2)) (o.step (f1.trans f2))
/-! ### what it tells -/
theorem DkOk.at {S : Hp} {kvs : FR} {ws : List (Key × V)} (h : DkOk S kvs ws) {i : Nat} {kv : Key} {v : V} (e : ws[i]? = some (kv, v)) : ∃ p, kvs[i]? = some p ∧ kv = .inr p.1 ∧ p.2.p S v := by
  have h1 : (ws.map (·.1))[i]? = some kv := by rw [List.getElem?_map, e]; rfl
  rw [h.nm, List.getElem?_map] at h1
  cases hp : kvs[i]? with
  | none => rw [hp] at h1; cases h1
  | some p =>
    rw [hp] at h1
    have h2 : (ws.map (·.2))[i]? = some v := by rw [List.getElem?_map, e]; rfl
    obtain ⟨r, h3, h4⟩ := h.al.getV h2
    rw [List.getElem?_map, hp] at h3
    have e3 := Option.some.inj h3
    exact ⟨p, rfl, (Option.some.inj h1).symm, by rw [← e3] at h4; exact h4⟩
theorem tip_keysF {kvs : FR} (h : Ep E td Γ M (iDF kvs)) : Tip E (iKeys td) Γ M kvs.length (fun i r => ∃ p, kvs[i]? = some p ∧ r = aStr p.1) := fun ki X q σ S H R I o ox =>
  h (fun R' M' => R' = iDF kvs ∧ M' = M) X ⟨rfl, rfl⟩ σ S H _ I (fun v S2 H2 R' M2 ⟨e1, e2⟩ st p => by
    subst e1; subst e2
    obtain ⟨d, od, ws, rfl, hd, ok⟩ := p
    refine ⟨d, od, rfl, .inl ⟨ws, st.e _ _ hd, o _ S2 H2 _ _ _ q st ⟨fun H => H d = some (.frz od (.dK ws)), fun i H x H' => H' = H ∧ ∃ kv v, ws[i]? = some (kv, v) ∧ x = L2.kV kv, ?_, fun Sx H e1 e2 => (e1.trans e2) _ _ hd, ?_⟩⟩⟩
    · have w := walk_keys (d := d) (o := od) (kvs := ws)
      rw [ok.len] at w
      exact w
    · rintro i H x H' hi ⟨rfl, kv, v, hw, rfl⟩ Sx Mx e1 e2 m
      obtain ⟨p, hp, rfl, _⟩ := ok.at hw
      exact ⟨Sx, _, Stp.refl e2 m, ⟨p, hp, rfl⟩, rfl⟩) ox
theorem tip_valsF {kvs : FR} (h : Ep E td Γ M (iDF kvs)) : Tip E (iVals td) Γ M kvs.length (fun i r => ∃ p, kvs[i]? = some p ∧ r = p.2) := fun ki X q σ S H R I o ox =>
  h (fun R' M' => R' = iDF kvs ∧ M' = M) X ⟨rfl, rfl⟩ σ S H _ I (fun v S2 H2 R' M2 ⟨e1, e2⟩ st p => by
    subst e1; subst e2
    obtain ⟨d, od, ws, rfl, hd, ok⟩ := p
    refine ⟨d, od, ws, rfl, st.e _ _ hd, o _ S2 H2 _ _ _ q st ⟨fun H => H d = some (.frz od (.dK ws)), fun i H x H' => H' = H ∧ ∃ kv, ws[i]? = some (kv, x), ?_, fun Sx H e1 e2 => (e1.trans e2) _ _ hd, ?_⟩⟩
    · have w := walk_values (d := d) (o := od) (kvs := ws)
      rw [ok.len] at w
      exact w
    · rintro i H x H' hi ⟨rfl, kv, hw⟩ Sx Mx e1 e2 m
      obtain ⟨p, hp, _, pv⟩ := ok.at hw
      exact ⟨Sx, _, Stp.refl e2 m, ⟨p, hp, rfl⟩, p.2.m e1 pv⟩) ox
end
/-! ### len, list of such a dict -/
def rLenF : List V → Hp → VK → Prop := fun xs H Q => ∃ a kvs, xs = [V.ref a] ∧ Rd H a (.dK kvs) ∧ Q (.int kvs.length) H
theorem call_lenF {X : Cx} : CallR X (.builtin "len") rLenF := fun pins s σ H xs us Q I r ⟨a, kvs, e, ha, q⟩ => by
  subst e
  obtain rfl := Vals.ref1 r
  exact d_len I ha fun t s' I' => ⟨.int kvs.length, H, I', ⟨t, rfl⟩, q⟩
end L3

namespace L3
open PySem PySem.Spec L2 RZ PyProof.Rows
/-! ### what the iterator over a dict's keys gives, at the level of its own body -/
section
variable {prog : Program} {w : World} {A : Around} {E : Value → Shared → Prop} {s : Shared} {it d : Addr} {od : Obj} {es : Array DictEntry} {ep i : Nat}
theorem keys_one {Q : Value → Shared → Prop} (hI : s.heap.IsKeyIter it d i es.size ep) (hO : s.heap.get? d = some od) (hD : od.data = .dict es ep) (hi : i < es.size)
    (q : ∀ h', h'.IsKeyIter it d (i + 1) es.size ep → Heap.SameBut it s.heap h' → Q es[i].key { s with heap := h' }) :
    wpAny (model prog w) A (Builtin.SmallTypes.nextOf (.ref it)) Q E s := by
  obtain ⟨o, ho, hc, hd⟩ := id hI
  unfold Builtin.SmallTypes.nextOf
  refine wpAny_bind (wpAny_callSpecial?_slot (name := Str.ofString "__next__") hI.typeIs F.slot_dict_keyiterator_next (wpAny_call_entry F.slot_dict_keyiterator_next hI.typeIs F.entry_dict_keyiterator_next ?_ (F.args_dict_keyiterator_next_1 _)))
  refine wpAny_bind (wpAny_pure ?_); refine wpAny_bind (wpAny_bind ?_)
  refine wpAny_bind (wpAny_typeNameOfWhole_keyiter hI.typeIs (wpAny_pure (wpAny_bind (wpAny_fieldsOf ho hd ?_))))
  have own : Builtin.Dict_items.ownsTuple "dict_keyiterator" = false := by decide
  simp only [own, Bool.false_eq_true, if_false]
  show wpAny _ _ (ite ((Value.ref d == Value.none) = true) _ _) _ _ s
  rw [if_neg (by exact Bool.false_ne_true : ¬ ((Value.ref d == Value.none) = true))]
  refine wpAny_bind (wpAny_pure (wpAny_bind (wpAny_dictEntries hO hD ?_)))
  rw [if_neg (by simp)]
  refine wpAny_bind (wpAny_pure (wpAny_bind (wpAny_dictEpoch hO hD ?_)))
  rw [if_neg (by simp)]; refine wpAny_pure ?_
  simp only [show ¬ ((i : Int) < 0) by omega, if_false, Int.toNat_natCast, Array.getElem?_eq_getElem hi]
  refine wpAny_bind (wpAny_bind (wpAny_typeNameOfWhole_keyiter hI.typeIs (wpAny_pure ?_)))
  refine wpAny_bind (wpAny_isOneOf_keyiter hI.typeIs ?_)
  show wpAny _ _ (setField (.ref it) 1 (rawInt ((i : Int) + 1)) >>= fun _ => _) _ _ s
  refine wpAny_bind (wpAny_setField ho hd (by simp) ?_)
  have nx : (s.heap.update it (Obj.mapFields (·.setIfInBounds 1 (rawInt ((i : Int) + 1))))).IsKeyIter it d (i + 1) es.size ep := by
    refine ⟨_, Heap.get?_update_self _ ho (Obj.isFreed_of_fields (Obj.data_mapFields hd _)), (Obj.cls_mapFields ..).trans hc, ?_⟩
    rw [Obj.data_mapFields hd]; simp [rawInt]
  refine wpAny_bind (wpAny_holding (wpAny_bind (wpAny_isOneOf_keyiter (s := { s with heap := s.heap.update it (Obj.mapFields (·.setIfInBounds 1 (rawInt ((i : Int) + 1)))) }) nx.typeIs ?_)))
  exact wpAny_pure (wpAny_pure ⟨es[i].key, rfl, wpAny_pure (q _ nx (Heap.SameBut.update ..))⟩)
theorem keys_none {Q : Value → Shared → Prop} (hh : A.handled = none) (hI : s.heap.IsKeyIter it d i es.size ep) (hO : s.heap.get? d = some od) (hD : od.data = .dict es ep) (hi : es.size ≤ i)
    (q : ∀ h' e, Heap.ExtBut it s.heap h' → (∃ o, h'.get? e = some o ∧ o.cls = .type "StopIteration") → E (.ref e) { s with heap := h' }) :
    wpAny (model prog w) A (Builtin.SmallTypes.nextOf (.ref it)) Q E s := by
  obtain ⟨o, ho, hc, hd⟩ := id hI
  unfold Builtin.SmallTypes.nextOf
  refine wpAny_bind (wpAny_callSpecial?_slot (name := Str.ofString "__next__") hI.typeIs F.slot_dict_keyiterator_next (wpAny_call_entry F.slot_dict_keyiterator_next hI.typeIs F.entry_dict_keyiterator_next ?_ (F.args_dict_keyiterator_next_1 _)))
  refine wpAny_bind (wpAny_pure ?_); refine wpAny_bind (wpAny_bind ?_)
  refine wpAny_bind (wpAny_typeNameOfWhole_keyiter hI.typeIs (wpAny_pure (wpAny_bind (wpAny_fieldsOf ho hd ?_))))
  have own : Builtin.Dict_items.ownsTuple "dict_keyiterator" = false := by decide
  simp only [own, Bool.false_eq_true, if_false]
  show wpAny _ _ (ite ((Value.ref d == Value.none) = true) _ _) _ _ s
  rw [if_neg (by exact Bool.false_ne_true : ¬ ((Value.ref d == Value.none) = true))]
  refine wpAny_bind (wpAny_pure (wpAny_bind (wpAny_dictEntries hO hD ?_)))
  rw [if_neg (by simp)]
  refine wpAny_bind (wpAny_pure (wpAny_bind (wpAny_dictEpoch hO hD ?_)))
  rw [if_neg (by simp)]; refine wpAny_pure ?_
  simp only [show ¬ ((i : Int) < 0) by omega, if_false, Int.toNat_natCast, Array.getElem?_eq_none hi]
  refine wpAny_bind (wpAny_bind (wpAny_typeNameOfWhole_keyiter hI.typeIs (wpAny_pure ?_)))
  show wpAny _ _ (setField (.ref it) 0 .none >>= fun _ => _) _ _ s
  refine wpAny_bind (wpAny_setField ho hd (by simp) ?_); show wpAny _ _ (newExc (.type "StopIteration") [] >>= fun _ => _) _ _ _
  refine wpAny_bind ?_; simp only [newExc, newTuple]
  refine wpAny_bind (wpAny_newObj_type ?_ (by size_fits)); refine wpAny_bind (m := firstArgMember _ _) (wpAny_of_eq (a := Value.none) (by first | rfl | (simp only [firstArgMember]; rfl)) ?_)
  refine wpAny_newObj_type ?_ (by size_fits); simp only [raiseNew]
  refine wpAny_bind (wpAny_handled ?_); rw [show A.in1.handled = none from hh]
  refine wpAny_bind (wpAny_pure (wpAny_throw (q _ _ (((Heap.SameBut.update ..).extBut.push _).push _) ⟨_, Heap.get?_push_size _ rfl, rfl⟩)))
theorem draws_keys (hh : A.handled = none) (it d : Addr) (hne : d ≠ it) (hD : od.data = .dict es ep) :
    Draws prog w A it [it, d] es.size (fun i v => ∃ en : DictEntry, es[i]? = some en ∧ v = en.key) (fun i h => h.IsKeyIter it d i es.size ep ∧ h.get? d = some od) where
  live := fun _ _ st => let ⟨o, ho, _⟩ := st.1; ⟨o, ho⟩
  frame := fun _ _ _ st k => ⟨st.1.at fun o e => k it (by simp) o e, k d (by simp) od st.2⟩
  item := fun i s Q E hi st q => keys_one st.1 st.2 hD hi fun h' h1 sb => q _ h' s.toks ⟨_, Array.getElem?_eq_getElem hi, rfl⟩ ⟨h1, (sb.2 d hne).trans st.2⟩ sb
  done := fun s Q E st q => keys_none hh st.1 st.2 hD (Nat.le_refl _) q
end
/-! ### zip of a dict's keys and a list -/
theorem pairs_key {prog : Program} {w : World} {κ : Type} [DecidableEq κ] {knd : KeyKind prog w κ} {es : List DictEntry} {kvs : List (κ × Value)} (h : Pairs knd es kvs) : ∀ {i : Nat} {en : DictEntry} {p : κ × Value}, es[i]? = some en → kvs[i]? = some p → knd.is p.1 en.key = true := by
  induction h with
  | nil => intro i en p h1; cases h1
  | cons a b c ih =>
    intro i en p h1 h2
    cases i with
    | zero => cases h1; cases h2; exact a
    | succ j => exact ih h1 h2
def ItzK (K : PySem.W.Frag) (d : Addr) (od : Obj) (kvs : List (Key × V)) (b : Addr) : It where
  go i H := H d = some (.frz od (.dK kvs)) ∧ i < kvs.length ∧ ∃ (ys : List V) (y : V), SqL K H b ys ∧ ys[i]? = some y
  yld i H v H' := ∃ T x y, v = .ref T ∧ H T = none ∧ H' = upd H T (.tup [x, y]) ∧ (kvs[i]?.map fun p => L2.kV p.1) = some x ∧ ∀ ys, SqL K H b ys → ys[i]? = some y
  stop i H := H d = some (.frz od (.dK kvs)) ∧ i ≤ kvs.length ∧ ∃ ys : List V, SqL K H b ys ∧ i ≤ ys.length ∧ (i = kvs.length ∨ i = ys.length)
theorem zsep {z TI TO i1 i2 d b : Addr} (D : ZipApart z TI TO i1 i2 d b) : ZipSep2 z TI TO i1 i2 [i1, d] [i2, b] where
  TIz := D.TIz
  TOz := D.TOz
  TITO := D.TITO
  TIi1 := D.TIi1
  mem1 := by simp
  zf1 := by simp [D.i1z.symm, D.l1z.symm]
  Tf1 := by simp [D.TOi1, D.l1TO.symm]
  TIi2 := D.TIi2
  mem2 := by simp
  zf2 := by simp [D.i2z.symm, D.l2z.symm]
  Tf2 := by simp [D.TOi2, D.l2TO.symm]
  sep1_2 := by simp [D.i12, D.l2i1.symm]
  sep2_1 := by simp [D.i12.symm, D.l1i2.symm]
theorem five {z TI TO i1 i2 c : Addr} (h : c ∈ [z, TI, TO, i1, i2]) : c = z ∨ c = TI ∨ c = TO ∨ c = i1 ∨ c = i2 := by simpa using h
theorem turn_zipK {P : Program} {w : World} {K : PySem.W.Frag} {elts : List Expr} {kk : Nat} {tpos : Pos} {d b z TI TO i1 i2 : Addr} {od : Obj} {es : Array DictEntry} {ep : Nat} {kvs : List (Key × V)} (hD : od.data = .dict es ep) (D : ZipApart z TI TO i1 i2 d b) :
    Turn P w K (.Tuple elts kk tpos) (ItzK K d od kvs b) [z, TI, TO, i1, i2] z (fun i h => IsZip h z TI TO .none ∧ IsTupOf2 h TI (.ref i1) (.ref i2) ∧ (∃ x y, IsTupOf2 h TO x y) ∧ h.IsKeyIter i1 d i es.size ep ∧ h.IsListIter i2 b i) := by
  refine ⟨by simp, fun i h st c hc => ?_, fun i h h' st k => ?_, ?_, ?_, fun A i s Q E st q => wpAny_pyIter_zip st.1 q⟩
  · obtain ⟨hz, hTI, ⟨x, y, hTO⟩, ⟨o1, e1, _, d1⟩, ⟨o2, e2, _, d2⟩⟩ := st
    rcases five hc with rfl | rfl | rfl | rfl | rfl
    · exact ⟨_, hz, fun v q => (nomatch q)⟩
    · exact ⟨_, hTI, fun v q => (nomatch q)⟩
    · exact ⟨_, hTO, fun v q => (nomatch q)⟩
    · exact ⟨o1, e1, fun v q => by rw [d1] at q; cases q⟩
    · exact ⟨o2, e2, fun v q => by rw [d2] at q; cases q⟩
  · obtain ⟨hz, hTI, ⟨x, y, hTO⟩, h1, h2⟩ := st
    exact ⟨k z (by simp) _ hz, k TI (by simp) _ hTI, ⟨x, y, k TO (by simp) _ hTO⟩, h1.at fun o => k i1 (by simp) o, h2.at fun o => k i2 (by simp) o⟩
  · rintro X rfl rfl rfl hc i pins s σ H E I hf ⟨hz, hTI, ⟨x0, y0, hTO⟩, h1, h2⟩ ⟨hd, hi, ys, y, hq, hy⟩
    obtain ⟨_, hgd, _, es', ep', vs, hdt, hsz, kv, hm⟩ := I.frzK hd
    obtain ⟨rfl, rfl⟩ := dict_ep hD hdt
    obtain ⟨its, rv, pl, _⟩ := I.list hq
    obtain ⟨u, hu, ru⟩ := rv.get hy
    have hh : X.A.in1.handled = none := I.ok.hd hc
    have l2 : i < its.toArray.size := by
      have := (List.getElem?_eq_some_iff.mp hu).1
      simpa using this
    have hzl : z < s.heap.objs.size := Heap.lt_size hz
    refine wpAny_pyNext_zipD2_item (zsep D) (draws_keys hh i1 d D.l1i1 hD) (Draws.list hh i2 b D.l2i2 its.toArray) hz hTI hTO ⟨h1, hgd⟩ ⟨h2, pl.isList⟩ (by omega) l2 fun x1 x2 h' tk hx1 hx2 z' TO' s1 s2 hT hs' hk => ?_
    obtain ⟨en, he, rfl⟩ := hx1
    have ex2 : u = x2 := by
      rw [show its.toArray[i]? = some u by simpa using hu] at hx2
      exact Option.some.inj hx2
    subst ex2
    have hkey : ∃ k, (kvs[i]?.map fun p => L2.kV p.1) = some (L2.kV k) ∧ RelV (L2.kV k) en.key := by
      obtain ⟨o', es2, ho', _, hd', _, pr, _⟩ := hm
      rw [hgd] at ho'
      cases ho'
      obtain ⟨rfl, _⟩ := dict_ep hD hd'
      obtain ⟨⟨k, v⟩, hkv⟩ : ∃ p, kvs[i]? = some p := ⟨kvs[i], List.getElem?_eq_getElem hi⟩
      obtain ⟨u', hu', _⟩ := kv_get kv hkv
      exact ⟨k, by rw [hkv]; rfl, relV_key (pairs_key pr (by rw [Array.getElem?_toList]; exact he) hu')⟩
    obtain ⟨k, ek, rk⟩ := hkey
    refine ⟨_, rfl, wpAny_letOwnedTupleGo_zip (s := { s with heap := h', toks := tk }) z' fun h'' z'' sb => ?_⟩
    have hT2 := (sb.2 s.heap.objs.size (Nat.ne_of_gt hzl)).trans hT
    have fresh : H s.heap.objs.size = none := I.hok.fresh (Nat.le_refl _)
    have I1 : Inv X pins σ (upd H s.heap.objs.size (.tup [L2.kV k, y])) { s with heap := h'', toks := tk } :=
      I.turnedNew (ch := [z, TI, TO, i1, i2]) (fun c o hb q => by
        have n : c ≠ z ∧ c ≠ TI ∧ c ≠ TO ∧ c ≠ i1 ∧ c ≠ i2 := by simpa using hb
        exact (sb.2 c n.1).trans (hk c o n.1 n.2.2.1 n.2.2.2.1 n.2.2.2.2 q)) hf (Nat.le_refl _) ⟨by show 2 ≤ sizeLine; decide, [en.key, u], .cons rk (.cons ru .nil), ⟨_, hT2, rfl, _, rfl⟩⟩
    refine ⟨.ref s.heap.objs.size, _, I1, rfl, ⟨_, _, y, rfl, fresh, rfl, ek, fun l hl => by rw [I.list_inj hl hq]; exact hy⟩, ⟨z'', (sb.2 _ D.TIz).trans (hk _ _ D.TIz D.TITO D.TIi1 D.TIi2 hTI), ⟨_, _, (sb.2 _ D.TOz).trans TO'⟩, s1.1.at fun o q => (sb.2 _ D.i1z).trans q, s2.1.at fun o q => (sb.2 _ D.i2z).trans q⟩, fun c hc => ?_⟩
    have hlt : c < s.heap.objs.size := by
      rcases five hc with rfl | rfl | rfl | rfl | rfl
      · exact hzl
      · exact Heap.lt_size hTI
      · exact Heap.lt_size hTO
      · exact let ⟨_, e, _⟩ := h1; Heap.lt_size e
      · exact let ⟨_, e, _⟩ := h2; Heap.lt_size e
    rw [upd_ne (Nat.ne_of_lt hlt)]
    exact (hf c hc).1
  · rintro X rfl rfl rfl hc i pins s σ H E I hf ⟨hz, hTI, ⟨x0, y0, hTO⟩, h1, h2⟩ ⟨hd, hi, ys, hq, hle, hend⟩
    obtain ⟨_, hgd, _, es', ep', vs, hdt, hsz, kv, hm⟩ := I.frzK hd
    obtain ⟨rfl, rfl⟩ := dict_ep hD hdt
    obtain ⟨its, rv, pl, _⟩ := I.list hq
    have hh : X.A.in1.handled = none := I.ok.hd hc
    have l2 : ys.length = its.toArray.size := by simpa using rv.length
    exact wpAny_pyNext_zipD2_end (zsep D) (draws_keys hh i1 d D.l1i1 hD) (Draws.list hh i2 b D.l2i2 its.toArray) hz hTI hTO ⟨h1, hgd⟩ ⟨h2, pl.isList⟩ (by omega) (by omega) (by omega) fun h' tk hk =>
      ⟨rfl, I.turnedL (t' := tk) (ch := [z, TI, TO, i1, i2]) (fun c o hb q => by
        have n : c ≠ z ∧ c ≠ TI ∧ c ≠ TO ∧ c ≠ i1 ∧ c ≠ i2 := by simpa using hb
        exact hk c o n.1 n.2.2.1 n.2.2.2.1 n.2.2.2.2 q) hf⟩
abbrev zk1 (h : Heap) (d n ep : Nat) : Heap := h.push { cls := .type "dict_keyiterator", data := .fields #[.ref d, .int 0 0, .int n 0, .int ep 0] }
abbrev zk2 (h : Heap) (d n ep b : Nat) : Heap := (zk1 h d n ep).push { cls := .type "list_iterator", data := .fields #[.ref b, .int 0 0] }
abbrev zk3 (h : Heap) (d n ep b : Nat) : Heap := (zk2 h d n ep b).push { cls := .type "tuple", data := .seq #[.ref h.objs.size, .ref (zk1 h d n ep).objs.size] }
abbrev zk4 (h : Heap) (d n ep b : Nat) : Heap := (zk3 h d n ep b).push { cls := .type "tuple", data := .seq #[.none, .none] }
abbrev zk5 (h : Heap) (d n ep b : Nat) : Heap := (zk4 h d n ep b).push { cls := .type "zip", data := .fields #[.none, .bool false, .bool false, .ref (zk2 h d n ep b).objs.size, .ref (zk3 h d n ep b).objs.size] }
theorem new_zipK (d b : Addr) (od : Obj) (es : Array DictEntry) (ep : Nat) (ys : Array Value) (hs : (d == sysModules) = false) (hx : od.ExactDict) (hD : od.data = .dict es ep) :
    Meets (Builtin.«zip.__new__» ⟨[.type "zip", .ref d, .ref b], []⟩) (fun _ R s => s.heap.get? d = some od ∧ s.heap.IsList b ys ∧ R (.ok (.ret (.ref (zk4 s.heap d es.size ep b).objs.size))) { s with heap := zk5 s.heap d es.size ep b }) :=
  .of_wp fun prog w A R ⟨hp, g, dr, tk, os⟩ ⟨h1, h2, h⟩ => by
    have hsub := sub_zip
    have q1 : (Shared.heap ⟨hp, g, dr, tk, os⟩).get? d = some od := h1
    have q2 : Heap.IsList (Shared.heap ⟨zk1 hp d es.size ep, g, dr, tk, os⟩) b ys := Heap.IsList.push h2 _
    wp_walk using iter_keys hs q1 hx hD, wpAny_pyIter_list q2
    exact ⟨_, rfl, h⟩
theorem call_zipK {prog : Program} {w : World} {A : Around} {E : Value → Shared → Prop} {s : Shared} {d b : Addr} {od : Obj} {es : Array DictEntry} {ep : Nat} {ys : Array Value} {Q : Value → Shared → Prop} (hs : (d == sysModules) = false) (ho : s.heap.get? d = some od) (hx : od.ExactDict) (hD : od.data = .dict es ep) (hb : s.heap.IsList b ys)
    (h : ∀ h', IsZip h' (s.heap.objs.size + 4) (s.heap.objs.size + 2) (s.heap.objs.size + 3) .none → IsTupOf2 h' (s.heap.objs.size + 2) (.ref s.heap.objs.size) (.ref (s.heap.objs.size + 1)) → IsTupOf2 h' (s.heap.objs.size + 3) .none .none →
      h'.IsKeyIter s.heap.objs.size d 0 es.size ep → h'.IsListIter (s.heap.objs.size + 1) b 0 → (∀ c o, s.heap.get? c = some o → h'.get? c = some o) → Q (.ref (s.heap.objs.size + 4)) { s with heap := h' }) :
    wpAny (model prog w) A (call (.type "zip") [.ref d, .ref b]) Q E s := by
  refine callType_new F.called_zip (by decide) (F.typeCall_zip_2 _ _) (F.newCall_zip_2 _ _) (fun obj => F.args_object_init_3 obj _ _) F.entry_zip_new (new_zipK d b od es ep ys hs hx hD) ⟨ho, hb, ?_⟩
  have up : ∀ {g : Heap} {x : Obj} {c : Addr} {o : Obj}, g.get? c = some o → (g.push x).get? c = some o := fun q => Heap.get?_push_of_some _ q
  have z1 : (zk1 s.heap d es.size ep).objs.size = s.heap.objs.size + 1 := Heap.size_push ..
  have z2 : (zk2 s.heap d es.size ep b).objs.size = s.heap.objs.size + 2 := by rw [Heap.size_push, z1]
  have z3 : (zk3 s.heap d es.size ep b).objs.size = s.heap.objs.size + 3 := by rw [Heap.size_push, z2]
  have z4 : (zk4 s.heap d es.size ep b).objs.size = s.heap.objs.size + 4 := by rw [Heap.size_push, z3]
  have g5 : (zk5 s.heap d es.size ep b).get? (zk4 s.heap d es.size ep b).objs.size = some _ := Heap.get?_push_size _ rfl
  have g4 : (zk5 s.heap d es.size ep b).get? (zk3 s.heap d es.size ep b).objs.size = some _ := up (Heap.get?_push_size _ rfl)
  have g3 : (zk5 s.heap d es.size ep b).get? (zk2 s.heap d es.size ep b).objs.size = some _ := up (up (Heap.get?_push_size _ rfl))
  have g2 : (zk5 s.heap d es.size ep b).get? (zk1 s.heap d es.size ep).objs.size = some _ := up (up (up (Heap.get?_push_size _ rfl)))
  have g1 : (zk5 s.heap d es.size ep b).get? s.heap.objs.size = some _ := up (up (up (up (Heap.get?_push_size _ rfl))))
  show _ ∧ _
  rw [z2, z3, z4] at g5; rw [z1, z2] at g3; rw [z3] at g4; rw [z1] at g2; rw [z4]
  exact ⟨⟨_, g5, rfl⟩, h _ g5 g3 g4 ⟨_, g1, rfl, rfl⟩ ⟨_, g2, rfl, rfl⟩ fun c o q => up (up (up (up (up q))))⟩
def iZipK (K : PySem.W.Frag) (ta : TA) : TI := fun σ H R => ta σ H fun vs H1 => ∃ d b od kvs ys, vs = [.ref d, .ref b] ∧ H1 d = some (.frz od (.dK kvs)) ∧ SqL K H1 b ys ∧ R (ItzK K d od kvs b) H1
theorem pi_zipK {X : Cx} {e e2 : Expr} {ta : TA} {p pos tpos : Pos} {elts : List Expr} {kk : Nat} (hg : Gl X "zip") (hm : X.mg "zip" = none) (ha : PA X [e, e2] ta)
    (hs : starEach [e, e2] X.env = (false, eval e X.env) :: starEach [e2] X.env := by rfl) (hpl : (backTo pos (starEach [e2] X.env)).any (·.1) = false := by rfl) :
    PI X (.Tuple elts kk tpos) (.Call (.Name "zip" p) [e, e2] [] pos) (iZipK X.K ta) := by
  refine ⟨fun pins s σ H R I h => Call_ (ld_blt I hg hm boot_zip (callWith_type1 (thn (ha.run pos pins s σ H _ I h) fun us s1 ⟨vs, H1, I1, r1, d, b, od, kvs, ys, ex, hd, hq, q⟩ => ?_) hs hpl))⟩
  subst ex
  cases r1 with | cons r rr =>
  cases rr with | cons r' rr =>
  cases rr; cases r; cases r'
  obtain ⟨hsy, hgd, hx, es, ep, vs, hdt, hsz, kv, hm⟩ := I1.frzK hd
  obtain ⟨its, rv, pl, _⟩ := I1.list hq
  refine call_zipK hsy hgd hx hdt pl.isList fun h' hz hTI hTO h1 h2 hk => wpAny_pyIter_zip hz ?_
  have I2 : Inv X pins σ H1 { s1 with heap := h' } := I1.kept (t' := s1.toks) hk
  refine ⟨s1.heap.objs.size + 4, [s1.heap.objs.size + 4, s1.heap.objs.size + 2, s1.heap.objs.size + 3, s1.heap.objs.size, s1.heap.objs.size + 1], _, _, H1, rfl, I2, turn_zipK hdt (PySem.W.ktu_apart s1.heap.objs.size d b (Heap.lt_size hgd) pl.lt), ⟨hz, hTI, ⟨_, _, hTO⟩, h1, h2⟩, fun c hc => ?_, q⟩
  have hle : s1.heap.objs.size ≤ c := by
    rcases five hc with e | e | e | e | e <;> rw [e]
    · exact Nat.le_add_right _ _
    · exact Nat.le_add_right _ _
    · exact Nat.le_add_right _ _
    · exact Nat.le_refl _
    · exact Nat.le_add_right _ _
  exact I1.fpOk hle (I1.hok.fresh hle)
theorem walk_zipK {K : PySem.W.Frag} {d b : Addr} {od : Obj} {kvs : List (Key × V)} {ys : List V} {n : Nat} (hn : n = min kvs.length ys.length) : Walk (ItzK K d od kvs b) n (fun H => H d = some (.frz od (.dK kvs)) ∧ SqL K H b ys) (YPair (fun i => kvs[i]?.map fun p => L2.kV p.1) (fun i => ys[i]?)) := by
  subst hn
  refine ⟨fun i _ hi q => ⟨q.1, by omega, ys, ys[i]'(by omega), q.2, List.getElem?_eq_getElem _⟩, fun _ q => ⟨q.1, by omega, ys, q.2, by omega, by omega⟩, fun i H v H' _ q y => ?_⟩
  obtain ⟨T, x, z, h1, h2, h3, h4, h5⟩ := y
  exact ⟨T, x, z, h1, h2, h3, h4, h5 ys q.2⟩
section
variable {E : XK} {K : PySem.W.Frag} {Γ : Ct} {M : SH} {k : KR} {X : KX} {R R1 R2 : Rep} {te ta tb tl td : TE} {vs : List Nat} {D : EndT} {t u : TS} {tr : TA} {C : Addr}
theorem tip_zipK {kvs : FR} {rl : List Rep} {n : Nat} (h : Ep E ta Γ M (iDF kvs)) (h' : Ep E tb Γ M (iLst rl)) (hn : n = min kvs.length rl.length) : Tip E (iZipK K (tCons ta (tCons tb tNil))) Γ M n (fun i r => ∃ q1 q2, (∃ p, kvs[i]? = some p ∧ q1 = aStr p.1) ∧ rl[i]? = some q2 ∧ r = aTup K [q1, q2]) := fun ki X q σ S H R I o ox =>
  eap_cons h (eap_cons h' eap_nil) (fun Rs M' => Rs = [iDF kvs, iLst rl] ∧ M' = M) X ⟨rfl, rfl⟩ σ S H _ I (fun xs S2 H2 Rs M2 ⟨e1, e2⟩ st p => by
    subst e1; subst e2
    obtain ⟨v, w, rfl, p1, p2⟩ := all2_2 p
    obtain ⟨d, od, ws, rfl, hd, ok⟩ := p1
    obtain ⟨a, ys, rfl, ha, al⟩ := p2
    refine ⟨d, a, od, ws, ys, rfl, st.e _ _ hd, SqL.of (st.e _ _ ha), o _ S2 H2 _ _ _ q st ?_⟩
    have w := walk_zipK (K := K) (d := d) (b := a) (od := od) (kvs := ws) (ys := ys) (n := n) (by rw [ok.len, al.len]; exact hn)
    refine tw_pair w (fun Sx H e1 e2 => ⟨(e1.trans e2) _ _ hd, SqL.of ((e1.trans e2) _ _ ha)⟩) (fun i x hi hx => ?_) (fun i x hi hx => al.getV hx)
    cases hw : ws[i]? with
    | none => rw [hw] at hx; cases hx
    | some p =>
      rw [hw] at hx
      obtain ⟨q, hq, e, _⟩ := ok.at (kv := p.1) (v := p.2) hw
      refine ⟨aStr q.1, ⟨q, hq, rfl⟩, ?_⟩
      have : x = L2.kV p.1 := (Option.some.inj hx).symm
      rw [this, e]
      rfl) ox
end
end L3

namespace L3
open PySem PySem.Spec L2 RZ PyProof.Rows
section
variable {E : XK} {K : PySem.W.Frag} {Γ : Ct} {M : SH} {k : KR} {X : KX} {R R1 R2 : Rep} {te ta tb tc tl tv : TE} {vs : List Nat} {D : EndT} {t u : TS} {c tt : TT} {tr tk : TA} {C : Addr} {f : Str} {wi : TI}
/-! ### a method that changes what is there -/
theorem ev_methM {m : Str} {ts : TSp} (h : Ev E ta Γ M (fun R M1 => ∃ fs, HasO M1 R C fs ∧ fs.lookup m = none ∧ Ea E tr Γ M1 (fun Rs M2 => ∃ Rs', LeS (R :: Rs) Rs' ∧ ts Rs' M2 k X0) X) X) : Ev E (tMeth C m (spT ts) [] E0 ta tr) Γ M k X := fun σ S H Q I o ox =>
  h σ S H _ I (fun v S1 H1 R M1 ⟨fs, ho, hm, q⟩ st p => by
    obtain ⟨a, dx, vs, e, ha, hi⟩ := ho.get st.e st.m p
    refine ⟨a, dx, vs, e, ha, (hi.look m).1 hm, q σ S1 H1 _ (I.step st) (fun xs S2 H2 Rs M2 ⟨Rs', le, q2⟩ st2 p2 => ?_) (ox.step st)⟩
    rw [List.append_nil]
    exact ⟨S2, Rs', M2, k, X0, q2, st2.e, st2.m, le S2 (v :: xs) ⟨R.m st2.s p, p2⟩, o.step (st.trans st2), fun _ _ _ _ _ _ z => z.elim⟩) ox
theorem ev_makeN {n m : Nat} {sp : List Rep → (FR → Prop) → Prop} {gV : List V → List V → List V} {gR : List Rep → List Rep → List Rep} (hg : ∀ S (R : Rep) Rs Zs v vs zs, R.p S v → All2 S Rs vs → All2 S Zs zs → All2 S (R :: gR Rs Zs) (gV (v :: vs) zs))
    (h : Ea E tr Γ M (fun Rs M1 => Rs.length = n ∧ Ea E tk Γ M1 (fun Zs M2 => Zs.length = m ∧ ∃ Rs', LeS (gR Rs Zs) Rs' ∧ sp Rs' fun fs => k (iObj C fs) M2) X) X) : Ev E (tMakeN C n m (spT (initK C sp)) gV E0 tr tk) Γ M k X := fun σ S H Q I o ox =>
  h σ S H _ I (fun vs S0 H0 Rs M0 ⟨e1, q⟩ st0 p => q σ S0 H0 _ (I.step st0) (fun zs S1 H1 Zs M1 ⟨e2, Rs', le, q⟩ st1 p2 => ⟨p.len.trans e1, p2.len.trans e2, fun x dx hx hdx hne => by
    have st := st0.trans st1
    have s1 := Stp.newS (o := .own x) st.e st.m hdx
    have hx1 : upd H1 dx (.own x) x = none := by rw [upd_ne (Ne.symm hne)]; exact hx
    have s2 := Stp.newM (P := mObj C []) (o := .ins C dx []) s1.e s1.m hx1 ⟨dx, [], rfl, rfl, True.intro⟩
    have st2 := (st.trans s1).trans s2
    have pm : (M1 ++ [(x, mObj C [])]).Perm ([(x, mObj C [])] ++ M1) := List.perm_append_comm
    have al := hg _ (iRef x) Rs Zs (.ref x) vs zs rfl ((p.mono st1.s).mono s1.s) (p2.mono s1.s)
    have al2 : ∃ xs, gV (.ref x :: vs) zs = .ref x :: xs ∧ All2 (upd S1 dx (.own x)) (gR Rs Zs) xs := by
      generalize gV (.ref x :: vs) zs = ys at al
      match ys, al with
      | [], al => exact al.elim
      | y :: ys, al => exact ⟨ys, by rw [show y = .ref x from al.1], al.2⟩
    obtain ⟨xs, ex, al3⟩ := al2
    rw [ex]
    refine spT_in (ts := initK C sp) (Mf := [(x, mObj C [])]) (Fr := M1) (Rs := iRef x :: Rs') (X := X0) (k := fun R' M' => R' = iNon ∧ ∃ fs, M' = [(x, mObj C fs)] ++ M1 ∧ k (iObj C fs) M1) ⟨x, Rs', rfl, rfl, _, q, fun fs z => ⟨rfl, fs, rfl, z⟩⟩ s2.e (st2.m.perm pm) ⟨rfl, le _ _ al3⟩ (fun w S3 H3 R3 M3 ⟨e3, fs, e4, q3⟩ st3 p3 => ?_) (fun _ _ _ _ _ _ z => z.elim)
    subst e3
    subst e4
    cases p3
    obtain ⟨_, ob, ho, dx', vs', rfl, hi⟩ := st3.m.at_ x (mObj C fs) (by simp)
    have fz := Stp.fz (A := []) (B := M1) (P := mObj C fs) st3.e st3.m ho
    exact ⟨rfl, o (.ref x) _ H3 (iObj C fs) M1 q3 ((st2.trans (st3.permL pm)).trans fz) ⟨x, dx', vs', rfl, upd_same, hi.mono fz.s⟩⟩⟩) (ox.step st0)) ox
/-! ### dicts: list, len, whether there is none -/
theorem hd_f {kvs : FR} : HasD M (iDF kvs) kvs := .inl rfl
theorem hd_m {kvs : FR} {a : Addr} {i : Nat} (h : M[i]? = some (a, mDK kvs)) : HasD M (iRef a) kvs := .inr ⟨a, i, rfl, h⟩
theorem k_hd {kvs : FR} {P : FR → Prop} (h : HasD M R kvs) (q : P kvs) : ∃ kvs', HasD M R kvs' ∧ P kvs' := ⟨kvs, h, q⟩
theorem k_hg {z : Str} {kvs : FR} {Rf : Rep} {P : Rep → Prop} (h : HasD M R kvs) (hl : kvs.lookup z = some Rf) (q : P Rf) : ∃ z' kvs', aStr z = aStr z' ∧ HasD M R kvs' ∧ ∃ Rf, kvs'.lookup z' = some Rf ∧ P Rf := ⟨z, kvs, rfl, h, Rf, hl, q⟩
theorem k_rd {P : Prop} (q : P) : ∃ Rd : Rep, Rd = R ∧ P := ⟨R, rfl, q⟩
theorem c_lenD {kvs : FR} (h : HasD M R kvs) : Olp rLenF [R] M (iInt kvs.length) := ol_val fun xs S H e m p => by
  obtain ⟨v, rfl, p1⟩ := all2_1 p
  obtain ⟨a, ws, rfl, hr, ok⟩ := h.get e m p1
  exact ⟨_, rfl, fun Q q => ⟨a, ws, rfl, hr, by rw [ok.len]; exact q⟩⟩
def rListK : List V → Hp → VK → Prop := fun xs H Q => ∃ (a : Addr) (kvs : List (Key × V)), xs = [.ref a] ∧ Rd H a (.dK kvs) ∧ ∀ p, H p = none → Q (.ref p) (upd H p (.lst (kvs.map fun kv => L2.kV kv.1)))
theorem call_listK {X : Cx} (hc : X.calm = true) : CallR X (.type "list") rListK := call_listD hc
theorem c_listK {kvs : FR} (h : HasD M R kvs) : Olp rListK [R] M (iLst (kvs.map fun p => aStr p.1)) := ol_newL fun xs S H e m p => by
  obtain ⟨v, rfl, p1⟩ := all2_1 p
  obtain ⟨a, ws, rfl, hr, ok⟩ := h.get e m p1
  refine ⟨ws.map fun kv => L2.kV kv.1, ?_, fun Q q => ⟨a, ws, rfl, hr, q⟩⟩
  have gen : ∀ (kvs : FR) (ws : List (Key × V)), ws.map (·.1) = kvs.map (fun p => (Sum.inr p.1 : Key)) → All2 S (kvs.map fun p => aStr p.1) (ws.map fun kv => L2.kV kv.1) := by
    intro kvs
    induction kvs with
    | nil => intro ws e; cases ws with
      | nil => exact True.intro
      | cons _ _ => simp at e
    | cons p kvs ih => intro ws e; cases ws with
      | nil => simp at e
      | cons w ws =>
        simp at e
        refine ⟨?_, ih ws (by simpa using e.2)⟩
        show L2.kV w.1 = _
        rw [e.1]
        rfl
  exact gen kvs ws ok.nm
def tDE : TE := tDNewK
theorem pe_dE {X : Cx} {pos : Pos} : PE X (.Dict [] [] pos) tDE := pe_dnewK
def iDE : Rep := ⟨fun S v => ∃ a, v = .ref a ∧ S a = some (.dK []), fun e ⟨a, h1, h2⟩ => ⟨a, h1, e _ _ h2⟩⟩
theorem ev_dE (h : k iDE M) : Ev E tDE Γ M k X := fun σ S H Q I o ox p hp =>
  o (.ref p) (upd S p (.dK [])) _ iDE M h (Stp.newS I.ex I.m hp) ⟨p, rfl, upd_same⟩
def rNeE : L2.R2 := fun x y H Q => ∃ a b ks, x = .ref a ∧ y = .ref b ∧ Rd H a (.dK ks) ∧ Rd H b (.dK []) ∧ Q (.bl (!ks.isEmpty)) H
theorem op_neE {X : Cx} (hu : X.A.units < cLine) : OpR X (compareOp .NotEq) rNeE := by
  intro pins s σ H x y v u Q I rx ry h
  obtain ⟨a, b, ks, rfl, rfl, ea, eb, q⟩ := h
  obtain rfl : v = Value.ref a := rx
  obtain rfl : u = Value.ref b := ry
  obtain ⟨_, ya, va, ra, da⟩ := dk_rd I.hok ea
  obtain ⟨_, yb, vb, rb, db⟩ := dk_rd I.hok eb
  have lb : vb.length = 0 := by rw [← rb.length]; rfl
  have la : va.length = ks.length := by rw [← ra.length]
  refine PySem.W.keq_ne (knd := mixKind X.prog X.w) (r := true) ya yb da db hu (fun hl => hits_all rb ra fun p hp => ?_) (fin_bl I q ?_)
  · have : ks.length = 0 := by omega
    rw [List.length_eq_zero_iff.mp this] at hp
    cases hp
  · rw [lb, la]
    cases ks <;> rfl
theorem o_neE {kvs : FR} (h : HasD M R kvs) : O2p rNeE R iDE M (iBl (!kvs.isEmpty)) := o2_val fun x y S H e m p1 p2 => by
  obtain ⟨a, ws, rfl, hr, ok⟩ := h.get e m p1
  obtain ⟨b, rfl, hb⟩ := p2
  have el : ws.isEmpty = kvs.isEmpty := by
    have := ok.len
    cases ws <;> cases kvs <;> simp_all
  exact ⟨_, rfl, fun Q q => ⟨a, b, ws, rfl, rfl, hr, .inl (e _ _ hb), by rw [el]; exact q⟩⟩
/-! ### dicts: stores, displays -/
def putD (kvs : FR) (z : Str) (R : Rep) : FR := if (kvs.lookup z).isSome then kvs.map (fun p => if p.1 = z then (p.1, R) else p) else kvs ++ [(z, R)]
theorem DkOk.put {S : Hp} {kvs : FR} {ws : List (Key × V)} (h : DkOk S kvs ws) {z : Str} {R : Rep} {v : V} (p : R.p S v) : DkOk S (putD kvs z R) (putK ws (.inr z) v) := by
  have e : (valV ws (.inr z)).isSome = (kvs.lookup z).isSome := by
    cases hl : kvs.lookup z with
    | none => rw [(h.look z).1 hl]; rfl
    | some R => obtain ⟨w, hw, _⟩ := (h.look z).2 R hl; rw [hw]; rfl
  unfold putD putK
  rw [valV_any, e]
  cases (kvs.lookup z).isSome with
  | true =>
    rw [if_pos rfl, if_pos rfl]
    have gen : ∀ (kvs : FR) (ws : List (Key × V)), ws.map (·.1) = kvs.map (fun p => (Sum.inr p.1 : Key)) → All2 S (kvs.map (·.2)) (ws.map (·.2)) → DkOk S (kvs.map fun p => if p.1 = z then (p.1, R) else p) (ws.map fun kv => if kv.1 = Sum.inr z then (kv.1, v) else kv) := by
      intro kvs
      induction kvs with
      | nil => intro ws e al; cases ws with
        | nil => exact ⟨rfl, True.intro⟩
        | cons _ _ => simp at e
      | cons q kvs ih => intro ws e al; cases ws with
        | nil => simp at e
        | cons w ws =>
          simp at e
          obtain ⟨w1, w2⟩ := w
          obtain ⟨q1, q2⟩ := q
          obtain ⟨rfl, e2⟩ := e
          have ih2 := ih ws (by simpa using e2) al.2
          by_cases hq : q1 = z
          · subst hq
            refine ⟨?_, ?_⟩
            · simp only [List.map_cons, if_true]
              rw [ih2.nm]
            · simp only [List.map_cons, if_true]
              exact ⟨p, ih2.al⟩
          · have hq2 : ¬ (Sum.inr q1 : Key) = Sum.inr z := fun e => hq (Sum.inr.inj e)
            refine ⟨?_, ?_⟩
            · simp only [List.map_cons, if_neg hq, if_neg hq2]
              rw [ih2.nm]
            · simp only [List.map_cons, if_neg hq, if_neg hq2]
              exact ⟨al.1, ih2.al⟩
    exact gen kvs ws h.nm h.al
  | false =>
    rw [if_neg Bool.false_ne_true, if_neg Bool.false_ne_true]
    refine ⟨by simp [h.nm], ?_⟩
    rw [List.map_append, List.map_append]
    exact h.al.app (All2.one p)
theorem putD_len (kvs : FR) (z : Str) (R : Rep) : (putD kvs z R).length ≤ kvs.length + 1 := by
  unfold putD; split <;> simp
theorem putD_new {kvs : FR} {z : Str} {R : Rep} (h : kvs.lookup z = none) : putD kvs z R = kvs ++ [(z, R)] := by
  unfold putD; rw [h]; rfl
/-- d[z] = R -/
theorem tg_putD {to ti : TE} {kc : KC} (h : Ev E0 to Γ M (fun R1 M1 => ∃ d, R1 = iRef d ∧ Ev E0 ti Γ M1 (fun R2 M2 => ∃ (z : Str) (i : Nat) (kvs : FR), R2 = aStr z ∧ M2[i]? = some (d, mDK kvs) ∧ kvs.length < 1000000 ∧ kc Γ (M2.set i (d, mDK (putD kvs z R)))) X0) X0) : Tg (gSub to ti rSetD) R Γ M vs kc := fun v σ S H Q I p o => by
  refine h σ S H _ I (fun x S1 H1 R1 M1 ⟨d, e, q⟩ st p1 => ?_) (fun _ _ _ _ _ _ z => z.elim)
  subst e
  cases p1
  refine q σ S1 H1 _ (I.step st) (fun y S2 H2 R2 M2 ⟨z, i, kvs, e, hm, hl, q2⟩ st2 p2 => ?_) (fun _ _ _ _ _ _ z => z.elim)
  subst e
  cases p2
  have s := st.trans st2
  obtain ⟨_, o', ho, ws, rfl, ok⟩ := s.m.at_ _ _ (at_mem hm)
  have w := Stp.wrAt (P' := mDK (putD kvs z R)) (o := .dK (putK ws (.inr z) v)) hm s.e s.m ⟨_, rfl, ok.put (R.m s.s p)⟩
  exact ⟨d, _, rfl, DPut.k (k := .inr z) ho (by rw [ok.len]; exact sz_lt (by omega)), o σ _ _ Γ _ q2 (s.trans w) (I.step (s.trans w)) fun _ => rfl⟩
/-- the pairs of a display -/
def Ed (E : XK) (trs : List (TE × TE)) (Γ : Ct) (M : SH) (Kd : FR → SH → Prop) (X : KX) : Prop := ∀ σ S H Q, Nv S H σ Γ M → (∀ (ws : List (Key × V)) S2 H2 kvs M2, Kd kvs M2 → Stp S H S2 H2 M M2 → DkOk S2 kvs ws → Q (ws.map fun kv => (L2.kV kv.1, kv.2)) H2) → OutX S H M X E → tPairs trs σ H Q
theorem ed_nil {Kd : FR → SH → Prop} (h : Kd [] M) : Ed E [] Γ M Kd X := fun σ S H Q I o ox => o [] S H [] M h (Stp.refl I.ex I.m) ⟨rfl, True.intro⟩
theorem ed_cons {Kd : FR → SH → Prop} {r : List (TE × TE)} (h : Ev E ta Γ M (fun R M1 => ∃ z, R = aStr z ∧ Ev E tb Γ M1 (fun R2 M2 => Ed E r Γ M2 (fun kvs M3 => Kd ((z, R2) :: kvs) M3) X) X) X) : Ed E ((ta, tb) :: r) Γ M Kd X := fun σ S H Q I o ox =>
  h σ S H _ I (fun v S1 H1 R M1 ⟨z, e, q⟩ st p => by
    subst e
    cases p
    exact q σ S1 H1 _ (I.step st) (fun w S2 H2 R2 M2 q2 st2 p2 => q2 σ S2 H2 _ ((I.step st).step st2) (fun ws S3 H3 kvs M3 q3 st3 ok =>
      o ((.inr z, w) :: ws) S3 H3 _ M3 q3 ((st.trans st2).trans st3) ⟨by simp [ok.nm], R2.m st3.s p2, ok.al⟩) ((ox.step st).step st2)) (ox.step st)) ox
theorem merge_new : ∀ (ws acc : List (Key × V)), ((acc ++ ws).map (·.1)).Nodup → ws.foldl (fun a kv => putK a kv.1 kv.2) acc = acc ++ ws
  | [], acc, _ => by simp
  | p :: ws, acc, h => by
    have nin : ¬ p.1 ∈ acc.map (·.1) := fun hm => by
      rw [List.map_append, List.nodup_append] at h
      exact h.2.2 _ hm _ (by simp) rfl
    have e : putK acc p.1 p.2 = acc ++ [p] := by
      unfold putK
      rw [if_neg]
      intro ha
      obtain ⟨q, hq, e⟩ := List.any_eq_true.mp ha
      exact nin (List.mem_map.mpr ⟨q, hq, of_decide_eq_true e⟩)
    rw [List.foldl_cons, e, merge_new ws (acc ++ [p]) (by simpa using h)]
    simp
theorem ev_disp {trs : List (TE × TE)} (h : ∀ p, Ed E trs Γ (M ++ [(p, mDK [])]) (fun kvs M2 => ∃ i, M2[i]? = some (p, mDK []) ∧ kvs.length ≤ 15 ∧ (kvs.map (·.1)).Nodup ∧ k (iRef p) (M2.set i (p, mDK kvs))) X) : Ev E (tDisp trs) Γ M k X := fun σ S H Q I o ox p hp => by
  have s0 := Stp.newM (P := mDK []) (o := .dK []) I.ex I.m hp ⟨[], rfl, rfl, True.intro⟩
  refine h p σ S _ _ (I.step s0) (fun ws S2 H2 kvs M2 ⟨i, hm, hl, nd, q⟩ st ok => ?_) (ox.step s0)
  have s := s0.trans st
  obtain ⟨_, ob, ho, us, rfl, ok0⟩ := s.m.at_ _ _ (at_mem hm)
  have e0 : us = [] := by
    have := ok0.len
    exact List.length_eq_zero_iff.mp this
  subst e0
  refine ⟨ho, ws, rfl, by rw [ok.len]; exact hl, ?_⟩
  have en : mergeK [] ws = ws := merge_new ws [] (by
    have e1 : ws.map (·.1) = (kvs.map (·.1)).map (Sum.inr : Str → Key) := by rw [ok.nm, List.map_map]; rfl
    rw [List.nil_append, e1]
    have pw : ∀ l : List Str, l.Nodup → (l.map (Sum.inr : Str → Key)).Nodup := by
      intro l
      induction l with
      | nil => intro _; simp
      | cons a l ih =>
        intro h
        rw [List.nodup_cons] at h
        rw [List.map_cons, List.nodup_cons]
        refine ⟨fun hm => ?_, ih h.2⟩
        obtain ⟨b, hb, e⟩ := List.mem_map.mp hm
        exact h.1 (Sum.inr.inj e ▸ hb)
    exact pw _ nd)
  rw [en]
  have w := Stp.wrAt (P' := mDK kvs) (o := .dK ws) hm s.e s.m ⟨ws, rfl, ok⟩
  exact o (.ref p) S2 _ (iRef p) _ q (s.trans w) rfl
theorem st_tFzL {i j : Nat} {d : Addr} {kvs : FR} (hd : M[i]? = some (d, mDK kvs)) (hj : Γ[j]? = some (some (iRef d))) (h : St E t (Γ.set j (some (iDF kvs))) (M.eraseIdx i) D) : St E (tFz t) Γ M D := fun σ S H D0 I o => by
  obtain ⟨_, ob, ho, vs, rfl, ok⟩ := I.m.at_ d (mDK kvs) (at_mem hd)
  refine ⟨d, .dK vs, ho, True.intro, fun od => ?_⟩
  have f1 := Stp.frzAt (od := od) (u := .dK vs) hd I.ex I.m
  have I2 := I.step f1
  have sl := I.sl j (iRef d) hj
  refine h σ _ _ D0 ?_ (o.step f1)
  obtain ⟨v, hv, pv⟩ := sl
  cases pv
  have := I2.set j (R := iDF kvs) (v := .ref d) ⟨d, od, vs, rfl, upd_same, ok.mono f1.s⟩
  rwa [show σ.set j (some (.ref d)) = σ from by
    refine List.ext_getElem? fun n => ?_
    by_cases hn : j = n
    · subst hn
      obtain ⟨hlt, _⟩ := List.getElem?_eq_some_iff.mp hv
      rw [List.getElem?_set_self hlt, hv]
    · rw [List.getElem?_set_ne hn]] at this
/-! ### lists: stores, del -/
theorem ixN_of {n j : Nat} (hj : j < n) : ixN n (j : Int) = some j := by
  unfold ixN
  rw [if_pos (by omega), if_pos (by omega)]
  rfl
theorem All2.erase {S : Hp} : ∀ (n : Nat) {rs : List Rep} {xs : List V}, All2 S rs xs → All2 S (rs.eraseIdx n) (xs.eraseIdx n)
  | _, [], [], _ => True.intro
  | _, [], _ :: _, h => h.elim
  | _, _ :: _, [], h => h.elim
  | 0, _ :: _, _ :: _, h => h.2
  | n + 1, _ :: _, _ :: _, h => ⟨h.1, All2.erase n h.2⟩
theorem tg_setL {to ti : TE} {kc : KC} (h : Ev E0 to Γ M (fun R1 M1 => ∃ a, R1 = iRef a ∧ Ev E0 ti Γ M1 (fun R2 M2 => ∃ (x : Int) (n i : Nat) (rs : List Rep), R2 = iInt x ∧ x = n ∧ M2[i]? = some (a, mLst rs) ∧ n < rs.length ∧ kc Γ (M2.set i (a, mLst (rs.set n R)))) X0) X0) : Tg (gSub to ti rSetL) R Γ M vs kc := fun v σ S H Q I p o => by
  refine h σ S H _ I (fun x S1 H1 R1 M1 ⟨a, e, q⟩ st p1 => ?_) (fun _ _ _ _ _ _ z => z.elim)
  subst e
  cases p1
  refine q σ S1 H1 _ (I.step st) (fun y S2 H2 R2 M2 ⟨x, n, i, rs, e, ex, hm, hl, q2⟩ st2 p2 => ?_) (fun _ _ _ _ _ _ z => z.elim)
  subst e
  subst ex
  cases p2
  have s := st.trans st2
  obtain ⟨_, o', ho, xs, rfl, al⟩ := s.m.at_ _ _ (at_mem hm)
  have w := Stp.wrAt (P' := mLst (rs.set n R)) (o := .lst (xs.set n v)) hm s.e s.m ⟨_, rfl, All2.set (R.m s.s p) n al⟩
  exact ⟨a, xs, n, n, rfl, rfl, ho, ixN_of (by rw [al.len]; exact hl), o σ _ _ Γ _ q2 (s.trans w) (I.step (s.trans w)) fun _ => rfl⟩
theorem st_delL {to ti : TE} (h : Ev E to Γ M (fun R1 M1 => ∃ a, R1 = iRef a ∧ Ev E ti Γ M1 (fun R2 M2 => ∃ (x : Int) (n i : Nat) (rs : List Rep), R2 = iInt x ∧ x = n ∧ M2[i]? = some (a, mLst rs) ∧ n < rs.length ∧ n < 1000000 ∧ D.nx Γ (M2.set i (a, mLst (rs.eraseIdx n)))) D.ex) D.ex) : St E (tDelL to ti) Γ M D := fun σ S H D0 I o =>
  h σ S H _ I (fun x S1 H1 R1 M1 ⟨a, e, q⟩ st p1 => by
    subst e
    cases p1
    exact q σ S1 H1 _ (I.step st) (fun y S2 H2 R2 M2 ⟨x, n, i, rs, e, ex, hm, hl, hb, q2⟩ st2 p2 => by
      subst e
      subst ex
      cases p2
      have s := st.trans st2
      obtain ⟨_, o', ho, xs, rfl, al⟩ := s.m.at_ _ _ (at_mem hm)
      have w := Stp.wrAt (P' := mLst (rs.eraseIdx n)) (o := .lst (xs.eraseIdx n)) hm s.e s.m ⟨_, rfl, All2.erase n al⟩
      exact ⟨a, xs, n, n, rfl, rfl, ho, by omega, by omega, (ixN_seq (ixN_of (by rw [al.len]; exact hl))).1, o.nx σ _ _ Γ _ q2 (s.trans w) (I.step (s.trans w))⟩) (o.ex.step st)) o.ex
/-! ### == of lists of texts -/
theorem eqv_strs : ∀ l m : List Str, PyData.eqvAll (l.map PyData.str) (m.map PyData.str) = decide (l = m)
  | [], [] => by simp [PyData.eqvAll]
  | [], _ :: _ => by simp [PyData.eqvAll]
  | _ :: _, [] => by simp [PyData.eqvAll]
  | a :: l, b :: m => by
    simp only [List.map_cons, PyData.eqvAll, PyData.eqv, eqv_strs l m]
    rw [Bool.eq_iff_iff]
    simp
theorem o_neStrs {l m : List Str} (hl : ∀ z ∈ l, StrOk z) (hm : ∀ z ∈ m, StrOk z) : O2p (rNeD K) (iLst (l.map aStr)) (iLst (m.map aStr)) M (iBl (!decide (l = m))) := by
  have e : ∀ l : List Str, iLst (l.map aStr) = iDat K (.list (l.map PyData.str)) := fun l => by rw [← dat_list, List.map_map]; rfl
  have h := o_neD (K := K) (M := M) (d := .list (l.map PyData.str)) (e := .list (m.map PyData.str)) (shp_list (shp_strs hl)).ok (shp_list (shp_strs hm)).ok
  rw [show PyData.eqv (.list (l.map PyData.str)) (.list (m.map PyData.str)) = decide (l = m) from by rw [← eqv_strs]; rfl] at h
  rw [e, e]
  exact h
/-! ### a comprehension whose list is to be changed -/
theorem ev_lcX {g : TG} (hv : vs ≠ []) (h : Ti E wi Γ M (fun n rs M1 => n ≤ 1000000 ∧ ∃ J : Nat → List Rep → SH → Prop, J 0 [] M1 ∧ (∀ i r acc M2, i < n → rs i r → acc.length ≤ i → J i acc M2 →
      Tg g r (wipeC Γ vs) M2 vs fun Γ3 M3 => Et E tt Γ3 M3 (fun b M4 => if b = true then Ev E te Γ3 M4 (fun R M5 => J (i + 1) (acc ++ [R]) M5) X0 else J (i + 1) acc M4) X0) ∧ ∀ acc M2, acc.length ≤ n → J n acc M2 → ∀ a, k (iRef a) (M2 ++ [(a, mLst acc)])) X) : Ev E (tLc wi g tt te vs) Γ M k X := fun σ S H Q I o ox =>
  h σ S H _ I (fun Jt S1 H1 n rs M1 ⟨hn, V, v0, vs', vd⟩ st w Dl hD => by
    obtain ⟨G, Y, wk, hG, hY⟩ := w
    have s0 := st.trans (Stp.newM (o := .lst []) (P := mLst []) st.e st.m hD ⟨[], rfl, True.intro⟩)
    refine lc_it wk (fun i H' => ∃ Sx Mx acc, Same Sx H' ∧ Stp S H Sx H' M (Mx ++ [(Dl, mLst acc)]) ∧ Same S1 Sx ∧ acc.length ≤ i ∧ V i acc Mx) ⟨S1, M1, [], s0.e, s0, Same.refl _, Nat.zero_le _, v0⟩ (fun i H' _ ⟨Sx, Mx, acc, ex, _, s1, _⟩ => hG Sx H' s1 ex) ?_ ?_
    · rintro i x H' H'' hi ⟨Sx, Mx, acc, ex, sx, s1, la, vx⟩ y
      obtain ⟨S', r, s', hr, pr⟩ := hY i H' x H'' hi y Sx (Mx ++ [(Dl, mLst acc)]) s1 ex sx.m
      have I' : Nv S' H'' (L2.wipe σ vs) (wipeC Γ vs) Mx := by
        have := (I.step (sx.trans s')).wipe vs
        exact ⟨this.ex, this.len, this.sl, this.m.left⟩
      have m' : MOk S' H'' (Mx ++ [(Dl, mLst acc)]) := s'.m
      refine vs' i r acc Mx hi hr la vx x (L2.wipe σ vs) S' H'' _ I' pr fun σ2 S2 H2 Γ2 M2 q st2 I2 w2 => ⟨?_, ?_⟩
      · rw [w2 hv]
        have un : ∀ u ∈ vs, (L2.wipe σ vs).set u none = L2.wipe σ vs := by
          intro u hu
          have gen : ∀ ws : List Nat, u ∈ ws → (L2.wipe σ ws).set u none = L2.wipe σ ws := by
            intro ws
            induction ws with
            | nil => intro z; cases z
            | cons w ws ih =>
              intro z
              show ((L2.wipe σ ws).set w none).set u none = (L2.wipe σ ws).set w none
              by_cases e : w = u
              · subst e; rw [List.set_set]
              · rcases List.mem_cons.mp z with z | z
                · exact absurd z.symm e
                · rw [List.set_comm _ _ e, ih z]
          exact gen vs hu
        have aux : ∀ us : List Nat, (∀ u ∈ us, u ∈ vs) → L2.wipe (L2.wipe σ vs) us = L2.wipe σ vs := by
          intro us
          induction us with
          | nil => intro _; rfl
          | cons u us ih =>
            intro hu
            show (L2.wipe (L2.wipe σ vs) us).set u none = L2.wipe σ vs
            rw [ih fun z hz => hu z (List.mem_cons_of_mem _ hz)]
            exact un u (hu u (List.mem_cons_self ..))
        exact aux vs fun _ h => h
      · have sf2 := st2.frame m'
        refine q σ2 S2 H2 _ I2 (fun b S3 H3 M3 q3 st3 => ?_) (fun _ _ _ _ _ _ z => z.elim)
        have sf3 := st3.frame sf2.m
        cases b with
        | true =>
          rw [if_pos rfl] at q3 ⊢
          refine q3 σ2 S3 H3 _ (I2.step st3) (fun z S4 H4 R4 M4 q4 st4 p4 => ?_) (fun _ _ _ _ _ _ z => z.elim)
          have sf4 := st4.frame sf3.m
          have tot := (((sx.trans s').trans sf2).trans sf3).trans sf4
          obtain ⟨_, ob, ho, xs, rfl, pa⟩ := tot.m.at_ Dl (mLst acc) (List.mem_append_right _ (List.mem_singleton.mpr rfl))
          have wr := Stp.wrM (A := M4) (B := []) (a := Dl) (P := mLst acc) (P' := mLst (acc ++ [R4])) (o := .lst (xs ++ [z])) tot.e tot.m ⟨_, rfl, pa.app (All2.one p4)⟩
          refine ⟨xs, ho, by rw [pa.len]; exact sz_lt (by omega), S4, M4, acc ++ [R4], wr.e, tot.trans wr, ?_, by simp; omega, q4⟩
          exact s1.trans (s'.s.trans (sf2.s.trans (sf3.s.trans sf4.s)))
        | false =>
          rw [if_neg Bool.false_ne_true] at q3 ⊢
          exact ⟨S3, M3, acc, sf3.e, ((sx.trans s').trans sf2).trans sf3, s1.trans (s'.s.trans (sf2.s.trans sf3.s)), by omega, q3⟩
    · rintro H' ⟨Sx, Mx, acc, ex, sx, s1, la, vx⟩
      exact o (.ref Dl) _ H' (iRef Dl) _ (vd acc Mx la vx Dl) sx rfl) ox
end
end L3

namespace L3
open PySem PySem.Spec L2 RZ PyProof.Rows
theorem hu0_of {A : Around} {k : Nat} (hr : Room k A) : A.units < cLine := by have := hr.un; omega
section
variable {E : XK} {K : PySem.W.Frag} {Γ : Ct} {M : SH} {k : KR} {X : KX} {R R1 R2 : Rep} {te ta tb : TE}
theorem hl_m {rs : List Rep} {a : Addr} {i : Nat} (h : M[i]? = some (a, mLst rs)) : HasL K M (iRef a) rs := .inr (.inr (.inr ⟨a, i, rfl, h⟩))
theorem k_setL {a : Addr} {n i : Nat} {x : Int} {rs : List Rep} {P : Nat → Nat → List Rep → Prop} (e : x = n) (hm : M[i]? = some (a, mLst rs)) (hn : n < rs.length) (h : P n i rs) : ∃ (y : Int) (n i : Nat) (rs : List Rep), iInt x = iInt y ∧ y = n ∧ M[i]? = some (a, mLst rs) ∧ n < rs.length ∧ P n i rs := ⟨x, n, i, rs, rfl, e, hm, hn, h⟩
theorem k_delL {a : Addr} {n i : Nat} {x : Int} {rs : List Rep} {P : Nat → Nat → List Rep → Prop} (e : x = n) (hm : M[i]? = some (a, mLst rs)) (hn : n < rs.length) (hb : n < 1000000) (h : P n i rs) : ∃ (y : Int) (n i : Nat) (rs : List Rep), iInt x = iInt y ∧ y = n ∧ M[i]? = some (a, mLst rs) ∧ n < rs.length ∧ n < 1000000 ∧ P n i rs := ⟨x, n, i, rs, rfl, e, hm, hn, hb, h⟩
theorem k_putD {a : Addr} {i : Nat} {z : Str} {kvs : FR} {P : Str → Nat → FR → Prop} (hm : M[i]? = some (a, mDK kvs)) (hl : kvs.length < 1000000) (h : P z i kvs) : ∃ (z' : Str) (i : Nat) (kvs : FR), aStr z = aStr z' ∧ M[i]? = some (a, mDK kvs) ∧ kvs.length < 1000000 ∧ P z' i kvs := ⟨z, i, kvs, rfl, hm, hl, h⟩
theorem o_ixMN {α : Type} {l : List α} {g : α → Rep} {x : Int} {a : Addr} (i n : Nat) (hm : M[i]? = some (a, mLst (l.map g))) (e : x = n) (h : n < l.length) : O2p (rIxL K) (iRef a) (iInt x) M (g l[n]) := by
  subst e
  exact o_ixM (at_mem hm) (atI_map (atI_nat (by simp [h])))
theorem o_ixM1 {rs : List Rep} {x : Int} {a : Addr} (i : Nat) (hm : M[i]? = some (a, mLst rs)) (h : atI rs x = some R) : O2p (rIxL K) (iRef a) (iInt x) M R := o_ixM (at_mem hm) h
theorem ev_dninD {ty td : TE} (h : Ev E ty Γ M (fun R1 M1 => ∃ z, R1 = aStr z ∧ Ev E td Γ M1 (fun R M2 => ∃ kvs, HasD M2 R kvs ∧ k (iBl (!(kvs.lookup z).isSome)) M2) X) X) : Ev E (tDNotIn ty td) Γ M k X := fun σ S H Q I o ox =>
  h σ S H _ I (fun v S1 H1 R1 M1 ⟨z, e, q⟩ st p => by
    subst e
    cases p
    exact q σ S1 H1 _ (I.step st) (fun y S2 H2 R M2 ⟨kvs, hd, q2⟩ st2 p2 => by
      obtain ⟨a, vs, rfl, hr, ok⟩ := hd.get st2.e st2.m p2
      refine ⟨a, valV vs (.inr z), rfl, .inl ⟨vs, .inr z, hr, rfl, rfl⟩, ?_⟩
      have e : (valV vs (.inr z)).isSome = (kvs.lookup z).isSome := by
        cases hl : kvs.lookup z with
        | none => rw [(ok.look z).1 hl]; rfl
        | some R => obtain ⟨w, hw, _⟩ := (ok.look z).2 R hl; rw [hw]; rfl
      rw [e]
      exact (o.step st) _ S2 H2 _ M2 q2 st2 rfl) (ox.step st)) ox
theorem HasO.app {C : Addr} {fs : FR} (h : HasO M R C fs) (N : SH) : HasO (M ++ N) R C fs := by
  rcases h with h | ⟨a, i, h1, h2⟩
  · exact .inl h
  · exact .inr ⟨a, i, h1, by rw [List.getElem?_append_left (List.getElem?_eq_some_iff.mp h2).1]; exact h2⟩
/-- a list that is to be changed is put under a name -/
def tAsgLM (te : TE) (g : TG) : TS := tAsg te g
theorem ps_lm {X : Cx} {st : Stmt} {g : TG} (h : PS X st (tAsg te g)) : PS X st (tAsgLM te g) := h
theorem st_asgLM {tr : TA} {j : Nat} {D : EndT} (h : Ea E tr Γ M (fun Rs M1 => Rs.length ≤ 1000000 ∧ ∀ a, D.nx (Γ.set j (some (iRef a))) (M1 ++ [(a, mLst Rs)])) D.ex) : St E (tAsgLM (tLst tr) (gName j)) Γ M D := st_asg (ev_lstM h)
theorem st_join {α : Type} {t u : TS} {D : EndT} {P : α → Prop} {G : α → Ct} {N : α → SH} (h1 : St E t Γ M { D with nx := LJ P G N }) (h2 : ∀ a, P a → St E u (G a) (N a) D) : St E (tSeq t u) Γ M D :=
  st_seq fun σ S H D0 I o => h1 σ S H D0 I ⟨fun σ2 S2 H2 Γ2 M2 ⟨a, ha, hw, hm⟩ st I2 => by
    subst hm
    exact o.nx σ2 S2 H2 Γ2 _ (st_wk hw (h2 a ha)) st I2, o.rt, o.bk, o.ct, o.ex⟩
theorem look_is (y : Str) : ∀ kvs : FR, (kvs.lookup y).isSome = decide (y ∈ kvs.map (·.1))
  | [] => by simp
  | (g, Q) :: kvs => by
    rw [List.lookup_cons]
    by_cases h : y = g
    · subst h; simp
    · rw [show (y == g) = false from beq_eq_false_iff_ne.mpr h, look_is y kvs]
      simp [h]
theorem putD_is (kvs : FR) (z : Str) (R : Rep) (y : Str) : ((putD kvs z R).lookup y).isSome = ((kvs.lookup y).isSome || decide (y = z)) := by
  rw [look_is, look_is]
  unfold putD
  rw [look_is]
  by_cases h : z ∈ kvs.map (·.1)
  · rw [if_pos (decide_eq_true h), List.map_map, show ((fun p : Str × Rep => p.1) ∘ fun p : Str × Rep => if p.1 = z then (p.1, R) else p) = (fun p : Str × Rep => p.1) from funext fun p => by show (if p.1 = z then (p.1, R) else p).1 = p.1; split <;> rfl]
    rw [Bool.eq_iff_iff]
    simp only [Bool.or_eq_true, decide_eq_true_eq]
    exact ⟨.inl, fun w => w.elim id fun e => e ▸ h⟩
  · rw [if_neg (fun w => h (of_decide_eq_true w)), List.map_append]
    rw [Bool.eq_iff_iff]
    simp only [Bool.or_eq_true, decide_eq_true_eq, List.mem_append, List.map_cons, List.map_nil, List.mem_singleton]
theorem c_min2 {i j : Int} : Olp (fun xs H Q => ∃ i j, xs = [.int i, .int j] ∧ Q (.int (if j < i then j else i)) H) [iInt i, iInt j] M (iInt (min i j)) := ol_val fun xs S H e _ h => by
  obtain ⟨v, w, rfl, h1, h2⟩ := all2_2 h
  cases h1; cases h2
  refine ⟨_, rfl, fun Q q => ⟨i, j, rfl, ?_⟩⟩
  rwa [show (if j < i then j else i) = min i j by omega]
theorem at_last {x : Addr × MRep} : (M ++ [x])[M.length]? = some x := by simp
theorem set_last {x y : Addr × MRep} : (M ++ [x]).set M.length y = M ++ [y] := by
  rw [List.set_append_right _ _ (Nat.le_refl _), Nat.sub_self]
  rfl
theorem erase_last {x : Addr × MRep} : (M ++ [x]).eraseIdx M.length = M := by
  rw [List.eraseIdx_append_of_length_le (Nat.le_refl _), Nat.sub_self]
  simp
/-- what was made, and is not told, is forgotten -/
theorem ev_fgt (h : Ev E te Γ M (fun R M1 => ∃ (i : Nat) (a : Addr) (P : MRep), M1[i]? = some (a, P) ∧ k R (M1.eraseIdx i)) X) : Ev E te Γ M k X := fun σ S H Q I o ox => h σ S H Q I (fun v S2 H2 R M2 ⟨i, a, P, hm, q⟩ st p => by
  obtain ⟨_, ob, ho, _⟩ := st.m.at_ a P (at_mem hm)
  have fz := Stp.fzAt hm st.e st.m ho
  exact o v _ H2 R _ q (st.trans fz) (R.m fz.s p)) ox
/-- over the keys of a dict -/
theorem ep_lcKeys {α : Type} {l : List α} {f : α → Str} {g e' : α → Rep} {td : TE} {vs : List Nat} {j : Nat} (hi : Ep E td Γ M (iDF (l.map fun x => (f x, g x)))) (hn : l.length ≤ 1000000) (hj : j ∈ vs)
    (he : ∀ x ∈ l, Ep E te ((wipeC Γ vs).set j (some (aStr (f x)))) M (e' x)) : Ep E (tLc (iKeys td) (gName j) tYes te vs) Γ M (iLst (l.map e')) := fun k X q =>
  ev_lc (fun z => by rw [z] at hj; cases hj) (tip_keysF hi _ _ ⟨by simpa using hn, fun i acc M2 => acc = (l.take i).map e' ∧ M2 = M, ⟨rfl, rfl⟩, fun i r acc M2 hlt hr _ ⟨e1, e2⟩ => by
    subst e1; subst e2
    obtain ⟨p, hp, rfl⟩ := hr
    have hlt' : i < l.length := by simpa using hlt
    rw [List.getElem?_map, List.getElem?_eq_getElem hlt'] at hp
    cases hp
    refine tg_name (et_yes ?_) (.inr hj)
    refine (if_pos rfl).mpr (he _ (List.getElem_mem hlt') _ _ ⟨?_, rfl⟩)
    rw [List.take_succ, List.getElem?_eq_getElem hlt', List.map_append]
    rfl, fun acc M2 _ ⟨e1, e2⟩ => by
    subst e1; subst e2
    rw [List.length_map, List.take_length]
    exact q⟩)
/-- over a range, what is made may be drawn -/
theorem ev_lcRng {α : Type} {e : α → Rep} {P : Nat → α → Prop} {m : Nat} {tr : TA} {vs : List Nat} {j : Nat} (hm : Eap E tr Γ M [iInt m]) (hn : m ≤ 1000000) (hj : j ∈ vs)
    (he : ∀ i, i < m → ∀ k' : KR, (∀ x, P i x → k' (e x) M) → Ev E te ((wipeC Γ vs).set j (some (iInt (i : Nat)))) M k' X0)
    (q : ∀ l : List α, l.length = m → (∀ i x, l[i]? = some x → P i x) → k (iLst (l.map e)) M) : Ev E (tLc (iRng1 tr) (gName j) tYes te vs) Γ M k X :=
  ev_lc (fun z => by rw [z] at hj; cases hj) (ti_rng1 (hm _ _ ⟨m, rfl, hn, hn, fun i acc M2 => ∃ l : List α, acc = l.map e ∧ l.length = i ∧ (∀ i x, l[i]? = some x → P i x) ∧ M2 = M, ⟨[], rfl, rfl, (fun i x h => by simp at h), rfl⟩, fun i r acc M2 hlt hr _ ⟨l, e1, e2, e3, e4⟩ => by
    subst e1; subst e4; subst e2; subst hr
    refine tg_name (et_yes ?_) (.inr hj)
    refine (if_pos rfl).mpr (he _ hlt _ fun x hx => ⟨l ++ [x], by simp, by simp, fun i y hy => ?_, rfl⟩)
    rcases Nat.lt_or_ge i l.length with h | h
    · rw [List.getElem?_append_left h] at hy
      exact e3 i y hy
    · rw [List.getElem?_append_right h] at hy
      obtain ⟨h2, h3⟩ := List.getElem?_eq_some_iff.mp hy
      have : i = l.length := by simp at h2; omega
      subst this
      simp at h3
      subst h3
      exact hx, fun acc M2 _ ⟨l, e1, e2, e3, e4⟩ => by
    subst e1; subst e4
    exact q l e2 e3⟩))
end
end L3

/-! ### l[::step], the step one or minus one -/
namespace L3
open PySem PySem.Spec L2 RZ PyProof.Rows
def tStepL (K : PySem.W.Frag) (te : TE) (ts : TO) : TE := fun σ H Q => te σ H fun x H1 => ts σ H1 fun o H2 => ∃ a xs, x = .ref a ∧ SqL K H2 a xs ∧
  ((o = some 1 ∧ ∀ p, H2 p = none → Q (.ref p) (upd H2 p (.lst xs))) ∨ (o = some (-1) ∧ ∀ p, H2 p = none → Q (.ref p) (upd H2 p (.lst xs.reverse))))
section
variable {E : XK} {K : PySem.W.Frag} {Γ : Ct} {M : SH} {k : KR} {X : KX} {R R1 R2 : Rep} {te ta tb : TE} {D : EndT} {t u : TS} {tr : TA} {vs : List Nat}
theorem ev_stepL {ts : TO} (h : Ev E te Γ M (fun R1 M1 => ∃ rs : List Rep, R1 = iLst rs ∧ EoC E ts Γ M1 fun o M2 => (o = some 1 ∧ k (iLst rs) M2) ∨ (o = some (-1) ∧ k (iLst rs.reverse) M2)) X) : Ev E (tStepL K te ts) Γ M k X := fun σ S H Q I o ox =>
  h σ S H _ I (fun v S1 H1 R' M1 ⟨rs, e, q⟩ st p => by
    subst e
    obtain ⟨a, xs, rfl, h1, h2⟩ := p
    refine q σ S1 H1 _ (I.step st) fun oo S2 H2 M2 q2 st2 => ?_
    have s := st.trans st2
    have ha : S2 a = some (.lst xs) := st2.s _ _ h1
    refine ⟨a, xs, rfl, SqL.of (s.e _ _ ha), ?_⟩
    rcases q2 with ⟨rfl, q2⟩ | ⟨rfl, q2⟩
    · refine .inl ⟨rfl, fun p hp => ?_⟩
      have w := Stp.newS (o := .lst xs) s.e s.m hp
      exact o (.ref p) _ _ _ _ q2 (s.trans w) ⟨p, xs, rfl, upd_same, (h2.mono st2.s).mono w.s⟩
    · refine .inr ⟨rfl, fun p hp => ?_⟩
      have w := Stp.newS (o := .lst xs.reverse) s.e s.m hp
      exact o (.ref p) _ _ _ _ q2 (s.trans w) ⟨p, xs.reverse, rfl, upd_same, ((h2.mono st2.s).mono w.s).rev⟩) ox
/-! ### l.index(z), t.index(z) of texts -/
def rIdxT (K : PySem.W.Frag) : V → List V → Hp → VK → Prop := fun x xs H Q => ∃ p, ∃ ys : List Str, ∃ z j, x = .ref p ∧ xs = [.str z] ∧ SqT K H p (ys.map V.str) ∧ ys[j]? = some z ∧ (∀ m, m < j → ys[m]? ≠ some z) ∧ Q (.int (j : Nat)) H
theorem idx_at [BEq α] [LawfulBEq α] : ∀ {l : List α} {z : α}, z ∈ l → l[l.idxOf z]? = some z ∧ ∀ m, m < l.idxOf z → l[m]? ≠ some z := by
  intro l z h
  have h1 := List.idxOf_lt_length_of_mem h
  refine ⟨?_, fun m hm e => ?_⟩
  · rw [List.getElem?_eq_getElem h1, List.getElem_idxOf h1]
  · have h2 : m < l.length := by omega
    rw [List.getElem?_eq_getElem h2] at e
    have h3 := Option.some.inj e
    have := List.not_of_lt_findIdx (p := (· == z)) (xs := l) (i := m) hm
    rw [h3] at this
    simp at this
theorem ev_idxL (h : Ev E ta Γ M (fun R1 M1 => ∃ l : List Str, R1 = iLst (l.map aStr) ∧ Ea E tr Γ M1 (fun Rs M2 => ∃ z, Rs = [aStr z] ∧ z ∈ l ∧ k (iInt (l.idxOf z : Nat)) M2) X) X) : Ev E (tBM K "list" (rIndex K) ta tr) Γ M k X := fun σ S H Q I o ox =>
  h σ S H _ I (fun x S1 H1 R1 M1 ⟨l, e, q⟩ st p1 => by
    subst e
    refine ⟨ty_lst x S1 H1 st.e st.m p1, q σ S1 H1 _ (I.step st) (fun xs S2 H2 Rs M2 ⟨z, e2, hz, q2⟩ st2 p2 => ?_) (ox.step st)⟩
    subst e2
    obtain ⟨v, rfl, p⟩ := all2_1 p2
    cases p
    obtain ⟨a, ys, rfl, h1, h2⟩ := p1
    have ey : ys = l.map V.str := All2.flat (r := aStr) (g := V.str) (fun _ _ h => h) h2
    subst ey
    obtain ⟨i1, i2⟩ := idx_at hz
    refine ⟨a, _, .str z, l.idxOf z, .str z, rfl, rfl, SqL.of ((st2.s.trans st2.e) _ _ h1), rfl, all_flat_str l, by rw [List.getElem?_map, i1]; rfl, ?_, fun m z' hm e => ?_, (o.step st) _ S2 H2 _ M2 q2 st2 rfl⟩
    · show (z == z) = true
      exact beq_self_eq_true z
    · rw [List.getElem?_map] at e
      cases hl : l[m]? with
      | none => rw [hl] at e; cases e
      | some w =>
        rw [hl] at e
        cases e
        show (w == z) = false
        exact beq_eq_false_iff_ne.mpr fun c => i2 m hm (by rw [hl, c])) ox
/-- a tuple made of a list, of which it is known that it has no attributes of its own -/
def aTupD (rs : List Rep) : Rep := ⟨fun S v => ∃ a ob xs, v = .ref a ∧ S a = some (.frz ob (.tup xs)) ∧ ob.dict = none ∧ All2 S rs xs, fun e ⟨a, ob, xs, h1, h2, h3, h4⟩ => ⟨a, ob, xs, h1, e _ _ h2, h3, h4.mono e⟩⟩
def rTupD (K : PySem.W.Frag) : List V → Hp → VK → Prop := fun xs H Q => ∃ p ys, xs = [.ref p] ∧ SqL K H p ys ∧ ∀ (l : Addr) (ob : Obj), H l = none → ob.dict = none → Q (.ref l) (upd H l (.frz ob (.tup ys)))
theorem call_tupD {X : Cx} : CallR X (.type "tuple") (rTupD X.K) := by
  intro pins s σ H xs us Q I r h
  obtain ⟨p, ys, rfl, hq, q⟩ := h
  obtain ⟨u, rfl, rx⟩ := vals1 r
  cases rx
  obtain ⟨its, r', pl, hz⟩ := I.list hq
  have hlen := r'.length
  refine call_tuple_list pl.isList (fun h' kp => ?_) (by simp only [List.size_toArray] <;> omega)
  have I1 : Inv X pins σ H { s with heap := h' } := I.kept (t' := s.toks) kp
  have I2 : Inv X pins σ (upd H h'.objs.size (.frz { cls := .type "tuple", data := .seq its.toArray } (.tup ys))) { s with heap := h'.push { cls := .type "tuple", data := .seq its.toArray } } :=
    I1.laid (t' := s.toks) (fun b o e => Heap.get?_push_of_some _ e) (Nat.le_refl _) (show ObjOk X.prog X.w _ _ _ (.frz _ (.tup ys)) from ⟨Heap.get?_push_size _ rfl, hz, its, r', IsTup.new _ _⟩)
  exact ⟨.ref h'.objs.size, _, I2, rfl, q _ _ (I1.hok.fresh (Nat.le_refl _)) rfl⟩
theorem c_tupD {rs : List Rep} : Olp (rTupD K) [iLst rs] M (aTupD rs) := fun _ q xs S H Q e m h1 o => by
  obtain ⟨v, rfl, a, ys, rfl, q1, q2⟩ := all2_1 h1
  exact ⟨a, ys, rfl, SqL.of (e _ _ q1), fun l ob hl hd => o (.ref l) (upd S l (.frz ob (.tup ys))) _ (aTupD rs) M q (Stp.newS e m hl) ⟨l, ob, ys, rfl, upd_same, hd, q2.mono (Same.newS (Same.refl _) (e.free hl))⟩⟩
def tBMT (r : V → List V → Hp → VK → Prop) (to : TE) (t : TA) : TE := fun σ H Q => to σ H fun x H1 => (∃ (p : Addr) (ob : Obj) (xs : List V), x = .ref p ∧ H1 p = some (.frz ob (.tup xs)) ∧ ob.dict = none) ∧ t σ H1 fun ys H2 => r x ys H2 Q
theorem ev_idxT (h : Ev E ta Γ M (fun R1 M1 => ∃ l : List Str, R1 = aTupD (l.map aStr) ∧ Ea E tr Γ M1 (fun Rs M2 => ∃ z, Rs = [aStr z] ∧ z ∈ l ∧ k (iInt (l.idxOf z : Nat)) M2) X) X) : Ev E (tBMT (rIdxT K) ta tr) Γ M k X := fun σ S H Q I o ox =>
  h σ S H _ I (fun x S1 H1 R1 M1 ⟨l, e, q⟩ st p1 => by
    subst e
    obtain ⟨a, ob, ys, rfl, h1, hd, h2⟩ := p1
    have ey : ys = l.map V.str := All2.flat (r := aStr) (g := V.str) (fun _ _ h => h) h2
    subst ey
    refine ⟨⟨a, ob, _, rfl, st.e _ _ h1, hd⟩, q σ S1 H1 _ (I.step st) (fun xs S2 H2 Rs M2 ⟨z, e2, hz, q2⟩ st2 p2 => ?_) (ox.step st)⟩
    subst e2
    obtain ⟨v, rfl, p⟩ := all2_1 p2
    cases p
    obtain ⟨i1, i2⟩ := idx_at hz
    exact ⟨a, l, z, l.idxOf z, rfl, rfl, .inl (.inr ⟨ob, (st2.s.trans st2.e) _ _ h1⟩), i1, i2, (o.step st) _ S2 H2 _ M2 q2 st2 rfl⟩) ox
theorem k_strs {f : List Rep → Rep} {l : List Str} {P : List Str → Prop} (h : P l) : ∃ l', f (l.map aStr) = f (l'.map aStr) ∧ P l' := ⟨l, rfl, h⟩
theorem k_lstR {rs : List Rep} {P : List Rep → Prop} (h : P rs) : ∃ rs', iLst rs = iLst rs' ∧ P rs' := ⟨rs, rfl, h⟩
theorem k_zin {z : Str} {l : List Str} {P : Str → Prop} (hz : z ∈ l) (h : P z) : ∃ z', [aStr z] = [aStr z'] ∧ z' ∈ l ∧ P z' := ⟨z, rfl, hz, h⟩
/-! ### dicts whose keys are numbers -/
def DiOk (S : Hp) (f : Int → Option Rep) (ws : List (Key × V)) : Prop := ∀ i R, f i = some R → ∃ v, valV ws (.inl i) = some v ∧ R.p S v
theorem DiOk.mono {S S' : Hp} {f : Int → Option Rep} {ws : List (Key × V)} (h : DiOk S f ws) (e : Same S S') : DiOk S' f ws := fun i R hf => by
  obtain ⟨v, h1, h2⟩ := h i R hf
  exact ⟨v, h1, R.m e h2⟩
def iDI (f : Int → Option Rep) : Rep := ⟨fun S v => ∃ a o ws, v = .ref a ∧ S a = some (.frz o (.dK ws)) ∧ DiOk S f ws, fun e ⟨a, o, ws, h1, h2, h3⟩ => ⟨a, o, ws, h1, e _ _ h2, h3.mono e⟩⟩
def mDI (n : Nat) (f : Int → Option Rep) : MRep := ⟨fun S o => ∃ ws, o = .dK ws ∧ ws.length ≤ n ∧ DiOk S f ws, fun e ⟨ws, h1, h2, h3⟩ => ⟨ws, h1, h2, h3.mono e⟩, fun ⟨ws, h1, _⟩ ys z => by rw [h1] at z; cases z⟩
def HasI (M : SH) (R : Rep) (f : Int → Option Rep) : Prop := R = iDI f ∨ ∃ (a : Addr) (i n : Nat), R = iRef a ∧ M[i]? = some (a, mDI n f)
theorem HasI.get {f : Int → Option Rep} (h : HasI M R f) {S H : Hp} {v : V} (e : Same S H) (m : MOk S H M) (p : R.p S v) : ∃ a ws, v = .ref a ∧ Rd H a (.dK ws) ∧ DiOk S f ws := by
  rcases h with h | ⟨a, i, n, h, hm⟩
  · subst h
    obtain ⟨a, o, vs, h1, h2, h3⟩ := p
    exact ⟨a, vs, h1, .inr ⟨o, e _ _ h2⟩, h3⟩
  · subst h
    cases p
    obtain ⟨_, o, ho, vs, rfl, _, h3⟩ := m.at_ _ _ (at_mem hm)
    exact ⟨a, vs, rfl, .inl ho, h3⟩
def tDGetI (td ty : TE) : TE := tDGet td ty
theorem ev_dgetI {ty td : TE} (h : Ev E td Γ M (fun R1 M1 => ∃ Rd : Rep, Rd = R1 ∧ Ev E ty Γ M1 (fun R2 M2 => ∃ z f, R2 = iInt z ∧ HasI M2 R1 f ∧ ∃ R, f z = some R ∧ k R M2) X) X) : Ev E (tDGetI td ty) Γ M k X := fun σ S H Q I o ox =>
  h σ S H _ I (fun x S1 H1 R1 M1 ⟨_, _, q⟩ st p => q σ S1 H1 _ (I.step st) (fun y S2 H2 R2 M2 ⟨z, f, e, hd, R, hl, q2⟩ st2 p2 => by
    subst e
    cases p2
    obtain ⟨a, vs, rfl, hr, ok⟩ := hd.get st2.e st2.m (R1.m st2.s p)
    obtain ⟨w, hw, pw⟩ := ok z R hl
    exact ⟨a, w, rfl, .inl ⟨vs, .inl z, hr, rfl, hw.symm⟩, (o.step st) w S2 H2 R M2 q2 st2 pw⟩) (ox.step st)) ox
def putI (f : Int → Option Rep) (i : Int) (R : Rep) : Int → Option Rep := fun j => if j = i then some R else f j
theorem putK_len (ws : List (Key × V)) (k : Key) (v : V) : (putK ws k v).length ≤ ws.length + 1 := by
  unfold putK; split <;> simp
theorem DiOk.put {S : Hp} {f : Int → Option Rep} {ws : List (Key × V)} (h : DiOk S f ws) {i : Int} {v : V} (p : R.p S v) : DiOk S (putI f i R) (putK ws (.inl i) v) := fun j R' hj => by
  unfold putI at hj
  by_cases e : j = i
  · rw [if_pos e] at hj
    subst e
    cases hj
    exact ⟨v, by rw [valV_put, if_pos rfl], p⟩
  · rw [if_neg e] at hj
    obtain ⟨w, h1, h2⟩ := h j R' hj
    exact ⟨w, by rw [valV_put, if_neg fun c => e (Sum.inl.inj c)]; exact h1, h2⟩
def rSetDI : V → V → V → Hp → (Hp → Prop) → Prop := rSetD
def gSubI (to ti : TE) : TG := gSub to ti rSetD
theorem tg_putI {to ti : TE} {kc : KC} (h : Ev E0 to Γ M (fun R1 M1 => ∃ d, R1 = iRef d ∧ Ev E0 ti Γ M1 (fun R2 M2 => ∃ (z : Int) (i n : Nat) (f : Int → Option Rep), R2 = iInt z ∧ M2[i]? = some (d, mDI n f) ∧ n < 1000000 ∧ kc Γ (M2.set i (d, mDI (n + 1) (putI f z R)))) X0) X0) : Tg (gSubI to ti) R Γ M vs kc := fun v σ S H Q I p o => by
  refine h σ S H _ I (fun x S1 H1 R1 M1 ⟨d, e, q⟩ st p1 => ?_) (fun _ _ _ _ _ _ z => z.elim)
  subst e
  cases p1
  refine q σ S1 H1 _ (I.step st) (fun y S2 H2 R2 M2 ⟨z, i, n, f, e, hm, hl, q2⟩ st2 p2 => ?_) (fun _ _ _ _ _ _ z => z.elim)
  subst e
  cases p2
  have s := st.trans st2
  obtain ⟨_, o', ho, ws, rfl, hn, ok⟩ := s.m.at_ _ _ (at_mem hm)
  have w := Stp.wrAt (P' := mDI (n + 1) (putI f z R)) (o := .dK (putK ws (.inl z) v)) hm s.e s.m ⟨_, rfl, by have := putK_len ws (.inl z) v; omega, ok.put (R.m s.s p)⟩
  exact ⟨d, _, rfl, DPut.k (k := .inl z) ho (sz_lt (by omega)), o σ _ _ Γ _ q2 (s.trans w) (I.step (s.trans w)) fun _ => rfl⟩
/-- {i: v} -/
def tDisp1 (tk tv : TE) : TE := tDisp [(tk, tv)]
theorem ev_disp1 (h : ∀ p, Ev E ta Γ (M ++ [(p, mDI 0 fun _ => none)]) (fun R1 M1 => ∃ z, R1 = iInt z ∧ Ev E tb Γ M1 (fun R2 M2 => ∃ i, M2[i]? = some (p, mDI 0 fun _ => none) ∧ k (iRef p) (M2.set i (p, mDI 1 (putI (fun _ => none) z R2)))) X) X) : Ev E (tDisp1 ta tb) Γ M k X := fun σ S H Q I o ox p hp => by
  have s0 := Stp.newM (P := mDI 0 fun _ => none) (o := .dK []) I.ex I.m hp ⟨[], rfl, Nat.le_refl _, fun i R e => by cases e⟩
  refine h p σ S _ _ (I.step s0) (fun v S1 H1 R1 M1 ⟨z, e, q⟩ st p1 => ?_) (ox.step s0)
  subst e
  cases p1
  refine q σ S1 H1 _ ((I.step s0).step st) (fun w S2 H2 R2 M2 ⟨i, hm, q2⟩ st2 p2 => ?_) ((ox.step s0).step st)
  have s := (s0.trans st).trans st2
  obtain ⟨_, ob, ho, us, rfl, hn, ok0⟩ := s.m.at_ _ _ (at_mem hm)
  have e0 : us = [] := List.length_eq_zero_iff.mp (by omega)
  subst e0
  refine ⟨ho, [(.inl z, w)], rfl, by simp, ?_⟩
  have en : mergeK [] [((.inl z : Key), w)] = putK [] (.inl z) w := rfl
  rw [en]
  have wr := Stp.wrAt (P' := mDI 1 (putI (fun _ => none) z R2)) (o := .dK (putK [] (.inl z) w)) hm s.e s.m ⟨_, rfl, putK_len [] (.inl z) w, DiOk.put (fun i R e => by cases e) p2⟩
  exact o (.ref p) S2 _ (iRef p) _ q2 (s.trans wr) rfl
end
end L3
namespace L3
open PySem PySem.Spec L2 RZ PyProof.Rows
section
variable {E : XK} {K : PySem.W.Frag} {Γ : Ct} {M : SH} {te tl : TE} {vs : List Nat}
theorem ep_lcG {α : Type} {l : List α} {e e' : α → Rep} {g : TG} (hi : Ep E tl Γ M (iLst (l.map e))) (hn : l.length ≤ 1000000) (hv : vs ≠ [])
    (h : ∀ x ∈ l, Tg g (e x) (wipeC Γ vs) M vs fun Γ3 M3 => M3 = M ∧ Ep E te Γ3 M (e' x)) : Ep E (tLc (iList K tl) g tYes te vs) Γ M (iLst (l.map e')) := by
  refine Ep.to (ep_lc (n := l.length) hv (by have := tip_list (K := K) hi; rwa [List.length_map] at this) hn (fun _ => true) (fun i => id ((l.map e').getD i iNon)) fun i r hi hr => ?_) (congrArg iLst ?_)
  · rw [List.getElem?_map, List.getElem?_eq_getElem hi] at hr
    cases hr
    have e1 : id ((l.map e').getD i iNon) = e' l[i] := by simp [hi]
    rw [e1]
    have hx := h _ (List.getElem_mem hi)
    intro x σ S H Q I p o
    exact hx x σ S H Q I p fun σ2 S2 H2 Γ2 M3 ⟨e3, h1⟩ st I2 w2 => o σ2 S2 H2 Γ2 M3 ⟨e3, etp_yes, fun _ => h1⟩ st I2 w2
  · have := given_all (l.map e') id iNon
    rw [List.length_map, List.map_id] at this
    exact this
end
end L3

namespace L3
open PySem PySem.Spec L2 RZ PyProof.Rows
section
variable {E : XK} {K : PySem.W.Frag} {Γ : Ct} {M : SH} {k : KR} {X : KX} {R R1 R2 : Rep} {te ta tb tl : TE} {D : EndT} {t u : TS} {tr : TA} {vs : List Nat}
theorem all2_rg (S : Hp) (a : Int) : ∀ (n : Nat), All2 S ((List.range n).map fun i => iInt (a + (i : Nat))) ((List.range n).map fun i => V.int (a + (i : Nat)))
  | 0 => True.intro
  | n + 1 => by
    rw [List.range_succ, List.map_append, List.map_append]
    exact (all2_rg S a n).app (All2.one rfl)
/-- list(range(n)), list(range(a, b)) -/
theorem ev_lRg1 (h : Ev E te Γ M (fun R M1 => ∃ n : Nat, R = iInt n ∧ n ≤ 1000000 ∧ k (iLst ((List.range n).map fun i => iInt ((i : Nat) : Int))) M1) X) : Ev E (tLstRg (tRg1 te)) Γ M k X := fun σ S H Q I o ox =>
  h σ S H _ I (fun v S2 H2 R M2 ⟨n, e, hn, q⟩ st p => by
    subst e
    cases p
    refine ⟨n, rfl, RgOk.of_le (by omega) (by omega) (by omega) (by omega), fun a ha => ?_⟩
    have w := Stp.newS (o := .lst (rgV 0 n)) st.e st.m ha
    refine o (.ref a) _ _ _ _ q (st.trans w) ⟨a, _, rfl, upd_same, ?_⟩
    have e1 : ((n : Int) - 0).toNat = n := by omega
    unfold rgV
    rw [e1]
    have := all2_rg (upd S2 a (.lst (rgV 0 n))) 0 n
    have e2 : (fun i : Nat => iInt (0 + (i : Int))) = fun i : Nat => iInt (i : Int) := by funext i; rw [Int.zero_add]
    rw [e2] at this
    exact this) ox
theorem ev_lRg2 (h : Ev E ta Γ M (fun R1 M1 => ∃ a, R1 = iInt a ∧ Ev E tb Γ M1 (fun R2 M2 => ∃ b, R2 = iInt b ∧ -1000000 ≤ a ∧ a ≤ 1000000 ∧ -1000000 ≤ b ∧ b ≤ 1000000 ∧ k (iLst ((List.range (b - a).toNat).map fun i => iInt (a + (i : Nat)))) M2) X) X) : Ev E (tLstRg (tRg2 ta tb)) Γ M k X := fun σ S H Q I o ox =>
  h σ S H _ I (fun v S1 H1 R M1 ⟨a, e, q⟩ st p => by
    subst e
    cases p
    exact q σ S1 H1 _ (I.step st) (fun w S2 H2 R2 M2 ⟨b, e, h1, h2, h3, h4, q2⟩ st2 p2 => by
      subst e
      cases p2
      refine ⟨a, b, rfl, rfl, ⟨by omega, by omega, by omega, by omega, by omega⟩, fun c hc => ?_⟩
      have s := st.trans st2
      have w := Stp.newS (o := .lst (rgV a b)) s.e s.m hc
      exact o (.ref c) _ _ _ _ q2 (s.trans w) ⟨c, _, rfl, upd_same, all2_rg _ a _⟩) (ox.step st)) ox
end
end L3

namespace L3
open PySem PySem.Spec L2 RZ PyProof.Rows
section
variable {E : XK} {K : PySem.W.Frag} {Γ : Ct} {M : SH} {k : KR} {X : KX} {R R1 R2 : Rep}
end
end L3
/-! ### l.index(z) in a comprehension -/
namespace L3
open PySem PySem.Spec L2 RZ PyProof.Rows
end L3
/-! ### the rest of a sequence by a name of its own: the goals stay small -/
namespace L3
open PySem PySem.Spec L2 RZ PyProof.Rows
section
variable {E : XK} {Γ : Ct} {M : SH} {D : EndT} {t u : TS}
theorem st_seqL (h : let r := u; St E t Γ M { D with nx := fun Γ1 M1 => St E r Γ1 M1 D }) : St E (tSeq t u) Γ M D := st_seq h
end
end L3
/-! ### what a goal is, told ahead of the rules tried at it -/
namespace L3
open PySem PySem.Spec L2 RZ PyProof.Rows
section
variable {E : XK} {K : PySem.W.Frag} {Γ : Ct} {M : SH} {D : EndT} {t u : TS} {te : TE} {tt : TT} {ta : TA} {k : KR} {X : KX} {R R1 R2 : Rep} {Rs : List Rep} {C : Addr}
theorem gSt (h : St E t Γ M D) : St E t Γ M D := h
theorem gEv (h : Ev E te Γ M k X) : Ev E te Γ M k X := h
theorem gEx {α : Sort _} {p : α → Prop} (h : ∃ x, p x) : ∃ x, p x := h
theorem gAnd {p q : Prop} (h : p ∧ q) : p ∧ q := h
theorem gIte {b : Bool} {p q : Prop} (h : if b = true then p else q) : if b = true then p else q := h
theorem gEq {α : Sort _} {x y : α} (h : x = y) : x = y := h
theorem gWk {Γ1 : Ct} (h : Wk Γ Γ1) : Wk Γ Γ1 := h
theorem gEa {ka : List Rep → SH → Prop} (h : Ea E ta Γ M ka X) : Ea E ta Γ M ka X := h
theorem gEt {kb : Bool → SH → Prop} (h : Et E tt Γ M kb X) : Et E tt Γ M kb X := h
theorem k_at_at {i : Nat} {P : Rep → Prop} (h : ∃ R, Γ[i]? = some (some R) ∧ P R) : ∃ R, Γ[i]? = some (some R) ∧ P R := h
theorem k_fld_at {f : Str} {P : Rep → Prop} (h : ∃ fs', HasO M R C fs' ∧ ∃ Rf, fs'.lookup f = some Rf ∧ P Rf) : ∃ fs', HasO M R C fs' ∧ ∃ Rf, fs'.lookup f = some Rf ∧ P Rf := h
theorem k_meth_at {m : Str} {P : FR → Prop} (h : ∃ fs', HasO M R C fs' ∧ fs'.lookup m = none ∧ P fs') : ∃ fs', HasO M R C fs' ∧ fs'.lookup m = none ∧ P fs' := h
theorem k_hg_at {z : Str} {P : Rep → Prop} (h : ∃ z' kvs', aStr z = aStr z' ∧ HasD M R kvs' ∧ ∃ Rf, kvs'.lookup z' = some Rf ∧ P Rf) : ∃ z' kvs', aStr z = aStr z' ∧ HasD M R kvs' ∧ ∃ Rf, kvs'.lookup z' = some Rf ∧ P Rf := h
theorem k_hd_at {P : FR → Prop} (h : ∃ kvs', HasD M R kvs' ∧ P kvs') : ∃ kvs', HasD M R kvs' ∧ P kvs' := h
theorem k_pd_at {P : List (Str × Str) → Prop} (h : ∃ ps', HasP M R ps' ∧ P ps') : ∃ ps', HasP M R ps' ∧ P ps' := h
theorem k_putD_at {a : Addr} {z : Str} {P : Str → Nat → FR → Prop} (h : ∃ (z' : Str) (i : Nat) (kvs : FR), aStr z = aStr z' ∧ M[i]? = some (a, mDK kvs) ∧ kvs.length < 1000000 ∧ P z' i kvs) : ∃ (z' : Str) (i : Nat) (kvs : FR), aStr z = aStr z' ∧ M[i]? = some (a, mDK kvs) ∧ kvs.length < 1000000 ∧ P z' i kvs := h
theorem k_setL_at {a : Addr} {x : Int} {P : Int → Nat → Nat → List Rep → Prop} (h : ∃ (y : Int) (n i : Nat) (rs : List Rep), iInt x = iInt y ∧ y = n ∧ M[i]? = some (a, mLst rs) ∧ n < rs.length ∧ P y n i rs) : ∃ (y : Int) (n i : Nat) (rs : List Rep), iInt x = iInt y ∧ y = n ∧ M[i]? = some (a, mLst rs) ∧ n < rs.length ∧ P y n i rs := h
theorem k_put_at {d : Addr} {a b : Str} {P : Str → Str → Nat → List (Str × Str) → Prop} (h : ∃ (a' b' : Str) (i : Nat) (ps : List (Str × Str)), [aStr a, aStr b] = [aStr a', aStr b'] ∧ M[i]? = some (d, mPD ps) ∧ ps.length < 1000000 ∧ P a' b' i ps) : ∃ (a' b' : Str) (i : Nat) (ps : List (Str × Str)), [aStr a, aStr b] = [aStr a', aStr b'] ∧ M[i]? = some (d, mPD ps) ∧ ps.length < 1000000 ∧ P a' b' i ps := h
theorem k_set_at {a : Addr} {P : Addr → Nat → FR → Prop} (h : ∃ (b : Addr) (j : Nat) (fs : FR), iRef a = iRef b ∧ M[j]? = some (b, mObj C fs) ∧ fs.length < 1000 ∧ P b j fs) : ∃ (b : Addr) (j : Nat) (fs : FR), iRef a = iRef b ∧ M[j]? = some (b, mObj C fs) ∧ fs.length < 1000 ∧ P b j fs := h
theorem k_app_at {a : Addr} {Q : Nat → List Rep → Addr → Prop} (h : ∃ (b : Addr) (i : Nat) (rs : List Rep), iRef a = iRef b ∧ M[i]? = some (b, mLst rs) ∧ Q i rs b) : ∃ (b : Addr) (i : Nat) (rs : List Rep), iRef a = iRef b ∧ M[i]? = some (b, mLst rs) ∧ Q i rs b := h
end
end L3

namespace L3
open PySem PySem.Spec L2 RZ PyProof.Rows
def dropH (S : Hp) (a : Addr) : Hp := fun b => if b = a then none else S b
section
variable {E : XK} {K : PySem.W.Frag} {Γ : Ct} {M : SH} {k : KR} {X : KX} {R R1 R2 : Rep} {te ta tb : TE} {tr : TA} {D : EndT} {t : TS}
/-- dict(l), l a list of pairs -/
def rDictP (K : PySem.W.Frag) : List V → Hp → VK → Prop := fun xs H Q => ∃ (a : Addr) (ps : List Addr) (kvs : List (Key × V)), xs = [.ref a] ∧ SqL K H a (ps.map V.ref) ∧ Paired (fun p kv => SqT K H p [kV kv.1, kv.2]) ps kvs ∧
    ∀ p, H p = none → Q (.ref p) (upd H p (.dK (mergeK [] kvs)))
theorem pairs_of {S H : Hp} (e : Same S H) : ∀ {kvs : FR} {xs : List V}, All2 S (kvs.map fun p => aTup K [aStr p.1, p.2]) xs → ∃ (ps : List Addr) (ws : List (Key × V)), xs = ps.map V.ref ∧ Paired (fun p (kv : Key × V) => SqT K H p [kV kv.1, kv.2]) ps ws ∧ DkOk S kvs ws
  | [], [], _ => ⟨[], [], rfl, .nil, rfl, True.intro⟩
  | [], _ :: _, h => h.elim
  | _ :: _, [], h => h.elim
  | (z, R) :: kvs, x :: xs, h => by
    obtain ⟨⟨a, ys, rfl, h1, h2⟩, h3⟩ := h
    obtain ⟨ps, ws, rfl, h4, h5⟩ := pairs_of e h3
    obtain ⟨v, w, rfl, p1, p2⟩ := all2_2 h2
    cases p1
    exact ⟨a :: ps, (.inr z, w) :: ws, rfl, .cons (Same.sqt e h1) h4, by simp [h5.nm], p2, h5.al⟩
theorem nd_inr : ∀ l : List Str, l.Nodup → (l.map (Sum.inr : Str → Key)).Nodup := by
  intro l
  induction l with
  | nil => intro _; simp
  | cons a l ih =>
    intro h
    rw [List.nodup_cons] at h
    rw [List.map_cons, List.nodup_cons]
    refine ⟨fun hm => ?_, ih h.2⟩
    obtain ⟨b, hb, e⟩ := List.mem_map.mp hm
    exact h.1 (Sum.inr.inj e ▸ hb)
theorem ev_dictP (h : Ev E ta Γ M (fun R M1 => ∃ kvs : FR, R = iLst (kvs.map fun p => aTup K [aStr p.1, p.2]) ∧ (kvs.map (·.1)).Nodup ∧ ∀ p, k (iRef p) (M1 ++ [(p, mDK kvs)])) X) : Ev E (tCB (rDictP K) (tCons ta tNil)) Γ M k X := fun σ S H Q I o ox =>
  h σ S H _ I (fun v S1 H1 R M1 ⟨kvs, e, nd, q⟩ st p => by
    subst e
    obtain ⟨a, xs, rfl, h1, h2⟩ := p
    obtain ⟨ps, ws, rfl, h3, ok⟩ := pairs_of st.e h2
    refine ⟨a, ps, ws, rfl, SqL.of (st.e _ _ h1), h3, fun p hp => ?_⟩
    have en : mergeK [] ws = ws := merge_new ws [] (by
      have e1 : ws.map (·.1) = (kvs.map (·.1)).map (Sum.inr : Str → Key) := by rw [ok.nm, List.map_map]; rfl
      rw [List.nil_append, e1]
      exact nd_inr _ nd)
    rw [en]
    exact o (.ref p) _ _ (iRef p) _ (q p) (st.trans (Stp.newM (P := mDK kvs) st.e st.m hp ⟨ws, rfl, ok⟩)) rfl) ox
end
end L3

namespace L3
open PySem PySem.Spec L2 RZ PyProof.Rows
section
variable {E : XK} {K : PySem.W.Frag} {Γ : Ct} {M : SH} {k : KR} {X : KX} {R R1 R2 : Rep} {te ta tb : TE} {tr : TA} {D : EndT} {t : TS}
/-- dict(d), a copy -/
def rDictD : List V → Hp → VK → Prop := fun xs H Q => ∃ (a : Addr) (kvs : List (Key × V)), xs = [.ref a] ∧ Rd H a (.dK kvs) ∧ ∀ p, H p = none → Q (.ref p) (upd H p (.dK kvs))
theorem call_dictDC {X : Cx} : CallR X (.type "dict") rDictD := call_dictD
theorem ev_dictD (h : Ev E ta Γ M (fun R M1 => ∃ kvs, HasD M1 R kvs ∧ ∀ p, k (iRef p) (M1 ++ [(p, mDK kvs)])) X) : Ev E (tCB rDictD (tCons ta tNil)) Γ M k X := fun σ S H Q I o ox =>
  h σ S H _ I (fun v S1 H1 R M1 ⟨kvs, hd, q⟩ st p => by
    obtain ⟨a, ws, rfl, hr, ok⟩ := hd.get st.e st.m p
    exact ⟨a, ws, rfl, hr, fun p hp => o (.ref p) _ _ (iRef p) _ (q p) (st.trans (Stp.newM (P := mDK kvs) st.e st.m hp ⟨ws, rfl, ok⟩)) rfl⟩) ox
end
end L3

namespace L3
open PySem PySem.Spec L2 RZ PyProof.Rows
section
variable {E : XK} {K : PySem.W.Frag} {Γ : Ct} {M : SH} {D : EndT} {t : TS}
/-- made stable here, or not -/
def tFzO (t : TS) : TS := fun D σ H => t D σ H ∨ tFz t D σ H
end
end L3

namespace L3
open PySem PySem.Spec L2 RZ PyProof.Rows
section
variable {E : XK} {K : PySem.W.Frag} {Γ : Ct} {M : SH} {te tl : TE} {vs : List Nat}
theorem ep_lcTM {α : Type} {l : List α} {e e' : α → Rep} {j : Nat} (hi : Ep E tl Γ M (aTup K (l.map e))) (hn : l.length ≤ 1000000) (hj : j ∈ vs)
    (he : ∀ x ∈ l, Ep E te ((wipeC Γ vs).set j (some (e x))) M (e' x)) : Ep E (tLc (L2.iTup K tl) (gName j) tYes te vs) Γ M (iLst (l.map e')) := by
  have := ep_lcT (K := K) (p := fun _ => true) (q := id) (e' := e') (l := l) (e := e) (te := te) (tt := tYes) hi hn hj (fun _ _ => etp_yes) (fun x hx _ => he x hx)
  rwa [List.map_id, List.filter_eq_self.mpr fun _ _ => rfl] at this
end
end L3

namespace L3
open PySem PySem.Spec L2 RZ PyProof.Rows
section
variable {E : XK} {K : PySem.W.Frag} {Γ : Ct} {M : SH} {k : KR} {X : KX} {ta : TE}
/-- sorted(l), l a list of whole numbers that may be changed -/
theorem ev_sortI (h : Ev E ta Γ M (fun R M1 => ∃ (a : Addr) (i : Nat) (ns : List Int), R = iRef a ∧ M1[i]? = some (a, mLst (ns.map iInt)) ∧ ∀ ns' : List Int, ns'.Perm ns → k (iLst (ns'.map iInt)) M1) X) : Ev E (tCB (rSortedI K) (tCons ta tNil)) Γ M k X := fun σ S H Q I o ox =>
  h σ S H _ I (fun v S1 H1 R M1 ⟨a, i, ns, e, hm, q⟩ st p => by
    subst e
    cases p
    obtain ⟨_, ob, ho, ys, rfl, al⟩ := st.m.at_ a _ (at_mem hm)
    have ey : ys = ns.map V.int := All2.flat (r := iInt) (g := V.int) (fun _ _ h => h) al
    subst ey
    refine ⟨a, ns, rfl, SqL.of ho, fun ns' c hp _ hc => ?_⟩
    have w := Stp.newS (o := .lst (ns'.map V.int)) st.e st.m hc
    refine o (.ref c) _ _ _ _ (q ns' hp) (st.trans w) ⟨c, _, rfl, upd_same, ?_⟩
    have gen : ∀ (S : Hp) (l : List Int), All2 S (l.map iInt) (l.map V.int) := fun S l => by
      induction l with
      | nil => exact True.intro
      | cons x l ih => exact ⟨rfl, ih⟩
    exact gen _ ns') ox
end
end L3

namespace L3
open PySem PySem.Spec L2 RZ PyProof.Rows
section
variable {E : XK} {K : PySem.W.Frag} {Γ : Ct} {M : SH} {k : KR} {X : KX} {ta : TE}
end
end L3

/-! len(set(l)), l a list of texts that are all unlike -/
namespace L3
open PySem PySem.Spec L2 RZ PyProof.Rows
section
variable {prog : Program} {w : World} {A : Around} {R : Result → Shared → Prop} {It : Addr} {fp wr : List Addr} {G : Array GenState → Array GenState → Prop} {n : Nat} {P : Nat → Value → Prop} {St : Nat → Shared → Prop}
end
section
variable {prog : Program} {w : World} {A : Around} {E : Value → Shared → Prop} {s : Shared}
/-- a heap with a new thing behind -/
abbrev seen (s : Shared) (o : Obj) : Shared := { s with heap := s.heap.push o }
abbrev bare (led : Bool) : Obj := { cls := .type "set", dict := none, data := .set #[] 0 (.fresh 0 0 led) }
end
section
variable {X : Cx} {a : Expr} {ta : TE}
def tLenSetN (K : PySem.W.Frag) (ta : TE) : TE := fun σ H Q => ta σ H fun x H1 => ∃ (l : Addr) (zs : List Str), x = V.ref l ∧ SqL K H1 l (zs.map V.str) ∧ zs.length < 4000 ∧ zs.Nodup ∧ Q (.int zs.length) H1
end
section
variable {E : XK} {K : PySem.W.Frag} {Γ : Ct} {M : SH} {k : KR} {X : KX} {ta : TE}
end
end L3

/-! == and != by a class's own __eq__ (with any answer), == of dicts whose keys are pairs of texts, isinstance of own classes, list(d.items()) -/
namespace L3
open PySem PySem.Spec L2 RZ PyProof.Rows
/-! ### low -/
section
variable {M : Model} {prog : Program} {w : World} {A : Around} {E : Value → Shared → Prop} {s : Shared} {K : PySem.W.Frag} {x C f L : Addr} {ox : Obj} {od : Option Obj} {b tb : Value} {h₀ : Heap} {m : Str → Option Value}
theorem subIn_bt {T : String} {l : List Value} (h : fastBuiltinMro T = some l) (hl : ∀ v ∈ l, ∃ n, v = .type n) : PySem.W.subIn K (.type T) (.ref C) = some false := by
  show (fastBuiltinMro T).map (·.contains (.ref C)) = some false
  rw [h]
  show some (l.contains (.ref C)) = some false
  congr 1
  rw [← Bool.not_eq_true, List.contains_iff_mem]
  intro hm
  obtain ⟨n, e⟩ := hl _ hm
  cases e
end
/-! dicts whose keys are tuples, every value True -/
section
variable {prog : Program} {w : World} {A : Around} {E : Value → Shared → Prop} {s : Shared} {K : Type} [DecidableEq K] {knd : HeapKind prog w K} {a b : Addr} {xs ys : List (K × Addr × Value)}
end
/-! ### what is asked of a class, besides Cls -/
structure OwnQ (K : PySem.W.Frag) (C : Addr) : Prop where
  ca : PySem.W.findIn K (.ref C) "__class__" = some (some (.builtin "object.__class__"))
  cn : PySem.W.specialIn K (.builtin "object.__class__") "__get__" = some (some (.builtin "getset_descriptor.__get__"))
  ct : PySem.W.takesIn K (.builtin "object.__class__") = some true
  mo : PySem.W.mroIn K C (.type "object") = some true
  ne : PySem.W.findIn K (.ref C) "__ne__" = some (some (.builtin "object.__ne__"))
  ci : (PySem.W.clsIn K C).isSome = true
  ty : PySem.W.typeIn K (.ref C) = some (.type "type")
/-- the plain types that come here -/
def PlT (T : String) : Prop := T = "NoneType" ∨ T = "int" ∨ T = "bool" ∨ T = "str" ∨ T = "list" ∨ T = "tuple"
theorem PlT.sub {K : PySem.W.Frag} {C : Addr} {T : String} (h : PlT T) : PySem.W.subIn K (.type T) (.ref C) = some false := by
  rcases h with rfl | rfl | rfl | rfl | rfl | rfl
  · exact subIn_bt (l := [.type "NoneType", .type "object"]) (by decide +kernel) (by simp)
  · exact subIn_bt (l := [.type "int", .type "object"]) (by decide +kernel) (by simp)
  · exact subIn_bt (l := [.type "bool", .type "int", .type "object"]) (by decide +kernel) (by simp)
  · exact subIn_bt (l := [.type "str", .type "object"]) (by decide +kernel) (by simp)
  · exact subIn_bt (l := [.type "list", .type "object"]) (by decide +kernel) (by simp)
  · exact subIn_bt (l := [.type "tuple", .type "object"]) (by decide +kernel) (by simp)
section
variable {X : Cx} {CX : CXT} {pins : List (Addr × Obj)} {σ : L2.St} {H : Hp} {s : Shared} {C : Addr} {k j : Nat} {ts : TSp} {E : XK}
/-- the other side of ==: of a plain type, or an instance of the class itself -/
def Oth (K : PySem.W.Frag) (C : Addr) (H : Hp) (y : V) : Prop := (∃ T, PlT T ∧ TyX K H y (.type T)) ∨ ∃ b dy gs, y = .ref b ∧ H b = some (.ins C dy gs)
def rEqC (K : PySem.W.Frag) (C : Addr) (sp : Sp) (E : XK) : R2 := fun x y H Q => ∃ a dx fs, x = .ref a ∧ H a = some (.ins C dx fs) ∧ Oth K C H y ∧ sp [x, y] H (fun v H' => ∃ r, v = .bl r ∧ Q (.bl r) H') E
def rNeC (K : PySem.W.Frag) (C : Addr) (sp : Sp) (E : XK) : R2 := fun x y H Q => ∃ a dx fs, x = .ref a ∧ H a = some (.ins C dx fs) ∧ Oth K C H y ∧ sp [x, y] H (fun v H' => ∃ r, v = .bl r ∧ Q (.bl (!r)) H') E
/-- == of two dicts whose keys are pairs of texts -/
def rEqT : R2 := fun x y H Q => ∃ (a b : Addr) (ps qs : List (Str × Str)), x = .ref a ∧ y = .ref b ∧ H a = some (.dT (ps.map pkV)) ∧ H b = some (.dT (qs.map pkV)) ∧ Q (.bl (ps.length == qs.length && ps.all fun p => decide (p ∈ qs))) H
end
/-! ### list(d.items()), the dict frozen or not -/
def rItemsR : V → Hp → VK → Prop := fun x H Q => ∃ (d : Addr) (kvs : List (Key × V)), x = .ref d ∧ Rd H d (.dK kvs) ∧
  ∀ (H' : Hp) (p : Addr) (ts : List Addr), (∀ b o, H b = some o → H' b = some o) → H p = none → (∀ t ∈ ts, H t = none) → p ∉ ts → H' p = some (.lst (ts.map V.ref)) → Paired (fun (t : Addr) (q : Key × V) => H' t = some (.tup [kV q.1, q.2])) ts kvs → Q (.ref p) H'
def tItemsR (te : TE) : TE := fun σ H Q => te σ H fun x H1 => rItemsR x H1 Q
/-- many new objects, kept in the stable part -/
theorem Stp.grow {S H H' : Hp} {M : SH} (e : Same S H) (m : MOk S H M) (hx : ∀ b o, H b = some o → H' b = some o) (D : List Addr) (new : ∀ b ∈ D, H b = none) : Stp S H (fun b => if b ∈ D then H' b else S b) H' M M := by
  have nS : ∀ b ∈ D, S b = none := fun b hb => by
    cases q : S b with
    | none => rfl
    | some u => have := e _ _ q; rw [new b hb] at this; cases this
  have sm : Same S (fun b => if b ∈ D then H' b else S b) := fun b u q => by
    show (if b ∈ D then H' b else S b) = some u
    rw [if_neg (fun z => by rw [nS b z] at q; cases q)]
    exact q
  refine ⟨sm, fun b u q => ?_, fun b h1 h2 => ?_, fun b u _ q => hx b u q, ⟨fun b P hp => ?_, m.nd⟩, fun _ h => .inl h⟩
  · by_cases hb : b ∈ D
    · simpa only [if_pos hb] using q
    · have q' : S b = some u := by simpa only [if_neg hb] using q
      exact hx _ _ (e _ _ q')
  · by_cases hb : b ∈ D
    · exact .inl (fre_none (new b hb))
    · exact absurd (by simpa only [if_neg hb] using h1) h2
  · obtain ⟨z, u, q1, q2⟩ := m.at_ b P hp
    have hb : b ∉ D := fun w => by rw [new b w] at q1; cases q1
    exact ⟨by simpa only [if_neg hb] using z, u, hx _ _ q1, P.m sm q2⟩
section
variable {E : XK} {K : PySem.W.Frag} {Γ : Ct} {M : SH} {k : KR} {X : KX} {R R1 R2 : Rep} {te ta tb tl : TE} {vs : List Nat} {D : EndT} {t u : TS} {c tt : TT} {tr : TA} {C : Addr}
theorem items_all {S : Hp} : ∀ {ts : List Addr} {vs : List (Key × V)} {kvs : FR}, Paired (fun (t : Addr) (q : Key × V) => S t = some (.tup [kV q.1, q.2])) ts vs → DkOk S kvs vs → All2 S (kvs.map fun p => aTup K [aStr p.1, p.2]) (ts.map V.ref)
  | _, _, [], .nil, _ => True.intro
  | _, _, _ :: _, .nil, h => by have := h.nm; simp at this
  | _, _, [], .cons _ _, h => by have := h.nm; simp at this
  | t :: ts, v :: vs, p :: kvs, .cons h r, ok => by
    have nm := ok.nm
    have al := ok.al
    rw [List.map_cons, List.map_cons] at nm
    injection nm with n1 n2
    refine ⟨⟨t, _, rfl, SqT.of h, ?_, al.1, True.intro⟩, items_all r ⟨n2, al.2⟩⟩
    rw [n1]
    rfl
theorem ev_itemsR (h : Ev E te Γ M (fun R M1 => ∃ kvs, HasD M1 R kvs ∧ k (iLst (kvs.map fun p => aTup K [aStr p.1, p.2])) M1) X) : Ev E (tItemsR te) Γ M k X := fun σ S H Q I o ox =>
  h σ S H _ I (fun v S1 H1 R M1 ⟨kvs, hd, q⟩ st p => by
    obtain ⟨a, ws, rfl, hr, ok⟩ := hd.get st.e st.m p
    refine ⟨a, ws, rfl, hr, fun H' p' ts hx hp hts hpn hl hpr => ?_⟩
    have g := Stp.grow st.e st.m hx (p' :: ts) (fun b hb => by
      rcases List.mem_cons.mp hb with e | hb
      · rw [e]; exact hp
      · exact hts b hb)
    refine o (.ref p') _ H' _ M1 q (st.trans g) ⟨p', ts.map V.ref, rfl, (if_pos (List.mem_cons_self ..)).trans hl, ?_⟩
    refine items_all (vs := ws) ?_ (ok.mono g.s)
    have gen : ∀ {l : List Addr} {w : List (Key × V)}, (∀ b ∈ l, b ∈ ts) → Paired (fun (t : Addr) (q : Key × V) => H' t = some (.tup [kV q.1, q.2])) l w → Paired (fun (t : Addr) (q : Key × V) => (if t ∈ p' :: ts then H' t else S1 t) = some (.tup [kV q.1, q.2])) l w := by
      intro l w hs pr
      induction pr with
      | nil => exact .nil
      | cons h t ih =>
        refine .cons ?_ (ih fun b hb => hs b (List.mem_cons_of_mem _ hb))
        rw [if_pos (List.mem_cons_of_mem _ (hs _ (List.mem_cons_self ..)))]
        exact h
    exact gen (fun _ h => h) hpr) ox
/-! ### the typed rules -/
def OthR (K : PySem.W.Frag) (C : Addr) (M : SH) (R : Rep) : Prop := ∀ S H y, Same S H → MOk S H M → R.p S y → Oth K C H y
theorem ev_ref {a : Addr} (q : k (iRef a) M) : Ev E (tC (.ref a)) Γ M k X := fun σ S H Q I o _ => o _ S H (iRef a) M q (Stp.refl I.ex I.m) rfl
end
end L3

/-! small words: room for ==, data that is equal -/
namespace L3
open PySem L2 RZ PyProof.Rows
theorem hu1_of {A : Around} {k : Nat} (hr : Room k A) : A.units + 1 < cLine := by have := hr.un; omega
theorem eqvAll_map {α : Type} [DecidableEq α] {g : α → PyData} (h : ∀ x y, PyData.eqv (g x) (g y) = decide (x = y)) : ∀ l m : List α, PyData.eqvAll (l.map g) (m.map g) = decide (l = m)
  | [], [] => by simp [PyData.eqvAll]
  | [], _ :: _ => by simp [PyData.eqvAll]
  | _ :: _, [] => by simp [PyData.eqvAll]
  | a :: l, b :: m => by
    simp only [List.map_cons, PyData.eqvAll, h a b, eqvAll_map h l m]
    rw [Bool.eq_iff_iff]
    simp
theorem eqv_str (x y : Str) : PyData.eqv (.str x) (.str y) = decide (x = y) := by
  show (x == y) = _
  rw [Bool.eq_iff_iff]
  simp
theorem eqv_list (xs ys : List PyData) : PyData.eqv (.list xs) (.list ys) = PyData.eqvAll xs ys := by simp [PyData.eqv]
section
variable {K : PySem.W.Frag} {M : SH}
theorem o_neL {α : Type} [DecidableEq α] {g : α → PyData} {e : α → Rep} (he : ∀ x, e x = iDat K (g x)) (h : ∀ x y, PyData.eqv (g x) (g y) = decide (x = y)) {l m : List α} (hl : ∀ x ∈ l, Shp 63 (g x)) (hm : ∀ x ∈ m, Shp 63 (g x)) :
    O2p (rNeD K) (iLst (l.map e)) (iLst (m.map e)) M (iBl (!decide (l = m))) := by
  have := o_neD (K := K) (M := M) (d := .list (l.map g)) (e := .list (m.map g)) ((shp_list (fun d hd => by obtain ⟨x, hx, rfl⟩ := List.mem_map.mp hd; exact hl x hx) : Shp 64 _).ok) ((shp_list (fun d hd => by obtain ⟨x, hx, rfl⟩ := List.mem_map.mp hd; exact hm x hx) : Shp 64 _).ok)
  rw [eqv_list, eqvAll_map h] at this
  refine this.as ?_ ?_
  · exact dat_lst (dat_maps he l)
  · exact dat_lst (dat_maps he m)
end
section
variable {E : XK} {K : PySem.W.Frag} {Γ : Ct} {M : SH} {k : KR} {X : KX} {R R1 R2 : Rep} {te ta tb tl : TE} {vs : List Nat} {D : EndT} {t u : TS} {c tt : TT} {tr : TA} {wi : TI} {n : Nat} {rs : Nat → Rep → Prop}
end
end L3

/-! dict comprehensions with keys of any kind; dicts whose keys are tuples; two fors in a comprehension; x += e -/
namespace L3
open PySem PySem.Spec L2 RZ PyProof.Rows
/-! ### {k: v for ..}, low -/
/-- the store that a comprehension makes -/
theorem putAny {X : Cx} {pins : List (Addr × Obj)} {σ : L2.St} {H H2 : Hp} {s : Shared} {E : Value → Shared → Prop} {D : Addr} {y v : V} {ku vu : Value} {Q : Unit → Shared → Prop}
    (room : X.A.units + 1 < cLine) (inv : Inv X pins σ H s) (put : DPut H D y v H2) (ky : RelV y ku) (vy : RelV v vu) (next : ∀ s2, Inv X pins σ H2 s2 → Q () s2) :
    wpAny (model X.prog X.w) X.A (dictSet D ku vu) Q E s := by
  rcases put with ⟨kvs, key, hD, rfl, small, rfl⟩ | ⟨kvs, key, b, hD, rfl, hb, small, rfl⟩
  · exact d_dictSet inv hD small ky vy next
  · cases (show ku = Value.ref b from ky)
    obtain ⟨lz, nD, xs, rel, held⟩ := dt_of inv.hok hD
    have lx : xs.length ≤ sizeLine := Paired.length rel ▸ lz
    have lp := length_putK kvs key v
    refine wpAny_dictSet_heap (hsz := lx) (show (tupleKind (mixKind X.prog X.w)).room X.A from Nat.lt_of_succ_lt room) (key_of inv.hok hb) held (fun g held2 same => next _ ?_)
    obtain ⟨ob, ents, ep, a1, a2, a3, a4, _, a5⟩ := held2
    have mu : Mut (H D) := by rw [hD]; trivial
    refine d_write inv mu same ⟨ob, a1⟩ ⟨by omega, nD, _, ?_, ob, ents, ep, a1, a2, a3, a4, a5⟩
    exact (rel.put key hb vy).keeps fun c ys ec => (upd_ne (ne_of ec hD fun z => nomatch z)).trans ec
def tDcA (o0 : HO) (wi : TI) (g : TG) (tt : TT) (tk tv : TE) (vs : List Nat) : TE := fun σ H Q => wi σ H fun J H1 => ∀ D, H1 D = none →
  ∃ W : Nat → Nat → Hp → Prop, (∃ m, W 0 m (upd H1 D o0)) ∧ ∀ i m H, W i m H →
    (J.stop i H ∧ Q (.ref D) H) ∨ (J.go i H ∧ ∃ Z : Hp → Prop, (∀ H', Z H' → ∃ n, n < m ∧ W (i + 1) n H') ∧
      ∀ x H', J.yld i H x H' → g x (L2.wipe σ vs) H' fun σ2 H2 => L2.wipe σ2 vs = L2.wipe σ vs ∧ tt σ2 H2 fun b H3 =>
        if b = true then tk σ2 H3 fun y H4 => tv σ2 H4 fun z H5 => ∃ H6, DPut H5 D y z H6 ∧ Z H6 else Z H3)
theorem cls_empty {P : Program} {w : World} {H : Hp} {o0 : HO} (h0 : o0 = .dK [] ∨ o0 = .dT []) (h : Heap) (big : sysModules < h.objs.size) : ObjOk P w H (h.push { cls := .type "dict", data := .dict #[] }) h.objs.size o0 := by
  rcases h0 with rfl | rfl
  · exact dk_empty h big
  · exact dt_empty h big
section
variable {X : Cx} {kx vx tg iter : Expr} {ifs : List Expr} {scope : Scope} {own : List (Str × Nat)} {wi : TI} {g : TG} {tt : TT} {tk tv : TE}
/-- what a turn leaves behind: the block's context as at the turn's begin -/
theorem turnEnd {B : Cx} {ps : List (Addr × Obj)} {σ σ2 : L2.St} {H2 : Hp} {h1 : Heap} {s2 : Shared} {fp : List Addr} {it : Addr} {tg : Expr} {J : It} {tn : Nat → Heap → Prop} {i : Nat} (T : Turn B.prog B.w B.K tg J fp it tn) (t1 : tn i h1) (vs : List Nat)
    (J2 : Inv B ([] ++ pinsAt fp h1) σ2 H2 s2) (e : L2.wipe σ2 vs = L2.wipe σ vs) : Inv B [] (L2.wipe σ vs) H2 s2 ∧ tn i s2.heap ∧ ∀ b ∈ fp, H2 b = none := by
  have held : ∀ b ∈ fp, ∀ o, h1.get? b = some o → s2.heap.get? b = some o ∧ H2 b = none := fun b hb o q => by
    have z := J2.pin (b, o) (List.mem_append_right _ (List.mem_append_right _ (mem_pinsAt hb q)))
    exact ⟨z.1, z.2.1⟩
  refine ⟨(J2.unpinned (pins := [])).weak (by rw [← e, L2.wipe_length]) (fun j v q => ?_), T.keep _ _ _ t1 fun b hb o q => (held b hb o q).1, fun b hb => ?_⟩
  · rw [← e] at q
    exact (wipe_some q).1
  · obtain ⟨o, q, _⟩ := T.obj _ _ t1 b hb
    exact (held b hb o q).2
theorem dcRun {s0 : Shared} {Hb : Hp} {ce : Env} {fp : List Addr} {D it : Addr} {tn : Nat → Heap → Prop} {J : It} {σ : L2.St} {W : Nat → Nat → Hp → Prop} {R : Result → Shared → Prop} {pos : Pos} {s4 : Shared} {m0 : Nat} (vs : List Nat) (room : X.A.units + 1 < cLine) (calm : X.calm = true)
    (T : Turn X.prog X.w X.K tg J fp it tn) (pg : PG (X.blk s0 Hb scope ce fp) tg g) (pt : PTs (X.blk s0 Hb scope ce fp) ifs tt) (pk : PE (X.blk s0 Hb scope ce fp) kx tk) (pv : PE (X.blk s0 Hb scope ce fp) vx tv)
    (turn : ∀ i m H, W i m H → (J.stop i H ∧ ∀ s', Inv (X.blk s0 Hb scope ce fp) [] (L2.wipe σ vs) H s' → R (.ok .next) s') ∨ (J.go i H ∧ ∃ Z : Hp → Prop, (∀ H', Z H' → ∃ n, n < m ∧ W (i + 1) n H') ∧
      ∀ x H', J.yld i H x H' → g x (L2.wipe σ vs) H' fun σ2 H2 => L2.wipe σ2 vs = L2.wipe σ vs ∧ tt σ2 H2 fun b H3 =>
        if b = true then tk σ2 H3 fun y H4 => tv σ2 H4 fun z H5 => ∃ H6, DPut H5 D y z H6 ∧ Z H6 else Z H3))
    (I0 : Inv (X.blk s0 Hb scope ce fp) [] (L2.wipe σ vs) Hb s4) (t0 : tn 0 s4.heap) (n0 : ∀ b ∈ fp, Hb b = none) (w0 : W 0 m0 Hb) :
    codeAny (model X.prog X.w) X.A (.compLoop (.DictComp kx vx [⟨tg, iter, ifs, 0⟩] scope pos) 0 (.ref it) (.ref D) ce) R s4 := by
  let B := X.blk s0 Hb scope ce fp
  have ready : ∀ {σ' : L2.St} {H' : Hp} {s' : Shared}, Inv B [] σ' H' s' → (∀ b ∈ fp, H' b = none) → ∀ b ∈ fp, FpOk B [] H' b := fun Iv nn b hb => by
    obtain ⟨c1, c2⟩ := Iv.ok.exf b hb
    exact ⟨nn b hb, c1, Iv.ok.exfs b hb, .inl hb, fun x c e => c2 x c e, fun p hp => absurd hp (by rw [List.nil_append]; exact List.not_mem_nil)⟩
  refine compLoop_anyD (fun n s' => ∃ i H', Inv B [] (L2.wipe σ vs) H' s' ∧ tn i s'.heap ∧ (∀ b ∈ fp, H' b = none) ∧ W i n H') (fun n s5 ⟨i, H5, I5, t5, n5, w5⟩ => ?_) m0 ⟨0, Hb, I0, t0, n0, w0⟩
  have fr := ready I5 n5
  rcases turn i n H5 w5 with ⟨stop, told⟩ | ⟨go, Z, back, step⟩
  · refine thnF (T.done B rfl rfl rfl calm i [] s5 _ H5 (fun _ _ => False) I5 fr t5 stop) fun r s6 z => ?_
    obtain ⟨rfl, I6⟩ := z
    exact told s6 I6
  · refine thnF (T.item B rfl rfl rfl calm i [] s5 _ H5 (fun _ _ => False) I5 fr t5 go) fun r s6 z => ?_
    obtain ⟨u, rfl, h6⟩ := z
    refine thnF h6 fun _ s7 z => ?_
    obtain ⟨x, H7, I7, r7, y7, t7, n7⟩ := z
    have P7 := I7.pinned (ready I7 n7) (T.obj _ _ t7)
    refine thnF (pg.run _ s7 _ H7 x u _ P7 r7 (step x H7 y7)) fun _ s8 z => ?_
    obtain ⟨σ8, H8, I8, e8, q8⟩ := z
    have close : ∀ {s' : Shared} {H' : Hp}, Inv B ([] ++ pinsAt fp s7.heap) σ8 H' s' → Z H' → ∃ k, k < n ∧ ∃ i H', Inv B [] (L2.wipe σ vs) H' s' ∧ tn i s'.heap ∧ (∀ b ∈ fp, H' b = none) ∧ W i k H' := fun Iz hz => by
      obtain ⟨k, hk, w'⟩ := back _ hz
      obtain ⟨a1, a2, a3⟩ := turnEnd (B := B) (ps := []) T t7 vs Iz e8
      exact ⟨k, hk, i + 1, _, a1, a2, a3, w'⟩
    refine thnF (pt.run _ s8 σ8 H8 _ I8 q8) fun b s9 z => ?_
    obtain ⟨H9, I9, q9⟩ := z
    by_cases hb : b = true
    · rw [if_pos hb] at q9 ⊢
      refine thnF (pk.run _ s9 σ8 H9 _ I9 q9) fun ku s10 z => ?_
      obtain ⟨yk, H10, I10, r10, q10⟩ := z
      refine thnF (pv.run _ s10 σ8 H10 _ I10 q10) fun vu s11 z => ?_
      obtain ⟨yv, H11, I11, r11, H12, put, hz⟩ := z
      exact putAny (X := B) room I11 put r10 r11 fun s12 I12 => close I12 hz
    · rw [if_neg hb] at q9 ⊢
      exact close I9 q9
/-- {k: v for target in iter if ..}: the value goes to use -/
theorem dcCore {o0 : HO} {pos pos2 : Pos} {use : Option (Value → Sem Unit)} {Qf : Value → Shared → Prop} {pins : List (Addr × Obj)} {s : Shared} {σ : L2.St} {H : Hp} {Q : VK} (I : Inv X pins σ H s) (h0 : o0 = .dK [] ∨ o0 = .dT []) (room : X.A.units + 1 < cLine) (calm : X.calm = true) (nodup : X.N.Nodup) (hi : PI X tg iter wi) (ok : BlkOk X.N X.env.scope scope own)
    (pg : ∀ s H C cl fp, PG (X.blk s H scope (compEnvC scope cl C X.env) fp) tg g) (pt : ∀ s H C cl fp, PTs (X.blk s H scope (compEnvC scope cl C X.env) fp) ifs tt)
    (pk : ∀ s H C cl fp, PE (X.blk s H scope (compEnvC scope cl C X.env) fp) kx tk) (pv : ∀ s H C cl fp, PE (X.blk s H scope (compEnvC scope cl C X.env) fp) vx tv)
    (fo : ∀ x, foldedSetIterable iter X.env x = pure x) (h : tDcA o0 wi g tt tk tv (own.map (·.2)) σ H Q)
    (back : ∀ D C s' m H', Inv X pins σ H' s' → Q (.ref D) H' → s'.heap.Ns C m → FpOk X pins H' C → compPost (model X.prog X.w) X.A X.xe use Qf (.ref D) C (.ok .next) s') :
    wpAny (model X.prog X.w) X.A (comprehension (.DictComp kx vx [⟨tg, iter, ifs, 0⟩] scope pos) scope X.env pos2 newDict false (eval iter X.env) use) Qf X.xe s := by
  have cells : ∀ y ∈ scope.names, y.2 = .free → ∃ c, X.env.cells.lookup y.1 = some c := fun y hy e => I.ok.has _ ((ok.free y hy e).elim .inl .inr)
  refine wpAny_comprehension_free (use := use) rfl fo (closure_ok cells) ok.kind (fun y hy e => by rw [ok.uniq y hy, e]) ?_
  refine thn (hi.run pins s σ H _ I h) fun xv s1 hx => thn hx fun itv s2 z => ?_
  obtain ⟨it, fp, tn, J, H2, rfl, I2, T, t2, f2, q⟩ := z
  refine wpAny_newObj_type (newEnv_comp ?_)
  try dsimp only
  obtain ⟨W, ⟨m0, w0⟩, turn⟩ := q s2.heap.objs.size (I2.hok.fresh (Nat.le_refl _))
  generalize eD : s2.heap.objs.size = D at w0 turn ⊢
  have newD : H2 D = none := I2.hok.fresh (Nat.le_of_eq eD)
  have keep3 : ∀ b o, s2.heap.get? b = some o → (s2.heap.push { cls := .type "dict", data := .dict #[] }).get? b = some o := fun b o e => Heap.get?_push_of_some _ e
  have I3 : Inv X pins σ (upd H2 D o0) { s2 with heap := s2.heap.push { cls := .type "dict", data := .dict #[] } } := by
    refine I2.laid (t' := s2.toks) keep3 (Nat.le_of_eq eD) ?_
    rw [← eD]
    exact cls_empty h0 s2.heap I2.big
  suffices main : ∀ s3 : Shared, Inv X pins σ (upd H2 D o0) s3 → s3.heap = s2.heap.push { cls := .type "dict", data := .dict #[] } →
      codeAny (model X.prog X.w) X.A (.compStart (.DictComp kx vx [⟨tg, iter, ifs, 0⟩] scope pos) 0 (.ref it) (.ref D)
        (compEnvC scope (cellsFrom (s3.heap.objs.size + 1) scope.names (cloFrom X.env.cells scope.names [])) s3.heap.objs.size X.env))
        (compPost (model X.prog X.w) X.A X.xe use Qf (.ref D) s3.heap.objs.size)
        { s3 with heap := pushCells (s3.heap.push { cls := .type "dict", data := .dict #[] }) scope.names } from main _ I3 rfl
  clear I3
  intro s3 I3 h3
  have f3 : ∀ b ∈ fp, FpOk X pins (upd H2 D o0) b ∧ b < s3.heap.objs.size := fun b hb => by
    obtain ⟨o, e, _⟩ := T.obj _ _ t2 b hb
    have lt := Heap.lt_size e
    rw [eD] at lt
    refine ⟨⟨(upd_ne (Nat.ne_of_lt lt)).trans (f2 b hb).1, (f2 b hb).2⟩, ?_⟩
    rw [h3, Heap.size_push, eD]
    exact Nat.lt_succ_of_lt lt
  have t3 : tn 0 s3.heap := T.keep _ _ _ t2 fun b _ o e => by rw [h3]; exact keep3 b o e
  have I4 := block_start I3 ok nodup f3
  generalize eH : upd H2 D o0 = H3 at I3 I4 w0 f3
  generalize ec : cellsFrom (s3.heap.objs.size + 1) scope.names (cloFrom X.env.cells scope.names []) = cl at I4 ⊢
  generalize eS : ({ s3 with heap := pushCells (s3.heap.push { cls := .type "dict", data := .dict #[] }) scope.names } : Shared) = s4 at I4 ⊢
  have t4 : tn 0 s4.heap := T.keep _ _ _ t3 fun b _ o e => by rw [← eS]; exact pushCells_keeps _ _ _ _ (Heap.get?_push_of_some _ e)
  have run := dcRun (X := X) (s0 := s3) (Hb := H3) (ce := compEnvC scope cl s3.heap.objs.size X.env) (D := D) (R := compPost (model X.prog X.w) X.A X.xe use Qf (.ref D) s3.heap.objs.size) (pos := pos) (m0 := m0) (W := W) (σ := σ) (it := it) (iter := iter) (kx := kx) (vx := vx) (ifs := ifs) (own.map (·.2)) room calm T (pg _ _ _ _ _) (pt _ _ _ _ _) (pk _ _ _ _ _) (pv _ _ _ _ _) (fun i m Hx w => ?_) I4 t4 (fun b hb => (f3 b hb).1.1) w0
  · exact codeAny_compStart_dict run (T.self X.A 0 _ _ _ t4 run)
  · rcases turn i m Hx w with ⟨a, b⟩ | z
    · refine .inl ⟨a, fun s' Iz => ?_⟩
      have I7 : Inv X pins σ Hx s' := I3.call' (ch := fp) Iz.os Iz.base Iz.hok Iz.bare fun b hb => by
        obtain ⟨_, z1, _, z3, z4, z5⟩ := (f3 b hb).1
        exact ⟨z3, z1, z4, z5⟩
      have nC : Hx s3.heap.objs.size = none := Iz.free
      obtain ⟨mm, hn, _⟩ := Iz.loc
      exact back D s3.heap.objs.size s' mm Hx I7 b hn (I3.fpOk (Nat.le_refl _) nC)
    · exact .inr z
/-- y = {..} -/
theorem ps_setDcA {o0 : HO} {i : Nat} {y : Str} {py pos spos : Pos} (h0 : o0 = .dK [] ∨ o0 = .dT []) (room : X.A.units + 1 < cLine) (calm : X.calm = true) (nodup : X.N.Nodup) (hy : X.N[i]? = some y) (loc : X.env.scope.names.lookup y = some .local)
    (sw : swapsWith (.DictComp kx vx [⟨tg, iter, ifs, 0⟩] scope pos) (some (.Name y py)) spos.line X.env = pure true) (hi : PI X tg iter wi) (ok : BlkOk X.N X.env.scope scope own)
    (pg : ∀ s H C cl fp, PG (X.blk s H scope (compEnvC scope cl C X.env) fp) tg g) (pt : ∀ s H C cl fp, PTs (X.blk s H scope (compEnvC scope cl C X.env) fp) ifs tt)
    (pk : ∀ s H C cl fp, PE (X.blk s H scope (compEnvC scope cl C X.env) fp) kx tk) (pv : ∀ s H C cl fp, PE (X.blk s H scope (compEnvC scope cl C X.env) fp) vx tv)
    (fo : ∀ x, foldedSetIterable iter X.env x = pure x := by intro _; rfl) : PS X (.Assign [.Name y py] (.DictComp kx vx [⟨tg, iter, ifs, 0⟩] scope pos) spos) (tAsg (tDcA o0 wi g tt tk tv (own.map (·.2))) (gName i)) := by
  refine ⟨fun pins s σ H D I h => ?_⟩
  rw [exec_Assign_Name_used _ _ _ _ sw]
  refine wpAny_bind (wpAny_standAt (wpAny_bind (wpAny_bind ?_)))
  refine thn (dcCore (Qf := fun _ s' => SP X pins D .next s') (use := some (assign (.Name y py) X.env)) (Q := fun x H1 => gName i x σ H1 D.nx) I h0 room calm nodup hi ok pg pt pk pv fo h fun L C s' mm Hx I7 b hn f => ?_) fun _ s' hq => wpAny_pure (wpAny_pure hq)
  obtain ⟨_, g1, g2, g3, g4, g5⟩ := f
  show wpAny _ _ (assign (.Name y py) X.env (.ref L)) _ _ _
  refine wpAny_assign_Name (store_ok2 (v := V.ref L) I7 nodup hy (.inl loc) rfl (fun s2 I2 z => ?_) (.inr loc))
  obtain ⟨a, sb, ha⟩ := z
  have apart : C ≠ a := ha.elim (fun z => by rw [z]; exact g1) fun z e => g4 y a z e.symm
  exact ⟨mm, hn.sameBut sb apart, fun h3 sb3 => ⟨_, Hx, I2.turned (t' := s2.toks) (fun b o hb e => (sb3.2 b hb).trans e) ‹_› g1 g3 g4 g5, b⟩⟩
theorem sw_dict {kx vx : Expr} {gs : List Comprehension} {scope : Scope} {pos py : Pos} {y : Str} {l : Nat} {env : Env} (kind : env.scope.kind = .function) (loc : env.scope.names.lookup y = some .local) (line : (py.line == pos.line) = true)
    (apart : (scope.names.any fun (n, k) => n == y && (k == .local || k == .cell)) = false) : swapsWith (.DictComp kx vx gs scope pos) (some (.Name y py)) l env = pure true := by
  have k1 : env.kindOf y = some .local := loc
  have k2 : env.blockKind = .function := by unfold Env.blockKind; rw [kind]; rfl
  unfold swapsWith
  simp only [k2, k1, apart, Expr.pos, line]
  rfl
end
/-! ### typed -/
theorem wipe_self (σ : L2.St) (vs : List Nat) : L2.wipe (L2.wipe σ vs) vs = L2.wipe σ vs := by
  have one : ∀ u ∈ vs, (L2.wipe σ vs).set u none = L2.wipe σ vs := by
    intro u hu
    have gen : ∀ ws : List Nat, u ∈ ws → (L2.wipe σ ws).set u none = L2.wipe σ ws := by
      intro ws
      induction ws with
      | nil => intro z; cases z
      | cons w ws ih =>
        intro z
        show ((L2.wipe σ ws).set w none).set u none = (L2.wipe σ ws).set w none
        by_cases e : w = u
        · subst e; rw [List.set_set]
        · rcases List.mem_cons.mp z with z | z
          · exact absurd z.symm e
          · rw [List.set_comm _ _ e, ih z]
    exact gen vs hu
  have all : ∀ us : List Nat, (∀ u ∈ us, u ∈ vs) → L2.wipe (L2.wipe σ vs) us = L2.wipe σ vs := by
    intro us
    induction us with
    | nil => intro _; rfl
    | cons u us ih =>
      intro hu
      show (L2.wipe (L2.wipe σ vs) us).set u none = L2.wipe σ vs
      rw [ih fun z hz => hu z (List.mem_cons_of_mem _ hz)]
      exact one u (hu u (List.mem_cons_self ..))
  exact all vs fun _ h => h
/-- a key and a value may be put -/
def PutOk (P : MRep) (Rk Rv : Rep) (P' : MRep) : Prop := ∀ S H D y z o, Same S H → P.p S o → H D = some o → Rk.p S y → Rv.p S z → ∃ o', DPut H D y z (upd H D o') ∧ P'.p S o'
section
variable {E : XK} {K : PySem.W.Frag} {Γ : Ct} {M : SH} {k : KR} {X : KX} {R R1 R2 : Rep} {te ta tb tl tk tv : TE} {vs : List Nat} {D : EndT} {t u : TS} {c tt : TT} {tr : TA} {wi : TI} {n : Nat} {rs : Nat → Rep → Prop}
theorem ev_dcG {β : Type} {o0 : HO} {g : TG} (P : β → MRep) (b0 : β) (h00 : ∀ S, (P b0).p S o0) (hv : vs ≠ [])
    (h : Ti E wi Γ M (fun n rs M1 => ∃ J : Nat → β → SH → Prop, J 0 b0 M1 ∧ (∀ i r acc M2, i < n → rs i r → J i acc M2 →
      Tg g r (wipeC Γ vs) M2 vs fun Γ3 M3 => Et E tt Γ3 M3 (fun b M4 => if b = true then Ev E tk Γ3 M4 (fun Rk M5 => Ev E tv Γ3 M5 (fun Rv M6 => ∃ acc', PutOk (P acc) Rk Rv (P acc') ∧ J (i + 1) acc' M6) X0) X0 else J (i + 1) acc M4) X0) ∧
      ∀ acc M2, J n acc M2 → ∀ a, k (iRef a) (M2 ++ [(a, P acc)])) X) : Ev E (tDcA o0 wi g tt tk tv vs) Γ M k X := fun σ S H Q I o ox =>
  h σ S H _ I (fun Jt S1 H1 n rs M1 ⟨V, v0, vs', vd⟩ st w Dl hD => by
    obtain ⟨G, Y, wk, hG, hY⟩ := w
    have s0 := st.trans (Stp.newM (o := o0) (P := P b0) st.e st.m hD (h00 _))
    refine ⟨fun i m H' => m = n - i ∧ i ≤ n ∧ ∃ Sx Mx acc, Same Sx H' ∧ Stp S H Sx H' M (Mx ++ [(Dl, P acc)]) ∧ Same S1 Sx ∧ V i acc Mx, ⟨n, by simp, Nat.zero_le _, S1, M1, b0, s0.e, s0, Same.refl _, v0⟩, ?_⟩
    rintro i m H' ⟨rfl, hi, Sx, Mx, acc, ex, sx, s1, vx⟩
    have hq := hG Sx H' s1 ex
    by_cases hlt : i < n
    · refine .inr ⟨wk.goes i H' hlt hq, fun H'' => ∃ Sx Mx acc, Same Sx H'' ∧ Stp S H Sx H'' M (Mx ++ [(Dl, P acc)]) ∧ Same S1 Sx ∧ V (i + 1) acc Mx, fun H'' z => ⟨n - (i + 1), by omega, rfl, hlt, z⟩, fun x H'' y => ?_⟩
      obtain ⟨S', r, s', hr, pr⟩ := hY i H' x H'' hlt (wk.yields i H' x H'' hlt hq y) Sx (Mx ++ [(Dl, P acc)]) s1 ex sx.m
      have I' : Nv S' H'' (L2.wipe σ vs) (wipeC Γ vs) Mx := by
        have := (I.step (sx.trans s')).wipe vs
        exact ⟨this.ex, this.len, this.sl, this.m.left⟩
      have m' : MOk S' H'' (Mx ++ [(Dl, P acc)]) := s'.m
      refine vs' i r acc Mx hlt hr vx x (L2.wipe σ vs) S' H'' _ I' pr fun σ2 S2 H2 Γ2 M2 q st2 I2 w2 => ⟨(w2 hv).trans (wipe_self σ vs), ?_⟩
      have sf2 := st2.frame m'
      refine q σ2 S2 H2 _ I2 (fun b S3 H3 M3 q3 st3 => ?_) (fun _ _ _ _ _ _ z => z.elim)
      have sf3 := st3.frame sf2.m
      cases b with
      | false =>
        rw [if_neg Bool.false_ne_true] at q3
        rw [if_neg Bool.false_ne_true]
        exact ⟨S3, M3, acc, sf3.e, ((sx.trans s').trans sf2).trans sf3, s1.trans (s'.s.trans (sf2.s.trans sf3.s)), q3⟩
      | true =>
        rw [if_pos rfl] at q3
        rw [if_pos rfl]
        refine q3 σ2 S3 H3 _ (I2.step st3) (fun y S4 H4 R4 M4 q4 st4 p4 => ?_) (fun _ _ _ _ _ _ z => z.elim)
        have sf4 := st4.frame sf3.m
        refine q4 σ2 S4 H4 _ ((I2.step st3).step st4) (fun z S5 H5 R5 M5 q5 st5 p5 => ?_) (fun _ _ _ _ _ _ z => z.elim)
        have sf5 := st5.frame sf4.m
        have tot := ((((sx.trans s').trans sf2).trans sf3).trans sf4).trans sf5
        obtain ⟨acc', put, jn⟩ := q5
        obtain ⟨_, ob, ho, pa⟩ := tot.m.at_ Dl (P acc) (List.mem_append_right _ (List.mem_singleton.mpr rfl))
        obtain ⟨o', dp, po⟩ := put S5 H5 Dl y z ob tot.e pa ho (R4.m sf5.s p4) p5
        have wr := Stp.wrM (A := M5) (B := []) (a := Dl) (P := P acc) (P' := P acc') (o := o') tot.e tot.m po
        exact ⟨_, dp, S5, M5, acc', wr.e, tot.trans wr, s1.trans (s'.s.trans (sf2.s.trans (sf3.s.trans (sf4.s.trans sf5.s)))), jn⟩
    · have e : i = n := by omega
      subst e
      exact .inl ⟨wk.stops H' hq, o (.ref Dl) Sx H' (iRef Dl) _ (vd acc Mx vx Dl) sx rfl⟩) ox
end
end L3

/-! dicts whose keys are tuples of texts and whole numbers -/
namespace L3
open PySem PySem.Spec L2 RZ PyProof.Rows
def kR : Key → Rep
  | .inl i => iInt i
  | .inr z => aStr z
theorem kR_p {S : Hp} {q : Key} {v : V} : (kR q).p S v ↔ v = kV q := by
  cases q <;> exact Iff.rfl
theorem kRs_p {S : Hp} : ∀ {ks : List Key} {vs : List V}, All2 S (ks.map kR) vs ↔ vs = ks.map kV
  | [], [] => ⟨fun _ => rfl, fun _ => True.intro⟩
  | [], _ :: _ => ⟨fun h => h.elim, fun h => nomatch h⟩
  | _ :: _, [] => ⟨fun h => h.elim, fun h => nomatch h⟩
  | q :: ks, v :: vs => by
    constructor
    · rintro ⟨h1, h2⟩
      rw [List.map_cons, kR_p.mp h1, kRs_p.mp h2]
    · intro h
      rw [List.map_cons] at h
      injection h with h1 h2
      exact ⟨kR_p.mpr h1, kRs_p.mpr h2⟩
/-- a tuple that may be a key -/
def aKey (ks : List Key) : Rep := ⟨fun S v => ∃ b, v = .ref b ∧ S b = some (.tup (ks.map kV)), fun e ⟨b, h1, h2⟩ => ⟨b, h1, e _ _ h2⟩⟩
/-! what such a dict holds -/
abbrev KRs := List (List Key × Rep)
structure DtOk (S : Hp) (kvs : KRs) (ws : List (List Key × V)) : Prop where
  nm : ws.map (·.1) = kvs.map (·.1)
  al : All2 S (kvs.map (·.2)) (ws.map (·.2))
theorem DtOk.mono {S S' : Hp} {kvs : KRs} {ws : List (List Key × V)} (h : DtOk S kvs ws) (e : Same S S') : DtOk S' kvs ws := ⟨h.nm, h.al.mono e⟩
theorem DtOk.len {S : Hp} {kvs : KRs} {ws : List (List Key × V)} (h : DtOk S kvs ws) : ws.length = kvs.length := by
  have := congrArg List.length h.nm
  simpa using this
def lookT (kvs : KRs) (q : List Key) : Option Rep := (kvs.find? fun kv => decide (kv.1 = q)).map (·.2)
theorem lookT_pos {p : List Key × Rep} {r : KRs} {q : List Key} (e : p.1 = q) : lookT (p :: r) q = some p.2 := by simp [lookT, List.find?_cons, e]
theorem lookT_neg {p : List Key × Rep} {r : KRs} {q : List Key} (e : ¬ p.1 = q) : lookT (p :: r) q = lookT r q := by simp [lookT, List.find?_cons, e]
theorem DtOk.look {S : Hp} : ∀ {kvs : KRs} {ws : List (List Key × V)}, DtOk S kvs ws → ∀ q, (lookT kvs q = none → valV ws q = none) ∧ ∀ R, lookT kvs q = some R → ∃ v, valV ws q = some v ∧ R.p S v
  | [], [], _, q => ⟨fun _ => rfl, fun R e => by cases e⟩
  | [], _ :: _, h, _ => by have := h.nm; simp at this
  | _ :: _, [], h, _ => by have := h.nm; simp at this
  | (g, R) :: kvs, (g', v) :: ws, h, q => by
    have e : g' = g := by have := h.nm; simp at this; exact this.1
    subst e
    have ih := DtOk.look (kvs := kvs) (ws := ws) ⟨by have := h.nm; simp at this; exact this, h.al.2⟩ q
    by_cases hf : g' = q
    · rw [lookT_pos (p := (g', R)) hf, valV_pos (p := (g', v)) hf]
      refine ⟨fun z => (nomatch z), fun R' z => ?_⟩
      cases z
      exact ⟨v, rfl, h.al.1⟩
    · rw [lookT_neg (p := (g', R)) hf, valV_neg (p := (g', v)) hf]
      exact ih
theorem DtOk.isSome {S : Hp} {kvs : KRs} {ws : List (List Key × V)} (h : DtOk S kvs ws) (q : List Key) : (valV ws q).isSome = (lookT kvs q).isSome := by
  cases hl : lookT kvs q with
  | none => rw [(h.look q).1 hl]; rfl
  | some R =>
    obtain ⟨v, hv, _⟩ := (h.look q).2 R hl
    rw [hv]
    rfl
def putT (kvs : KRs) (q : List Key) (R : Rep) : KRs := if (lookT kvs q).isSome then kvs.map (fun p => if p.1 = q then (p.1, R) else p) else kvs ++ [(q, R)]
theorem putT_new {kvs : KRs} {q : List Key} {R : Rep} (h : lookT kvs q = none) : putT kvs q R = kvs ++ [(q, R)] := by unfold putT; rw [h]; rfl
theorem DtOk.put {S : Hp} {kvs : KRs} {ws : List (List Key × V)} (h : DtOk S kvs ws) {q : List Key} {R : Rep} {v : V} (p : R.p S v) : DtOk S (putT kvs q R) (putK ws q v) := by
  unfold putT putK
  rw [valV_any, h.isSome]
  cases (lookT kvs q).isSome with
  | true =>
    rw [if_pos rfl, if_pos rfl]
    have gen : ∀ (kvs : KRs) (ws : List (List Key × V)), ws.map (·.1) = kvs.map (·.1) → All2 S (kvs.map (·.2)) (ws.map (·.2)) → DtOk S (kvs.map fun p => if p.1 = q then (p.1, R) else p) (ws.map fun kv => if kv.1 = q then (kv.1, v) else kv) := by
      intro kvs
      induction kvs with
      | nil => intro ws e al; cases ws with
        | nil => exact ⟨rfl, True.intro⟩
        | cons _ _ => simp at e
      | cons x kvs ih => intro ws e al; cases ws with
        | nil => simp at e
        | cons w ws =>
          obtain ⟨w1, w2⟩ := w
          obtain ⟨x1, x2⟩ := x
          simp only [List.map_cons, List.cons.injEq] at e
          obtain ⟨rfl, e2⟩ := e
          have ih2 := ih ws e2 al.2
          by_cases hq : w1 = q
          · refine ⟨?_, ?_⟩
            · simp only [List.map_cons, if_pos hq]
              rw [ih2.nm]
            · simp only [List.map_cons, if_pos hq]
              exact ⟨p, ih2.al⟩
          · refine ⟨?_, ?_⟩
            · simp only [List.map_cons, if_neg hq]
              rw [ih2.nm]
            · simp only [List.map_cons, if_neg hq]
              exact ⟨al.1, ih2.al⟩
    exact gen kvs ws h.nm h.al
  | false =>
    rw [if_neg Bool.false_ne_true, if_neg Bool.false_ne_true]
    refine ⟨by rw [List.map_append, List.map_append, h.nm]; rfl, ?_⟩
    rw [List.map_append, List.map_append]
    exact h.al.app (All2.one p)
def iDT (kvs : KRs) : Rep := ⟨fun S v => ∃ a o ws, v = .ref a ∧ S a = some (.frz o (.dT ws)) ∧ DtOk S kvs ws, fun e ⟨a, o, ws, h1, h2, h3⟩ => ⟨a, o, ws, h1, e _ _ h2, h3.mono e⟩⟩
def mDT (kvs : KRs) : MRep := ⟨fun S o => ∃ ws, o = .dT ws ∧ DtOk S kvs ws, fun e ⟨ws, h1, h2⟩ => ⟨ws, h1, h2.mono e⟩, fun ⟨ws, h1, _⟩ ys z => by rw [h1] at z; cases z⟩
def HasT (M : SH) (R : Rep) (kvs : KRs) : Prop := R = iDT kvs ∨ ∃ (a : Addr) (i : Nat), R = iRef a ∧ M[i]? = some (a, mDT kvs)
theorem ht_f {M : SH} {kvs : KRs} : HasT M (iDT kvs) kvs := .inl rfl
theorem ht_m {M : SH} {kvs : KRs} {a : Addr} {i : Nat} (h : M[i]? = some (a, mDT kvs)) : HasT M (iRef a) kvs := .inr ⟨a, i, rfl, h⟩
theorem HasT.get {M : SH} {R : Rep} {kvs : KRs} (h : HasT M R kvs) {S H : Hp} {v : V} (e : Same S H) (m : MOk S H M) (p : R.p S v) : ∃ a ws, v = .ref a ∧ Rd H a (.dT ws) ∧ DtOk S kvs ws := by
  rcases h with h | ⟨a, i, h, hm⟩
  · subst h
    obtain ⟨a, o, ws, h1, h2, h3⟩ := p
    exact ⟨a, ws, h1, .inr ⟨o, e _ _ h2⟩, h3⟩
  · subst h
    cases p
    obtain ⟨_, o, ho, ws, rfl, h3⟩ := m.at_ _ _ (at_mem hm)
    exact ⟨a, ws, rfl, .inl ho, h3⟩
theorem putOk_T {kvs : KRs} {q : List Key} {R : Rep} (h : kvs.length < 1000000) : PutOk (mDT kvs) (aKey q) R (mDT (putT kvs q R)) := fun S H D y z o e p ho ky vz => by
  obtain ⟨ws, rfl, ok⟩ := p
  obtain ⟨b, rfl, hb⟩ := ky
  exact ⟨_, DPut.t ho (e _ _ hb) (by rw [ok.len]; exact sz_lt (by omega)), _, rfl, ok.put vz⟩
section
variable {E : XK} {K : PySem.W.Frag} {Γ : Ct} {M : SH} {k : KR} {X : KX} {R R1 R2 : Rep} {te ta tb tl td ty : TE} {vs : List Nat} {D : EndT} {t u : TS} {c tt : TT} {tr : TA}
theorem ev_dinT (h : Ev E ty Γ M (fun R1 M1 => ∃ q, R1 = aKey q ∧ Ev E td Γ M1 (fun R M2 => ∃ kvs, HasT M2 R kvs ∧ k (iBl (lookT kvs q).isSome) M2) X) X) : Ev E (tDIn ty td) Γ M k X := fun σ S H Q I o ox =>
  h σ S H _ I (fun v S1 H1 R1 M1 ⟨q, e, hq⟩ st p => by
    subst e
    obtain ⟨b, rfl, hb⟩ := p
    refine hq σ S1 H1 _ (I.step st) (fun w S2 H2 R2 M2 ⟨kvs, hd, q2⟩ st2 p2 => ?_) (ox.step st)
    obtain ⟨a, ws, rfl, hr, ok⟩ := hd.get st2.e st2.m p2
    refine ⟨a, valV ws q, rfl, .inr ⟨ws, q, b, hr, rfl, st2.e _ _ (st2.s _ _ hb), rfl⟩, ?_⟩
    rw [ok.isSome]
    exact o _ S2 H2 _ M2 q2 (st.trans st2) rfl) ox
theorem ev_dninT (h : Ev E ty Γ M (fun R1 M1 => ∃ q, R1 = aKey q ∧ Ev E td Γ M1 (fun R M2 => ∃ kvs, HasT M2 R kvs ∧ k (iBl (!(lookT kvs q).isSome)) M2) X) X) : Ev E (tDNotIn ty td) Γ M k X := fun σ S H Q I o ox =>
  h σ S H _ I (fun v S1 H1 R1 M1 ⟨q, e, hq⟩ st p => by
    subst e
    obtain ⟨b, rfl, hb⟩ := p
    refine hq σ S1 H1 _ (I.step st) (fun w S2 H2 R2 M2 ⟨kvs, hd, q2⟩ st2 p2 => ?_) (ox.step st)
    obtain ⟨a, ws, rfl, hr, ok⟩ := hd.get st2.e st2.m p2
    refine ⟨a, valV ws q, rfl, .inr ⟨ws, q, b, hr, rfl, st2.e _ _ (st2.s _ _ hb), rfl⟩, ?_⟩
    rw [ok.isSome]
    exact o _ S2 H2 _ M2 q2 (st.trans st2) rfl) ox
theorem ev_dgetT (h : Ev E td Γ M (fun R1 M1 => ∃ Rd : Rep, Rd = R1 ∧ Ev E ty Γ M1 (fun R2 M2 => ∃ q kvs, R2 = aKey q ∧ HasT M2 R1 kvs ∧ ∃ R, lookT kvs q = some R ∧ k R M2) X) X) : Ev E (tDGet td ty) Γ M k X := fun σ S H Q I o ox =>
  h σ S H _ I (fun v S1 H1 R1 M1 ⟨_, _, hq⟩ st p => by
    refine hq σ S1 H1 _ (I.step st) (fun w S2 H2 R2 M2 ⟨q, kvs, e, hd, R, hl, q2⟩ st2 p2 => ?_) (ox.step st)
    subst e
    obtain ⟨b, rfl, hb⟩ := p2
    obtain ⟨a, ws, rfl, hr, ok⟩ := hd.get st2.e st2.m (R1.m st2.s p)
    obtain ⟨x, hx, px⟩ := (ok.look q).2 R hl
    exact ⟨a, x, rfl, .inr ⟨ws, q, b, hr, rfl, st2.e _ _ hb, hx.symm⟩, o x S2 H2 R M2 q2 (st.trans st2) px⟩) ox
/-- d[t] = v -/
theorem tg_putT {to ti : TE} {kc : KC} (h : Ev E0 to Γ M (fun R1 M1 => ∃ d, R1 = iRef d ∧ Ev E0 ti Γ M1 (fun R2 M2 => ∃ (q : List Key) (i : Nat) (kvs : KRs), R2 = aKey q ∧ M2[i]? = some (d, mDT kvs) ∧ kvs.length < 1000000 ∧ kc Γ (M2.set i (d, mDT (putT kvs q R)))) X0) X0) : Tg (gSub to ti rSetD) R Γ M vs kc := fun v σ S H Q I p o => by
  refine h σ S H _ I (fun w S1 H1 R1 M1 ⟨d, e, hq⟩ st1 p1 => ?_) (fun _ _ _ _ _ _ z => z.elim)
  subst e; cases p1
  refine hq σ S1 H1 _ (I.step st1) (fun w2 S2 H2 R2 M2 ⟨q, i, kvs, e, hi, hl, q2⟩ st2 p2 => ?_) (fun _ _ _ _ _ _ z => z.elim)
  subst e
  obtain ⟨b, rfl, hb⟩ := p2
  have st := st1.trans st2
  obtain ⟨_, ob, ho, ws, rfl, ok⟩ := st2.m.at_ d (mDT kvs) (at_mem hi)
  have wr := Stp.wrAt (P' := mDT (putT kvs q R)) (o := .dT (putK ws q v)) hi st2.e st2.m ⟨_, rfl, ok.put (R.m st.s p)⟩
  exact ⟨d, _, rfl, DPut.t ho (st2.e _ _ hb) (by rw [ok.len]; exact sz_lt (by omega)), o σ S2 _ Γ _ q2 (st.trans wr) ((I.step st).step wr) fun _ => rfl⟩
/-- list(d) -/
def rListT : List V → Hp → VK → Prop := fun xs H Q => ∃ d kvs, xs = [V.ref d] ∧ Rd H d (.dT kvs) ∧ ∀ p bs, H p = none → IsKeys H kvs bs → Q (.ref p) (upd H p (.lst (bs.map V.ref)))
theorem keys_all {S : Hp} : ∀ {ws : List (List Key × V)} {bs : List Addr}, Paired (fun (p : List Key × V) b => S b = some (.tup (p.1.map kV))) ws bs → All2 S (ws.map fun p => aKey p.1) (bs.map V.ref)
  | _, _, .nil => True.intro
  | _, _, .cons h r => ⟨⟨_, rfl, h⟩, keys_all r⟩
/-- tuples that stand become words of the stable part -/
theorem Stp.growT {S H : Hp} {M : SH} (e : Same S H) (m : MOk S H M) (bs : List Addr) (hb : ∀ b ∈ bs, ∃ xs, H b = some (.tup xs)) : Stp S H (fun b => if b ∈ bs then H b else S b) H M M := by
  have sm : Same S (fun b => if b ∈ bs then H b else S b) := fun b u q => by
    show (if b ∈ bs then H b else S b) = some u
    split
    · exact e _ _ q
    · exact q
  have nM : ∀ a P, (a, P) ∈ M → a ∉ bs := fun a P h z => by
    obtain ⟨_, o, q1, q2⟩ := m.at_ a P h
    obtain ⟨xs, q3⟩ := hb a z
    rw [q1] at q3
    exact P.nt q2 xs (Option.some.inj q3)
  refine ⟨sm, fun b u q => ?_, fun b h1 h2 => .inl fun o q => ?_, fun b u _ q => q, ⟨fun a P h => ?_, m.nd⟩, fun b h => .inl h⟩
  · have q : (if b ∈ bs then H b else S b) = some u := q
    split at q
    · exact q
    · exact e _ _ q
  · have h2 : (if b ∈ bs then H b else S b) ≠ none := h2
    split at h2
    · rename_i z
      obtain ⟨xs, q3⟩ := hb b z
      rw [q] at q3
      exact ⟨xs, Option.some.inj q3⟩
    · exact absurd h1 h2
  · obtain ⟨z, o, q1, q2⟩ := m.at_ a P h
    exact ⟨(if_neg (nM a P h)).trans z, o, q1, P.m sm q2⟩
theorem ol_listT {kvs : KRs} (hd : HasT M R kvs) (q : k (iLst (kvs.map fun p => aKey p.1)) M ∨ ∀ a, k (iRef a) (M ++ [(a, mLst (kvs.map fun p => aKey p.1))])) : Ol rListT [R] M k := fun xs S1 H1 Q se sm p o => by
    have st := Stp.refl se sm
    obtain ⟨v, rfl, p1⟩ := all2_1 p
    obtain ⟨a, ws, rfl, hr, ok⟩ := hd.get st.e st.m p1
    refine ⟨a, ws, rfl, hr, fun l bs hl ik => ?_⟩
    have tb : ∀ b ∈ bs, ∃ xs, H1 b = some (.tup xs) := by
      have gen : ∀ {ws : List (List Key × V)} {bs : List Addr}, Paired (fun (p : List Key × V) b => H1 b = some (.tup (p.1.map kV))) ws bs → ∀ b ∈ bs, ∃ xs, H1 b = some (.tup xs) := by
        intro ws bs h
        induction h with
        | nil => intro b hb; cases hb
        | cons h _ ih =>
          intro b hb
          rcases List.mem_cons.mp hb with rfl | hb
          · exact ⟨_, h⟩
          · exact ih b hb
      exact gen ik
    have g := st.trans (Stp.growT st.e st.m bs tb)
    have ka : All2 (fun b => if b ∈ bs then H1 b else S1 b) (kvs.map fun p => aKey p.1) (bs.map V.ref) := by
      have ik2 : Paired (fun (p : List Key × V) b => (fun b => if b ∈ bs then H1 b else S1 b) b = some (.tup (p.1.map kV))) ws bs := by
        have gen : ∀ {ws : List (List Key × V)} {cs : List Addr}, (∀ b ∈ cs, b ∈ bs) → Paired (fun (p : List Key × V) b => H1 b = some (.tup (p.1.map kV))) ws cs → Paired (fun (p : List Key × V) b => (fun b => if b ∈ bs then H1 b else S1 b) b = some (.tup (p.1.map kV))) ws cs := by
          intro ws cs hs h
          induction h with
          | nil => exact .nil
          | cons h _ ih => exact .cons ((if_pos (hs _ (List.mem_cons_self ..))).trans h) (ih fun b hb => hs b (List.mem_cons_of_mem _ hb))
        exact gen (fun _ h => h) ik
      have := keys_all ik2
      have en : ws.map (fun p => aKey p.1) = kvs.map fun p => aKey p.1 := by
        have := congrArg (List.map aKey) ok.nm
        rwa [List.map_map, List.map_map] at this
      rwa [en] at this
    rcases q with q | q
    · exact o (.ref l) _ _ _ M q (g.trans (Stp.newS g.e g.m hl)) ⟨l, _, rfl, upd_same, ka.mono (Same.newS (Same.refl _) (g.e.free hl))⟩
    · exact o (.ref l) _ _ (iRef l) _ (q l) (g.trans (Stp.newM g.e g.m hl ⟨_, rfl, ka⟩)) rfl
/-- a dict with tuple keys is never changed again -/
theorem st_tFzT {i j : Nat} {d : Addr} {kvs : KRs} (hd : M[i]? = some (d, mDT kvs)) (hj : Γ[j]? = some (some (iRef d))) (h : St E t (Γ.set j (some (iDT kvs))) (M.eraseIdx i) D) : St E (tFz t) Γ M D := fun σ S H D0 I o => by
  obtain ⟨_, ob, ho, ws, rfl, ok⟩ := I.m.at_ d (mDT kvs) (at_mem hd)
  refine ⟨d, .dT ws, ho, True.intro, fun od => ?_⟩
  have f1 := Stp.frzAt (od := od) (u := .dT ws) hd I.ex I.m
  obtain ⟨v, hv, pv⟩ := I.sl j (iRef d) hj
  have I1 := I.step f1
  have I2 := I1.set j (v := v) (R := iDT kvs) (by cases pv; exact ⟨d, od, ws, rfl, upd_same, ok.mono f1.s⟩)
  have e2 : σ.set j (some v) = σ := by
    refine List.ext_getElem? fun n => ?_
    by_cases hn : j = n
    · subst hn
      rw [hv, List.getElem?_set_self (List.getElem?_eq_some_iff.mp hv).1]
    · rw [List.getElem?_set_ne hn]
  rw [e2] at I2
  exact h σ _ _ D0 I2 (o.step f1)
/-! ### tuples as keys -/
theorem ev_tupK (h : Ea E tr Γ M (fun Rs M1 => ∃ ks : List Key, Rs = ks.map kR ∧ ks.length ≤ 1000000 ∧ k (aKey ks) M1) X) : Ev E (tTup tr) Γ M k X := fun σ S H Q I o ox =>
  h σ S H _ I (fun xs S1 H1 Rs M1 ⟨ks, e, hl, q⟩ st p => by
    subst e
    have ex := kRs_p.mp p
    subst ex
    exact ⟨sz_le (by rw [List.length_map]; exact hl), fun a ha => o (.ref a) (upd S1 a (.tup (ks.map kV))) _ (aKey ks) M1 q (st.trans (Stp.newS st.e st.m ha)) ⟨a, rfl, upd_same⟩⟩) ox
theorem o_ixK {ks : List Key} {i : Int} {q : Key} (h : atI ks i = some q) : O2p (rIxT K) (aKey ks) (iInt i) M (kR q) := o2_val fun x y S H e m h1 h2 => by
  have := o_ixT (K := K) (M := M) (rs := ks.map kR) (atI_map (f := kR) h) (fun R' M' => R' = kR q ∧ M' = M) ⟨rfl, rfl⟩ x y S H
  cases h2
  obtain ⟨b, rfl, hb⟩ := h1
  have hv : atI (ks.map kV) i = some (kV q) := atI_map h
  exact ⟨kV q, kR_p.mpr rfl, fun Q hq => ⟨b, _, i, kV q, rfl, rfl, SqT.of (e _ _ hb), hv, hq⟩⟩
theorem tg_tupK {gs : TGs} {ks : List Key} {n : Nat} {kc : KC} (hn : ks.length = n) (h : Tgs gs (ks.map kR) Γ M vs kc) : Tg (gTup K n gs) (aKey ks) Γ M vs kc := fun v σ S H Q I p o => by
  obtain ⟨b, rfl, hb⟩ := p
  exact ⟨b, _, rfl, SqT.of (I.ex _ _ hb), by rw [List.length_map]; exact hn, h _ σ S H Q I (kRs_p.mpr rfl) o⟩
/-! ### x += e -/
theorem st_augI {j : Nat} {g : Int → Int → Int} (h : ∃ i, Γ[j]? = some (some (iInt i)) ∧ Ev E te Γ M (fun R M1 => ∃ x, R = iInt x ∧ D.nx (Γ.set j (some (iInt (g i x)))) M1) D.ex) : St E (tAug j te (ipI g)) Γ M D := fun σ S H D0 I o => by
  obtain ⟨i, hj, h⟩ := h
  obtain ⟨v, hv, pv⟩ := I.sl j (iInt i) hj
  cases pv
  exact ⟨.int i, hv, h σ S H _ I (fun w S1 H1 R M1 ⟨x, e, q⟩ st p => by
    subst e; cases p
    exact ⟨i, x, rfl, rfl, o.nx _ S1 H1 _ M1 q st ((I.step st).set j rfl)⟩) o.ex⟩
end
end L3

/-! comprehensions with two fors -/
namespace L3
open PySem PySem.Spec L2 RZ PyProof.Rows
section
variable {E : XK} {K : PySem.W.Frag} {Γ : Ct} {M : SH} {k : KR} {X : KX} {R R1 R2 : Rep} {te ta tb tl : TE} {vs vs1 : List Nat} {tt tt1 : TT} {wi wi1 : TI} {g g1 : TG}
theorem ev_lc2 (hv : vs ≠ []) (hv1 : vs1 ≠ []) (h : Ti E wi Γ M (fun n rs M1 => ∃ J : Nat → List Rep → SH → Prop, J 0 [] M1 ∧ (∀ i r acc M2, i < n → rs i r → J i acc M2 →
      Tg g r (wipeC Γ vs) M2 vs fun Γ3 M3 => Et E tt Γ3 M3 (fun b M4 => if b = true then
        Ti E wi1 Γ3 M4 (fun n1 rs1 M5 => ∃ J1 : Nat → List Rep → SH → Prop, J1 0 acc M5 ∧ (∀ j r1 acc1 M6, j < n1 → rs1 j r1 → J1 j acc1 M6 →
          Tg g1 r1 (wipeC Γ3 vs1) M6 vs1 fun Γ7 M7 => Et E tt1 Γ7 M7 (fun b M8 => if b = true then acc1.length < 1000000 ∧ Ev E te Γ7 M8 (fun R M9 => J1 (j + 1) (acc1 ++ [R]) M9) X0 else J1 (j + 1) acc1 M8) X0) ∧
          ∀ acc1 M6, J1 n1 acc1 M6 → J (i + 1) acc1 M6) X0
        else J (i + 1) acc M4) X0) ∧ ∀ acc M2, J n acc M2 → k (iLst acc) M2) X) : Ev E (tLc2 wi g tt wi1 g1 tt1 te vs vs1) Γ M k X := fun σ S H Q I o ox =>
  h σ S H _ I (fun Jt S1 H1 n rs M1 ⟨V, v0, vs', vd⟩ st w Dl hD => by
    obtain ⟨G, Y, wk, hG, hY⟩ := w
    have s0 := st.trans (Stp.newM (o := .lst []) (P := mLst []) st.e st.m hD ⟨[], rfl, True.intro⟩)
    refine ⟨fun i m H' => m = n - i ∧ i ≤ n ∧ ∃ Sx Mx acc, Same Sx H' ∧ Stp S H Sx H' M (Mx ++ [(Dl, mLst acc)]) ∧ Same S1 Sx ∧ V i acc Mx, ⟨n, by simp, Nat.zero_le _, S1, M1, [], s0.e, s0, Same.refl _, v0⟩, ?_⟩
    rintro i m H' ⟨rfl, hi, Sx, Mx, acc, ex, sx, s1, vx⟩
    have hq := hG Sx H' s1 ex
    by_cases hlt : i < n
    · refine .inr ⟨wk.goes i H' hlt hq, fun H'' => ∃ Sx Mx acc, Same Sx H'' ∧ Stp S H Sx H'' M (Mx ++ [(Dl, mLst acc)]) ∧ Same S1 Sx ∧ V (i + 1) acc Mx, fun H'' z => ⟨n - (i + 1), by omega, rfl, hlt, z⟩, fun x H'' y => ?_⟩
      obtain ⟨S', r, s', hr, pr⟩ := hY i H' x H'' hlt (wk.yields i H' x H'' hlt hq y) Sx (Mx ++ [(Dl, mLst acc)]) s1 ex sx.m
      have I' : Nv S' H'' (L2.wipe σ vs) (wipeC Γ vs) Mx := by
        have := (I.step (sx.trans s')).wipe vs
        exact ⟨this.ex, this.len, this.sl, this.m.left⟩
      have m' : MOk S' H'' (Mx ++ [(Dl, mLst acc)]) := s'.m
      refine vs' i r acc Mx hlt hr vx x (L2.wipe σ vs) S' H'' _ I' pr fun σ2 S2 H2 Γ2 M2 q st2 I2 w2 => ⟨(w2 hv).trans (wipe_self σ vs), ?_⟩
      have sf2 := st2.frame m'
      refine q σ2 S2 H2 _ I2 (fun b S3 H3 M3 q3 st3 => ?_) (fun _ _ _ _ _ _ z => z.elim)
      have sf3 := st3.frame sf2.m
      cases b with
      | false =>
        rw [if_neg Bool.false_ne_true] at q3
        rw [if_neg Bool.false_ne_true]
        exact ⟨S3, M3, acc, sf3.e, ((sx.trans s').trans sf2).trans sf3, s1.trans (s'.s.trans (sf2.s.trans sf3.s)), q3⟩
      | true =>
        rw [if_pos rfl] at q3
        rw [if_pos rfl]
        have I3 := I2.step st3
        refine q3 σ2 S3 H3 _ I3 (fun J1t S4 H4 n1 rs1 M4 ⟨V1, u0, us, ud⟩ st4 w4 => ?_) (fun _ _ _ _ _ _ z => z.elim)
        obtain ⟨G1, Y1, wk1, hG1, hY1⟩ := w4
        have sf4 := st4.frame sf3.m
        have I4 := I3.step st4
        have tot4 := (((sx.trans s').trans sf2).trans sf3).trans sf4
        have same4 := s1.trans (s'.s.trans (sf2.s.trans (sf3.s.trans sf4.s)))
        refine ⟨fun j m H5 => m = n1 - j ∧ j ≤ n1 ∧ ∃ Sy My acc1, Same Sy H5 ∧ Stp S4 H4 Sy H5 (M4 ++ [(Dl, mLst acc)]) (My ++ [(Dl, mLst acc1)]) ∧ V1 j acc1 My, ⟨n1, by simp, Nat.zero_le _, S4, M4, acc, sf4.e, Stp.refl sf4.e sf4.m, u0⟩, ?_⟩
        rintro j m H5 ⟨rfl, hj, Sy, My, acc1, ey, sy, vy⟩
        have hq1 := hG1 Sy H5 sy.s ey
        by_cases hlt1 : j < n1
        · refine .inr ⟨wk1.goes j H5 hlt1 hq1, fun H6 => ∃ Sy My acc1, Same Sy H6 ∧ Stp S4 H4 Sy H6 (M4 ++ [(Dl, mLst acc)]) (My ++ [(Dl, mLst acc1)]) ∧ V1 (j + 1) acc1 My, fun H6 z => ⟨n1 - (j + 1), by omega, rfl, hlt1, z⟩, fun x1 H6 y1 => ?_⟩
          obtain ⟨S6, r1, s6, hr1, pr1⟩ := hY1 j H5 x1 H6 hlt1 (wk1.yields j H5 x1 H6 hlt1 hq1 y1) Sy (My ++ [(Dl, mLst acc1)]) sy.s ey sy.m
          have m6 : MOk S6 H6 (My ++ [(Dl, mLst acc1)]) := s6.m
          have I6 : Nv S6 H6 (L2.wipe σ2 vs1) (wipeC Γ2 vs1) My := by
            have z : Nv S6 H6 (L2.wipe σ2 vs1) (wipeC Γ2 vs1) (My ++ [(Dl, mLst acc1)]) := (Nv.step (M := M4 ++ [(Dl, mLst acc)]) ⟨I4.ex, I4.len, I4.sl, sf4.m⟩ (sy.trans s6)).wipe vs1
            exact ⟨z.ex, z.len, z.sl, z.m.left⟩
          refine us j r1 acc1 My hlt1 hr1 vy x1 (L2.wipe σ2 vs1) S6 H6 _ I6 pr1 fun σ7 S7 H7 Γ7 M7 q7 st7 I7 w7 => ⟨(w7 hv1).trans (wipe_self σ2 vs1), ?_⟩
          have sf7 := st7.frame m6
          refine q7 σ7 S7 H7 _ I7 (fun b S8 H8 M8 q8 st8 => ?_) (fun _ _ _ _ _ _ z => z.elim)
          have sf8 := st8.frame sf7.m
          cases b with
          | false =>
            rw [if_neg Bool.false_ne_true] at q8
            rw [if_neg Bool.false_ne_true]
            exact ⟨S8, M8, acc1, sf8.e, ((sy.trans s6).trans sf7).trans sf8, q8⟩
          | true =>
            rw [if_pos rfl] at q8
            rw [if_pos rfl]
            obtain ⟨hl, q8⟩ := q8
            refine q8 σ7 S8 H8 _ (I7.step st8) (fun z S9 H9 R9 M9 q9 st9 p9 => ?_) (fun _ _ _ _ _ _ z => z.elim)
            have sf9 := st9.frame sf8.m
            have tot := (((sy.trans s6).trans sf7).trans sf8).trans sf9
            obtain ⟨_, ob, ho, xs, rfl, pa⟩ := tot.m.at_ Dl (mLst acc1) (List.mem_append_right _ (List.mem_singleton.mpr rfl))
            have wr := Stp.wrM (A := M9) (B := []) (a := Dl) (P := mLst acc1) (P' := mLst (acc1 ++ [R9])) (o := .lst (xs ++ [z])) tot.e tot.m ⟨_, rfl, pa.app (All2.one p9)⟩
            exact ⟨xs, ho, by rw [pa.len]; exact sz_lt (by omega), S9, M9, acc1 ++ [R9], wr.e, tot.trans wr, q9⟩
        · have e : j = n1 := by omega
          subst e
          exact .inl ⟨wk1.stops H5 hq1, Sy, My, acc1, ey, tot4.trans sy, same4.trans sy.s, ud acc1 My vy⟩
    · have e : i = n := by omega
      subst e
      obtain ⟨_, ob, ho, xs, rfl, pa⟩ := sx.m.at_ Dl (mLst acc) (List.mem_append_right _ (List.mem_singleton.mpr rfl))
      have fz := Stp.fz (A := Mx) (B := []) ex sx.m ho
      have fin := sx.trans fz
      rw [List.append_nil] at fin
      exact .inl ⟨wk.stops H' hq, o (.ref Dl) _ H' (iLst acc) Mx (vd acc Mx vx) fin ⟨Dl, xs, rfl, upd_same, pa.mono fz.s⟩⟩) ox
/-- over data, what is made may not be drawn -/
theorem ep_lc2L {α β γ : Type} {rs : Nat → Rep → Prop} (hv : vs ≠ []) (hv1 : vs1 ≠ []) {l : List α} {m : α → List β} {p : α → β → Bool} {q : α → β → γ} {e : γ → Rep} (hi : Tip E wi Γ M l.length rs) (hn : (l.flatMap fun x => (((m x).filter (p x)).map (q x))).length < 1000000)
    (h : ∀ i x r, l[i]? = some x → rs i r → Tg g r (wipeC Γ vs) M vs fun Γ3 M3 => M3 = M ∧ Etp E tt Γ3 M true ∧ ∃ rs1 : Nat → Rep → Prop, Tip E wi1 Γ3 M (m x).length rs1 ∧
      ∀ j y r1, (m x)[j]? = some y → rs1 j r1 → Tg g1 r1 (wipeC Γ3 vs1) M vs1 fun Γ7 M7 => M7 = M ∧ Etp E tt1 Γ7 M (p x y) ∧ (p x y = true → Ep E te Γ7 M (e (q x y)))) :
    Ep E (tLc2 wi g tt wi1 g1 tt1 te vs vs1) Γ M (iLst ((l.flatMap fun x => (((m x).filter (p x)).map (q x))).map e)) := fun k X hk => by
  refine ev_lc2 hv hv1 (hi _ _ ⟨fun i acc M2 => acc = ((l.take i).flatMap fun x => (((m x).filter (p x)).map (q x))).map e ∧ M2 = M, ⟨rfl, rfl⟩, fun i r acc M2 hlt hr he => ?_, fun acc M2 he => ?_⟩)
  · obtain ⟨rfl, rfl⟩ := he
    have hx : l[i]? = some l[i] := List.getElem?_eq_getElem hlt
    generalize l[i] = x at hx
    intro v σ S H Q I pv o
    refine h i x r hx hr v σ S H Q I pv fun σ2 S2 H2 Γ2 M3 z st I2 w2 => ?_
    obtain ⟨rfl, z1, rs1, z2, z3⟩ := z
    refine o σ2 S2 H2 Γ2 _ (z1 _ _ ?_) st I2 w2
    rw [if_pos rfl]
    refine z2 _ _ ⟨fun j acc M4 => acc = ((l.take i).flatMap fun x => (((m x).filter (p x)).map (q x))).map e ++ ((((m x).take j).filter (p x)).map (q x)).map e ∧ M4 = M3, ⟨by simp, rfl⟩, fun j r1 acc1 M6 hj hr1 he1 => ?_, fun acc1 M6 he1 => ?_⟩
    · obtain ⟨rfl, rfl⟩ := he1
      have hy : (m x)[j]? = some (m x)[j] := List.getElem?_eq_getElem hj
      intro v5 σ5 S5 H5 Q5 I5 pv5 o5
      refine z3 j _ r1 hy hr1 v5 σ5 S5 H5 Q5 I5 pv5 fun σ7 S7 H7 Γ7 M7 z st I7 w7 => ?_
      obtain ⟨rfl, y1, y2⟩ := z
      refine o5 σ7 S7 H7 Γ7 _ (y1 _ _ ?_) st I7 w7
      have tk : ((m x).take (j + 1)).filter (p x) = ((m x).take j).filter (p x) ++ if p x (m x)[j] = true then [(m x)[j]] else [] := by
        rw [List.take_succ, hy, List.filter_append]
        show _ ++ [(m x)[j]].filter (p x) = _
        rw [List.filter_cons]
        split <;> rfl
      refine ite_b (fun c => ?_) (fun c => ?_)
      · refine ⟨?_, y2 c _ _ ⟨?_, rfl⟩⟩
        · have sub : ((l.take i).flatMap fun x => (((m x).filter (p x)).map (q x))).length + ((((m x).take j).filter (p x)).map (q x)).length ≤ (l.flatMap fun x => (((m x).filter (p x)).map (q x))).length := by
            have e1 : l = l.take i ++ (x :: l.drop (i + 1)) := by
              have hi := (List.getElem?_eq_some_iff.mp hx).1
              have hx2 := (List.getElem?_eq_some_iff.mp hx).2
              rw [← hx2, ← List.drop_eq_getElem_cons, List.take_append_drop]
            have e2 : (((m x).take j).filter (p x)).length ≤ ((m x).filter (p x)).length := ((List.take_sublist j (m x)).filter _).length_le
            conv => rhs; rw [e1]
            rw [List.flatMap_append, List.flatMap_cons, List.length_append, List.length_append, List.length_map, List.length_map]
            omega
          rw [List.length_append, List.length_map, List.length_map]
          omega
        · rw [tk, if_pos c]
          simp
      · refine ⟨?_, rfl⟩
        rw [tk, if_neg (by rw [c]; exact Bool.false_ne_true)]
        simp
    · obtain ⟨rfl, rfl⟩ := he1
      refine ⟨?_, rfl⟩
      rw [List.take_length, List.take_succ, hx, List.flatMap_append, List.map_append]
      simp
  · obtain ⟨rfl, rfl⟩ := he
    rw [List.take_length]
    exact hk
/-- over a list, then over a list or a tuple; the targets names -/
theorem ep_lc2S {α β γ : Type} {l : List α} {ea : α → Rep} {m : List β} {eb : β → Rep} {i j : Nat} {p : α → β → Bool} {q : α → β → γ} {e : γ → Rep} {ts : TE} (hi : Ep E tl Γ M (iLst (l.map ea))) (hn : (l.flatMap fun x => ((m.filter (p x)).map (q x))).length < 1000000) (vi : i ∈ vs) (vj : j ∈ vs1)
    (hm : ∀ x ∈ l, Ep E ts ((wipeC Γ vs).set i (some (ea x))) M (aSeq K (m.map eb)))
    (hp : ∀ x ∈ l, ∀ y ∈ m, Etp E tt1 ((wipeC ((wipeC Γ vs).set i (some (ea x))) vs1).set j (some (eb y))) M (p x y))
    (he : ∀ x ∈ l, ∀ y ∈ m, p x y = true → Ep E te ((wipeC ((wipeC Γ vs).set i (some (ea x))) vs1).set j (some (eb y))) M (e (q x y))) :
    Ep E (tLc2 (iList K tl) (gName i) tYes (iSeq K ts) (gName j) tt1 te vs vs1) Γ M (iLst ((l.flatMap fun x => ((m.filter (p x)).map (q x))).map e)) := by
  have hi2 := tip_list (K := K) hi
  rw [List.length_map] at hi2
  refine ep_lc2L (m := fun _ => m) (fun z => by rw [z] at vi; cases vi) (fun z => by rw [z] at vj; cases vj) hi2 hn fun i' x r hx hr => ?_
  rw [List.getElem?_map, hx] at hr
  cases hr
  have mx := List.mem_of_getElem? hx
  refine tg_name ⟨rfl, etp_yes, fun j r => (m.map eb)[j]? = some r, ?_, fun j' y r1 hy hr1 => ?_⟩ (.inr vi)
  · have := tip_seq (hm x mx)
    rwa [List.length_map] at this
  · have hr1 : (m.map eb)[j']? = some r1 := hr1
    rw [List.getElem?_map, hy] at hr1
    cases hr1
    have my := List.mem_of_getElem? hy
    exact tg_name ⟨rfl, hp x mx y my, he x mx y my⟩ (.inr vj)
end
end L3

/-! tuples as keys, marked; calls of defs that change nothing, with defaults and keywords -/
namespace L3
open PySem PySem.Spec L2 RZ PyProof.Rows
def tTupK (tr : TA) : TE := tTup tr
theorem pe_tupK {X : Cx} {e : Expr} {tr : TA} (h : PE X e (tTup tr)) : PE X e (tTupK tr) := h
theorem castPI {X : Cx} {tg e : Expr} {K : PySem.W.Frag} {r : PySem.W.Frag → TI} (h : X.K = K) (o : PI X tg e (r X.K)) : PI X tg e (r K) := h ▸ o
theorem call_listKT {X : Cx} (hc : X.calm = true) : CallR X (.type "list") rListT := call_list_dT hc
def tDInT (ty td : TE) : TE := tDIn ty td
def tDNotInT (ty td : TE) : TE := tDNotIn ty td
def tDGetT (td ty : TE) : TE := tDGet td ty
def gSubT (to ti : TE) : TG := gSub to ti rSetD
theorem pc_ninT {X : Cx} {op : CmpOp} {i o : Expr} {ty td : TE} (h : PC X op i o (tDNotIn ty td)) : PC X op i o (tDNotInT ty td) := h
theorem pe_dgetT {X : Cx} {e : Expr} {td ty : TE} (h : PE X e (tDGet td ty)) : PE X e (tDGetT td ty) := h
theorem pg_subT {X : Cx} {tg : Expr} {to ti : TE} (h : PG X tg (gSub to ti rSetD)) : PG X tg (gSubT to ti) := h
/-- none, or a whole number -/
def iOpt : Option Int → Rep
  | none => iNon
  | some i => iInt i
/-- none, or a key -/
def kOpt : Option (List Key) → Rep
  | none => iNon
  | some q => aKey q
section
variable {E : XK} {K : PySem.W.Frag} {Γ : Ct} {M : SH} {k : KR} {X : KX} {R R1 R2 : Rep} {te ta tb tl td ty : TE} {vs : List Nat} {D : EndT} {t u : TS} {c tt : TT} {tr tk : TA}
theorem ev_inT (h : Ev E ty Γ M (fun R1 M1 => ∃ q, R1 = aKey q ∧ Ev E td Γ M1 (fun R M2 => ∃ kvs, HasT M2 R kvs ∧ k (iBl (lookT kvs q).isSome) M2) X) X) : Ev E (tDInT ty td) Γ M k X := ev_dinT h
theorem ev_ninT (h : Ev E ty Γ M (fun R1 M1 => ∃ q, R1 = aKey q ∧ Ev E td Γ M1 (fun R M2 => ∃ kvs, HasT M2 R kvs ∧ k (iBl (!(lookT kvs q).isSome)) M2) X) X) : Ev E (tDNotInT ty td) Γ M k X := ev_dninT h
theorem ev_getT (h : Ev E td Γ M (fun R1 M1 => ∃ Rd : Rep, Rd = R1 ∧ Ev E ty Γ M1 (fun R2 M2 => ∃ q kvs, R2 = aKey q ∧ HasT M2 R1 kvs ∧ ∃ R, lookT kvs q = some R ∧ k R M2) X) X) : Ev E (tDGetT td ty) Γ M k X := ev_dgetT h
theorem tg_putT1 {to ti : TE} {kc : KC} (h : Ev E0 to Γ M (fun R1 M1 => ∃ d, R1 = iRef d ∧ Ev E0 ti Γ M1 (fun R2 M2 => ∃ (q : List Key) (i : Nat) (kvs : KRs), R2 = aKey q ∧ M2[i]? = some (d, mDT kvs) ∧ kvs.length < 1000000 ∧ kc Γ (M2.set i (d, mDT (putT kvs q R)))) X0) X0) : Tg (gSubT to ti) R Γ M vs kc := tg_putT h
theorem k_key {q : List Key} {P : List Key → Prop} (h : P q) : ∃ q', aKey q = aKey q' ∧ P q' := ⟨q, rfl, h⟩
theorem k_ht_at {P : KRs → Prop} (h : ∃ kvs', HasT M R kvs' ∧ P kvs') : ∃ kvs', HasT M R kvs' ∧ P kvs' := h
theorem k_ht {kvs : KRs} {P : KRs → Prop} (h : HasT M R kvs) (q : P kvs) : ∃ kvs', HasT M R kvs' ∧ P kvs' := ⟨kvs, h, q⟩
theorem k_atI_at {j : Nat} {P : Int → Prop} (h : ∃ i, Γ[j]? = some (some (iInt i)) ∧ P i) : ∃ i, Γ[j]? = some (some (iInt i)) ∧ P i := h
theorem k_atI {j : Nat} {i : Int} {P : Int → Prop} (h : Γ[j]? = some (some (iInt i))) (q : P i) : ∃ i, Γ[j]? = some (some (iInt i)) ∧ P i := ⟨i, h, q⟩
theorem k_putT_at {d : Addr} {q : List Key} {P : List Key → Nat → KRs → Prop} (h : ∃ (q' : List Key) (i : Nat) (kvs : KRs), aKey q = aKey q' ∧ M[i]? = some (d, mDT kvs) ∧ kvs.length < 1000000 ∧ P q' i kvs) : ∃ (q' : List Key) (i : Nat) (kvs : KRs), aKey q = aKey q' ∧ M[i]? = some (d, mDT kvs) ∧ kvs.length < 1000000 ∧ P q' i kvs := h
theorem k_putT {d : Addr} {i : Nat} {q : List Key} {kvs : KRs} {P : List Key → Nat → KRs → Prop} (hm : M[i]? = some (d, mDT kvs)) (hl : kvs.length < 1000000) (h : P q i kvs) : ∃ (q' : List Key) (i : Nat) (kvs : KRs), aKey q = aKey q' ∧ M[i]? = some (d, mDT kvs) ∧ kvs.length < 1000000 ∧ P q' i kvs := ⟨q, i, kvs, rfl, hm, hl, h⟩
theorem ev_tupK1 (h : Ea E tr Γ M (fun Rs M1 => ∃ ks : List Key, Rs = ks.map kR ∧ ks.length ≤ 1000000 ∧ k (aKey ks) M1) X) : Ev E (tTupK tr) Γ M k X := ev_tupK h
theorem k_keySI {z : Str} {i : Int} {P : List Key → Prop} (h : P [.inr z, .inl i]) : ∃ ks : List Key, [aStr z, iInt i] = ks.map kR ∧ ks.length ≤ 1000000 ∧ P ks := ⟨_, rfl, Nat.le_of_ble_eq_true rfl, h⟩
theorem tg_tupSI {gs : TGs} {z : Str} {i : Int} {n : Nat} {kc : KC} (hn : 2 = n) (h : Tgs gs [aStr z, iInt i] Γ M vs kc) : Tg (gTup K n gs) (aKey [.inr z, .inl i]) Γ M vs kc := tg_tupK (ks := [.inr z, .inl i]) hn h
theorem o_ixSI0 {z : Str} {i : Int} : O2p (rIxT K) (aKey [.inr z, .inl i]) (iInt 0) M (aStr z) := o_ixK (ks := [.inr z, .inl i]) (q := .inr z) rfl
theorem o_ixSI1 {z : Str} {i : Int} : O2p (rIxT K) (aKey [.inr z, .inl i]) (iInt 1) M (iInt i) := o_ixK (ks := [.inr z, .inl i]) (q := .inl i) rfl
theorem ev_callKD {sp : List Rep → (Rep → Prop) → Prop} {dvs : List V} {Ds : List Rep} (hd : ∀ S, All2 S Ds dvs) (h : Ea E tr Γ M (fun Rs M1 => ∃ Rs', LeS (Rs ++ Ds) Rs' ∧ sp Rs' fun R => k R M1) X) : Ev E (tCall (spT (pureK sp)) dvs E0 tr) Γ M k X := fun σ S H Q I o ox =>
  h σ S H _ I (fun xs S1 H1 Rs M1 ⟨Rs', le, q⟩ st p =>
    spT_in (Mf := []) (Fr := M1) (Rs := Rs') (X := X0) (k := k) ⟨rfl, q⟩ st.e st.m (le S1 _ (p.app (hd S1))) (o.step st) (fun _ _ _ _ _ _ z => z.elim)) ox
theorem ev_callKDn {sp : List Rep → (Rep → Prop) → Prop} (h : Ea E tr Γ M (fun Rs M1 => ∃ Rs', LeS (Rs ++ [iNon]) Rs' ∧ sp Rs' fun R => k R M1) X) : Ev E (tCall (spT (pureK sp)) [.non] E0 tr) Γ M k X :=
  ev_callKD (Ds := [iNon]) (fun _ => ⟨rfl, True.intro⟩) h
theorem ev_callKN {sp : List Rep → (Rep → Prop) → Prop} {n m : Nat} (h : Ea E tr Γ M (fun Rs M1 => Rs.length = n ∧ Ea E tk Γ M1 (fun Zs M2 => Zs.length = m ∧ ∃ Rs', LeS (Rs ++ Zs) Rs' ∧ sp Rs' fun R => k R M2) X) X) : Ev E (tCallN n m (spT (pureK sp)) (fun vs zs => vs ++ zs) E0 tr tk) Γ M k X := fun σ S H Q I o ox =>
  h σ S H _ I (fun vs S1 H1 Rs M1 ⟨e1, q⟩ st p => q σ S1 H1 _ (I.step st) (fun zs S2 H2 Zs M2 ⟨e2, Rs', le, q2⟩ st2 p2 => by
    refine ⟨p.len.trans e1, p2.len.trans e2, ?_⟩
    exact spT_in (Mf := []) (Fr := M2) (Rs := Rs') (X := X0) (k := k) ⟨rfl, q2⟩ st2.e st2.m (le S2 _ ((p.mono st2.s).app p2)) (o.step (st.trans st2)) (fun _ _ _ _ _ _ z => z.elim)) (ox.step st)) ox
/-- over a range whose bound is read as it comes; what is made may be drawn -/
theorem ev_lcRngD {α : Type} {e : α → Rep} {P : Nat → α → Prop} {j : Nat} (hj : j ∈ vs) (h : Ea E tr Γ M (fun Rs M1 => ∃ m : Nat, Rs = [iInt m] ∧ m ≤ 1000000 ∧
      (∀ i, i < m → ∀ k' : KR, (∀ x, P i x → k' (e x) M1) → Ev E te ((wipeC Γ vs).set j (some (iInt (i : Nat)))) M1 k' X0) ∧
      ∀ l : List α, l.length = m → (∀ i x, l[i]? = some x → P i x) → k (iLst (l.map e)) M1) X) : Ev E (tLc (iRng1 tr) (gName j) tYes te vs) Γ M k X := by
  refine ev_lc (fun z => by rw [z] at hj; cases hj) (ti_rng1 fun σ S H Q I o ox => h σ S H Q I (fun xs S2 H2 Rs M2 z st p => ?_) ox)
  obtain ⟨m, e1, hn, he, q⟩ := z
  refine o xs S2 H2 Rs M2 ⟨m, e1, hn, hn, fun i acc M3 => ∃ l : List α, acc = l.map e ∧ l.length = i ∧ (∀ i x, l[i]? = some x → P i x) ∧ M3 = M2, ⟨[], rfl, rfl, (fun i x h => by simp at h), rfl⟩, fun i r acc M3 hlt hr _ z => ?_, fun acc M3 _ z => ?_⟩ st p
  · obtain ⟨l, e1, e2, e3, e4⟩ := z
    subst e1; subst e4; subst e2; subst hr
    refine tg_name (et_yes ?_) (.inr hj)
    refine (if_pos rfl).mpr (he _ hlt _ fun x hx => ⟨l ++ [x], by simp, by simp, fun i y hy => ?_, rfl⟩)
    rcases Nat.lt_or_ge i l.length with h | h
    · rw [List.getElem?_append_left h] at hy
      exact e3 i y hy
    · rw [List.getElem?_append_right h] at hy
      obtain ⟨h2, h3⟩ := List.getElem?_eq_some_iff.mp hy
      have : i = l.length := by simp at h2; omega
      subst this
      simp at h3
      subst h3
      exact hx
  · obtain ⟨l, e1, e2, e3, e4⟩ := z
    subst e1; subst e4
    exact q l e2 e3
theorem c_maxL {ns : List Int} (h : 0 < ns.length) (q : ∀ m, m ∈ ns → (∀ k ∈ ns, k ≤ m) → k (iInt m) M) : Ol (rMax K) [iLst (ns.map iInt)] M k := fun xs S H Q e m p o => by
  obtain ⟨v, rfl, a, ys, rfl, p1, p2⟩ := all2_1 p
  have : ys = ns.map V.int := All2.flat (fun _ _ h => h) p2
  subst this
  exact ⟨a, ns, rfl, SqL.of (e _ _ p1), h, fun x hx hl => o _ S H (iInt x) M (q x hx hl) (Stp.refl e m) rfl⟩
/-- min(l), l a list of whole numbers that is not empty -/
theorem c_minL {ns : List Int} (h : 0 < ns.length) (q : ∀ m, m ∈ ns → (∀ k ∈ ns, m ≤ k) → k (iInt m) M) : Ol (rMin K) [iLst (ns.map iInt)] M k := fun xs S H Q e m p o => by
  obtain ⟨v, rfl, a, ys, rfl, p1, p2⟩ := all2_1 p
  have : ys = ns.map V.int := All2.flat (fun _ _ h => h) p2
  subst this
  exact ⟨a, ns, rfl, SqL.of (e _ _ p1), h, fun x hx hl => o _ S H (iInt x) M (q x hx hl) (Stp.refl e m) rfl⟩
end
end L3

/-! {} for tuple keys, len of it -/
namespace L3
open PySem PySem.Spec L2 RZ PyProof.Rows
def tDNewTT : TE := tDNewT
section
variable {E : XK} {K : PySem.W.Frag} {Γ : Ct} {M : SH} {k : KR} {X : KX} {R R1 R2 : Rep} {te ta tb tl td ty : TE} {vs : List Nat} {D : EndT} {t u : TS} {c tt : TT} {tr tk : TA}
theorem ev_dnewTT (h : ∀ a, k (iRef a) (M ++ [(a, mDT [])])) : Ev E tDNewTT Γ M k X := fun σ S H Q I o _ => fun p hp =>
  o (.ref p) S _ (iRef p) _ (h p) (Stp.newM (o := .dT []) I.ex I.m hp ⟨[], rfl, rfl, True.intro⟩) rfl
theorem c_lenDT {a : Addr} {i : Nat} {kvs : KRs} (h : M[i]? = some (a, mDT kvs)) : Olp rLenT [iRef a] M (iInt kvs.length) := ol_val fun xs S H e m p => by
  obtain ⟨v, rfl, p1⟩ := all2_1 p
  cases p1
  obtain ⟨_, o, ho, ws, rfl, ok⟩ := m.at_ _ _ (at_mem h)
  exact ⟨_, rfl, fun Q q => ⟨a, ws, rfl, ho, by rw [ok.len]; exact q⟩⟩
end
end L3

/-! walks that come to their end while an exception is handled -/
namespace L3
open PySem PySem.Spec PyProof.Rows L2 HotX
section
variable {prog : Program} {w : World} {A : Around} {E : Value → Shared → Prop} {s : Shared}
/-- nothing is handled, or one whose context is None -/
def HdOk (A : Around) (h : Heap) : Prop := A.handled = none ∨ ∃ x1, HotAt A x1 h
theorem HotAt.kept {A : Around} {x1 : Addr} {h h' : Heap} (t : HotAt A x1 h) (k : ∀ o, h.get? x1 = some o → h'.get? x1 = some o) : HotAt A x1 h' := by
  obtain ⟨a, o, vs, h1, h2, h3⟩ := t
  exact ⟨a, o, vs, k _ h1, h2, h3⟩
end

/-! ### an except suite's rules -/
def HdX (X : Cx) : Prop := ∀ pins σ H s, Inv X pins σ H s → HdOk X.A s.heap
section
variable {X : Cx} {pos : Pos}
end
end L3

/-! [x for a, b in zip(c, d) if t] while an exception is handled -/
namespace L3
open PySem PySem.Spec PyProof.Rows L2 HotX
def ZSt (z TI TO i1 i2 a b : Addr) (i : Nat) (h : Heap) : Prop := IsZip h z TI TO .none ∧ IsPair h TI (.ref i1) (.ref i2) ∧ (∃ x y, IsPair h TO x y) ∧ h.IsListIter i1 a i ∧ h.IsListIter i2 b i
section
variable {X : Cx} {elts : List Expr} {kk : Nat} {tpos : Pos} {a b z TI TO i1 i2 : Addr} {i : Nat} {pins : List (Addr × Obj)} {s : Shared} {σ : L2.St} {H : Hp} {E : Value → Shared → Prop}
end

def ItzH (K : PySem.W.Frag) (a b : Addr) : It := ⟨(Itz K a b).go, (Itz K a b).yld, fun i H => ∃ xs ys : List V, SqL K H a xs ∧ SqL K H b ys ∧ xs.length ≤ i⟩
def iZipH (K : PySem.W.Frag) (ta : TA) : TI := fun σ H R => ta σ H fun vs H1 => ∃ a b xs ys, vs = [.ref a, .ref b] ∧ SqL K H1 a xs ∧ SqL K H1 b ys ∧ R (ItzH K a b) H1
section
variable {X : Cx} {pins : List (Addr × Obj)} {s : Shared} {σ : L2.St} {H : Hp} {Q : VK}
end
end L3

/-! exceptions of own classes over any built-in one, made with one argument or none, where __init__ stores a word (and the argument) -/
namespace L3
open PySem PySem.W PySem.Calls PyProof.Rows PySem.HandSPX Builtin Builtin.ObjectAttr
/-- own classes, then a tail -/
theorem refs_contains (rs : List Addr) (t : List Value) (Y : String) : (rs.map Value.ref ++ t).contains (.type Y) = t.contains (.type Y) := by
  induction rs with
  | nil => rfl
  | cons a r ih => rw [List.map_cons, List.cons_append, List.contains_cons, ih]; rfl
theorem refs_pass (self : Value) (rs : List Addr) {t : List Value} (h : refuseLoop self "__setattr__" t = pure ()) : refuseLoop self "__setattr__" (rs.map Value.ref ++ t) = pure () := by
  induction rs with
  | nil => exact h
  | cons a r ih => rw [List.map_cons, List.cons_append, refuseLoop_ref]; exact ih
section
variable {prog : Program} {w : World} {A : Around} {E : Value → Shared → Prop} {R : Result → Shared → Prop} {hp : Heap} {g : Array GenState} {d : Drawn} {t : Nat} {os : OsState}
variable {K : W.Frag} {name : Str} {tk : Tok} {v : Value} {x C : Addr} {fv : Array Value} {cd : ClassData}
end
end L3
namespace L3
open PySem PySem.Spec PyProof.Rows L2
/-- what the written part says of such a class -/
structure OexG (K : PySem.W.Frag) (C : Addr) (newId : String) (bmB : List Value) : Prop where
  pass : ∀ self, refuseLoop self "__setattr__" bmB = pure ()
  obj : bmB.contains (.type "object") = true
  cls : ∃ nm q N bs, ∃ rs : List Addr, ∃ sn sub ab col dd k0 k1 k2 k3 k5, K.lookup C = some (excClassObj nm q C N bs (rs.map Value.ref ++ bmB) true sn sub ab col dd k0 k1 k2 k3 k5 newId)
  sa : PySem.W.findIn K (.ref C) "__setattr__" = some (some (.builtin "object.__setattr__"))
  exC : PySem.W.subIn K (.ref C) (.type "BaseException") = some true
  tyC : PySem.W.typeIn K (.ref C) = some (.type "type")
  kC : PySem.W.keepIn K (.ref C) = true
def OexP (K : PySem.W.Frag) (C : Addr) : Prop := ∃ newId bmB, OexG K C newId bmB
theorem OexG.cd {K : PySem.W.Frag} {C : Addr} {newId : String} {bmB : List Value} (T : OexG K C newId bmB) : ∃ cd, PySem.W.clsIn K C = some cd ∧ (∀ self, refuseLoop self "__setattr__" cd.mro = pure ()) ∧ cd.mro.contains (.type "object") = true ∧ cd.mro.isEmpty = false ∧ cd.hasDict = true := by
  obtain ⟨nm, q, N, bs, rs, sn, sub, ab, col, dd, k0, k1, k2, k3, k5, hC⟩ := T.cls
  refine ⟨{ name := nm, bases := bs, mro := .ref C :: (rs.map Value.ref ++ bmB), ns := N, qualname := q, hasDict := true, slotNames := sn, subclasses := sub, abstract := ab, collection := col, hasDel := false }, by unfold PySem.W.clsIn; rw [hC] <;> rfl, fun self => ?_, ?_, rfl, rfl⟩
  · show refuseLoop self "__setattr__" (Value.ref C :: (rs.map Value.ref ++ bmB)) = pure ()
    exact refs_pass self (C :: rs) (T.pass self)
  · show (Value.ref C :: (rs.map Value.ref ++ bmB)).contains (.type "object") = true
    exact (refs_contains (C :: rs) bmB "object").trans T.obj
section
variable {X : Cx} {pins : List (Addr × Obj)} {σ : L2.St} {H : Hp} {s : Shared} {a C dx : Addr} {f : Str} {y : V} {u : Value} {fs : List (Str × V)} {Q : Unit → Shared → Prop} {E : Value → Shared → Prop} {A : Around}
/-- self.f = e -/
def tOstG (K : PySem.W.Frag) (f : Str) (to te : TE) : TS := fun D σ H => te σ H fun y H1 => to σ H1 fun x H2 => ∃ a C : Addr, x = .ref a ∧ OexP K C ∧ PySem.W.findIn K (.ref C) f = some none ∧
  ((H2 a = some (exo a C none) ∧ ∀ dx, H2 dx = none → dx ≠ a → D.nx σ (upd (upd H2 dx (exd dx [(f, y)])) a (exo a C (some dx)))) ∨
    ∃ (dx : Addr) (fs : List (Str × V)), H2 a = some (exo a C (some dx)) ∧ H2 dx = some (exd dx fs) ∧ fs.length ≤ 900 ∧ D.nx σ (upd H2 dx (exd dx ((f, y) :: fs))))
end
end L3

/-! raise C(..) -/
namespace L3
open PySem PySem.Spec PyProof.Rows L2
/-- how C(..) ends: C's own __init__ keeping sp -/
def mkQ (C : Addr) (sp : Sp) (H1 : Hp) (vs : List V) (Q : XK) : Prop := ∀ a, H1 a = none → sp (.ref a :: vs) (upd H1 a (exo a C none))
  (fun v H2 => v = .non ∧ ∃ (d : Addr) (fs : List (Str × V)), H2 a = some (exo a C (some d)) ∧ H2 d = some (exd d fs) ∧ H1 d = none ∧ Q (.ref C) (some d) (upd (del H2 a) d (.xd fs))) E0
def tMkG (C : Addr) (sp : Sp) (ta : TA) : L2.St → Hp → XK → Prop := fun σ H Q => ta σ H fun vs H1 => vs.length ≤ 1000 ∧ mkQ C sp H1 vs Q
/-- what the program's top says of such a class -/
structure ExcK (K : PySem.W.Frag) (C fI : Addr) : Prop where
  T : ∃ B newId initId bmB, ExcBaseFacts B newId initId bmB ∧ OexG K C newId bmB
  iC : PySem.W.findIn K (.ref C) "__init__" = some (some (.ref fI))
  tI : PySem.W.typeIn K (.ref fI) = some (.type "function")
section
variable {X : Cx} {pins : List (Addr × Obj)} {σ : L2.St} {H1 : Hp} {s : Shared} {C fI : Addr} {k : Nat} {fd : FuncData} {ps : List Str} {sp : Sp} {Q : XK} {us : List Value} {vs : List V}
variable {x : Str} {e : Expr} {es : List Expr} {ta : TA} {p pos : Pos}
end

/-! ### the two forms of __init__ -/
def sp1 (K : PySem.W.Frag) (C : Addr) (w fld : Str) : Sp := fun vs H Q _ => ∃ a y, vs = [.ref a, y] ∧ H a = some (exo a C none) ∧
  ∀ dx, H dx = none → dx ≠ a → Q .non (upd (upd (upd H dx (exd dx [("word", .str w)])) a (exo a C (some dx))) dx (exd dx [(fld, y), ("word", .str w)]))
def sp0 (K : PySem.W.Frag) (C : Addr) (w : Str) : Sp := fun vs H Q _ => ∃ a, vs = [.ref a] ∧ H a = some (exo a C none) ∧
  ∀ dx, H dx = none → dx ≠ a → Q .non (upd (upd H dx (exd dx [("word", .str w)])) a (exo a C (some dx)))
section
variable {P : Program} {w0 : World} {K : PySem.W.Frag} {mg : Str → Option Value} {base : Heap}
end
/-! ### as they may be raised -/
structure ClX (P : Program) (w0 : World) (K : PySem.W.Frag) (mg : Str → Option Value) (base : Heap) (x : Str) (C : Addr) (fld : Option Str) : Prop where
  ex : ∃ (fI : Addr) (fd : FuncData) (ps : List Str), ExcK K C fI ∧ FnOk P w0 K mg base CX0 1 fI fd ps (match fld with | some f => sp1 K C x f | none => sp0 K C x) ∧ Binds K fd ps []
  mg : mg x = some (.ref C)
/-- raise x(e), the def's own way out being E -/
def tRz1 (E : XK) (K : PySem.W.Frag) (C : Addr) (w fld : Str) (te : TE) : TS := fun _ σ H => tMkG C (sp1 K C w fld) (tCons te tNil) σ H fun cls d H' => E cls d H'
def tRz0 (E : XK) (K : PySem.W.Frag) (C : Addr) (w : Str) : TS := fun _ σ H => tMkG C (sp0 K C w) tNil σ H fun cls d H' => E cls d H'
section
variable {X : Cx} {E : XK} {x fld : Str} {C : Addr} {e : Expr} {te : TE} {p pos rpos : Pos} {j : Nat}
/-! ### typed -/
variable {Γ : Ct} {M : SH} {D : EndT} {K : PySem.W.Frag}
end
end L3

/-! try: .. except (A, B, C) as e: .. where what is raised is always met -/
namespace L3
open PySem PySem.Spec PyProof.Rows L2
/-- what the clause wishes -/
def wAs3 (K : PySem.W.Frag) (c1 c2 c3 : Value) (i : Nat) (ts : Addr → Value → Option Addr → TS) (D : Ends) : WX := fun cls d σ H =>
  PySem.W.exmAny K cls [c1, c2, c3] = some true ∧ ∀ a, H a = none → ts a cls d { nx := fun σ' H' => D.nx (σ'.set i none) H', rt := D.rt, bk := fun σ' H' => D.bk (σ'.set i none) H', ct := fun σ' H' => D.ct (σ'.set i none) H' } (σ.set i (some (.ref a))) H
section
variable {X : Cx} {x1 x2 x3 n : Str} {c1 c2 c3 : Value} {i k : Nat} {body suite : List Stmt} {b₀ : Stmt} {n1 n2 n3 tpos pos pos' : Pos} {tb : WX → TS} {ts : Addr → Value → Option Addr → TS}
end
end L3

/-! defs asked of the exception that is handled -/
namespace L3
open PySem PySem.Spec PyProof.Rows L2
/-- the exception at a, its dict at dd, fields by their representations -/
def XcP (a dd : Addr) (fs : List (Str × Rep)) (S : Hp) (v : V) : Prop := v = .ref a ∧ ∃ vs : List (Str × V), S dd = some (.xd vs) ∧ vs.map (·.1) = fs.map (·.1) ∧ All2 S (fs.map (·.2)) (vs.map (·.2))
def iXc (a dd : Addr) (fs : List (Str × Rep)) : Rep := ⟨XcP a dd fs, fun e ⟨h1, vs, h2, h3, h4⟩ => ⟨h1, vs, e _ _ h2, h3, All2.mono e h4⟩⟩
/-- what the class D must say, so that isinstance asks its instances rightly -/
structure XisC (K : PySem.W.Frag) (D : Addr) : Prop where
  hc : (PySem.W.clsIn K D).isSome = true
  hg : PySem.W.findIn K (.ref D) "__getattribute__" = some (some (.builtin "BaseException.__getattribute__"))
  hk : PySem.W.findIn K (.ref D) "__getattr__" = some none
  hs : PySem.W.subIn K (.ref D) (.type "BaseException") = some true
  hd : PySem.W.hasDictIn K D = true
  ha : PySem.W.findIn K (.ref D) "__class__" = some (some (.builtin "object.__class__"))
  hm : PySem.W.mroIn K D (.type "object") = some true
structure XisK (K : PySem.W.Frag) : Prop where
  hn : PySem.W.specialIn K (.builtin "object.__class__") "__get__" = some (some (.builtin "getset_descriptor.__get__"))
  ht : PySem.W.takesIn K (.builtin "object.__class__") = some true
def rIsH (K : PySem.W.Frag) (D a dd : Addr) : List V → Hp → VK → Prop := fun xs H Q => ∃ (c : V) (cv : Value) (b : Bool) (fs : List (Str × V)), xs = [.ref a, c] ∧ ClsV c cv ∧ PySem.W.kitOne K (.ref D) cv = some b ∧ H dd = some (.xd fs) ∧ Q (.bl b) H
def rIsHT (K : PySem.W.Frag) (D a dd : Addr) : List V → Hp → VK → Prop := fun xs H Q => ∃ (tp : Addr) (cs : List V) (us : List Value) (b : Bool) (fs : List (Str × V)), xs = [.ref a, .ref tp] ∧ H tp = some (.tup cs) ∧ Paired ClsV cs us ∧ PySem.W.kitAny K (.ref D) us = some b ∧ H dd = some (.xd fs) ∧ Q (.bl b) H
section
variable {X : Cx} {D a dd : Addr} {oe : Obj}
/-- e.f -/
def tXfH (K : PySem.W.Frag) (D a dd : Addr) (f : Str) (te : TE) : TE := fun σ H Q => te σ H fun x H1 => x = .ref a ∧ PySem.W.findIn K (.ref D) f = some none ∧ ∃ (fs : List (Str × V)) (v : V), H1 dd = some (.xd fs) ∧ fs.lookup f = some v ∧ Q v H1
end
end L3

/-! a lambda without parameters, called by a def that it is handed to, or deeper -/
namespace L3
open PySem PySem.Spec PyProof.Rows L2 LamX
def lamCxN (X : Cx) (A : Around) (outer : List Env) (s : Shared) (H : Hp) (E : XK) (scope : Scope) (f c' : Addr) : Cx :=
  { lamCx X A outer s H E scope f c' with xe := fun e s' => wpAny (model X.prog X.w) (A.deeper (lamEnv X scope s.heap.objs.size f c')) (leaving (lamEnv X scope s.heap.objs.size f c') e) (fun _ s'' => L2N.CX X.prog X.w outer H s E e s'') (fun e' s'' => L2N.CX X.prog X.w outer H s E e' s'') s' }
/-- x(), x a name for the lambda at f, in any def's frame entered at (s', H') since (s, H) from the frames outer -/
def Act (P : Program) (w : World) (K : PySem.W.Frag) (mg : Str → Option Value) (base : Heap) (k : Nat) (outer : List Env) (s : Shared) (H : Hp) (f c' : Addr) (q : Str) (tl : XK → Hp → VK → Prop) : Prop :=
  ∀ (CXg : CXT) (Ng : List Str) (qg : Str) (sg : Scope) (g : Addr) (cdg : Value) (A' : Around) (outer' : List Env) (s' : Shared) (H' : Hp) (Eg : XK) (pn : List (Addr × Obj)) (xe : Value → Shared → Prop) (W : WX) (a : Str) (i : Nat) (p1 p2 : Pos),
    Un (frs outer) [] H H' s.heap s'.heap → (∀ b ∈ frs outer', b ∈ frs outer ∨ s.heap.objs.size ≤ b) → L2N.Takes ((cxOf CXg P w K mg base Ng qg sg g cdg A' outer' s' H' Eg).tr pn xe) W →
    Room (k + 1) (A'.deeper (envOfC qg sg s'.heap.objs.size g cdg)) → Ng[i]? = some a → Vis sg a → (a == ("__debug__" : Str)) = false → (a == ("__classdict__" : Str)) = false →
    PE ((cxOf CXg P w K mg base Ng qg sg g cdg A' outer' s' H' Eg).tr pn xe) (.Call (.Name a p1) [] [] p2) (fun σZ HZ Q => σZ[i]? = some (some (.ref f)) ∧ HZ c' = some (CodeO c' q) ∧ tl (fun cls d H' => W cls d σZ H') HZ Q)
section
variable {X : Cx} {pins : List (Addr × Obj)} {σ : L2.St} {H : Hp} {s : Shared}
end
end L3

/-! defs that are handed the handled exception; defs that are handed a lambda -/
namespace L3
open PySem PySem.Spec PyProof.Rows L2 LamX
/-- a def asked of the handled exception p, an instance of D with the dict dd: ts p's place, D, dd -/
structure FnE (P : Program) (w : World) (K : PySem.W.Frag) (mg : Str → Option Value) (base : Heap) (k : Nat) (f : Addr) (fd : FuncData) (ps : List Str) (ts : Addr → Addr → Addr → TSp) : Prop where
  len : ∀ a D dd Rs M k X, ts a D dd Rs M k X → Rs.length = ps.length
  run : ∀ (A : Around) (outer : List Env) (s : Shared) (H : Hp) (args : Args) (us : List Value) (vs : List V) (Q : VK) (p : Addr × Obj) (D dd : Addr), L2H.RoomH k A → L2H.Hot1 A p → L2H.PinOk outer H s p → L2N.Zn (.ref D) (some dd) p.2 → (∃ vs, p.2.data = .fields vs) →
    Env0 P w K mg base A outer s H → BindsTo s fd args (ps.zip us) → Vals vs us → spT (ts p.1 D dd) vs H Q E0 → codeAny (model P w) A (.call (.ref f) args) (CR CX0 outer P w H s Q E0) s
structure ClE (P : Program) (w : World) (K : PySem.W.Frag) (mg : Str → Option Value) (base : Heap) (k : Nat) (x : Str) (ts : Addr → Addr → Addr → TSp) : Prop where
  ex : ∃ (f : Addr) (fd : FuncData) (ps : List Str), FnE P w K mg base k f fd ps ts ∧ mg x = some (.ref f) ∧ PySem.W.keepIn K (.ref f) = true ∧ Binds K fd ps []
section
variable {X : Cx} {k j : Nat} {x : Str} {ts : Addr → Addr → Addr → TSp} {p pos : Pos} {e : Expr} {es : List Expr} {t : TA} {a D dd : Addr} {oe : Obj}
end
end L3

/-! defs that are handed a lambda -/
namespace L3
open PySem PySem.Spec PyProof.Rows L2 LamX
abbrev GTT := (XK → Hp → VK → Prop) → Hp → VK → Prop
structure FnL (P : Program) (w : World) (K : PySem.W.Frag) (mg : Str → Option Value) (base : Heap) (k : Nat) (g : Addr) (TT : GTT) : Prop where
  run : ∀ (A : Around) (outer : List Env) (s : Shared) (H : Hp) (f c' : Addr) (q : Str) (tl : XK → Hp → VK → Prop) (kl : Nat) (outer0 : List Env) (s0 : Shared) (H0 : Hp) (Q : VK), Act P w K mg base kl outer0 s0 H0 f c' q tl →
    Un (frs outer0) [] H0 H s0.heap s.heap → (∀ b ∈ frs outer, b ∈ frs outer0 ∨ s0.heap.objs.size ≤ b) → s0.heap.objs.size ≤ s.heap.objs.size → Room (kl + k) A → Env0 P w K mg base A outer s H → H c' = some (CodeO c' q) → TT tl H Q →
    codeAny (model P w) A (.call (.ref g) ⟨[.ref f], []⟩) (CR CX0 outer P w H s Q E0) s
section
variable {P : Program} {w : World} {K : PySem.W.Frag} {mg : Str → Option Value} {base : Heap}
end
end L3

/-! typed: what the law's own defs ask of the handled exception -/
namespace L3
open PySem PySem.Spec PyProof.Rows L2 LamX
section
variable {E : XK} {K : PySem.W.Frag} {Γ : Ct} {M : SH} {k : KR} {X : KX} {R R1 R2 : Rep} {te ta tb : TE} {tr : TA} {n : Nat} {D a dd C : Addr} {fs : List (Str × Rep)}
end
end L3

/-! the law's own try: what was told, or the word and the field of what was raised -/
namespace L3
open PySem PySem.Spec PyProof.Rows L2 LamX
def trS : Scope := { kind := .function, names := [("_law_ask", .local), ("_law_told", .local), ("_law_word_here", .local), ("_law_field_here", .local), ("_law_e", .local), ("DarkError", .globalImplicit), ("Missing", .globalImplicit), ("Nothing", .globalImplicit), ("_law_word", .globalImplicit), ("_law_field", .globalImplicit)], isGenerator := false, isCoroutine := false }
abbrev trN : List Str := ["_law_ask", "_law_told", "_law_word_here", "_law_field_here", "_law_e"]
/-- what is raised, as it is told -/
def trE (K : PySem.W.Frag) (D1 D2 D3 : Addr) (tsW tsF : Addr → Addr → Addr → TSp) (Q : VK) : XK := fun cls d H1 => PySem.W.exmAny K cls [.ref D1, .ref D2, .ref D3] = some true ∧ ∀ a, H1 a = none → ∃ D dd, cls = .ref D ∧ d = some dd ∧
  spT (tsW a D dd) [.ref a] H1 (fun w H2 => spT (tsF a D dd) [.ref a] H2 (fun fv H3 => 3 ≤ sizeLine ∧ ∀ p, H3 p = none → Q (.ref p) (upd H3 p (.tup [.non, w, fv]))) E0) E0
def trQ (Q : VK) : VK := fun v H2 => 3 ≤ sizeLine ∧ ∀ p, H2 p = none → Q (.ref p) (upd H2 p (.tup [v, .str "", .non]))
def TTr (K : PySem.W.Frag) (D1 D2 D3 : Addr) (tsW tsF : Addr → Addr → Addr → TSp) : GTT := fun tl H Q => 3 ≤ sizeLine ∧ ∀ p0, H p0 = none → ∀ E' Q', (∀ cls d H1, trE K D1 D2 D3 tsW tsF Q cls d H1 → E' cls d H1) → (∀ v H2, trQ Q v H2 → Q' v H2) → tl E' (upd H p0 (.tup [.non, .str "", .non])) Q'
section
variable {P : Program} {w : World} {K : PySem.W.Frag} {mg : Str → Option Value} {base : Heap} {st : Stmt} {g D1 D2 D3 : Addr} {fd : FuncData} {k kw kf : Nat} {tsW tsF : Addr → Addr → Addr → TSp}
end
end L3

namespace L3
open PySem PySem.Spec PyProof.Rows L2 LamX
/-! the word and the field alone -/
def rfS : Scope := { kind := .function, names := [("_law_ask", .local), ("_law_tried", .globalImplicit)], isGenerator := false, isCoroutine := false }
def TRf (K : PySem.W.Frag) (TT : GTT) : GTT := fun tl H Q => TT tl H fun v H' => ∃ i, V.int 1 = .int i ∧ rSlA K v (some i) none H' Q
section
variable {P : Program} {w : World} {K : PySem.W.Frag} {mg : Str → Option Value} {base : Heap} {st : Stmt} {g gt : Addr} {fd : FuncData} {k kt : Nat} {TT : GTT}
theorem FnL.mono {j : Nat} (F : FnL P w K mg base k g TT) (h : k ≤ j) : FnL P w K mg base j g TT :=
  ⟨fun A outer s H f c' q tl kl outer0 s0 H0 Q act un hfs hsz hr e0 hc hT => F.run A outer s H f c' q tl kl outer0 s0 H0 Q act un hfs hsz (hr.mono (by omega)) e0 hc hT⟩
end
end L3

/-! a lambda's making, the heap behind it told in full -/
namespace L3
open PySem PySem.Spec PyProof.Rows L2 LamX
/-- the table at P as it stands, its code objects by the name q -/
def TabP (H : Hp) (P : Addr) (q : Str) (ps : Array Value) : Prop := H P = some (.tbl ps) ∧ TriplesOk ps.toList ∧ ∀ (pos : Pos) (cv : Value), codeAmong pos ps.toList = some cv → ∃ c, cv = .ref c ∧ H c = some (CodeO c q)
/-- behind it: all as it was, or one code object more, told by the table -/
def LamH (P : Addr) (q : Str) (ps : Array Value) (H H1 : Hp) (c' : Addr) : Prop :=
  (H1 = H ∧ H c' = some (CodeO c' q)) ∨ ∃ ps' : Array Value, H1 = upd (upd H P (.tbl ps')) c' (CodeO c' q) ∧ H c' = none ∧ TriplesOk ps'.toList ∧ ∀ (pos : Pos) (cv : Value), codeAmong pos ps'.toList = some cv → cv = .ref c' ∨ codeAmong pos ps.toList = some cv
section
variable {X : Cx} {pins : List (Addr × Obj)} {σ : L2.St} {H : Hp} {s : Shared}
end
/-- x(lambda: body): the table in the heap, told before and behind -/
def tLamP (P : Addr) (q : Str) (TT : GTT) (t : XK → TE) : TE := fun σ H Q => ∃ ps, TabP H P q ps ∧ ∀ H1 c', LamH P q ps H H1 c' → TT (fun E H' Q' => t E σ H' Q') H1 Q
end L3

/-! typed: _law_tried(lambda: ..) -/
namespace L3
open PySem PySem.Spec PyProof.Rows L2 LamX
def TblP (q : Str) (S : Hp) (o : HO) : Prop := ∃ ps : Array Value, o = .tbl ps ∧ TriplesOk ps.toList ∧ ∀ (pos : Pos) (cv : Value), codeAmong pos ps.toList = some cv → ∃ c, cv = .ref c ∧ S c = some (CodeO c q)
/-- a table of code objects, all of one name -/
def mTbl (q : Str) : MRep := ⟨TblP q, fun e ⟨ps, h1, h2, h3⟩ => ⟨ps, h1, h2, fun pos cv h => let ⟨c, e1, e2⟩ := h3 pos cv h; ⟨c, e1, e _ _ e2⟩⟩, fun ⟨ps, h1, _⟩ ys z => by rw [h1] at z; cases z⟩
section
variable {E : XK} {K : PySem.W.Frag} {Γ : Ct} {A B : SH} {k : KR} {X : KX} {P D1 D2 D3 : Addr} {q : Str} {t : XK → TE} {tsW tsF : Addr → Addr → Addr → TSp} {Kn : XR → Prop} {wd : XR → Str} {fl : XR → Rep}
end
end L3

/-! the program's refusals as a table: class, word, field -/
namespace L3
open PySem PySem.Spec PyProof.Rows L2 LamX
structure XCl where
  C : Addr
  w : Str
  fld : Option Str
def atX (XT : List XCl) (D : Addr) : Option XCl := XT.find? fun c => c.C == D
def wdX (XT : List XCl) (x : XR) : Str := ((atX XT x.cls).map (·.w)).getD ⟨#[]⟩
def flX (XT : List XCl) (x : XR) : Rep := match (atX XT x.cls).bind (·.fld) with
  | some f => (x.fs.lookup f).getD iNon
  | none => iNon
structure XTab (K : PySem.W.Frag) (XT : List XCl) (D1 D2 D3 : Addr) : Prop where
  U : XisK K
  is : ∀ c ∈ XT, XisC K c.C
  no : ∀ c ∈ XT, ∀ f, c.fld = some f → PySem.W.findIn K (.ref c.C) f = some none
  kit : ∀ c ∈ XT, ∀ d ∈ XT, PySem.W.kitOne K (.ref c.C) (.ref d.C) = some (c.C == d.C)
  exm : ∀ c ∈ XT, PySem.W.exmAny K (.ref c.C) [.ref D1, .ref D2, .ref D3] = some true
  nd : (XT.map (·.C)).Nodup
/-- one of the table's, with its fields -/
def KnX (XT : List XCl) (x : XR) : Prop := ∃ c, atX XT x.cls = some c ∧ x.fs.map (·.1) = (match c.fld with | none => ["word"] | some f => [f, "word"])
theorem atX_mem {XT : List XCl} {D : Addr} {c : XCl} (h : atX XT D = some c) : c ∈ XT ∧ c.C = D := ⟨List.mem_of_find?_eq_some h, by have := List.find?_some h; simpa using this⟩
theorem KnX.fst {XT : List XCl} {x : XR} (h : KnX XT x) : ∃ c ∈ XT, c.C = x.cls := by
  obtain ⟨c, h1, _⟩ := h
  exact ⟨c, (atX_mem h1).1, (atX_mem h1).2⟩
def tsWordX (XT : List XCl) : Addr → Addr → Addr → TSp := fun a D dd Rs M k X => ∃ fs, Rs = [iXc a dd fs] ∧ M = [] ∧ KnX XT ⟨D, fs⟩ ∧ k (aStr (wdX XT ⟨D, fs⟩)) []
def tsFieldX (XT : List XCl) : Addr → Addr → Addr → TSp := fun a D dd Rs M k X => ∃ fs, Rs = [iXc a dd fs] ∧ M = [] ∧ KnX XT ⟨D, fs⟩ ∧ k (flX XT ⟨D, fs⟩) []
section
variable {E : XK} {K : PySem.W.Frag} {Γ : Ct} {A B : SH} {k : KR} {X : KX} {P D1 D2 D3 : Addr} {q : Str} {t : XK → TE} {XT : List XCl}
end
end L3

/-! promises with refusals; a law with lambdas: its start, its end -/
namespace L3
open PySem PySem.Spec PyProof.Rows L2 LamX
def pureX (sp : List Rep → (Rep → Prop) → (XR → Prop) → Prop) : TSp := fun Rs M k X => M = [] ∧ sp Rs (fun R => k R []) fun x => X x []
def methX (C : Addr) (sp : SH → FR → List Rep → (Rep → Prop) → (XR → Prop) → Prop) : TSp := fun Rs M k X => ∃ R Rs' fs, Rs = R :: Rs' ∧ HasO M R C fs ∧ sp M fs Rs' (fun R => k R M) fun x => X x M
section
variable {E : XK} {K : PySem.W.Frag} {Γ : Ct} {M : SH} {k : KR} {X : KX} {te ta : TE} {tr : TA} {C : Addr}
end
section
variable {P : Program} {w : World} {K : PySem.W.Frag} {mg : Str → Option Value} {base : Heap}
/-- a def handed a lambda, by its name -/
structure ClL (P : Program) (w : World) (K : PySem.W.Frag) (mg : Str → Option Value) (base : Heap) (k : Nat) (x : Str) (TT : GTT) : Prop where
  ex : ∃ g : Addr, FnL P w K mg base k g TT ∧ mg x = some (.ref g) ∧ PySem.W.keepIn K (.ref g) = true
/-- a def whose code object is c -/
structure FunC (K : PySem.W.Frag) (x qual : Str) (st : Stmt) (f : Addr) (fd : FuncData) (c : Addr) : Prop where
  ex : ∃ (oc : Value) (od : Option Addr) (kV doc pm : Value) (an : Option Addr) (ct : Value) (osl : Array (Option Value)),
    fd = PySem.W.fnOf x qual (defArgs st) (defBody st) (defScope st) .none kV doc pm an (.ref c) ct ∧ K.lookup f = some ⟨oc, od, .func fd, osl⟩ ∧ PySem.W.codeIn K (.ref c) qual = true
end
/-! ### what the program's top says of the refusals' classes, by looks -/
def xisB (K : PySem.W.Frag) (D : Addr) : Bool :=
  (PySem.W.clsIn K D).isSome && decide (PySem.W.findIn K (.ref D) "__getattribute__" = some (some (.builtin "BaseException.__getattribute__"))) && decide (PySem.W.findIn K (.ref D) "__getattr__" = some none) &&
  decide (PySem.W.subIn K (.ref D) (.type "BaseException") = some true) && PySem.W.hasDictIn K D && decide (PySem.W.findIn K (.ref D) "__class__" = some (some (.builtin "object.__class__"))) && decide (PySem.W.mroIn K D (.type "object") = some true)
def xtabB (K : PySem.W.Frag) (XT : List XCl) (D1 D2 D3 : Addr) : Bool :=
  decide (PySem.W.specialIn K (.builtin "object.__class__") "__get__" = some (some (.builtin "getset_descriptor.__get__"))) && decide (PySem.W.takesIn K (.builtin "object.__class__") = some true) &&
  (XT.all fun c => xisB K c.C) && (XT.all fun c => match c.fld with | none => true | some f => decide (PySem.W.findIn K (.ref c.C) f = some none)) &&
  (XT.all fun c => XT.all fun d => decide (PySem.W.kitOne K (.ref c.C) (.ref d.C) = some (c.C == d.C))) && (XT.all fun c => decide (PySem.W.exmAny K (.ref c.C) [.ref D1, .ref D2, .ref D3] = some true)) && decide ((XT.map (·.C)).Nodup)
def exkB (K : PySem.W.Frag) (C fI : Addr) (rs : List Addr) (bmB : List Value) (newId : String) (fld : Option Str) : Bool :=
  (match K.lookup C with
    | some ⟨.type "type", _, .cls cd, sl⟩ => (match sl.toList with
      | [_, _, _, _, some (.builtin n), _] => decide (n = newId)
      | _ => false) && decide (cd.mro = .ref C :: (rs.map Value.ref ++ bmB)) && !cd.hasDel && cd.hasDict
    | _ => false) &&
  decide (PySem.W.findIn K (.ref C) "__setattr__" = some (some (.builtin "object.__setattr__"))) && decide (PySem.W.subIn K (.ref C) (.type "BaseException") = some true) && decide (PySem.W.typeIn K (.ref C) = some (.type "type")) && PySem.W.keepIn K (.ref C) &&
  decide (PySem.W.findIn K (.ref C) "__init__" = some (some (.ref fI))) && decide (PySem.W.typeIn K (.ref fI) = some (.type "function")) && decide (PySem.W.findIn K (.ref C) "word" = some none) &&
  (match fld with | none => true | some f => decide (PySem.W.findIn K (.ref C) f = some none))
/-! ### one class of the table at hand -/
section
variable {XT : List XCl} {K : PySem.W.Frag} {D1 D2 D3 C : Addr} {x f : Str} {R : Rep}
end
section
variable {E : XK} {K : PySem.W.Frag} {Γ : Ct} {M : SH} {k : KR} {X : KX} {Pt D1 D2 D3 : Addr} {q : Str} {t : XK → TE} {XT : List XCl}
end
abbrev lamQ : Str := ("law" : Str) ++ ".<locals>." ++ "<lambda>"
section
variable {P : Program} {w0 : World} {K : PySem.W.Frag} {mg : Str → Option Value} {base : Heap}
end
section
variable {XT : List XCl} {K : PySem.W.Frag} {D1 D2 D3 : Addr} {x : XR}
end
end L3

/-! more rules: enumerate over a list or a tuple -/
namespace L3
open PySem PySem.Spec L2 RZ PyProof.Rows
def iEnumS (K : PySem.W.Frag) (ta : TA) : TI := fun σ H R => ta σ H fun vs H1 => (∃ a xs, vs = [.ref a] ∧ SqL K H1 a xs ∧ R (Ite K a) H1) ∨ ∃ a xs, vs = [.ref a] ∧ SqT K H1 a xs ∧ R (IteT K a) H1
section
variable {E : XK} {K : PySem.W.Frag} {Γ : Ct} {M : SH} {tl : TE}
end
section
variable {E : XK} {K : PySem.W.Frag} {Γ : Ct} {M : SH} {k : KR} {X : KX} {Pt D1 D2 D3 C : Addr} {q x f : Str} {t : XK → TE} {XT : List XCl} {R R0 : Rep}
end
end L3

/-! __init__ that may raise; l.insert -/
namespace L3
open PySem PySem.Spec PyProof.Rows L2
def initX (C : Addr) (sp : List Rep → (FR → Prop) → (XR → Prop) → Prop) : TSp := fun Rs M k X => ∃ a Rs', Rs = iRef a :: Rs' ∧ M = [(a, mObj C [])] ∧ ∃ (Z : FR → Prop) (ZX : XR → Prop), sp Rs' Z ZX ∧ (∀ fs, Z fs → k iNon [(a, mObj C fs)]) ∧ ∀ x, ZX x → ∀ M', X x M'
section
variable {E : XK} {K : PySem.W.Frag} {Γ : Ct} {M : SH} {k : KR} {X : KX} {R : Rep} {ta : TE} {tr tk : TA} {C : Addr}
/-! ### l.insert(i, y) -/
def rInsert : V → List V → Hp → VK → Prop := fun x vs H Q => ∃ (l : Addr) (xs : List V) (i : Int) (y : V), x = .ref l ∧ vs = [.int i, y] ∧ H l = some (.lst xs) ∧ xs.length < sizeLine ∧ 0 ≤ i ∧ i < 2 ^ 63 ∧ Q .non (upd H l (.lst (xs.take i.toNat ++ [y] ++ xs.drop i.toNat)))
theorem mt_insertM {Y : Cx} : MtM Y "list.insert" rInsert := mt_insert
theorem All2.takeN {S : Hp} : ∀ {rs : List Rep} {xs : List V} (n : Nat), All2 S rs xs → All2 S (rs.take n) (xs.take n)
  | [], [], n, _ => by simp only [List.take_nil]; exact True.intro
  | r :: rs, x :: xs, 0, _ => True.intro
  | r :: rs, x :: xs, n + 1, h => ⟨h.1, All2.takeN n h.2⟩
  | [], _ :: _, _, h => h.elim
  | _ :: _, [], _, h => h.elim
theorem All2.dropN {S : Hp} : ∀ {rs : List Rep} {xs : List V} (n : Nat), All2 S rs xs → All2 S (rs.drop n) (xs.drop n)
  | [], [], n, _ => by simp only [List.drop_nil]; exact True.intro
  | r :: rs, x :: xs, 0, h => h
  | r :: rs, x :: xs, n + 1, h => All2.dropN n h.2
  | [], _ :: _, _, h => h.elim
  | _ :: _, [], _, h => h.elim
theorem om_insert {A B : SH} {a : Addr} {rs : List Rep} {n : Nat} (hn : n ≤ 1000000) (hl : rs.length < 1000000) (q : k iNon (A ++ (a, mLst (rs.take n ++ [R] ++ rs.drop n)) :: B)) : Om rInsert (iRef a) [iInt (n : Nat), R] (A ++ (a, mLst rs) :: B) k := fun x xs S H Q e m h1 h2 o => by
  cases h1
  obtain ⟨v1, v2, rfl, p1, p2⟩ := all2_2 h2
  cases p1
  obtain ⟨_, ob, ho, ys, rfl, py⟩ := m.at_ a (mLst rs) (by simp)
  refine ⟨a, ys, n, v2, rfl, rfl, ho, by rw [py.len]; exact sz_lt (by omega), by omega, by omega, o .non S _ iNon _ q (Stp.wrM e m ⟨_, rfl, ?_⟩) rfl⟩
  rw [Int.toNat_natCast]
  exact ((All2.takeN n py).app (All2.one p2)).app (All2.dropN n py)
theorem ev_insert (h : Ev E ta Γ M (fun R1 M1 => ∃ (a : Addr) (i : Nat) (rs : List Rep), R1 = iRef a ∧ M1[i]? = some (a, mLst rs) ∧ Ea E tr Γ M1 (fun Rs M2 => ∃ (n : Nat) (R : Rep) (j : Nat) (rs : List Rep), Rs = [iInt (n : Nat), R] ∧ M2[j]? = some (a, mLst rs) ∧ n ≤ 1000000 ∧ rs.length < 1000000 ∧ k iNon (M2.set j (a, mLst (rs.take n ++ [R] ++ rs.drop n)))) X) X) : Ev E (tBM K "list" rInsert ta tr) Γ M k X :=
  ev_bm fun σ S H Q I o ox => h σ S H Q I (fun v S2 H2 R M2 ⟨a, i, rs, e, hm, q⟩ st p => by
    subst e
    refine o v S2 H2 (iRef a) M2 ⟨ty_mLst (at_mem hm), fun σ S H Q I o ox => q σ S H Q I (fun vs S2 H2 Rs M2 ⟨n, R, j, rs, e, hj, hn, hl, q⟩ st p => ?_) ox⟩ st p
    subst e
    refine o vs S2 H2 [iInt (n : Nat), R] M2 ?_ st p
    obtain ⟨e1, e2⟩ := at_split (P' := mLst (rs.take n ++ [R] ++ rs.drop n)) hj
    rw [e2] at q
    rw [e1]
    exact om_insert hn hl q) ox
end
section
variable {P : Program} {w : World} {K : PySem.W.Frag} {mg : Str → Option Value} {base : Heap}
end
end L3
namespace L3
open PySem PySem.Spec PyProof.Rows L2
/-- a def that changes nothing that is there, and may raise -/
def roX (sp : SH → List Rep → (Rep → Prop) → (XR → Prop) → Prop) : TSp := fun Rs M k X => sp M Rs (fun R => k R M) fun x => X x M
end L3
namespace L3
open PySem PySem.Spec PyProof.Rows L2
end L3

/-! a told list in a told tuple, asked and changed afterwards -/
namespace L3
open PySem PySem.Spec PyProof.Rows L2
/-- as it looks where the list at a stands for good -/
def Vw (a : Addr) (rs : List Rep) (R R' : Rep) : Prop := ∀ (S S' : Hp) (ys : List V) (v : V), Same S S' → S' a = some (.lst ys) → All2 S' rs ys → R.p S v → R'.p S' v
def VwS (a : Addr) (rs : List Rep) (Rs Rs' : List Rep) : Prop := ∀ (S S' : Hp) (ys : List V) (vs : List V), Same S S' → S' a = some (.lst ys) → All2 S' rs ys → All2 S Rs vs → All2 S' Rs' vs
section
variable {E : XK} {K : PySem.W.Frag} {Γ : Ct} {M : SH} {k : KR} {X : KX} {tr : TA}
end
end L3
namespace L3
open PySem PySem.Spec PyProof.Rows L2
end L3

/-! sums of a list; a tuple as often; a dict made by a comprehension over a list of texts -/
namespace L3
open PySem PySem.Spec PyProof.Rows L2
section
variable {K : PySem.W.Frag} {M : SH}
end
section
variable {E : XK} {K : PySem.W.Frag} {Γ : Ct} {M : SH} {k : KR} {X : KX} {tl tk tv : TE} {vs : List Nat}
theorem look_none {α : Type} {f : α → Str} {g : α → Rep} {z : Str} : ∀ {l : List α}, z ∉ l.map f → (l.map fun x => (f x, g x)).lookup z = none
  | [], _ => rfl
  | a :: l, h => by
    rw [List.map_cons, List.lookup_cons, show (z == f a) = false from beq_eq_false_iff_ne.mpr fun e => h (by rw [e]; exact List.mem_cons_self ..)]
    exact look_none fun w => h (List.mem_cons_of_mem _ w)
end
/-- a def that is not come to -/
def tsNo : TSp := fun _ _ _ _ => False
end L3

/-! a list unpacked -/
namespace L3
open PySem PySem.Spec PyProof.Rows L2
section
variable {K : PySem.W.Frag} {Γ : Ct} {M : SH} {vs : List Nat} {kc : KC}
end
end L3

/-! a def called with a list that is changed later; what comes out does not lean on it -/
namespace L3
open PySem PySem.Spec PyProof.Rows L2
def OffR (R : Rep) : Prop := ∀ (S : Hp) (a : Addr) (xs : List V) (v : V), S a = some (.lst xs) → R.p S v → R.p (dropH S a) v
def OffM (M : SH) : Prop := ∀ q ∈ M, ∀ (S : Hp) (a : Addr) (xs : List V) (o : HO), S a = some (.lst xs) → q.2.p S o → q.2.p (dropH S a) o
section
variable {E : XK} {K : PySem.W.Frag} {Γ : Ct} {M : SH} {k : KR} {X : KX} {tr : TA} {t : TSp}
end
end L3

/-! a lambda as a value: made, kept in a list, called later; with a default or without -/
namespace L3
open PySem PySem.Spec PyProof.Rows L2 LamX
/-- what a lambda's scope may have: free names, and own ones that the maker does not know -/
structure LamD (N : List Str) (sc lsc : Scope) : Prop where
  kind : lsc.kind = .function
  co : lsc.isCoroutine = false
  gen : lsc.isGenerator = false
  cel : ∀ y ∈ lsc.names, y.2 ≠ .cell
  loc : ∀ y ∈ lsc.names, y.2 = .local → y.1 ∉ N
  free : ∀ y ∈ lsc.names, y.2 = .free → sc.names.lookup y.1 = some .cell ∨ sc.names.lookup y.1 = some .free
def lamDB (N : List Str) (sc lsc : Scope) : Bool :=
  decide (lsc.kind = .function) && (!lsc.isCoroutine && (!lsc.isGenerator && lsc.names.all fun y => !decide (y.2 = .cell) && ((!decide (y.2 = .local) || !decide (y.1 ∈ N)) && (!decide (y.2 = .free) || (decide (sc.names.lookup y.1 = some .cell) || decide (sc.names.lookup y.1 = some .free))))))
section
variable {X : Cx} {pins : List (Addr × Obj)} {σ : L2.St} {H HZ : Hp} {s s1 : Shared}
theorem LamD.has {lsc : Scope} (L : LamD X.N X.env.scope lsc) (ok : X.Ok) : ∀ y ∈ lsc.names, y.2 = .free → ∃ c, X.env.cells.lookup y.1 = some c := fun y hy e =>
  ok.has _ ((L.free y hy e).elim Or.inl Or.inr)
/-- a lambda's object -/
abbrev lamOb (qual : Str) (params : Arguments) (body : Expr) (lsc : Scope) (cl : List (Str × Addr)) (dV doc pm : Value) (c' : Addr) (ctv : Value) : Obj := PySem.W.kdv_obj "<lambda>" (qual ++ "<lambda>") params (.expr body) lsc cl dV doc pm c' ctv
/-- its default, if it has one: a whole number -/
def DefIn (h : Heap) (dV : Value) : Option Int → Prop
  | none => dV = .none
  | some n => ∃ (T : Addr) (t : Tok), dV = .ref T ∧ h.get? T = some (PySem.W.kdv_tup [.int n t])
def DefAt (H : Hp) (dV : Value) : Option Int → Prop
  | none => dV = .none
  | some n => ∃ (T : Addr) (t : Tok), dV = .ref T ∧ H T = some (.frz (PySem.W.kdv_tup [.int n t]) (.ext fun _ => True))
theorem DefAt.to {dV : Value} {H' : Hp} (f : ∀ b o x, H b = some (.frz o x) → H' b = some (.frz o x)) : ∀ {d : Option Int}, DefAt H dV d → DefAt H' dV d
  | none, e => e
  | some _, ⟨T, t, e, q⟩ => ⟨T, t, e, f _ _ _ q⟩
/-- called without arguments it binds its default, if it has one -/
def BindL (params : Arguments) (body : Expr) (lsc : Scope) (d : Option Int) : Prop := ∀ (s : Shared) (q : Str) (cl : List (Str × Addr)) (dV doc pm cdv ctv : Value), DefIn s.heap dV d →
  ∃ bs : List (Str × Value), BindsTo s (PySem.W.kdv_fn "<lambda>" q params (.expr body) lsc cl dV doc pm cdv ctv) ⟨[], []⟩ bs ∧ ∀ y ∈ bs, lsc.names.lookup y.1 = some .local
/-- behind the making: all as it was, the code object told by the table, or one more -/
def LamG (P : Addr) (q : Str) (ps : Array Value) (H H1 : Hp) (c' : Addr) : Prop :=
  (H1 = H ∧ ∃ pos : Pos, codeAmong pos ps.toList = some (.ref c')) ∨ ∃ ps' : Array Value, H1 = upd (upd H P (.tbl ps')) c' (CodeO c' q) ∧ H c' = none ∧ TriplesOk ps'.toList ∧ ∀ (pos : Pos) (cv : Value), codeAmong pos ps'.toList = some cv → cv = .ref c' ∨ codeAmong pos ps.toList = some cv
end
/-- the default's tuple is laid, if there is a default -/
def DefH (H HT : Hp) (dV : Value) : Option Int → Prop
  | none => HT = H ∧ dV = .none
  | some n => ∃ (T : Addr) (t : Tok), H T = none ∧ dV = .ref T ∧ HT = upd H T (.frz (PySem.W.kdv_tup [.int n t]) (.ext fun _ => True))
/-- lambda: the value, the heap behind -/
def tMkL (P : Addr) (q : Str) (ob : Value → Value → Value → Addr → Value → Obj) (d : Option Int) : TE := fun _ H Q => ∃ ps, TabP H P q ps ∧ ∀ HT dV, DefH H HT dV d → ∀ (H2 : Hp) (c' f : Addr) (doc pm ctv : Value), LamG P q ps HT H2 c' → H2 f = none →
  Q (.ref f) (upd H2 f (.frz (ob dV doc pm c' ctv) (.ext fun _ => True)))
abbrev obL (X : Cx) (params : Arguments) (body : Expr) (lsc : Scope) : Value → Value → Value → Addr → Value → Obj := lamOb X.env.qual params body lsc (cloFrom X.env.cells lsc.names [])
section
variable {X : Cx} {c P : Addr} {params : Arguments} {body : Expr} {lsc : Scope} {lpos : Pos}
end
end L3

/-! a comprehension whose element calls lambdas of the def around it -/
namespace L3
open PySem PySem.Spec PyProof.Rows L2 LamX
/-- an element's reading, where the def's own context is known, too -/
structure EltA (X Y : Cx) (vs : List Nat) (elt : Expr) (te : TE) : Prop where
  run : ∀ (pX pY : List (Addr × Obj)) (s : Shared) (σ : L2.St) (H : Hp) (Q : VK), Inv Y pY σ H s → (∀ (p' : List (Addr × Obj)) (H' : Hp) (s' : Shared), Inv Y p' σ H' s' → Inv X pX (wipe σ vs) H' s') → te σ H Q → wpAny (model Y.prog Y.w) Y.A (eval elt Y.env) (EP Y pY σ Q) Y.xe s
section
variable {X : Cx}
end
end L3

/-! lambdas in lists, typed -/
namespace L3
open PySem PySem.Spec PyProof.Rows L2 LamX
/-- a lambda of the def: how it is written, its default, what its body reads -/
structure LamK where
  params : Arguments
  body : Expr
  lsc : Scope
  d : Option Int
  t : XK → TE
structure LamKOk (X : Cx) (kl : Nat) (l : LamK) : Prop where
  sc : LamD X.N X.env.scope l.lsc
  bd : BindL l.params l.body l.lsc l.d
  rd : ∀ (A : Around) (outer : List Env) (s : Shared) (H : Hp) (E : XK) (f c' : Addr), Room kl (A.deeper (lamEnv X l.lsc s.heap.objs.size f c')) → PE (lamCxN X A outer s H E l.lsc f c') l.body (l.t E)
abbrev obK (X : Cx) (l : LamK) : Value → Value → Value → Addr → Value → Obj := obL X l.params l.body l.lsc
/-- a told lambda -/
def iLam (q : Str) (ob : Value → Value → Value → Addr → Value → Obj) (d : Option Int) : Rep :=
  ⟨fun S v => ∃ (f c' : Addr) (dV doc pm ctv : Value), v = .ref f ∧ S f = some (.frz (ob dV doc pm c' ctv) (.ext fun _ => True)) ∧ DefAt S dV d ∧ S c' = some (CodeO c' q),
   fun e ⟨f, c', dV, doc, pm, ctv, h1, h2, h3, h4⟩ => ⟨f, c', dV, doc, pm, ctv, h1, e _ _ h2, h3.to (fun b o x z => e _ _ z), e _ _ h4⟩⟩
/-- x(a), a a name for one of the def's lambdas; their bodies read the def's names but those of vs -/
def tCallLs (q : Str) (lams : List (LamK × (Value → Value → Value → Addr → Value → Obj))) (i : Nat) (vs : List Nat) (TT : GTT) : TE := fun σ H Q => ∃ l ∈ lams, ∃ (f c' : Addr) (dV doc pm ctv : Value), σ[i]? = some (some (.ref f)) ∧
  H f = some (.frz (l.2 dV doc pm c' ctv) (.ext fun _ => True)) ∧ DefAt H dV l.1.d ∧ H c' = some (CodeO c' q) ∧ TT (fun E H' Q' => l.1.t E (wipe σ vs) H' Q') H Q
section
variable {X : Cx}
end
/-! typed -/
section
variable {E : XK} {K : PySem.W.Frag} {Γ : Ct} {M A B : SH} {k : KR} {X : KX} {P D1 D2 D3 : Addr} {q : Str} {ob : Value → Value → Value → Addr → Value → Obj} {d : Option Int} {tsW tsF : Addr → Addr → Addr → TSp} {Kn : XR → Prop} {wd : XR → Str} {fl : XR → Rep}
variable {XT : List XCl} {R0 : Rep}
end
structure LamsOk (Y : Cx) (kl : Nat) (ls : List LamK) : Prop where
  all : ∀ l ∈ ls, LamKOk Y kl l
/-! where a lambda stands in a def -/
def stAt (l : List Stmt) (n : Nat) : Stmt := l.getD n default
def forB : Stmt → List Stmt
  | .For _ _ b _ _ => b
  | _ => []
def ifB : Stmt → List Stmt
  | .If _ b _ _ => b
  | _ => []
def ifE : Stmt → List Stmt
  | .If _ _ b _ => b
  | _ => []
def asgE : Stmt → PySem.Expr
  | .Assign _ e _ => e
  | _ => default
def exprE : Stmt → PySem.Expr
  | .Expr e _ => e
  | _ => default
def lstAt (e : PySem.Expr) (n : Nat) : PySem.Expr := match e with
  | .List es _ => es.getD n default
  | _ => default
def argAt (e : PySem.Expr) (n : Nat) : PySem.Expr := match e with
  | .Call _ as _ _ => as.getD n default
  | _ => default
def lamP : PySem.Expr → Arguments
  | .Lambda p _ _ _ => p
  | _ => default
def lamB : PySem.Expr → PySem.Expr
  | .Lambda _ b _ _ => b
  | _ => default
def lamS : PySem.Expr → Scope
  | .Lambda _ _ s _ => s
  | _ => default
end L3

/-! a raising method that makes something; several told lists in what is told, asked and changed afterwards -/
namespace L3
open PySem PySem.Spec PyProof.Rows L2
section
variable {E : XK} {K : PySem.W.Frag} {Γ : Ct} {M : SH} {k : KR} {X : KX} {te ta : TE} {tr : TA} {C : Addr}
end
abbrev DL := List (Addr × List Rep)
/-- the lists of D stand in S -/
def InD (D : DL) (S : Hp) : Prop := ∀ p ∈ D, ∃ ys, S p.1 = some (.lst ys) ∧ All2 S p.2 ys
/-- as it looks where the lists of D stand for good -/
def Vd (D : DL) (R R' : Rep) : Prop := ∀ (S S' : Hp) (v : V), Same S S' → InD D S' → R.p S v → R'.p S' v
def VdS (D : DL) (Rs Rs' : List Rep) : Prop := ∀ (S S' : Hp) (vs : List V), Same S S' → InD D S' → All2 S Rs vs → All2 S' Rs' vs
def frD (S H : Hp) (D : DL) : Hp := fun b => if b ∈ D.map (·.1) then H b else S b
def drD (S : Hp) (D : DL) : Hp := fun b => if b ∈ D.map (·.1) then none else S b
section
variable {E : XK} {K : PySem.W.Frag} {Γ : Ct} {M : SH} {k : KR} {X : KX} {tr : TA}
end
/-! a list becomes stable amid an expression -/
section
variable {E : XK} {Γ Γ' : Ct} {M M' : SH} {k : KR} {X : KX} {te : TE}
end
end L3

/-! len of an object whose class has its own __len__ -/
namespace L3
open PySem PySem.Spec PyProof.Rows L2
def rLenO (C : Addr) (sp : Sp) (E : XK) : List V → Hp → VK → Prop := fun xs H Q => ∃ a dx fs, xs = [V.ref a] ∧ H a = some (.ins C dx fs) ∧ sp [V.ref a] H (fun v H' => ∃ n : Nat, v = .int n ∧ n ≤ 1000000 ∧ Q (.int n) H') E
section
variable {X : Cx} {CX : CXT} {C : Addr} {k j : Nat} {ts : TSp} {E : XK}
end
end L3

/-! dicts whose keys are tuples: walked, made of a list of pairs -/
namespace L3
open PySem PySem.Spec PyProof.Rows L2
section
variable {E : XK} {Γ : Ct} {M : SH} {td : TE}
end
def mergeT (acc : List (List Key × V)) (ps : List (List Key × V)) : List (List Key × V) := ps.foldl (fun a p => putK a p.1 p.2) acc
abbrev PrT := Addr × Addr × List Key × V
def rDictPT (K : PySem.W.Frag) : List V → Hp → VK → Prop := fun xs H Q => ∃ (a : Addr) (L : List PrT), xs = [V.ref a] ∧ SqL K H a (L.map fun q => V.ref q.1) ∧
  (∀ q ∈ L, SqT K H q.1 [V.ref q.2.1, q.2.2.2] ∧ H q.2.1 = some (.tup (q.2.2.1.map kV))) ∧ ∀ p, H p = none → Q (.ref p) (upd H p (.dT (mergeT [] (L.map fun q => q.2.2))))
section
variable {X : Cx}
end
/-! .. typed -/
def mergeR (acc : KRs) (cs : KRs) : KRs := cs.foldl (fun a c => putT a c.1 c.2) acc
/-! a raising def called by a keyword -/
section
variable {E : XK} {K : PySem.W.Frag} {Γ : Ct} {M : SH} {k : KR} {X : KX} {tr tk : TA}
end
end L3

/-! a dict of the module, text keys, tuples of texts behind them -/
namespace L3
open PySem PySem.Spec PyProof.Rows L2
structure KdT (K : PySem.W.Frag) (w : World) (d : Addr) (l : List (Str × List Str)) : Prop where
  kd : ∃ es n, KDict K w d es n
  no : ∀ z, z ∉ l.map (·.1) → PySem.W.nsIn K d z = some none
  yes : ∀ p ∈ l, ∃ t, PySem.W.nsIn K d p.1 = some (some (.ref t)) ∧ ∀ S, (aTup K (p.2.map aStr)).p S (.ref t)
def rNinKd (K : PySem.W.Frag) (d : Addr) : L2.R2 := fun x y H Q => ∃ (z : Str) (r : Option Value), x = .str z ∧ y = .ref d ∧ PySem.W.nsIn K d z = some r ∧ Q (.bl (!r.isSome)) H
section
variable {K : PySem.W.Frag} {w : World} {M : SH} {d : Addr} {l : List (Str × List Str)}
end
end L3

/-! i, (a, b) in enumerate(zip(x, y)): zip's turn whatever became of the pair it gave out last; x, y lists or tuples -/
namespace L3
open PySem PySem.Spec PyProof.Rows L2
/-- a zip: v, f is what it keeps of the pair it gave out -/
abbrev ZipV (h : Heap) (z TI TO : Addr) (v : Value) (f : Bool) : Prop := h.get? z = some { cls := .type "zip", dict := none, data := .fields #[v, .bool f, .bool false, .ref TI, .ref TO], slots := #[] }
def VOk (v : Value) : Prop := v = .none ∨ ∃ T : Nat, v = rawInt T
/-- an iterator of a list, or of a tuple -/
def ItK (t : Bool) (h : Heap) (i l : Addr) (k : Nat) : Prop := if t then h.IsTupleIter i l k else h.IsListIter i l k
def SeK (t : Bool) (h : Heap) (l : Addr) (xs : Array Value) : Prop := if t then h.IsTuple l xs else h.IsList l xs
theorem ItK.at {t : Bool} {h h' : Heap} {i l : Addr} {k : Nat} (p : ItK t h i l k) (e : ∀ o, h.get? i = some o → h'.get? i = some o) : ItK t h' i l k := by
  cases t with
  | true => exact Heap.IsTupleIter.at p e
  | false => exact Heap.IsListIter.at p e
theorem SeK.at {t : Bool} {h h' : Heap} {l : Addr} {xs : Array Value} (p : SeK t h l xs) (e : ∀ o, h.get? l = some o → h'.get? l = some o) : SeK t h' l xs := by
  cases t with
  | true => exact Heap.IsTuple.at p e
  | false => exact Heap.IsList.at p e
theorem ItK.obj {t : Bool} {h : Heap} {i l : Addr} {k : Nat} (p : ItK t h i l k) : ∃ o, h.get? i = some o ∧ ∀ v, o.data ≠ .cell v := by
  cases t with
  | true =>
    obtain ⟨o, e, _, d⟩ : h.IsTupleIter i l k := p
    exact ⟨o, e, fun v q => by rw [d] at q; cases q⟩
  | false =>
    obtain ⟨o, e, _, d⟩ : h.IsListIter i l k := p
    exact ⟨o, e, fun v q => by rw [d] at q; cases q⟩
section
variable {prog : Program} {w : World} {A : Around} {E : Value → Shared → Prop} {s : Shared} {t t1 t2 : Bool}
/-- the cells of a zip and of the enumerate ahead of it lie apart -/
structure ZApart (z TI TO i1 i2 : Addr) : Prop where
  az : TI ≠ z ∧ TO ≠ z ∧ i1 ≠ z ∧ i2 ≠ z
  aT : TI ≠ TO ∧ i1 ≠ TO ∧ i2 ≠ TO
  aI : TI ≠ i1 ∧ TI ≠ i2 ∧ i1 ≠ i2
/-- what a zip holds at turn k -/
structure ZAt (t1 t2 : Bool) (h : Heap) (z TI TO i1 i2 l1 l2 : Addr) (k : Nat) : Prop where
  zz : ∃ v f, VOk v ∧ ZipV h z TI TO v f
  ti : IsPair h TI (.ref i1) (.ref i2)
  to : ∃ a b, IsPair h TO a b
  a1 : ItK t1 h i1 l1 k
  a2 : ItK t2 h i2 l2 k
end
theorem ZAt.at {t1 t2 : Bool} {h h' : Heap} {z TI TO i1 i2 l1 l2 : Addr} {k : Nat} (Z : ZAt t1 t2 h z TI TO i1 i2 l1 l2 k) (e : ∀ c ∈ [z, TI, TO, i1, i2], ∀ o, h.get? c = some o → h'.get? c = some o) : ZAt t1 t2 h' z TI TO i1 i2 l1 l2 k := by
  obtain ⟨⟨v, f, hv, hz⟩, ti, ⟨a, b, to⟩, a1, a2⟩ := Z
  exact ⟨⟨v, f, hv, e z (by simp) _ hz⟩, e TI (by simp) _ ti, ⟨a, b, e TO (by simp) _ to⟩, a1.at fun o q => e i1 (by simp) o q, a2.at fun o q => e i2 (by simp) o q⟩
theorem ZAt.obj {t1 t2 : Bool} {h : Heap} {z TI TO i1 i2 l1 l2 : Addr} {k : Nat} (Z : ZAt t1 t2 h z TI TO i1 i2 l1 l2 k) : ∀ c ∈ [z, TI, TO, i1, i2], ∃ o, h.get? c = some o ∧ ∀ v, o.data ≠ .cell v := by
  obtain ⟨⟨v, f, hv, hz⟩, ti, ⟨a, b, to⟩, a1, a2⟩ := Z
  intro c hc
  simp only [List.mem_cons, List.not_mem_nil, or_false] at hc
  rcases hc with rfl | rfl | rfl | rfl | rfl
  · exact ⟨_, hz, fun v q => nomatch q⟩
  · exact ⟨_, ti, fun v q => nomatch q⟩
  · exact ⟨_, to, fun v q => nomatch q⟩
  · exact a1.obj
  · exact a2.obj
/-- a list, or a tuple -/
def SqX (t : Bool) (K : PySem.W.Frag) (H : Hp) (a : Addr) (xs : List V) : Prop := if t then SqT K H a xs else SqL K H a xs
section
variable {X : Cx} {pins : List (Addr × Obj)} {s : Shared} {σ : L2.St} {H : Hp} {t : Bool} {a : Addr} {xs ys : List V}
end
/-- each pair of the two in a new pair, with its place in another new pair -/
def Iez (K : PySem.W.Frag) (t : Bool) (a b : Addr) : It :=
  ⟨fun i H => ∃ (xs ys : List V) (x y : V), SqX t K H a xs ∧ SqX t K H b ys ∧ xs[i]? = some x ∧ ys[i]? = some y,
    fun i H v H' => ∃ P T x y, v = .ref T ∧ H P = none ∧ H T = none ∧ T ≠ P ∧ H' = upd (upd H P (.tup [x, y])) T (.tup [.int (i : Nat), .ref P]) ∧ (∀ xs, SqX t K H a xs → xs[i]? = some x) ∧ ∀ ys, SqX t K H b ys → ys[i]? = some y,
    fun i H => ∃ xs ys : List V, SqX t K H a xs ∧ SqX t K H b ys ∧ (xs.length ≤ i ∨ ys.length ≤ i)⟩
def iEnumZ (K : PySem.W.Frag) (ta : TA) : TI := fun σ H R => ta σ H fun vs H1 => ∃ t a b xs ys, vs = [.ref a, .ref b] ∧ SqX t K H1 a xs ∧ SqX t K H1 b ys ∧ R (Iez K t a b) H1
end L3

/-! rows that may be lists or tuples, and enumerate(zip(row, row[1:])) -/
namespace L3
open PySem PySem.Spec PyProof.Rows L2 RZ
/-- a row: a tuple, or a list -/
def sqR (K : PySem.W.Frag) (t : Bool) (rs : List Rep) : Rep := cond t (aTup K rs) (iLst rs)
def rSlQ (K : PySem.W.Frag) : V → Option Int → Option Int → Hp → VK → Prop := fun x lo hi H Q => rSlL K x lo hi H Q ∨ rSlA K x lo hi H Q
section
variable {E : XK} {K : PySem.W.Frag} {Γ : Ct} {M : SH} {k : KR} {X : KX} {R : Rep} {te ta tb tl : TE} {vs : List Nat} {n : Nat} {t : Bool} {rs r1 r2 : List Rep}
end
end L3

/-! t[::-1] of a tuple -/
namespace L3
open PySem PySem.Spec PyProof.Rows L2 RZ HT
section
variable {prog : Program} {w : World} {A : Around} {E : Value → Shared → Prop} {s : Shared}
end
def tRevT (K : PySem.W.Frag) (te : TE) : TE := fun σ H Q => te σ H fun x H1 => ∃ a xs, x = .ref a ∧ SqT K H1 a xs ∧ ∀ p, H1 p = none → Q (.ref p) (upd H1 p (.tup xs.reverse))
/-! x is True -/
def rIsB (neg : Bool) : R2 := fun x y H Q => ∃ a b, x = .bl a ∧ y = .bl b ∧ Q (.bl (if neg then !decide (a = b) else decide (a = b))) H
def orL {α : Type} : List α → List α → List α
  | [], m => m
  | x :: l, _ => x :: l
end L3

/-! range(a, b) in a comprehension; repr of data where nothing is under way -/
namespace L3
open PySem PySem.Spec PyProof.Rows L2
end L3

/-! a law called where nothing is under way (the claim's caller): repr of tuples and lists is then what the data say -/
namespace L3
open PySem PySem.Spec PyProof.Rows L2 LamX
section
variable {P : Program} {w : World} {K : PySem.W.Frag} {mg : Str → Option Value} {base : Heap}
/-- the promise of a def of one argument, at calls by the claim's caller alone -/
def RunC (P : Program) (w : World) (K : PySem.W.Frag) (mg : Str → Option Value) (base : Heap) (f : Addr) (fd : FuncData) (x : Str) (sp : Sp) : Prop :=
  ∀ (s : Shared) (H : Hp) (u : Value) (v : V) (Q : VK) (E : XK), RelV v u → Env0 P w K mg base callerA [] s H → BindsTo s fd ⟨[u], []⟩ [(x, u)] → sp [v] H Q E →
    codeAny (model P w) callerA (.call (.ref f) ⟨[u], []⟩) (CR CX0 [] P w H s Q E) s
end
section
variable {P : Program} {w : World} {K : PySem.W.Frag} {mg mb : Str → Option Value} {s : Shared} {a c Pt fa : Addr} {fd : FuncData} {x : Str} {vs : List Value} {ns : List Int}
/-- the script's list -/
abbrev scrO (vs : List Value) : Obj := { cls := .type "list", data := .seq vs.toArray }
/-- the law's own table of code objects, as yet empty -/
abbrev tabO : Obj := { cls := .none, data := .fields #[] }
/-- what is tracked at the law's call: its table; the script, unless K tells of it -/
def lawH (K : PySem.W.Frag) (a Pt : Addr) (vs : List Value) (ns : List Int) : Hp := fun b =>
  if b = Pt then some (.tbl #[]) else if b = a ∧ K.lookup a = none then some (.frz (scrO vs) (.lst (ns.map V.int))) else none
end
/-! ### repr -/
/-- data whose text can be told -/
structure RprOk (d : PyData) : Prop where
  ref : (∃ ds, d = .tuple ds) ∨ ∃ ds, d = .list ds
  sh : d.showable = true
  nd : d.hasDict = false
  dp : d.depth ≤ 40
  sz : d.shown.length ≤ sizeLine
def rRepr (K : PySem.W.Frag) (xs : List V) (H : Hp) (Q : VK) : Prop := ∃ v d, xs = [v] ∧ Dp K H v d ∧ RprOk d ∧ Q (.str d.shown) H
/-- what R stands for, as data -/
def DpM (K : PySem.W.Frag) (M : SH) (R : Rep) (d : PyData) : Prop := ∀ S H v, Same S H → MOk S H M → R.p S v → Dp K H v d
def DpsM (K : PySem.W.Frag) (M : SH) (Rs : List Rep) (ds : List PyData) : Prop := ∀ S H vs, Same S H → MOk S H M → All2 S Rs vs → DpAll K H vs ds
variable {K : PySem.W.Frag} {M : SH} {R : Rep} {Rs : List Rep} {d : PyData} {ds : List PyData}
/-- data that can be told, of depth n at the most and of B signs at the most -/
structure Rp (n B : Nat) (d : PyData) : Prop where
  sh : d.showable = true
  nd : d.hasDict = false
  dp : d.depth ≤ n
  sz : d.shown.length ≤ B
structure Rps (n B : Nat) (ds : List PyData) : Prop where
  sh : PyData.showableAll ds = true
  nd : PyData.hasDictAll ds = false
  dp : PyData.depthAll ds ≤ n
  sz : ((PyData.shownAll ds).map (·.length)).sum ≤ B
theorem Rp.mono {n m B C : Nat} (h : Rp n B d) (hn : n ≤ m) (hB : B ≤ C) : Rp m C d := ⟨h.sh, h.nd, Nat.le_trans h.dp hn, Nat.le_trans h.sz hB⟩
section
variable {E : XK} {Γ : Ct} {M : SH} {k : KR} {X : KX} {tr tk : TA}
theorem st_nextE {D : EndT} (q : D.nx Γ M) : St E Ends.nx Γ M D := st_next q
/-- a promise that may lay what is changed later -/
def freshK (sp : List Rep → KR → Prop) : TSp := fun Rs M k _ => M = [] ∧ sp Rs k
theorem ev_callF {sp : List Rep → KR → Prop} {Ds : List Rep} {dvs : List V} (hd : ∀ S, All2 S Ds dvs) (h : Ea E tr Γ M (fun Rs M1 => ∃ Rs', LeS (Rs ++ Ds) Rs' ∧ sp Rs' fun R M2 => k R (M2 ++ M1)) X) : Ev E (tCall (spT (freshK sp)) dvs E0 tr) Γ M k X := fun σ S H Q I o ox =>
  h σ S H _ I (fun vs S1 H1 Rs M1 ⟨Rs', le, q⟩ st p =>
    spT_in (Mf := []) (Fr := M1) (Rs := Rs') (X := X0) (k := fun R M2 => k R M2) ⟨rfl, q⟩ st.e st.m (le S1 _ (p.app (hd S1))) (o.step st) (fun _ _ _ _ _ _ z => z.elim)) ox
theorem ev_callF0 {sp : List Rep → KR → Prop} (h : Ea E tr Γ M (fun Rs M1 => ∃ Rs', LeS Rs Rs' ∧ sp Rs' fun R M2 => k R (M2 ++ M1)) X) : Ev E (tCall (spT (freshK sp)) [] E0 tr) Γ M k X :=
  ev_callF (Ds := []) (fun _ => True.intro) (by simpa only [List.append_nil] using h)
end
/-! ### over two lists at once -/
/-! ### the end -/
end L3

/-! zip of a list and a tuple; sum of a tuple; the target (a, b, c), d -/
namespace L3
open PySem PySem.Spec PyProof.Rows L2 RZ
section
variable {prog : Program} {w : World} {A : Around} {E : Value → Shared → Prop} {s : Shared} {t t1 t2 : Bool}
end
/-- each pair of the two in a new pair -/
def Izm (K : PySem.W.Frag) (t1 t2 : Bool) (a b : Addr) : It :=
  ⟨fun i H => ∃ (xs ys : List V) (x y : V), SqX t1 K H a xs ∧ SqX t2 K H b ys ∧ xs[i]? = some x ∧ ys[i]? = some y,
    fun i H v H' => ∃ T x y, v = .ref T ∧ H T = none ∧ H' = upd H T (.tup [x, y]) ∧ (∀ xs, SqX t1 K H a xs → xs[i]? = some x) ∧ ∀ ys, SqX t2 K H b ys → ys[i]? = some y,
    fun i H => ∃ xs ys : List V, SqX t1 K H a xs ∧ SqX t2 K H b ys ∧ (xs.length ≤ i ∨ ys.length ≤ i)⟩
/-! ### zip called of a list and a tuple -/
abbrev zmH1 (h : Heap) (l1 : Addr) : Heap := h.push { cls := .type "list_iterator", data := .fields #[.ref l1, .int 0 0] }
abbrev zmH2 (h : Heap) (l1 l2 : Addr) : Heap := (zmH1 h l1).push { cls := .type "tuple_iterator", data := .fields #[.ref l2, .int 0 0] }
abbrev zmH3 (h : Heap) (l1 l2 : Addr) : Heap := (zmH2 h l1 l2).push { cls := .type "tuple", data := .seq #[.ref h.objs.size, .ref (zmH1 h l1).objs.size] }
abbrev zmH4 (h : Heap) (l1 l2 : Addr) : Heap := (zmH3 h l1 l2).push { cls := .type "tuple", data := .seq #[.none, .none] }
abbrev zmH5 (h : Heap) (l1 l2 : Addr) : Heap := (zmH4 h l1 l2).push { cls := .type "zip", data := .fields #[.none, .bool false, .bool false, .ref (zmH2 h l1 l2).objs.size, .ref (zmH3 h l1 l2).objs.size] }
section
variable {prog : Program} {w : World} {A : Around} {E : Value → Shared → Prop} {s : Shared}
end
/-! ### sum of a tuple -/
section
variable {prog : Program} {w : World} {A : Around} {E : Value → Shared → Prop} {s : Shared}
end
def rSumT (K : PySem.W.Frag) : List V → Hp → VK → Prop := fun vs H Q => ∃ (a : Addr) (ns : List Int), vs = [V.ref a] ∧ SqT K H a (ns.map V.int) ∧ Q (.int ns.sum) H
def iZipM (K : PySem.W.Frag) (ta : TA) : TI := fun σ H R => ta σ H fun vs H1 => ∃ a b xs ys, vs = [.ref a, .ref b] ∧ SqL K H1 a xs ∧ SqT K H1 b ys ∧ R (Izm K false true a b) H1
section
variable {E : XK} {K : PySem.W.Frag} {Γ : Ct} {M : SH} {k : KR} {X : KX} {R : Rep} {te ta tb tl : TE} {vs : List Nat} {n : Nat} {rs r1 r2 : List Rep}
end
/-! ### x *= e -/
def ipM : TIp := fun x y H Q => ∃ i j, x = .int i ∧ y = .int j ∧ CMul i j ∧ Q (.int (i * j)) H
end L3

/-! rows that may be lists or tuples: zip, choice -/
namespace L3
open PySem PySem.Spec PyProof.Rows L2 RZ
section
variable {E : XK} {K : PySem.W.Frag} {Γ : Ct} {M : SH} {k : KR} {X : KX} {R : Rep} {te ta tb tl : TE} {tt : TT} {vs : List Nat} {n : Nat} {t : Bool} {rs r1 r2 : List Rep}
end
end L3

/-! over two rows at once, told by places -/
namespace L3
open PySem PySem.Spec PyProof.Rows L2 RZ
section
variable {E : XK} {K : PySem.W.Frag} {Γ : Ct} {M : SH} {k : KR} {X : KX} {R : Rep} {te ta tb tl : TE} {tt : TT} {vs : List Nat} {n : Nat} {t : Bool} {rs r1 r2 : List Rep}
end
section
variable {E : XK} {K : PySem.W.Frag} {Γ : Ct} {M : SH} {vs : List Nat} {td te : TE} {tt : TT}
end
/-! len of a dict with tuple keys, stable or not -/
def rLenTF : List V → Hp → VK → Prop := fun xs H Q => ∃ (p : Addr) (kvs : List (List Key × V)), xs = [.ref p] ∧ Rd H p (.dT kvs) ∧ Q (.int ((kvs.length : Nat) : Int)) H
end L3

/-! zip of a row and a tuple; a list inside a local dict that stands from then on -/
namespace L3
open PySem PySem.Spec PyProof.Rows L2 RZ
def iZipTq (K : PySem.W.Frag) (ta : TA) : TI := fun σ H R => iZipM K ta σ H R ∨ iZipA K ta σ H R
section
variable {E : XK} {K : PySem.W.Frag} {Γ : Ct} {M : SH} {k : KR} {X : KX} {R : Rep} {te ta tb tl : TE} {tt : TT} {vs : List Nat} {n : Nat} {t : Bool} {rs r1 r2 : List Rep}
end
section
variable {E : XK} {K : PySem.W.Frag} {Γ : Ct} {M : SH} {k : KR} {X : KX} {R : Rep} {te ta tb tl : TE} {vs : List Nat} {t : Bool}
end
theorem DkOk.re {S : Hp} {f : Str} {R R' : Rep} (hr : ∀ v, R.p S v → R'.p S v) : ∀ {kvs : FR} {vs : List (Key × V)}, DkOk S kvs vs → kvs.lookup f = some R → DkOk S (putR f R' kvs) vs
  | [], _, _, hf => by cases hf
  | _ :: _, [], h, _ => by have := h.nm; simp at this
  | (g, Q) :: kvs, (g', x) :: vs, h, hf => by
    have e : g' = .inr g := by have := h.nm; simp at this; exact this.1
    subst e
    have t : DkOk S kvs vs := ⟨by have := h.nm; simp at this; exact this, h.al.2⟩
    rw [List.lookup_cons] at hf
    unfold putR
    by_cases hg : g = f
    · subst hg
      rw [show (g == g) = true from beq_self_eq_true g] at hf
      have e : Q = R := Option.some.inj hf
      subst e
      rw [if_pos rfl]
      exact ⟨by simpa using t.nm, hr x h.al.1, t.al⟩
    · rw [show (f == g) = false from beq_eq_false_iff_ne.mpr fun z => hg z.symm] at hf
      rw [if_neg hg]
      have ih := DkOk.re hr t hf
      exact ⟨by simpa using ih.nm, h.al.1, ih.al⟩
theorem turn_fzD {Γ : Ct} {M : SH} {i j : Nat} {l d : Addr} {rs : List Rep} {kvs : FR} {f : Str} (hl : M[i]? = some (l, mLst rs)) (hx : (M.eraseIdx i)[j]? = some (d, mDK kvs)) (hf : kvs.lookup f = some (iRef l)) : TurnC Γ M Γ ((M.eraseIdx i).set j (d, mDK (putR f (iLst rs) kvs))) := fun S H σ I => by
  obtain ⟨_, ob, ho, xs, rfl, px⟩ := I.m.at_ l (mLst rs) (at_mem hl)
  have f1 := Stp.fzAt hl I.ex I.m ho
  have f2 := Stp.re (P' := mDK (putR f (iLst rs) kvs)) hx f1.e f1.m fun o ⟨vs, e, hi⟩ => ⟨vs, e, hi.re (fun v p => by cases p; exact ⟨l, xs, rfl, upd_same, px.mono f1.s⟩) hf⟩
  exact ⟨_, f1.trans f2, I.step (f1.trans f2)⟩
theorem st_turn {E : XK} {Γ Γ' : Ct} {M M' : SH} {t : TS} {D : EndT} (tn : TurnC Γ M Γ' M') (h : St E t Γ' M' D) : St E t Γ M D := fun σ S H D0 I o => by
  obtain ⟨S', st, I'⟩ := tn S H σ I
  exact h σ S' H D0 I' ⟨fun σ2 S2 H2 Γ2 M2 q st2 I2 => o.nx σ2 S2 H2 Γ2 M2 q (st.trans st2) I2, fun v S2 H2 R M2 q st2 p => o.rt v S2 H2 R M2 q (st.trans st2) p, fun σ2 S2 H2 Γ2 M2 q st2 I2 => o.bk σ2 S2 H2 Γ2 M2 q (st.trans st2) I2, fun σ2 S2 H2 Γ2 M2 q st2 I2 => o.ct σ2 S2 H2 Γ2 M2 q (st.trans st2) I2, o.ex.step st⟩
end L3

/-! a tuple once or more often -/
namespace L3
open PySem PySem.Spec PyProof.Rows L2
def rRep1 (K : PySem.W.Frag) : R2 := fun x y H Q => ∃ l xs, x = .ref l ∧ y = .int 1 ∧ SqT K H l xs ∧ Q x H
def rRepQ (K : PySem.W.Frag) : R2 := fun x y H Q => rRepT K x y H Q ∨ rRep1 K x y H Q
section
variable {E : XK} {K : PySem.W.Frag} {Γ : Ct} {M : SH} {k : KR} {X : KX} {te tl : TE} {vs : List Nat}
end
end L3

/-! sorted of texts -/
namespace L3
open PySem PySem.Spec PyProof.Rows L2
theorem cps_inj {a b : Str} (h : a.cps.toList = b.cps.toList) : a = b := by
  cases a; cases b
  congr 1
  exact Array.toList_inj.mp h
abbrev leT (a b : Str) : Prop := ltCps b.cps.toList a.cps.toList = false
theorem leT_iff {a b : Str} : leT a b ↔ ¬ b.cps.toList < a.cps.toList := by
  unfold leT
  rw [ltCps_eq, decide_eq_false_iff_not]
theorem leT_trans {a b c : Str} (h1 : leT a b) (h2 : leT b c) : leT a c := by
  rw [leT_iff] at *
  exact List.le_trans (α := Nat) h1 h2
theorem leT_anti {a b : Str} (h1 : leT a b) (h2 : leT b a) : a = b := by
  rw [leT_iff] at *
  exact cps_inj (List.le_antisymm (α := Nat) h1 h2)
theorem rising_pw : ∀ (p : Str) (l : List Str), risingS p l = true → (p :: l).Pairwise leT
  | p, [], _ => List.pairwise_singleton ..
  | p, x :: r, h => by
    rw [risingS, Bool.and_eq_true] at h
    have h1 : leT p x := by simpa using h.1
    have h2 := rising_pw x r h.2
    refine List.pairwise_cons.mpr ⟨fun y hy => ?_, h2⟩
    rcases List.mem_cons.mp hy with rfl | hy
    · exact h1
    · exact leT_trans h1 (List.rel_of_pairwise_cons h2 hy)
theorem sorted_pw : ∀ (l : List Str), sortedS l = true → l.Pairwise leT
  | [], _ => List.Pairwise.nil
  | x :: r, h => rising_pw x r h
/-- the sorted row is one alone -/
theorem sorted_one {l m : List Str} (h : l.Perm m) (h1 : sortedS l = true) (h2 : sortedS m = true) : l = m :=
  List.Perm.eq_of_pairwise (fun a b _ _ x y => leT_anti x y) (sorted_pw l h1) (sorted_pw m h2) h
section
variable {K : PySem.W.Frag} {M : SH} {k : KR}
theorem all2_strs (S : Hp) (l : List Str) : All2 S (l.map aStr) (l.map V.str) := by
  induction l with
  | nil => exact True.intro
  | cons x l ih => exact ⟨rfl, ih⟩
/-- sorted(l), a list of texts -/
theorem c_sortS {l : List Str} (h : l.length < 64) (q : ∀ ys : List Str, ys.Perm l → sortedS ys = true → k (iLst (ys.map aStr)) M) : Ol (rSortedS K) [iLst (l.map aStr)] M k := fun xs S H Q e m p o => by
  obtain ⟨v, rfl, a, ys, rfl, p1, p2⟩ := all2_1 p
  have : ys = l.map V.str := All2.flat (r := aStr) (g := V.str) (fun _ _ h => h) p2
  subst this
  exact ⟨a, l, rfl, SqL.of (e _ _ p1), h, fun zs c h1 h2 hc => o _ _ _ (iLst (zs.map aStr)) M (q zs h1 h2) (Stp.newS (o := .lst (zs.map V.str)) e m hc) ⟨c, _, rfl, upd_same, all2_strs _ zs⟩⟩
end
end L3

/-! dict(zip(names, row)) -/
namespace L3
open PySem PySem.Spec PyProof.Rows L2
def kvZ (ks : List Str) (ys : List V) : List (Key × V) := (ks.zip ys).map fun q => (.inr q.1, q.2)
def tDictZ (K : PySem.W.Frag) (ta : TA) : TE := fun σ H Q => ta σ H fun vs H1 => ∃ (a b : Addr) (ks : List Str) (ys : List V), vs = [.ref a, .ref b] ∧ SqL K H1 a (ks.map V.str) ∧ SqL K H1 b ys ∧ ks.length ≤ ys.length ∧ ∀ p, H1 p = none → Q (.ref p) (upd H1 p (.dK (mergeK [] (kvZ ks ys))))
theorem zip_apartN (N a b : Nat) (ha : a < N) (hb : b < N) (hab : True) : ZipApart (N + 4) (N + 2) (N + 3) N (N + 1) a b := by
  have f : ∀ i j : Nat, i ≠ j → N + i ≠ N + j := fun i j h e => h (Nat.add_left_cancel e)
  have ga : ∀ i : Nat, a ≠ N + i := fun i e => absurd ha (by rw [e]; exact Nat.not_lt.mpr (Nat.le_add_right ..))
  have gb : ∀ i : Nat, b ≠ N + i := fun i e => absurd hb (by rw [e]; exact Nat.not_lt.mpr (Nat.le_add_right ..))
  constructor <;> first | exact f _ _ (by decide) | exact f _ 0 (by decide) | exact f 0 _ (by decide) | exact ga _ | exact gb _ | exact ga 0 | exact gb 0
theorem paired_kv {ks : List Str} {ys : List V} {us ws : List Value} (h1 : Vals (ks.map V.str) us) (h2 : Vals ys ws) : KV (kvZ ks ys) ((ks.zip ws).map fun q => ((.inr q.1 : Key), q.2)) := by
  induction ks generalizing ys us ws with
  | nil => exact .nil
  | cons k ks ih =>
    cases h2 with
    | nil => exact .nil
    | cons r2 t2 =>
      cases h1 with
      | cons r1 t1 => exact .cons ⟨rfl, r2⟩ (ih t1 t2)
theorem pe_dictZ {X : Cx} {e1 e2 : Expr} {ta : TA} {p p2 pos pos2 : Pos} (hcalm : X.calm = true) (hg : Gl X "dict") (hm : X.mg "dict" = none) (hz : Gl X "zip") (hy : X.mg "zip" = none) (ha : PA X [e1, e2] ta)
    (hs : starEach [e1, e2] X.env = (false, eval e1 X.env) :: starEach [e2] X.env := by rfl) (hpl : (backTo pos2 (starEach [e2] X.env)).any (·.1) = false := by rfl)
    (hs2 : starEach [.Call (.Name "zip" p2) [e1, e2] [] pos2] X.env = [(false, eval (.Call (.Name "zip" p2) [e1, e2] [] pos2) X.env)] := by rfl) :
    PE X (.Call (.Name "dict" p) [.Call (.Name "zip" p2) [e1, e2] [] pos2] [] pos) (tDictZ X.K ta) := by
  refine ⟨fun pins s σ H R I h => ?_⟩
  refine Call_ (ld_blt I hg hm PyProof.Rows.boot_dict (PyProof.Rows.callWith_type1 (PyProof.Rows.args_cons ?_ hs2) hs2 rfl))
  refine Call_ (ld_blt I hz hy PyProof.Rows.boot_zip (PyProof.Rows.callWith_type1 (thn (ha.run pos2 pins s σ H _ I h) fun us s1 ⟨vs, H1, I1, r1, q1⟩ => ?_) hs hpl))
  obtain ⟨a, b, ks, ys, ev, hqx, hqy, hlen, q⟩ := q1
  subst ev
  cases r1 with
  | cons r rr =>
    cases rr with
    | cons r' rr =>
      cases rr
      cases r
      cases r'
      obtain ⟨its, rv, pl1, z1⟩ := I1.list hqx
      obtain ⟨its2, rv2, pl2, z2⟩ := I1.list hqy
      have la := pl1.lt
      have lb := pl2.lt
      refine call_zip_2 pl1.isList pl2.isList fun h' hz' hTI hTO i1 i2 hsz hk => ?_
      have I2 : Inv X pins σ H1 { s1 with heap := h' } := I1.kept (t' := s1.toks) hk
      have es : ({ s1 with heap := h' } : Shared).heap.objs.size = s1.heap.objs.size + 5 := hsz
      refine PyProof.Rows.args_nil ?_
      have D := zip_apartN s1.heap.objs.size a b la lb True.intro
      have hk2 : ∀ c, c ∈ [s1.heap.objs.size + 4, s1.heap.objs.size + 3, s1.heap.objs.size, s1.heap.objs.size + 1] → s1.heap.objs.size ≤ c := fun c hc => by
        simp only [List.mem_cons, List.not_mem_nil, or_false] at hc
        rcases hc with rfl | rfl | rfl | rfl
        · exact Nat.le_add_right ..
        · exact Nat.le_add_right ..
        · exact Nat.le_refl _
        · exact Nat.le_add_right ..
      refine call_dict_pairs (knd := mixKind X.prog X.w) (kvs := (ks.zip its2).map fun q => ((.inr q.1 : Key), q.2)) (PairArg.zip (s1.heap.objs.size + 4) (s1.heap.objs.size + 2) (s1.heap.objs.size + 3) s1.heap.objs.size (s1.heap.objs.size + 1) a b D its.toArray its2.toArray) (I1.ok.hd hcalm) ⟨hz', hTI, ⟨_, _, hTO⟩, i1, i2, pl1.isList.at fun o e => hk _ o e, pl2.isList.at fun o e => hk _ o e⟩ ⟨?_, fun i key v e => ?_⟩ ?_ fun h2 tk hd k => ?_
      · have l1 := rv.length
        rw [List.length_map] at l1
        rw [List.length_map, List.length_zip, List.size_toArray, List.size_toArray, l1]
      · obtain ⟨g1, g2⟩ := e
        rw [List.getElem?_toArray] at g1 g2
        have l1 := rv.length
        rw [List.length_map] at l1
        have hi : i < ks.length := by
          rw [l1]
          exact (List.getElem?_eq_some_iff.mp g1).1
        obtain ⟨u, hu, ru⟩ := rv.get (i := i) (x := .str ks[i]) (by rw [List.getElem?_map, List.getElem?_eq_getElem hi]; rfl)
        rw [g1] at hu
        cases hu
        obtain ⟨t, rfl⟩ := ru
        refine ⟨.inr ks[i], ?_, ?_⟩
        · rw [List.getElem?_map, (List.getElem?_zip_eq_some (z := (ks[i], v))).mpr ⟨List.getElem?_eq_getElem hi, g2⟩]
          rfl
        · simp [mixKind, keyIs, Value.isStrOf]
      · rw [List.size_toArray, List.size_toArray]
        exact Nat.le_trans (Nat.min_le_left ..) (by first | exact z1 | (rw [← rv.length]; exact z1))
      · have rel := paired_kv rv rv2
        have hm2 : (({ s1 with heap := h' } : Shared).heap.objs.size == sysModules) = false := beq_eq_false_iff_ne.mpr (Nat.ne_of_gt I2.big)
        have hl2 : (mergeK [] (kvZ ks ys)).length ≤ sizeLine := by
          refine Nat.le_trans (length_mergeK (kvZ ks ys) []) ?_
          rw [List.length_nil, Nat.zero_add]
          unfold kvZ
          rw [List.length_map, List.length_zip]
          have l1 := rv.length
          rw [List.length_map] at l1
          exact Nat.le_trans (Nat.min_le_left ..) (by rw [l1]; first | exact z1 | (rw [← rv.length]; exact z1))
        have big : ∀ c : Nat, s1.heap.objs.size ≤ c → FpOk X pins H1 c := fun c hc => I1.fpOk hc (I1.hok.fresh hc)
        refine ⟨.ref _, _, I2.turnedNew (t' := tk) (ch := [s1.heap.objs.size + 4, s1.heap.objs.size + 3, s1.heap.objs.size, s1.heap.objs.size + 1]) (T := ({ s1 with heap := h' } : Shared).heap.objs.size) (ob := .dK (mergeK [] (kvZ ks ys))) (fun c o hc => k c o hc) (fun c hc => big c (hk2 c hc)) (Nat.le_refl _) (show ObjOk X.prog X.w _ _ _ (.dK (mergeK [] (kvZ ks ys))) from ⟨hl2, hm2, merged [] _, KV.merge rel .nil, hd⟩), rfl, q _ (I2.hok.fresh (Nat.le_refl _))⟩
theorem kvz_ok {S : Hp} : ∀ {ks : List Str} {rs : List Rep} {xs : List V}, All2 S rs xs → DkOk S (ks.zip rs) (kvZ ks xs)
  | [], _, _, _ => ⟨rfl, True.intro⟩
  | _ :: _, [], [], _ => ⟨rfl, True.intro⟩
  | _ :: _, [], _ :: _, h => h.elim
  | _ :: _, _ :: _, [], h => h.elim
  | k :: ks, r :: rs, x :: xs, h => by
    have ih := kvz_ok (ks := ks) h.2
    refine ⟨?_, h.1, ih.al⟩
    have := ih.nm
    unfold kvZ at this ⊢
    rw [List.zip_cons_cons, List.zip_cons_cons, List.map_cons, List.map_cons, List.map_cons, this]
section
variable {E : XK} {K : PySem.W.Frag} {Γ : Ct} {M : SH} {k : KR} {X : KX} {ta : TA}
theorem ev_dictZ (h : Ea E ta Γ M (fun Rs M1 => ∃ (ks : List Str) (rs : List Rep), Rs = [iLst (ks.map aStr), iLst rs] ∧ ks.Nodup ∧ ks.length ≤ rs.length ∧ ∀ p, k (iRef p) (M1 ++ [(p, mDK (ks.zip rs))])) X) : Ev E (tDictZ K ta) Γ M k X := fun σ S H Q I o ox =>
  h σ S H _ I (fun vs S1 H1 Rs M1 ⟨ks, rs, e, nd, hl, q⟩ st p => by
    subst e
    obtain ⟨v, w, rfl, p1, p2⟩ := all2_2 p
    obtain ⟨a, ys, rfl, a1, a2⟩ := p1
    obtain ⟨b, xs, rfl, b1, b2⟩ := p2
    have ey : ys = ks.map V.str := All2.flat (r := aStr) (g := V.str) (fun _ _ h => h) a2
    subst ey
    refine ⟨a, b, ks, xs, rfl, SqL.of (st.e _ _ a1), SqL.of (st.e _ _ b1), by rw [b2.len]; exact hl, fun p hp => ?_⟩
    have ok := kvz_ok (ks := ks) b2
    have en : mergeK [] (kvZ ks xs) = kvZ ks xs := merge_new (kvZ ks xs) [] (by
      have e1 : (kvZ ks xs).map (·.1) = ks.map (Sum.inr : Str → Key) := by
        unfold kvZ
        rw [List.map_map, show ((fun x : Key × V => x.1) ∘ fun q : Str × V => ((.inr q.1 : Key), q.2)) = (Sum.inr : Str → Key) ∘ Prod.fst from rfl, ← List.map_map, List.map_fst_zip (by rw [b2.len]; exact hl)]
      rw [List.nil_append, e1]
      exact nd_inr _ nd)
    rw [en]
    exact o (.ref p) _ _ (iRef p) _ (q p) (st.trans (Stp.newM (P := mDK (ks.zip rs)) st.e st.m hp ⟨_, rfl, ok⟩)) rfl) ox
end
end L3

/-! names -/
namespace Dk
open PySem L2 RZ L3
/-- words of a law's own that no drawn name is -/
def odds : List Str := ["strange", "stranger", "extra", "odd", "spare", "tall", "other"]
def NmOk (z : Str) : Prop := (1 ≤ z.length ∧ z ∉ odds) ∧ z.length ≤ 8 ∧ ∀ c ∈ z.cps.toList, 97 ≤ c ∧ c ≤ 122
theorem str_app (a b : Str) : (a ++ b).cps.toList = a.cps.toList ++ b.cps.toList := by
  show (a.cps ++ b.cps).toList = _
  simp
theorem str_len (a : Str) : a.length = a.cps.toList.length := by simp [Str.length]
theorem letter_at : ∀ i : Nat, i < 26 → atI ("abcdefghijklmnopqrstuvwxyz" : Str).cps.toList (i : Int) = some (97 + i) := by
  intro i hi
  have h : ∀ j : Fin 26, ("abcdefghijklmnopqrstuvwxyz" : Str).cps.toList[j.val]? = some (97 + j.val) := by decide +kernel
  exact atI_nat (h ⟨i, hi⟩)
theorem mul_01 (z : Str) : Txt.mul z 0 = Str.empty ∧ Txt.mul z 1 = z := by
  constructor
  · unfold Txt.mul; rw [if_pos (by decide)]
  · unfold Txt.mul; rw [if_neg (by decide), if_pos (by simp)]
def pk3 (p : Nat) (x y z : Str) : Str := if p = 0 then x else if p = 1 then y else z
theorem at3 {p : Nat} (h : p < 3) (x y z : Str) : atI [aStr x, aStr y, aStr z] (p : Int) = some (aStr (pk3 p x y z)) := by
  obtain rfl | rfl | rfl : p = 0 ∨ p = 1 ∨ p = 2 := by omega
  · rfl
  · rfl
  · rfl
def nmK (start step : Nat) (tail : Str) (pick k : Nat) : Str :=
  pk3 pick (⟨#[97 + (start + step * k) % 26]⟩ ++ tail) (tail ++ ⟨#[97 + (start + step * k) % 26]⟩) (⟨#[97 + (start + step * k) % 26]⟩ ++ Txt.mul tail ((k : Int) % 2))
def tails : List Str := ["", "q", "zz", "lamp", "andlamp"]
theorem tails_ok : ∀ t ∈ tails, t.length ≤ 7 ∧ ∀ c ∈ t.cps.toList, 97 ≤ c ∧ c ≤ 122 := by decide +kernel
theorem mul_mod (tail : Str) (k : Nat) : Txt.mul tail ((k : Int) % 2) = Str.empty ∨ Txt.mul tail ((k : Int) % 2) = tail := by
  rcases (show (k : Int) % 2 = 0 ∨ (k : Int) % 2 = 1 by omega) with h | h
  · rw [h]; exact .inl (mul_01 tail).1
  · rw [h]; exact .inr (mul_01 tail).2
theorem nmOk_app {a b : Str} (h1 : 1 ≤ a.length + b.length) (h2 : a.length + b.length ≤ 8) (ha : ∀ c ∈ a.cps.toList, 97 ≤ c ∧ c ≤ 122) (hb : ∀ c ∈ b.cps.toList, 97 ≤ c ∧ c ≤ 122) (hs : (a ++ b) ∉ odds) : NmOk (a ++ b) := by
  refine ⟨⟨?_, hs⟩, ?_, fun c hc => ?_⟩
  · rw [str_len, str_app, List.length_append, ← str_len, ← str_len]; exact h1
  · rw [str_len, str_app, List.length_append, ← str_len, ← str_len]; exact h2
  · rw [str_app] at hc
    rcases List.mem_append.mp hc with h | h
    · exact ha c h
    · exact hb c h
theorem no_odd : ∀ t ∈ tails, ∀ j : Fin 26, ((⟨#[97 + j.val]⟩ : Str) ++ t) ∉ odds ∧ (t ++ (⟨#[97 + j.val]⟩ : Str)) ∉ odds ∧ ((⟨#[97 + j.val]⟩ : Str) ++ Str.empty) ∉ odds := by decide +kernel
theorem nmK_ok {start step pick k : Nat} {tail : Str} (ht : tail ∈ tails) : NmOk (nmK start step tail pick k) := by
  refine bx_of ?_
  simp (disch := with_unfolding_all (
    obtain ⟨t1, t2⟩ := tails_ok tail ht
    have s1 : ∀ c ∈ (⟨#[97 + (start + step * k) % 26]⟩ : Str).cps.toList, 97 ≤ c ∧ c ≤ 122 := fun c hc => by
      have : c = 97 + (start + step * k) % 26 := by simpa using hc
      omega
    have s2 : (⟨#[97 + (start + step * k) % 26]⟩ : Str).length = 1 := rfl
    obtain ⟨o1, o2, o3⟩ := no_odd tail ht ⟨(start + step * k) % 26, Nat.mod_lt _ (by decide)⟩
    unfold nmK pk3
    split
    · exact nmOk_app (by omega) (by omega) s1 t2 o1
    · split
      · exact nmOk_app (by omega) (by omega) t2 s1 o2
      · rcases mul_mod tail k with h | h
        · rw [h]; exact nmOk_app (by omega) (by show _ + 0 ≤ 8; omega) s1 (fun c hc => by cases hc) o3
        · rw [h]; exact nmOk_app (by omega) (by omega) s1 t2 o1
    )) only [↓bx_true]

theorem nmK_inj {start step pick k k' : Nat} {tail : Str} (hs : step ∈ [1, 3, 5, 7, 9, 11]) (hk : k < 26) (hk' : k' < 26) (e : nmK start step tail pick k = nmK start step tail pick k') : k = k' := by
  refine bx_of ?_
  simp (disch := with_unfolding_all (
    have key : (start + step * k) % 26 = (start + step * k') % 26 := by
      have e2 := congrArg (fun z : Str => z.cps.toList) e
      unfold nmK pk3 at e2
      try dsimp only at e2
      split at e2
      · rw [str_app, str_app] at e2
        have : 97 + (start + step * k) % 26 = 97 + (start + step * k') % 26 := by simpa using e2
        omega
      · split at e2
        · rw [str_app, str_app] at e2
          have : 97 + (start + step * k) % 26 = 97 + (start + step * k') % 26 := by simpa using e2
          omega
        · rw [str_app, str_app] at e2
          have h3 : 97 + (start + step * k) % 26 = 97 + (start + step * k') % 26 := by
            have := congrArg List.head? e2
            simpa using this
          omega
    simp only [List.mem_cons, List.not_mem_nil, or_false] at hs
    rcases hs with rfl | rfl | rfl | rfl | rfl | rfl <;> omega
    )) only [↓bx_true]

theorem nodup_map_on {α β : Type} {f : α → β} : ∀ {l : List α}, (∀ x ∈ l, ∀ y ∈ l, f x = f y → x = y) → l.Nodup → (l.map f).Nodup
  | [], _, _ => List.nodup_nil
  | a :: l, h, n => by
    rw [List.map_cons, List.nodup_cons]
    rw [List.nodup_cons] at n
    refine ⟨fun z => ?_, nodup_map_on (fun x hx y hy => h x (List.mem_cons_of_mem _ hx) y (List.mem_cons_of_mem _ hy)) n.2⟩
    obtain ⟨y, hy, e⟩ := List.mem_map.mp z
    have := h y (List.mem_cons_of_mem _ hy) a (List.mem_cons_self ..) e
    subst this
    exact n.1 hy
end Dk

/-! houses -/
namespace Dk
open PySem L2 RZ L3
abbrev houseF (ns : List Str) (ds ss : List (Str × Str)) : FR := [("named", iLst (ns.map aStr)), ("doored", iPD ds), ("sighted", iPD ss)]
abbrev iHouse (C : Addr) (ns : List Str) (ds ss : List (Str × Str)) : Rep := iObj C (houseF ns ds ss)
abbrev prR (K : PySem.W.Frag) (p : Str × Str) : Rep := aTup K [aStr p.1, aStr p.2]
def doorsOf (ds : List (Str × Str)) : List (Str × Str) := ds.foldl (fun a p => putP (putP a (p.1, p.2)) (p.2, p.1)) []
def sightsOf (ds : List (Str × Str)) : List (Str × Str) := ds.foldl (fun a p => putP a (p.1, p.2)) []
theorem putP_len (a : List (Str × Str)) (p : Str × Str) : (putP a p).length ≤ a.length + 1 := by
  unfold putP; split <;> simp
theorem mem_putP {a : List (Str × Str)} {p q : Str × Str} : q ∈ putP a p ↔ q ∈ a ∨ q = p := by
  unfold putP
  split
  · constructor
    · exact .inl
    · rintro (h | rfl)
      · exact h
      · assumption
  · simp
theorem fold_snoc {α β : Type} (f : β → α → β) (b : β) (l : List α) (i : Nat) (h : i < l.length) : (l.take (i + 1)).foldl f b = f ((l.take i).foldl f b) l[i] := by
  rw [List.take_succ, List.getElem?_eq_getElem h, List.foldl_append]
  rfl
theorem doors_len (ds : List (Str × Str)) : ∀ i, i ≤ ds.length → (doorsOf (ds.take i)).length ≤ 2 * i := by
  refine bx_of ?_
  simp (disch := with_unfolding_all (
    intro i
    induction i with
    | zero => intro _; simp [doorsOf]
    | succ i ih =>
      intro h
      unfold doorsOf
      rw [fold_snoc _ _ _ _ (by omega)]
      have h1 := ih (by omega)
      have h2 := putP_len (doorsOf (ds.take i)) (ds[i].1, ds[i].2)
      have h3 := putP_len (putP (doorsOf (ds.take i)) (ds[i].1, ds[i].2)) (ds[i].2, ds[i].1)
      unfold doorsOf at *
      omega
    )) only [↓bx_true]

theorem sights_len (ds : List (Str × Str)) : ∀ i, i ≤ ds.length → (sightsOf (ds.take i)).length ≤ i := by
  intro i
  induction i with
  | zero => intro _; simp [sightsOf]
  | succ i ih =>
    intro h
    unfold sightsOf
    rw [fold_snoc _ _ _ _ (by omega)]
    have h1 := ih (by omega)
    have h2 := putP_len (sightsOf (ds.take i)) (ds[i].1, ds[i].2)
    unfold sightsOf at *
    omega
theorem mem_doors {q : Str × Str} (ds : List (Str × Str)) : q ∈ doorsOf ds ↔ q ∈ ds ∨ (q.2, q.1) ∈ ds := by
  refine bx_of ?_
  simp (disch := with_unfolding_all (
    have gen : ∀ (ds acc : List (Str × Str)), q ∈ ds.foldl (fun a p => putP (putP a (p.1, p.2)) (p.2, p.1)) acc ↔ q ∈ acc ∨ q ∈ ds ∨ (q.2, q.1) ∈ ds := by
      intro ds
      induction ds with
      | nil => intro acc; simp
      | cons p ds ih =>
        intro acc
        rw [List.foldl_cons, ih, mem_putP, mem_putP]
        obtain ⟨a, b⟩ := q
        obtain ⟨c, d⟩ := p
        simp only [List.mem_cons, Prod.mk.injEq]
        constructor
        · rintro (((h | h) | h) | h | h)
          · exact .inl h
          · exact .inr (.inl (.inl h))
          · exact .inr (.inr (.inl ⟨h.2, h.1⟩))
          · exact .inr (.inl (.inr h))
          · exact .inr (.inr (.inr h))
        · rintro (h | (h | h) | (h | h))
          · exact .inl (.inl (.inl h))
          · exact .inl (.inl (.inr h))
          · exact .inr (.inl h)
          · exact .inl (.inr ⟨h.2, h.1⟩)
          · exact .inr (.inr h)
    unfold doorsOf
    rw [gen]
    simp
    )) only [↓bx_true]

theorem mem_sights {q : Str × Str} (ds : List (Str × Str)) : q ∈ sightsOf ds ↔ q ∈ ds := by
  refine bx_of ?_
  simp (disch := with_unfolding_all (
    have gen : ∀ (ds acc : List (Str × Str)), q ∈ ds.foldl (fun a p => putP a (p.1, p.2)) acc ↔ q ∈ acc ∨ q ∈ ds := by
      intro ds
      induction ds with
      | nil => intro acc; simp
      | cons p ds ih =>
        intro acc
        rw [List.foldl_cons, ih, mem_putP, List.mem_cons]
        constructor
        · rintro ((h | h) | h)
          · exact .inl h
          · exact .inr (.inl h)
          · exact .inr (.inr h)
        · rintro (h | h | h)
          · exact .inl (.inl h)
          · exact .inl (.inr h)
          · exact .inr h
    unfold sightsOf
    rw [gen]
    simp
    )) only [↓bx_true]

theorem take_nin {α : Type} : ∀ {l : List α} {i : Nat}, l.Nodup → (h : i < l.length) → l[i] ∉ l.take i
  | a :: l, 0, _, _ => by simp
  | a :: l, i + 1, n, h => by
    rw [List.nodup_cons] at n
    have hi : i < l.length := by simpa using h
    rw [List.take_succ_cons, List.getElem_cons_succ, List.mem_cons]
    rintro (e | e)
    · exact n.1 (e ▸ List.getElem_mem hi)
    · exact take_nin n.2 hi e
structure HouseOk (limit : Nat) (ns : List Str) (ds ss : List (Str × Str)) : Prop where
  n0 : 1 ≤ ns.length
  n1 : ns.length ≤ limit
  nd : ns.Nodup
  nm : ∀ z ∈ ns, NmOk z
  dl : ds.length ≤ 12 * limit
  dm : ∀ p ∈ ds, p.1 ∈ ns ∧ p.2 ∈ ns ∧ p.1 ≠ p.2
  sl : ss.length ≤ 100
  sm : ∀ p ∈ ss, p.1 ∈ ns ∧ p.2 ∈ ns ∧ p.1 ≠ p.2
abbrev iHs (K : PySem.W.Frag) (ns : List Str) (ds ss : List (Str × Str)) : Rep := aTup K [iLst (ns.map aStr), iLst (ds.map (prR K)), iLst (ss.map (prR K))]
def nearOf (ns : List Str) (ds : List (Str × Str)) (z : Str) : List Str := ns.filter fun y => decide ((z, y) ∈ ds) || decide ((y, z) ∈ ds)
def seesOf (ns : List Str) (ss : List (Str × Str)) (z : Str) : List Str := ns.filter fun y => decide ((z, y) ∈ ss)
end Dk

/-! wheels and rests -/
namespace Dk
theorem gcd_pos_of {a b : Nat} (h : 0 < a) : 0 < Nat.gcd a b := Nat.gcd_pos_of_pos_left b h
/-- least common multiples of a row -/
def lcmL (l : List Nat) : Nat := l.foldl Nat.lcm 1
theorem foldl_lcm (l : List Nat) : ∀ a, l.foldl Nat.lcm a = Nat.lcm a (lcmL l) := by
  induction l with
  | nil => intro a; simp [lcmL]
  | cons b l ih =>
    intro a
    have h : lcmL (b :: l) = Nat.lcm (Nat.lcm 1 b) (lcmL l) := ih (Nat.lcm 1 b)
    rw [List.foldl_cons, ih, h, Nat.lcm_one_left, Nat.lcm_assoc]
theorem lcmL_cons (b : Nat) (l : List Nat) : lcmL (b :: l) = Nat.lcm b (lcmL l) := by
  rw [lcmL, List.foldl_cons, foldl_lcm, Nat.lcm_one_left]
theorem lcmL_app (l m : List Nat) : lcmL (l ++ m) = Nat.lcm (lcmL l) (lcmL m) := by
  rw [lcmL, List.foldl_append, foldl_lcm]
  rfl
theorem lcmL_pos {l : List Nat} (h : ∀ b ∈ l, 0 < b) : 0 < lcmL l := by
  induction l with
  | nil => simp [lcmL]
  | cons b l ih =>
    rw [lcmL_cons]
    exact Nat.lcm_pos (h b (List.mem_cons_self ..)) (ih fun c hc => h c (List.mem_cons_of_mem _ hc))
end Dk

/-! places on a round -/
namespace Dk
open PySem L2 RZ L3
def roomAt (l : List Str) (i : Int) : Str := l.getD (i % (l.length : Int)).toNat ⟨#[]⟩
theorem roomAt_at {l : List Str} (h : 0 < l.length) (i : Int) : atI (l.map aStr) (i % (l.length : Int)) = some (aStr (roomAt l i)) := by
  have h0 := Int.emod_nonneg i (show (l.length : Int) ≠ 0 by omega)
  have h1 := Int.emod_lt_of_pos i (show (0 : Int) < l.length by omega)
  have e : i % (l.length : Int) = ((i % (l.length : Int)).toNat : Nat) := by omega
  have hn : (i % (l.length : Int)).toNat < l.length := by omega
  rw [e]
  refine atI_nat ?_
  rw [List.getElem?_map, roomAt, List.getD_eq_getElem?_getD, List.getElem?_eq_getElem hn]
  rfl
theorem dec_or {A B C : Prop} [Decidable A] [Decidable B] [Decidable C] (h : A ∨ B ↔ C) : (decide A || decide B) = decide C := by
  rw [Bool.eq_iff_iff, Bool.or_eq_true, decide_eq_true_eq, decide_eq_true_eq, decide_eq_true_eq]
  exact h
theorem dec_iff {A B : Prop} [Decidable A] [Decidable B] (h : A ↔ B) : decide A = decide B := by
  rw [Bool.eq_iff_iff, decide_eq_true_eq, decide_eq_true_eq]
  exact h
theorem roomAt_in {l ns : List Str} (h : 1 ≤ l.length) (hn : ∀ r ∈ l, r ∈ ns) (i : Int) : roomAt l i ∈ ns := by
  have h0 := Int.emod_nonneg i (show (l.length : Int) ≠ 0 by omega)
  have h1 := Int.emod_lt_of_pos i (show (0 : Int) < l.length by omega)
  have h2 : (i % (l.length : Int)).toNat < l.length := by omega
  unfold roomAt
  rw [List.getD_eq_getElem?_getD, List.getElem?_eq_getElem h2]
  exact hn _ (List.getElem_mem h2)
end Dk

/-! scenes: who stands where -/
namespace Dk
open PySem L2 RZ L3
abbrev e0 : Str := ⟨#[]⟩
def swapL (l : List Str) (i j : Nat) : List Str := (l.set i (l.getD j e0)).set j (l.getD i e0)
def meet1 (sp : List Str) (i j : Nat) (l : List Str) : List Str := if sp.getD i e0 = sp.getD j e0 then swapL l i j else l
def meetIn (sp : List Str) (i : Nat) : Nat → List Str → List Str
  | 0, l => l
  | m + 1, l => meet1 sp i (i + 1 + m) (meetIn sp i m l)
def meetOut (sp : List Str) : Nat → List Str → List Str
  | 0, l => l
  | m + 1, l => meetIn sp m (sp.length - (m + 1)) (meetOut sp m l)
def easeL (n i : Nat) (l : List Str) : List Str := ((l.set i (l.getD n e0)).eraseIdx n) ++ [l.getD i e0]
theorem swap_map {l : List Str} {i j : Nat} (hi : i < l.length) (hj : j < l.length) : ((l.map aStr).set i (aStr l[j])).set j (aStr l[i]) = (swapL l i j).map aStr := by
  unfold swapL
  rw [List.map_set, List.map_set]
  simp [hi, hj]
theorem ease_map {l : List Str} {n i : Nat} (hi : i < l.length) (hn : n < l.length) : (((l.map aStr).set i (aStr l[n])).eraseIdx n) ++ [aStr l[i]] = (easeL n i l).map aStr := by
  unfold easeL
  have er : ∀ (l : List Str) (n : Nat), (l.map aStr).eraseIdx n = (l.eraseIdx n).map aStr := fun l n => by
    rw [List.eraseIdx_eq_take_drop_succ, List.eraseIdx_eq_take_drop_succ, List.map_append, List.map_take, List.map_drop]
  rw [List.map_append, ← er, List.map_set]
  simp [hi, hn]
theorem swapL_len (l : List Str) (i j : Nat) : (swapL l i j).length = l.length := by simp [swapL]
theorem swap_swap (l : List Str) (i j : Nat) (hi : i < l.length) (hj : j < l.length) (hij : i ≠ j) : swapL (swapL l i j) i j = l := by
  unfold swapL
  apply List.ext_getElem?
  intro n
  grind
theorem swap_sub {l : List Str} {i j : Nat} (hi : i < l.length) (hj : j < l.length) : ∀ z ∈ swapL l i j, z ∈ l := by
  intro z hz
  unfold swapL at hz
  grind
theorem nd_iff {l : List Str} : l.Nodup ↔ ∀ i j, i < j → j < l.length → l.getD i e0 ≠ l.getD j e0 := by
  unfold List.Nodup
  rw [List.pairwise_iff_getElem]
  grind
theorem swap_nd {l : List Str} {i j : Nat} (hi : i < l.length) (hj : j < l.length) (hij : i ≠ j) (h : l.Nodup) : (swapL l i j).Nodup := by
  refine bx_of ?_
  simp (disch := with_unfolding_all (
    rw [nd_iff] at h ⊢
    intro p q hpq hq
    have h1 := h p q hpq
    have h2 := h i j
    have h3 := h j i
    have h4 := h p i
    have h5 := h i p
    have h6 := h p j
    have h7 := h j p
    have h8 := h q i
    have h9 := h i q
    have h10 := h q j
    have h11 := h j q
    unfold swapL at hq ⊢
    grind
    )) only [↓bx_true]

theorem ease_nd {l : List Str} {i n : Nat} (hi : i < n) (hn : n < l.length) (h : l.Nodup) : (easeL n i l).Nodup := by
  refine bx_of ?_
  simp (disch := with_unfolding_all (
    have hl : (easeL n i l).length = l.length := by
      unfold easeL
      simp [List.length_eraseIdx]
      grind
    have hg : ∀ p, p < l.length → (easeL n i l).getD p e0 = if p = i then l.getD n e0 else if p < n then l.getD p e0 else if p + 1 = l.length then l.getD i e0 else l.getD (p + 1) e0 := by
      intro p hp
      unfold easeL
      grind
    rw [nd_iff] at h ⊢
    intro p q hpq hq
    rw [hl] at hq
    rw [hg p (by omega), hg q hq]
    have h2 := h i n hi hn
    split <;> split <;> (try split) <;> (try split) <;> (try split) <;> grind
    )) only [↓bx_true]

theorem meet1_len (sp l : List Str) (i j : Nat) : (meet1 sp i j l).length = l.length := by
  unfold meet1; split <;> simp [swapL_len]
theorem meetIn_len (sp : List Str) (i : Nat) : ∀ m l, (meetIn sp i m l).length = l.length
  | 0, l => rfl
  | m + 1, l => by rw [meetIn, meet1_len, meetIn_len sp i m l]
theorem meetOut_len (sp : List Str) : ∀ m l, (meetOut sp m l).length = l.length
  | 0, l => rfl
  | m + 1, l => by rw [meetOut, meetIn_len, meetOut_len sp m l]
theorem ease_len {n i : Nat} {l : List Str} (h : n < l.length) : (easeL n i l).length = l.length := by
  unfold easeL
  simp [List.length_eraseIdx]
  grind
theorem meetIn_sub (sp : List Str) (i : Nat) {l : List Str} : ∀ m, i + m < l.length → ∀ z ∈ meetIn sp i m l, z ∈ l
  | 0, _, z, h => h
  | m + 1, hm, z, h => by
    rw [meetIn, meet1] at h
    split at h
    · exact meetIn_sub sp i m (by omega) z (swap_sub (by rw [meetIn_len]; omega) (by rw [meetIn_len]; omega) z h)
    · exact meetIn_sub sp i m (by omega) z h
theorem meetOut_sub (sp : List Str) {l : List Str} (hl : sp.length ≤ l.length) : ∀ m, m ≤ sp.length → ∀ z ∈ meetOut sp m l, z ∈ l
  | 0, _, z, h => h
  | m + 1, hm, z, h => by
    rw [meetOut] at h
    exact meetOut_sub sp hl m (by omega) z (meetIn_sub sp m _ (by rw [meetOut_len]; omega) z h)
theorem ease_sub {n i : Nat} {l : List Str} (hi : i < n) (hn : n < l.length) : ∀ z ∈ easeL n i l, z ∈ l := by
  intro z hz
  unfold easeL at hz
  rcases List.mem_append.mp hz with h | h
  · have h2 := List.mem_of_mem_eraseIdx h
    grind
  · grind
theorem meetIn_nd (sp : List Str) (i : Nat) {l : List Str} (nd : l.Nodup) : ∀ m, i + m < l.length → (meetIn sp i m l).Nodup
  | 0, _ => nd
  | m + 1, hm => by
    rw [meetIn, meet1]
    split
    · exact swap_nd (by rw [meetIn_len]; omega) (by rw [meetIn_len]; omega) (by omega) (meetIn_nd sp i nd m (by omega))
    · exact meetIn_nd sp i nd m (by omega)
theorem meetOut_nd (sp : List Str) {l : List Str} (nd : l.Nodup) (hl : sp.length ≤ l.length) : ∀ m, m ≤ sp.length → (meetOut sp m l).Nodup
  | 0, _ => nd
  | m + 1, hm => meetIn_nd sp m (meetOut_nd sp nd hl m (by omega)) _ (by rw [meetOut_len]; omega)
theorem meetIn_inj (sp : List Str) (i : Nat) {l l' : List Str} (he : l.length = l'.length) : ∀ m, i + m < l.length → meetIn sp i m l = meetIn sp i m l' → l = l'
  | 0, _, h => h
  | m + 1, hm, h => by
    refine meetIn_inj sp i he m (by omega) ?_
    rw [meetIn, meetIn, meet1, meet1] at h
    split at h
    · have e := congrArg (fun x => swapL x i (i + 1 + m)) h
      try dsimp only at e
      rwa [swap_swap _ _ _ (by rw [meetIn_len]; omega) (by rw [meetIn_len]; omega) (by omega), swap_swap _ _ _ (by rw [meetIn_len]; omega) (by rw [meetIn_len]; omega) (by omega)] at e
    · exact h
theorem meetOut_inj (sp : List Str) {l l' : List Str} (he : l.length = l'.length) (hl : sp.length ≤ l.length) : ∀ m, m ≤ sp.length → meetOut sp m l = meetOut sp m l' → l = l'
  | 0, _, h => h
  | m + 1, hm, h => meetOut_inj sp he hl m (by omega) (meetIn_inj sp m (by rw [meetOut_len, meetOut_len]; exact he) _ (by rw [meetOut_len]; omega) h)
theorem ease_inj {n i : Nat} {l m : List Str} (hlm : l.length = m.length) (hi : i < n) (hn : n < l.length) (h : easeL n i l = easeL n i m) : l = m := by
  unfold easeL at h
  have h1 := List.append_inj h (by simp [List.length_eraseIdx]; grind)
  apply List.ext_getElem?
  intro k
  have h2 := congrArg (fun l => l[i]?) h1.1
  have h3 := congrArg (fun l => l[k]?) h1.1
  have h4 := congrArg (fun l => l[k-1]?) h1.1
  have h5 := h1.2
  grind
abbrev Post := Str × List Str × Int
structure Sc where
  ns : List Str
  ds : List (Str × Str)
  ss : List (Str × Str)
  ps : List Post
  ls : List (Str × Int)
  meet : Bool
  rel : Int
structure ScOk (s : Sc) : Prop where
  nl : s.ns.length ≤ 8
  nn : ∀ z ∈ s.ns, StrOk z
  pl : s.ps.length ≤ 5
  pd : (s.ps.map (·.1)).Nodup
  pr : ∀ p ∈ s.ps, 1 ≤ p.2.1.length ∧ p.2.1.length ≤ 6 ∧ (∀ r ∈ p.2.1, r ∈ s.ns) ∧ 0 ≤ p.2.2 ∧ p.2.2 < p.2.1.length
  ll : s.ls.length ≤ 6
  ld : (s.ls.map (·.1)).Nodup
  lo : ∀ p ∈ s.ls, StrOk p.1
  pe : s.ps.length ≤ s.ls.length
  r0 : 0 ≤ s.rel
  r4 : s.rel ≤ 4
def firstOf (s : Sc) : List Str := s.ls.map (·.1)
def spotsOf (s : Sc) (b : Int) : List Str := s.ps.map fun p => roomAt p.2.1 (b - p.2.2)
def meetsL (s : Sc) (b : Int) (l : List Str) : List Str := if s.meet = true then meetOut (spotsOf s b) s.ps.length l else l
def easing (s : Sc) (b : Int) (n : Nat) : Prop := s.rel ≠ 0 ∧ b % s.rel = 0 ∧ 0 < s.ps.length ∧ s.ps.length < n
instance (s : Sc) (b : Int) (n : Nat) : Decidable (easing s b n) := by unfold easing; infer_instance
def easeAt (s : Sc) (b : Int) : Nat := (b / s.rel % (s.ps.length : Int)).toNat
def changeL (s : Sc) (b : Int) (l : List Str) : List Str := if easing s b l.length then easeL s.ps.length (easeAt s b) (meetsL s b l) else meetsL s b l
theorem meetsL_len (s : Sc) (b : Int) (l : List Str) : (meetsL s b l).length = l.length := by unfold meetsL; split <;> simp [meetOut_len]
theorem spots_len (s : Sc) (b : Int) : (spotsOf s b).length = s.ps.length := by simp [spotsOf]
theorem change_len (s : Sc) (b : Int) (l : List Str) : (changeL s b l).length = l.length := by
  unfold changeL
  split
  · rename_i h
    rw [ease_len (by rw [meetsL_len]; exact h.2.2.2), meetsL_len]
  · rw [meetsL_len]
theorem easeAt_lt {s : Sc} {b : Int} {n : Nat} (h : easing s b n) : easeAt s b < s.ps.length ∧ ((easeAt s b : Nat) : Int) = b / s.rel % (s.ps.length : Int) := by
  unfold easeAt
  have hp := h.2.2.1
  have h0 := Int.emod_nonneg (b / s.rel) (show (s.ps.length : Int) ≠ 0 by omega)
  have h1 := Int.emod_lt_of_pos (b / s.rel) (show (0 : Int) < s.ps.length by omega)
  omega
theorem change_sub {s : Sc} {b : Int} {l : List Str} (hl : s.ps.length ≤ l.length) : ∀ z ∈ changeL s b l, z ∈ l := by
  have hm : ∀ z ∈ meetsL s b l, z ∈ l := by
    unfold meetsL
    split
    · exact meetOut_sub _ (by rw [spots_len]; exact hl) _ (by rw [spots_len]; exact Nat.le_refl _)
    · exact fun _ h => h
  intro z hz
  unfold changeL at hz
  split at hz
  · rename_i h
    exact hm z (ease_sub (easeAt_lt h).1 (by rw [meetsL_len]; exact h.2.2.2) z hz)
  · exact hm z hz
theorem change_nd {s : Sc} {b : Int} {l : List Str} (nd : l.Nodup) (hl : s.ps.length ≤ l.length) : (changeL s b l).Nodup := by
  have hm : (meetsL s b l).Nodup := by
    unfold meetsL
    split
    · exact meetOut_nd _ nd (by rw [spots_len]; exact hl) _ (by rw [spots_len]; exact Nat.le_refl _)
    · exact nd
  unfold changeL
  split
  · rename_i h
    exact ease_nd (easeAt_lt h).1 (by rw [meetsL_len]; exact h.2.2.2) hm
  · exact hm
theorem change_inj {s : Sc} {b : Int} {l m : List Str} (hlm : l.length = m.length) (hl : s.ps.length ≤ l.length) (h : changeL s b l = changeL s b m) : l = m := by
  have hm : meetsL s b l = meetsL s b m → l = m := by
    unfold meetsL
    split
    · exact meetOut_inj _ hlm (by rw [spots_len]; exact hl) _ (by rw [spots_len]; exact Nat.le_refl _)
    · exact fun h => h
  unfold changeL at h
  rw [← hlm] at h
  split at h
  · rename_i he
    exact hm (ease_inj (by rw [meetsL_len, meetsL_len]; exact hlm) (easeAt_lt he).1 (by rw [meetsL_len]; exact he.2.2.2) h)
  · exact hm h
def rowAt (s : Sc) : Nat → List Str
  | 0 => firstOf s
  | k + 1 => changeL s ((k + 1 : Nat) : Int) (rowAt s k)
theorem row_len (s : Sc) : ∀ k, (rowAt s k).length = s.ls.length
  | 0 => by simp [rowAt, firstOf]
  | k + 1 => by rw [rowAt, change_len, row_len s k]
theorem row_sub {s : Sc} (h : s.ps.length ≤ s.ls.length) : ∀ k, ∀ z ∈ rowAt s k, z ∈ firstOf s
  | 0, z, hz => hz
  | k + 1, z, hz => row_sub h k z (change_sub (by rw [row_len]; exact h) z hz)
theorem row_nd {s : Sc} (ok : ScOk s) : ∀ k, (rowAt s k).Nodup
  | 0 => ok.ld
  | k + 1 => change_nd (row_nd ok k) (by rw [row_len]; exact ok.pe)
def sizesOf (s : Sc) : List Nat := s.ps.map (fun p => p.2.1.length) ++ if s.rel ≠ 0 ∧ s.ps ≠ [] ∧ s.ls.length > s.ps.length then [s.rel.toNat * s.ps.length] else []
def spanOf (s : Sc) : Nat := lcmL (sizesOf s)
theorem dvd_lcmL {b : Nat} : ∀ {l : List Nat}, b ∈ l → b ∣ lcmL l
  | a :: l, h => by
    rw [lcmL_cons]
    rcases List.mem_cons.mp h with e | h
    · rw [e]; exact Nat.dvd_lcm_left ..
    · exact Nat.dvd_trans (dvd_lcmL h) (Nat.dvd_lcm_right ..)
theorem sizes_pos {s : Sc} (ok : ScOk s) : ∀ n ∈ sizesOf s, 0 < n ∧ n < 2 ^ 60 := by
  refine bx_of ?_
  simp (disch := with_unfolding_all (
    intro n hn
    unfold sizesOf at hn
    rcases List.mem_append.mp hn with h | h
    · obtain ⟨p, hp, rfl⟩ := List.mem_map.mp h
      have := ok.pr p hp
      constructor <;> omega
    · split at h
      · rename_i hc
        rw [List.mem_singleton.mp h]
        have h1 : 0 < s.ps.length := List.length_pos_iff.mpr hc.2.1
        have h2 : 0 < s.rel.toNat := by have := ok.r0; omega
        have h3 : s.rel.toNat ≤ 4 := by have := ok.r4; omega
        have h4 := ok.pl
        refine ⟨Nat.mul_pos h2 h1, ?_⟩
        have := Nat.mul_le_mul h3 h4
        omega
      · cases h
    )) only [↓bx_true]

theorem span_pos {s : Sc} (ok : ScOk s) : 0 < spanOf s := lcmL_pos fun b hb => (sizes_pos ok b hb).1
theorem roomAt_per {l : List Str} {m : Nat} (h : l.length ∣ m) (x y : Int) : roomAt l (x + m - y) = roomAt l (x - y) := by
  obtain ⟨c, rfl⟩ := h
  unfold roomAt
  have e : x + ((l.length * c : Nat) : Int) - y = (x - y) + (l.length : Int) * (c : Int) := by push_cast; omega
  rw [e, Int.add_mul_emod_self_left]
theorem spots_per {s : Sc} {m : Nat} (h : spanOf s ∣ m) (b : Int) : spotsOf s (b + m) = spotsOf s b := by
  unfold spotsOf
  refine List.map_congr_left fun p hp => ?_
  refine roomAt_per (Nat.dvd_trans (dvd_lcmL ?_) h) b p.2.2
  unfold sizesOf
  exact List.mem_append_left _ (List.mem_map.mpr ⟨p, hp, rfl⟩)
theorem change_per {s : Sc} (ok : ScOk s) {m : Nat} (h : spanOf s ∣ m) (b : Int) {l : List Str} (hl : l.length = s.ls.length) : changeL s (b + m) l = changeL s b l := by
  refine bx_of ?_
  simp (disch := with_unfolding_all (
    have e1 : meetsL s (b + m) l = meetsL s b l := by unfold meetsL; rw [spots_per h]
    unfold changeL
    rw [e1]
    by_cases hc : s.rel ≠ 0 ∧ s.ps ≠ [] ∧ s.ls.length > s.ps.length
    · have hd : s.rel.toNat * s.ps.length ∣ m := Nat.dvd_trans (dvd_lcmL (by
        unfold sizesOf
        rw [if_pos hc]
        exact List.mem_append_right _ (List.mem_singleton.mpr rfl))) h
      obtain ⟨c, rfl⟩ := hd
      have er : ((s.rel.toNat : Nat) : Int) = s.rel := by have := ok.r0; omega
      have em : ((s.rel.toNat * s.ps.length * c : Nat) : Int) = s.rel * ((s.ps.length : Int) * c) := by push_cast; rw [er, Int.mul_assoc]
      have q1 : (b + ((s.rel.toNat * s.ps.length * c : Nat) : Int)) % s.rel = b % s.rel := by rw [em, Int.add_mul_emod_self_left]
      have q2 : (b + ((s.rel.toNat * s.ps.length * c : Nat) : Int)) / s.rel % (s.ps.length : Int) = b / s.rel % (s.ps.length : Int) := by
        rw [em, Int.add_mul_ediv_left _ _ hc.1, Int.add_mul_emod_self_left]
      have e3 : easing s (b + ((s.rel.toNat * s.ps.length * c : Nat) : Int)) l.length ↔ easing s b l.length := by unfold easing; rw [q1]
      have e4 : easeAt s (b + ((s.rel.toNat * s.ps.length * c : Nat) : Int)) = easeAt s b := by unfold easeAt; rw [q2]
      rw [e4]
      by_cases hh : easing s b l.length
      · rw [if_pos (e3.mpr hh), if_pos hh]
      · rw [if_neg (fun z => hh (e3.mp z)), if_neg hh]
    · have n1 : ∀ b, ¬ easing s b l.length := fun b z => hc ⟨z.1, fun e => by have := z.2.2.1; rw [e] at this; simp at this, by have := z.2.2.2; omega⟩
      rw [if_neg (n1 _), if_neg (n1 _)]
    )) only [↓bx_true]

/-! rows come back -/
def injL (a : List Str) : Nat → List (List Str)
  | 0 => [[]]
  | n + 1 => a.flatMap fun x => (injL (a.erase x) n).map fun l => x :: l
def ff (m : Nat) : Nat → Nat
  | 0 => 1
  | n + 1 => m * ff (m - 1) n
theorem sum_const {α : Type} (c : Nat) : ∀ l : List α, (l.map fun _ => c).sum = l.length * c
  | [] => by simp
  | a :: l => by
    rw [List.map_cons, List.sum_cons, sum_const c l, List.length_cons, Nat.add_mul]
    omega
theorem inj_len : ∀ (n : Nat) (a : List Str), (injL a n).length = ff a.length n
  | 0, a => rfl
  | n + 1, a => by
    rw [injL, List.length_flatMap, ff]
    have : a.map (fun x => ((injL (a.erase x) n).map fun l => x :: l).length) = a.map fun _ => ff (a.length - 1) n := by
      refine List.map_congr_left fun x hx => ?_
      rw [List.length_map, inj_len n, List.length_erase_of_mem hx]
    rw [this, sum_const]
theorem mem_inj : ∀ {n : Nat} {a l : List Str}, l.length = n → l.Nodup → (∀ z ∈ l, z ∈ a) → l ∈ injL a n
  | 0, a, l, h, _, _ => by rw [List.length_eq_zero_iff.mp h]; simp [injL]
  | n + 1, a, [], h, _, _ => by simp at h
  | n + 1, a, x :: l, h, nd, hz => by
    rw [List.nodup_cons] at nd
    rw [injL, List.mem_flatMap]
    refine ⟨x, hz x (List.mem_cons_self ..), List.mem_map.mpr ⟨l, mem_inj (by simpa using h) nd.2 (fun z h => ?_), rfl⟩⟩
    exact (List.mem_erase_of_ne (fun e => nd.1 (by rw [← e]; exact h))).mpr (hz z (List.mem_cons_of_mem _ h))
theorem ff_small : ∀ n, n ≤ 6 → ff n n ≤ 720 := by decide
theorem pigeon {α : Type} [DecidableEq α] : ∀ (n : Nat) (L : List α) (f : Nat → α), L.length = n → (∀ i, i ≤ n → f i ∈ L) → ∃ i j, i < j ∧ j ≤ n ∧ f i = f j
  | 0, L, f, h, hf => by
    have := hf 0 (Nat.le_refl _)
    rw [List.length_eq_zero_iff.mp h] at this
    cases this
  | n + 1, L, f, h, hf => by
    have h0 := hf 0 (by omega)
    by_cases hx : ∃ j, 0 < j ∧ j ≤ n + 1 ∧ f j = f 0
    · obtain ⟨j, hj, hn, e⟩ := hx
      exact ⟨0, j, hj, hn, e.symm⟩
    · obtain ⟨i, j, hij, hn, e⟩ := pigeon n (L.erase (f 0)) (fun i => f (i + 1)) (by rw [List.length_erase_of_mem h0]; omega) fun i hi =>
        (List.mem_erase_of_ne (fun z => hx ⟨i + 1, by omega, by omega, z⟩)).mpr (hf (i + 1) (by omega))
      exact ⟨i + 1, j + 1, by omega, by omega, e⟩
theorem row_back {s : Sc} (ok : ScOk s) {i d : Nat} (hd : spanOf s ∣ d) : ∀ c, c ≤ i → rowAt s i = rowAt s (i + d) → rowAt s (i - c) = rowAt s (i - c + d)
  | 0, _, h => by simpa using h
  | c + 1, hc, h => by
    have ih := row_back ok hd c (by omega) h
    obtain ⟨k, hk⟩ : ∃ k, i - c = k + 1 := ⟨i - c - 1, by omega⟩
    have e2 : i - (c + 1) = k := by omega
    rw [e2]
    rw [hk, show k + 1 + d = (k + d) + 1 by omega, rowAt, rowAt] at ih
    have e3 : (((k + d + 1 : Nat)) : Int) = ((k + 1 : Nat) : Int) + (d : Nat) := by omega
    rw [e3, change_per ok hd _ (row_len s (k + d))] at ih
    exact change_inj (by rw [row_len, row_len]) (by rw [row_len]; exact ok.pe) ih
structure Per (s : Sc) (T : Nat) : Prop where
  pos : 0 < T
  dv : T % spanOf s = 0
  back : rowAt s T = firstOf s
  least : ∀ k, 0 < k → k < T → ¬ (k % spanOf s = 0 ∧ rowAt s k = firstOf s)
  le : T ≤ 900000
theorem lcmL_dvd {m : Nat} : ∀ {l : List Nat}, (∀ b ∈ l, b ∣ m) → lcmL l ∣ m
  | [], _ => by rw [show lcmL [] = 1 from rfl]; exact Nat.one_dvd m
  | a :: l, h => by
    rw [lcmL_cons]
    exact Nat.lcm_dvd (h a (List.mem_cons_self ..)) (lcmL_dvd fun b hb => h b (List.mem_cons_of_mem _ hb))
theorem span_le {s : Sc} (ok : ScOk s) : spanOf s ≤ 1200 := by
  refine bx_of ?_
  simp (disch := with_unfolding_all (
    unfold spanOf sizesOf
    rw [lcmL_app]
    have h1 : lcmL (s.ps.map fun p => p.2.1.length) ∣ 60 := lcmL_dvd fun b hb => by
      obtain ⟨p, hp, rfl⟩ := List.mem_map.mp hb
      have := ok.pr p hp
      have h6 : ∀ n, n ≤ 6 → 1 ≤ n → n ∣ 60 := by decide
      exact h6 _ this.2.1 this.1
    have h2 : lcmL (if s.rel ≠ 0 ∧ s.ps ≠ [] ∧ s.ls.length > s.ps.length then [s.rel.toNat * s.ps.length] else []) ≤ 20 := by
      split
      · rw [lcmL_cons, show lcmL [] = 1 from rfl, Nat.lcm_one_right]
        have h3 : s.rel.toNat ≤ 4 := by have := ok.r4; omega
        exact Nat.mul_le_mul h3 ok.pl
      · exact (by decide : lcmL [] ≤ 20)
    refine Nat.le_trans (Nat.le_of_dvd (Nat.mul_pos ?_ ?_) (Nat.lcm_dvd_mul _ _)) ?_
    · exact Nat.pos_of_dvd_of_pos h1 (by decide)
    · exact lcmL_pos fun b hb => (sizes_pos ok b (List.mem_append_right _ hb)).1
    · exact Nat.mul_le_mul (Nat.le_of_dvd (by decide) h1) h2
    )) only [↓bx_true]

theorem least_of {p : Nat → Prop} : ∀ n, p n → ∃ m, m ≤ n ∧ p m ∧ ∀ k, k < m → ¬ p k := by
  intro n
  induction n using Nat.strongRecOn with
  | ind n ih =>
    intro h
    by_cases hx : ∃ k, k < n ∧ p k
    · obtain ⟨k, hk, pk⟩ := hx
      obtain ⟨m, h1, h2, h3⟩ := ih k hk pk
      exact ⟨m, by omega, h2, h3⟩
    · exact ⟨n, Nat.le_refl _, h, fun k hk pk => hx ⟨k, hk, pk⟩⟩
theorem per_ex {s : Sc} (ok : ScOk s) : ∃ T, Per s T := by
  obtain ⟨i, j, hij, hj, e⟩ := pigeon _ (injL (firstOf s) s.ls.length) (fun i => rowAt s (i * spanOf s)) rfl fun i _ => mem_inj (row_len s _) (row_nd ok _) (row_sub ok.pe _)
  have sp := span_pos ok
  have hd : spanOf s ∣ (j - i) * spanOf s := Nat.dvd_mul_left ..
  have e2 : j * spanOf s = i * spanOf s + (j - i) * spanOf s := by rw [← Nat.add_mul]; congr 1; omega
  have b := row_back ok hd (i * spanOf s) (Nat.le_refl _) (by rw [← e2]; exact e)
  rw [Nat.sub_self, Nat.zero_add] at b
  obtain ⟨T, hT, ⟨t1, t2, t3⟩, t4⟩ := least_of (p := fun k => 0 < k ∧ k % spanOf s = 0 ∧ rowAt s k = firstOf s) ((j - i) * spanOf s) ⟨Nat.mul_pos (by omega) sp, Nat.mod_eq_zero_of_dvd hd, b.symm⟩
  refine ⟨T, t1, t2, t3, fun k h1 h2 h3 => t4 k h2 ⟨h1, h3.1, h3.2⟩, Nat.le_trans hT ?_⟩
  rw [inj_len, show (firstOf s).length = s.ls.length by simp [firstOf]] at hj
  have h1 : j - i ≤ 720 := by have := ff_small _ ok.ll; omega
  exact Nat.le_trans (Nat.mul_le_mul h1 (span_le ok)) (by decide)
/-! what is lit -/
def reachOf (s : Sc) (w : Str) : Int := (s.ls.lookup w).getD 0
def shines (s : Sc) (b : Int) (q : Post × Str) : List Str := roomAt q.1.2.1 (b - q.1.2.2) :: if reachOf s q.2 = 1 then seesOf s.ns s.ss (roomAt q.1.2.1 (b - q.1.2.2)) else []
def shone (s : Sc) (b : Int) (row : List Str) : List Str := (s.ps.zip row).flatMap (shines s b)
def litOf (s : Sc) (row : List Str) (b : Int) : List Str := s.ns.filter fun z => decide (z ∈ shone s b row)
/-! in the program's own things -/
abbrev roundR (K : PySem.W.Frag) (p : Post) : Rep := aTup K [aTup K (p.2.1.map aStr), iInt p.2.2]
abbrev postR (K : PySem.W.Frag) (p : Post) : Rep := aTup K [aStr p.1, aTup K (p.2.1.map aStr), iInt p.2.2]
abbrev lampR (K : PySem.W.Frag) (p : Str × Int) : Rep := aTup K [aStr p.1, iInt p.2]
abbrev roundsF (K : PySem.W.Frag) (ps : List Post) : FR := ps.map fun p => (p.1, roundR K p)
abbrev lampsF (ls : List (Str × Int)) : FR := ls.map fun p => (p.1, iInt p.2)
abbrev rowsR (K : PySem.W.Frag) (s : Sc) (T : Nat) : List Rep := (List.range T).map fun k => aTupD ((rowAt s k).map aStr)
abbrev glowR (s : Sc) (T : Nat) : List Rep := (List.range T).map fun k => iLst ((litOf s (rowAt s k) (k : Nat)).map aStr)
abbrev sceneF (K : PySem.W.Frag) (C : Addr) (s : Sc) (Rr Rg : Rep) : FR := [("inside", iHouse C s.ns s.ds s.ss), ("rounds", iDF (roundsF K s.ps)), ("lamps", iDF (lampsF s.ls)), ("meeting", iBl s.meet), ("relieving", iInt s.rel), ("rows", Rr), ("glow", Rg)]
theorem look_map {α : Type} (f : α → Str) (g : α → Rep) : ∀ {l : List α} {p : α}, (l.map f).Nodup → p ∈ l → (l.map fun q => (f q, g q)).lookup (f p) = some (g p)
  | a :: l, p, nd, h => by
    rw [List.map_cons, List.nodup_cons] at nd
    rw [List.map_cons, List.lookup_cons]
    rcases List.mem_cons.mp h with e | h
    · subst e; rw [beq_self_eq_true]
    · have ne : (f p == f a) = false := beq_eq_false_iff_ne.mpr fun e => nd.1 (e ▸ List.mem_map.mpr ⟨p, h, rfl⟩)
      rw [ne]
      exact look_map f g nd.2 h
theorem look_none {α : Type} (f : α → Str) (g : α → Rep) {z : Str} : ∀ {l : List α}, z ∉ l.map f → (l.map fun q => (f q, g q)).lookup z = none
  | [], _ => rfl
  | a :: l, h => by
    rw [List.map_cons, List.mem_cons] at h
    rw [List.map_cons, List.lookup_cons, show (z == f a) = false from beq_eq_false_iff_ne.mpr fun e => h (.inl e)]
    exact look_none f g fun w => h (.inr w)
theorem reach_at {s : Sc} (ok : ScOk s) {p : Str × Int} (h : p ∈ s.ls) : reachOf s p.1 = p.2 := by
  refine bx_of ?_
  simp (disch := with_unfolding_all (
    have gen : ∀ l : List (Str × Int), (l.map (·.1)).Nodup → p ∈ l → l.lookup p.1 = some p.2 := by
      intro l
      induction l with
      | nil => intro _ h; cases h
      | cons a l ih =>
        intro nd h
        obtain ⟨a1, a2⟩ := a
        rw [List.map_cons, List.nodup_cons] at nd
        rw [List.lookup_cons]
        rcases List.mem_cons.mp h with e | h
        · rw [e, beq_self_eq_true]
        · rw [show (p.1 == a1) = false from beq_eq_false_iff_ne.mpr fun e => nd.1 (e ▸ List.mem_map.mpr ⟨p, h, rfl⟩)]
          exact ih nd.2 h
    unfold reachOf
    rw [gen s.ls ok.ld h]
    rfl
    )) only [↓bx_true]

end Dk

/-! rounds that the law draws -/
namespace Dk
open PySem L2 RZ L3
def relR (ds : List (Str × Str)) (a b : Str) : Prop := a = b ∨ (a, b) ∈ ds ∨ (b, a) ∈ ds
theorem relR.symm {ds : List (Str × Str)} {a b : Str} (h : relR ds a b) : relR ds b a := by
  rcases h with h | h | h
  · exact .inl h.symm
  · exact .inr (.inr h)
  · exact .inr (.inl h)
structure RoundOk (ns : List Str) (ds : List (Str × Str)) (limit : Nat) (l : List Str) : Prop where
  l1 : 1 ≤ l.length
  l6 : l.length ≤ limit
  ln : ∀ z ∈ l, z ∈ ns
  cy : ∀ i, i < l.length → relR ds (l.getD i Str.empty) (l.getD ((i + 1) % l.length) Str.empty)
def Chain (ds : List (Str × Str)) (l : List Str) : Prop := ∀ i, i + 1 < l.length → relR ds (l.getD i Str.empty) (l.getD (i + 1) Str.empty)
theorem chain_add {ds : List (Str × Str)} {l : List Str} {z : Str} (h : Chain ds l) (hz : relR ds (l.getD (l.length - 1) Str.empty) z) : Chain ds (l ++ [z]) := by
  intro i hi
  have h1 := h i
  rw [List.length_append, List.length_singleton] at hi
  rcases Nat.lt_or_ge (i + 1) l.length with h2 | h2
  · have := h1 h2
    grind
  · have e : i = l.length - 1 := by omega
    subst e
    grind
theorem closed {ds : List (Str × Str)} {l : List Str} (h : Chain ds l) (hl : 1 ≤ l.length) (hz : relR ds (l.getD (l.length - 1) Str.empty) (l.getD 0 Str.empty)) : ∀ i, i < l.length → relR ds (l.getD i Str.empty) (l.getD ((i + 1) % l.length) Str.empty) := by
  intro i hi
  rcases Nat.lt_or_ge (i + 1) l.length with h2 | h2
  · rw [Nat.mod_eq_of_lt h2]
    exact h i h2
  · have e : i + 1 = l.length := by omega
    rw [e, Nat.mod_self, show i = l.length - 1 by omega]
    exact hz
/-- forth and back -/
def backL (l : List Str) (k : Nat) : List Str := l.take (k + 1) ++ (((l.take (k + 1)).drop 1).take (k - 1)).reverse
theorem back_len {l : List Str} {k : Nat} (h : k + 1 ≤ l.length) (hk : 1 ≤ k) : (backL l k).length = 2 * k := by
  unfold backL
  simp
  omega
theorem back_at {l : List Str} {k : Nat} (h : k + 1 ≤ l.length) (hk : 1 ≤ k) (i : Nat) (hi : i < 2 * k) : (backL l k).getD i Str.empty = l.getD (if i ≤ k then i else 2 * k - i) Str.empty := by
  unfold backL
  rw [List.getD_eq_getElem?_getD, List.getD_eq_getElem?_getD]
  split
  · rw [List.getElem?_append_left (by simp; omega), List.getElem?_take_of_lt (by omega)]
  · rw [List.getElem?_append_right (by simp; omega), List.getElem?_reverse (by simp; omega), List.getElem?_take_of_lt (by simp; omega), List.getElem?_drop, List.getElem?_take_of_lt (by simp; omega)]
    congr 2
    simp
    omega
theorem back_cy {ds : List (Str × Str)} {l : List Str} {k : Nat} (hc : Chain ds l) (h : k + 1 ≤ l.length) (hk : 1 ≤ k) : ∀ i, i < (backL l k).length → relR ds ((backL l k).getD i Str.empty) ((backL l k).getD ((i + 1) % (backL l k).length) Str.empty) := by
  refine bx_of ?_
  simp (disch := with_unfolding_all (
    intro i hi
    rw [back_len h hk] at hi ⊢
    rw [back_at h hk i hi, back_at h hk _ (Nat.mod_lt _ (by omega))]
    rcases Nat.lt_or_ge i k with h1 | h1
    · rw [Nat.mod_eq_of_lt (by omega), if_pos (by omega), if_pos (by omega)]
      exact hc i (by omega)
    · have e1 : (if i ≤ k then i else 2 * k - i) = 2 * k - i := by split <;> omega
      have e2 : (if (i + 1) % (2 * k) ≤ k then (i + 1) % (2 * k) else 2 * k - (i + 1) % (2 * k)) = 2 * k - (i + 1) := by
        rcases Nat.lt_or_ge (i + 1) (2 * k) with h2 | h2
        · rw [Nat.mod_eq_of_lt h2]
          split <;> omega
        · rw [show i + 1 = 2 * k by omega, Nat.mod_self, if_pos (by omega)]
          omega
      rw [e1, e2]
      have := hc (2 * k - (i + 1)) (by omega)
      rw [show 2 * k - (i + 1) + 1 = 2 * k - i by omega] at this
      exact this.symm
    )) only [↓bx_true]

theorem back_ok {ns : List Str} {ds : List (Str × Str)} {l : List Str} {limit : Nat} (hc : Chain ds l) (hn : ∀ z ∈ l, z ∈ ns) (h2 : 2 ≤ l.length) (h6 : l.length ≤ limit) : RoundOk ns ds limit (backL l (l.length / 2)) where
  l1 := by rw [back_len (by omega) (by omega)]; omega
  l6 := by rw [back_len (by omega) (by omega)]; omega
  ln := fun z hz => by
    unfold backL at hz
    rcases List.mem_append.mp hz with h | h
    · exact hn z (List.mem_of_mem_take h)
    · exact hn z (List.mem_of_mem_take (List.mem_of_mem_drop (List.mem_of_mem_take (List.mem_reverse.mp h))))
  cy := back_cy hc (by omega) (by omega)
def handOf (ns : List Str) (ds : List (Str × Str)) (z : Str) : List Str := ns.filter fun y => decide (y = z) || decide (y ∈ nearOf ns ds z)
theorem near_rel {ns : List Str} {ds : List (Str × Str)} {z y : Str} (h : y ∈ nearOf ns ds z) : y ∈ ns ∧ relR ds z y := by
  unfold nearOf at h
  rw [List.mem_filter, Bool.or_eq_true, decide_eq_true_eq, decide_eq_true_eq] at h
  exact ⟨h.1, .inr h.2⟩
theorem hand_rel {ns : List Str} {ds : List (Str × Str)} {z y : Str} (h : y ∈ handOf ns ds z) : relR ds z y := by
  unfold handOf at h
  rw [List.mem_filter, Bool.or_eq_true, decide_eq_true_eq, decide_eq_true_eq] at h
  rcases h.2 with h | h
  · exact .inl h.symm
  · exact (near_rel h).2
theorem hand_self {ns : List Str} {ds : List (Str × Str)} {z : Str} (h : z ∈ ns) : z ∈ handOf ns ds z := by
  unfold handOf
  rw [List.mem_filter]
  exact ⟨h, by simp⟩
theorem at_m1 {l : List Str} (h : 1 ≤ l.length) : atI (l.map aStr) (-1) = some (aStr (l.getD (l.length - 1) Str.empty)) := by
  unfold atI ixN
  rw [List.length_map, if_neg (by decide), if_pos (by omega)]
  have e : ((-1 : Int) + (l.length : Int)).toNat = l.length - 1 := by omega
  rw [e]
  show (l.map aStr)[l.length - 1]? = _
  rw [List.getElem?_map, List.getD_eq_getElem?_getD, List.getElem?_eq_getElem (by omega)]
  rfl
theorem last_in {l ns : List Str} (h : 1 ≤ l.length) (hn : ∀ z ∈ l, z ∈ ns) : l.getD (l.length - 1) Str.empty ∈ ns := by
  rw [List.getD_eq_getElem?_getD, List.getElem?_eq_getElem (by omega)]
  exact hn _ (List.getElem_mem _)
theorem cutL_mid {α : Type} (l : List α) : cutL l (some 1) (some (-1)) = (l.drop 1).take (l.length - 2) := by
  unfold cutL
  have e : HT.sIx l.length l.length (some (-1)) = l.length - 1 := by
    show (if (-1 : Int) < 0 then ((-1 : Int) + (l.length : Int)).toNat else min (-1 : Int).toNat l.length) = _
    rw [if_pos (show (-1 : Int) < 0 by decide)]
    omega
  have e1 : HT.sIx l.length 0 (some 1) = min 1 l.length := HT.sIx_nat l.length 0 1
  rw [e, e1]
  cases l with
  | nil => rfl
  | cons a l => simp
end Dk
namespace Dk
open PySem L2 RZ L3
/-- what a scene is made of, the house's doors and sights as they are told (raw) -/
structure DrOk (rooms posts size : Nat) (r : Sc) : Prop where
  ho : HouseOk rooms r.ns r.ds r.ss
  pl : r.ps.length ≤ posts
  pd : (r.ps.map (·.1)).Nodup
  pn : ∀ p ∈ r.ps, NmOk p.1
  pr : ∀ p ∈ r.ps, RoundOk r.ns r.ds size p.2.1 ∧ 0 ≤ p.2.2 ∧ p.2.2 < p.2.1.length
  ll : r.ls.length ≤ 6
  lp : r.ps.length ≤ r.ls.length
  ld : (r.ls.map (·.1)).Nodup
  ln : ∀ p ∈ r.ls, NmOk p.1 ∧ 0 ≤ p.2 ∧ p.2 ≤ 1
  r0 : 0 ≤ r.rel
  r4 : r.rel ≤ 4
abbrev madeF (K : PySem.W.Frag) (r : Sc) : FR := [("house", iHs K r.ns r.ds r.ss), ("posts", iLst (r.ps.map (postR K))), ("lamps", iLst (r.ls.map (lampR K))), ("meet", iBl r.meet), ("relief", iInt r.rel)]
def builtOf (r : Sc) : Sc := { r with ds := doorsOf r.ds, ss := sightsOf r.ss }
theorem built_ok {rooms posts size : Nat} {r : Sc} (h : DrOk rooms posts size r) (h1 : rooms ≤ 8) (h2 : posts ≤ 5) (h3 : size ≤ 6) : ScOk (builtOf r) where
  nl := Nat.le_trans h.ho.n1 h1
  nn := fun z hz c hc => by have := (h.ho.nm z hz).2.2 c hc; omega
  pl := Nat.le_trans h.pl h2
  pd := h.pd
  pr := fun p hp => by
    obtain ⟨a, b, c⟩ := h.pr p hp
    exact ⟨a.l1, Nat.le_trans a.l6 h3, a.ln, b, c⟩
  ll := h.ll
  ld := h.ld
  lo := fun p hp c hc => by have := (h.ln p hp).1.2.2 c hc; omega
  pe := h.lp
  r0 := h.r0
  r4 := h.r4
end Dk

/-! the law's own rows: forth and back -/
namespace Dk
open PySem L2 RZ L3
def rowZ (s : Sc) (T : Nat) (b : Int) : List Str := rowAt s (b % (T : Int)).toNat
theorem per_mod {s : Sc} (ok : ScOk s) {T : Nat} (p : Per s T) : spanOf s ∣ T := Nat.dvd_of_mod_eq_zero p.dv
theorem rowZ_len (s : Sc) (T : Nat) (b : Int) : (rowZ s T b).length = s.ls.length := row_len s _
theorem rowZ_sub {s : Sc} (ok : ScOk s) (T : Nat) (b : Int) : ∀ z ∈ rowZ s T b, z ∈ firstOf s := row_sub ok.pe _
theorem rowZ_nd {s : Sc} (ok : ScOk s) (T : Nat) (b : Int) : (rowZ s T b).Nodup := row_nd ok _
theorem split_at {l : List Str} {n i : Nat} (hi : i < n) (hn : n < l.length) : ∃ A B C x y, l = A ++ x :: (B ++ y :: C) ∧ i = A.length ∧ n = A.length + (B.length + 1) := by
  refine ⟨l.take i, (l.drop (i + 1)).take (n - (i + 1)), l.drop (n + 1), l[i], l[n], ?_, by simp; omega, by simp; omega⟩
  have h1 : l.drop (n + 1) = (l.drop (i + 1)).drop (n - (i + 1) + 1) := by rw [List.drop_drop]; congr 1; omega
  have h2 : l[n] = (l.drop (i + 1))[n - (i + 1)]'(by simp; omega) := by
    rw [List.getElem_drop]
    congr 1
    omega
  rw [h1, h2, ← List.drop_eq_getElem_cons, List.take_append_drop, ← List.drop_eq_getElem_cons, List.take_append_drop]
theorem ease_dec (A B C : List Str) (x y : Str) : easeL (A.length + (B.length + 1)) A.length (A ++ x :: (B ++ y :: C)) = A ++ y :: (B ++ (C ++ [x])) := by
  unfold easeL
  simp [List.getD_eq_getElem?_getD, List.getElem?_append_right, List.eraseIdx_append_of_length_le, List.set_append_right]
theorem ease_cut {n i : Nat} {l : List Str} (hi : i < n) (hn : n < l.length) : l.take i ++ [l.getD n e0] ++ (l.drop (i + 1)).take (n - (i + 1)) ++ (l.drop (n + 1) ++ [l.getD i e0]) = easeL n i l := by
  obtain ⟨A, B, C, x, y, rfl, rfl, rfl⟩ := split_at hi hn
  rw [ease_dec]
  have e1 : A.length + (B.length + 1) - (A.length + 1) = B.length := by omega
  rw [e1]
  have d1 : ∀ k, A.drop (A.length + k) = [] := fun k => List.drop_of_length_le (by omega)
  have d2 : A.length + (B.length + 1) + 1 - A.length = B.length + 1 + 1 := by omega
  have d3 : A.drop (A.length + (B.length + 1) + 1) = [] := List.drop_of_length_le (by omega)
  simp [List.getD_eq_getElem?_getD, List.getElem?_append_right, List.drop_append, List.take_append, d1, d2, d3]
/-- the meetings, where there are any -/
def mtOut (b : Bool) (sp : List Str) (m : Nat) (l : List Str) : List Str := if b = true then meetOut sp m l else l
def mtIn (b : Bool) (sp : List Str) (i m : Nat) (l : List Str) : List Str := if b = true then meetIn sp i m l else l
theorem row_all {s : Sc} (ok : ScOk s) (T : Nat) (b : Int) {z : Str} (h : z ∈ firstOf s) : z ∈ rowZ s T b := by
  refine bx_of ?_
  simp (disch := with_unfolding_all (
    have key : ∀ (l m : List Str), l.Nodup → m.length = l.length → (∀ x ∈ l, x ∈ m) → ∀ x ∈ m, x ∈ l := by
      intro l
      induction l with
      | nil => intro m _ hm _ x hx; rw [List.length_eq_zero_iff.mp hm] at hx; exact hx
      | cons a l ih =>
        intro m nd hm hs x hx
        rw [List.nodup_cons] at nd
        have ha : a ∈ m := hs a (List.mem_cons_self ..)
        by_cases e : x = a
        · rw [e]; exact List.mem_cons_self ..
        · refine List.mem_cons_of_mem _ (ih (m.erase a) nd.2 (by rw [List.length_erase_of_mem ha, hm]; simp) (fun y hy => ?_) x ((List.mem_erase_of_ne e).mpr hx))
          exact (List.mem_erase_of_ne (fun c => nd.1 (by rw [← c]; exact hy))).mpr (hs y (List.mem_cons_of_mem _ hy))
    exact key (rowZ s T b) (firstOf s) (rowZ_nd ok T b) (by rw [rowZ_len]; simp [firstOf]) (rowZ_sub ok T b) z h
    )) only [↓bx_true]

theorem glow_ix {K : PySem.W.Frag} {M : SH} {s : Sc} {T : Nat} (b : Int) (hT : 0 < T) : O2p (rIxL K) (iLst (glowR s T)) (iInt (b % ((glowR s T).length : Int))) M (iLst ((litOf s (rowZ s T b) (b % (T : Int))).map aStr)) := by
  have e : (glowR s T).length = T := by simp [glowR]
  have h0 := Int.emod_nonneg b (show (T : Int) ≠ 0 by omega)
  have h1 := Int.emod_lt_of_pos b (show (0 : Int) < T by omega)
  have hn : (b % (T : Int)).toNat < (List.range T).length := by rw [List.length_range]; omega
  have := o_ixN (K := K) (M := M) (l := List.range T) (g := fun k => iLst ((litOf s (rowAt s k) (k : Nat)).map aStr)) (x := b % (T : Int)) (b % (T : Int)).toNat (by omega) hn
  rw [e]
  rw [List.getElem_range] at this
  have e2 : (((b % (T : Int)).toNat : Nat) : Int) = b % (T : Int) := by omega
  rw [e2] at this
  exact this
theorem len_pos {α : Type} {f : Nat → α} {T : Nat} (h : 0 < T) : (0 : Int) < (((List.range T).map f).length : Int) := by
  simp
  exact h
/-- who bears a post -/
def bearer (s : Sc) (T : Nat) (b : Int) (p : Post) : Str := (rowZ s T b).getD ((s.ps.map (·.1)).idxOf p.1) e0
/-- the post of who stands at a place, or none -/
def postD (s : Sc) (i : Nat) : PyData := if h : i < s.ps.length then .str s.ps[i].1 else .none
theorem nd_idx {l : List Str} (nd : l.Nodup) {i : Nat} (h : i < l.length) : l.idxOf l[i] = i := List.Nodup.idxOf_getElem nd i h
theorem roomAt_mod {l : List Str} {T : Nat} (h : l.length ∣ T) (b d : Int) : roomAt l (b % (T : Int) - d) = roomAt l (b - d) := by
  obtain ⟨c, rfl⟩ := h
  unfold roomAt
  have e : b - d = (b % ((l.length * c : Nat) : Int) - d) + (l.length : Int) * ((c : Int) * (b / ((l.length * c : Nat) : Int))) := by
    have := Int.emod_add_mul_ediv b ((l.length * c : Nat) : Int)
    have e2 : ((l.length * c : Nat) : Int) * (b / ((l.length * c : Nat) : Int)) = (l.length : Int) * ((c : Int) * (b / ((l.length * c : Nat) : Int))) := by
      push_cast
      rw [Int.mul_assoc]
    omega
  rw [e, Int.add_mul_emod_self_left]
theorem post_mod {s : Sc} (ok : ScOk s) {T : Nat} (per : Per s T) {p : Post} (hp : p ∈ s.ps) (b d : Int) : roomAt p.2.1 (b % (T : Int) - d) = roomAt p.2.1 (b - d) := by
  refine roomAt_mod (Nat.dvd_trans (dvd_lcmL ?_) (per_mod ok per)) b d
  unfold sizesOf
  exact List.mem_append_left _ (List.mem_map.mpr ⟨p, hp, rfl⟩)
theorem lit_mod {s : Sc} (ok : ScOk s) {T : Nat} (per : Per s T) (row : List Str) (b : Int) : litOf s row (b % (T : Int)) = litOf s row b := by
  refine bx_of ?_
  simp (disch := with_unfolding_all (
    unfold litOf
    refine List.filter_congr fun z _ => ?_
    have e : shone s (b % (T : Int)) row = shone s b row := by
      unfold shone
      have gen : ∀ L : List (Post × Str), (∀ q ∈ L, q.1 ∈ s.ps) → L.flatMap (shines s (b % (T : Int))) = L.flatMap (shines s b) := by
        intro L
        induction L with
        | nil => intro _; rfl
        | cons q L ih =>
          intro h
          rw [List.flatMap_cons, List.flatMap_cons, ih fun q hq => h q (List.mem_cons_of_mem _ hq)]
          have e2 : shines s (b % (T : Int)) q = shines s b q := by
            unfold shines
            rw [post_mod ok per (h q (List.mem_cons_self ..))]
          rw [e2]
      exact gen _ fun q hq => (List.of_mem_zip (a := q.1) (b := q.2) hq).1
    rw [e]
    )) only [↓bx_true]

end Dk

/-! the changes of a span, done again and again -/
namespace Dk
open PySem L2 RZ L3
theorem getD_map {f : Str → Str} {l : List Str} {i : Nat} (h : i < l.length) : (l.map f).getD i e0 = f (l.getD i e0) := by
  simp [List.getD_eq_getElem?_getD, h]
theorem swap_nat (f : Str → Str) {l : List Str} {i j : Nat} (hi : i < l.length) (hj : j < l.length) : swapL (l.map f) i j = (swapL l i j).map f := by
  unfold swapL
  rw [getD_map hi, getD_map hj, List.map_set, List.map_set]
theorem meetIn_nat (f : Str → Str) (sp : List Str) (i : Nat) {l : List Str} : ∀ m, i + m < l.length → meetIn sp i m (l.map f) = (meetIn sp i m l).map f
  | 0, _ => rfl
  | m + 1, h => by
    rw [meetIn, meetIn, meetIn_nat f sp i m (by omega), meet1, meet1]
    split
    · exact swap_nat f (by rw [meetIn_len]; omega) (by rw [meetIn_len]; omega)
    · rfl
theorem meetOut_nat (f : Str → Str) (sp : List Str) {l : List Str} (hl : sp.length ≤ l.length) : ∀ m, m ≤ sp.length → meetOut sp m (l.map f) = (meetOut sp m l).map f
  | 0, _ => rfl
  | m + 1, h => by
    rw [meetOut, meetOut, meetOut_nat f sp hl m (by omega), meetIn_nat f sp m _ (by rw [meetOut_len]; omega)]
theorem ease_nat (f : Str → Str) {n i : Nat} {l : List Str} (hi : i < n) (hn : n < l.length) : easeL n i (l.map f) = (easeL n i l).map f := by
  rw [← ease_cut hi (by rw [List.length_map]; exact hn), ← ease_cut hi hn, getD_map hn, getD_map (by omega)]
  simp [List.map_take, List.map_drop]
theorem change_nat {s : Sc} (f : Str → Str) (b : Int) {l : List Str} (hl : s.ps.length ≤ l.length) : changeL s b (l.map f) = (changeL s b l).map f := by
  have em : meetsL s b (l.map f) = (meetsL s b l).map f := by
    unfold meetsL
    split
    · exact meetOut_nat f _ (by rw [spots_len]; exact hl) _ (by rw [spots_len]; exact Nat.le_refl _)
    · rfl
  unfold changeL
  rw [List.length_map, em]
  split
  · rename_i h
    exact ease_nat f (easeAt_lt h).1 (by rw [meetsL_len]; exact h.2.2.2)
  · rfl
/-- so many beats on, from a beat -/
def goL (s : Sc) (a : Int) : Nat → List Str → List Str
  | 0, l => l
  | n + 1, l => changeL s (a + (n + 1 : Nat)) (goL s a n l)
theorem go_len (s : Sc) (a : Int) : ∀ n l, (goL s a n l).length = l.length
  | 0, l => rfl
  | n + 1, l => by rw [goL, change_len, go_len s a n l]
theorem go_row (s : Sc) (k : Nat) : ∀ n, rowAt s (k + n) = goL s (k : Nat) n (rowAt s k)
  | 0 => rfl
  | n + 1 => by
    rw [show k + (n + 1) = (k + n) + 1 by omega, rowAt, goL, ← go_row s k n]
    congr 1
theorem go_per {s : Sc} (ok : ScOk s) {d : Nat} (hd : spanOf s ∣ d) {l : List Str} (hl : l.length = s.ls.length) : ∀ n, goL s (d : Nat) n l = goL s 0 n l
  | 0 => rfl
  | n + 1 => by
    rw [goL, goL, go_per ok hd hl n, show (d : Int) + ((n + 1 : Nat) : Int) = (0 + ((n + 1 : Nat) : Int)) + (d : Nat) by omega]
    exact change_per ok hd _ (by rw [go_len]; exact hl)
theorem go_nat {s : Sc} (f : Str → Str) (a : Int) {l : List Str} (hl : s.ps.length ≤ l.length) : ∀ n, goL s a n (l.map f) = (goL s a n l).map f
  | 0 => rfl
  | n + 1 => by rw [goL, goL, go_nat f a hl n, change_nat f _ (by rw [go_len]; exact hl)]
def rowK (s : Sc) (k : Nat) : List Str := rowAt s (k * spanOf s)
theorem rowK_len (s : Sc) (k : Nat) : (rowK s k).length = s.ls.length := row_len s _
theorem first_nd {s : Sc} (ok : ScOk s) : (firstOf s).Nodup := ok.ld
theorem first_len (s : Sc) : (firstOf s).length = s.ls.length := by simp [firstOf]
theorem rowK_next {s : Sc} (ok : ScOk s) (k : Nat) : rowK s (k + 1) = goL s 0 (spanOf s) (rowK s k) := by
  unfold rowK
  rw [Nat.succ_mul, go_row, go_per ok (Nat.dvd_mul_left ..) (row_len s _)]
theorem rowK_0 (s : Sc) : rowK s 0 = firstOf s := by
  unfold rowK
  rw [Nat.zero_mul]
  rfl
/-- each behind a span is the first one's, by the names of the one ahead -/
theorem rowK_map {s : Sc} (ok : ScOk s) (k : Nat) : rowK s (k + 1) = (rowK s 1).map fun w => (rowK s k).getD ((firstOf s).idxOf w) e0 := by
  refine bx_of ?_
  simp (disch := with_unfolding_all (
    have e : rowK s k = (firstOf s).map fun w => (rowK s k).getD ((firstOf s).idxOf w) e0 := by
      refine List.ext_getElem? fun i => ?_
      rw [List.getElem?_map]
      rcases Nat.lt_or_ge i s.ls.length with h | h
      · have h1 : i < (firstOf s).length := by rw [first_len]; exact h
        have h2 : i < (rowK s k).length := by rw [rowK_len]; exact h
        rw [List.getElem?_eq_getElem h1, List.getElem?_eq_getElem h2]
        show _ = some ((rowK s k).getD ((firstOf s).idxOf (firstOf s)[i]) e0)
        rw [nd_idx (first_nd ok) h1, List.getD_eq_getElem?_getD, List.getElem?_eq_getElem h2]
        rfl
      · rw [List.getElem?_eq_none (by rw [rowK_len]; exact h), List.getElem?_eq_none (by rw [first_len]; exact h)]
        rfl
    rw [rowK_next ok k, rowK_next ok 0, rowK_0, ← go_nat _ 0 (by rw [first_len]; exact ok.pe), ← e]
    )) only [↓bx_true]

def qAt (s : Sc) (k : Nat) : List Nat := (firstOf s).map fun w => (rowK s k).idxOf w
theorem rowK_nd {s : Sc} (ok : ScOk s) (k : Nat) : (rowK s k).Nodup := row_nd ok _
theorem rowK_all {s : Sc} (ok : ScOk s) (k : Nat) {z : Str} (h : z ∈ firstOf s) : z ∈ rowK s k := by
  have := row_all (s := s) ok (k * spanOf s + 1) ((k * spanOf s : Nat) : Int) h
  unfold rowZ at this
  rw [Int.emod_eq_of_lt (by omega) (by omega)] at this
  exact this
theorem q_next {s : Sc} (ok : ScOk s) (k : Nat) : qAt s (k + 1) = (qAt s k).map fun a => (qAt s 1).getD a 0 := by
  refine bx_of ?_
  simp (disch := with_unfolding_all (
    unfold qAt
    rw [List.map_map]
    refine List.map_congr_left fun w hw => ?_
    show (rowK s (k + 1)).idxOf w = ((firstOf s).map fun w => (rowK s 1).idxOf w).getD ((rowK s k).idxOf w) 0
    have hk := rowK_all ok k hw
    have hi := List.idxOf_lt_length_of_mem hk
    have hw2 : (rowK s k)[(rowK s k).idxOf w] = w := List.getElem_idxOf hi
    generalize (rowK s k).idxOf w = i at hi hw2
    have hi1 : i < (firstOf s).length := by rw [first_len, ← rowK_len s k]; exact hi
    rw [List.getD_eq_getElem?_getD, List.getElem?_map, List.getElem?_eq_getElem hi1]
    show _ = (rowK s 1).idxOf (firstOf s)[i]
    have hu := rowK_all ok 1 (List.getElem_mem hi1)
    have hj := List.idxOf_lt_length_of_mem hu
    have hj2 : (rowK s 1)[(rowK s 1).idxOf (firstOf s)[i]] = (firstOf s)[i] := List.getElem_idxOf hj
    generalize (rowK s 1).idxOf (firstOf s)[i] = j at hj hj2
    have hj3 : j < (rowK s (k + 1)).length := by rw [rowK_len, ← rowK_len s 1]; exact hj
    have e : (rowK s (k + 1))[j] = w := by
      have h1 : (rowK s (k + 1))[j]? = some w := by
        rw [rowK_map ok k, List.getElem?_map, List.getElem?_eq_getElem hj]
        show some ((rowK s k).getD ((firstOf s).idxOf (rowK s 1)[j]) e0) = _
        rw [hj2, nd_idx (first_nd ok) hi1, List.getD_eq_getElem?_getD, List.getElem?_eq_getElem hi, hw2]
        rfl
      rw [List.getElem?_eq_getElem hj3] at h1
      exact Option.some.inj h1
    rw [← e]
    exact nd_idx (rowK_nd ok _) hj3
    )) only [↓bx_true]

theorem q_id {s : Sc} (ok : ScOk s) (k : Nat) : qAt s k = List.range s.ls.length ↔ rowK s k = firstOf s := by
  refine bx_of ?_
  simp (disch := with_unfolding_all (
    constructor
    · intro h
      refine List.ext_getElem? fun i => ?_
      rcases Nat.lt_or_ge i s.ls.length with hi | hi
      · have h1 : i < (firstOf s).length := by rw [first_len]; exact hi
        have h2 : (qAt s k)[i]? = some i := by rw [h]; exact List.getElem?_range hi
        unfold qAt at h2
        rw [List.getElem?_map, List.getElem?_eq_getElem h1] at h2
        have h3 : (rowK s k).idxOf (firstOf s)[i] = i := Option.some.inj h2
        have hm := rowK_all ok k (List.getElem_mem h1)
        have h4 := idx_at hm
        rw [h3] at h4
        rw [h4.1, List.getElem?_eq_getElem h1]
      · rw [List.getElem?_eq_none (by rw [rowK_len]; exact hi), List.getElem?_eq_none (by rw [first_len]; exact hi)]
    · intro h
      unfold qAt
      rw [h]
      refine List.ext_getElem? fun i => ?_
      rw [List.getElem?_map]
      rcases Nat.lt_or_ge i s.ls.length with hi | hi
      · have h1 : i < (firstOf s).length := by rw [first_len]; exact hi
        rw [List.getElem?_eq_getElem h1, List.getElem?_range hi]
        show some ((firstOf s).idxOf (firstOf s)[i]) = _
        rw [nd_idx (first_nd ok) h1]
      · rw [List.getElem?_eq_none (by rw [first_len]; exact hi), List.getElem?_eq_none (by rw [List.length_range]; exact hi)]
        rfl
    )) only [↓bx_true]

def itP (p : List Nat) : Nat → List Nat
  | 0 => p
  | k + 1 => (itP p k).map fun a => p.getD a 0
theorem q_it {s : Sc} (ok : ScOk s) : ∀ k, qAt s (k + 1) = itP (qAt s 1) k
  | 0 => rfl
  | k + 1 => by rw [q_next ok (k + 1), q_it ok k]; rfl
/-! every order of at most six comes back within six turns -/
def permN : List Nat → Nat → List (List Nat)
  | _, 0 => [[]]
  | a, n + 1 => a.flatMap fun x => (permN (a.erase x) n).map fun l => x :: l
theorem mem_perm : ∀ {n : Nat} {a l : List Nat}, l.length = n → l.Nodup → (∀ z ∈ l, z ∈ a) → l ∈ permN a n
  | 0, a, l, h, _, _ => by rw [List.length_eq_zero_iff.mp h]; simp [permN]
  | n + 1, a, [], h, _, _ => by simp at h
  | n + 1, a, x :: l, h, nd, hz => by
    rw [List.nodup_cons] at nd
    rw [permN, List.mem_flatMap]
    refine ⟨x, hz x (List.mem_cons_self ..), List.mem_map.mpr ⟨l, mem_perm (by simpa using h) nd.2 (fun z h => ?_), rfl⟩⟩
    exact (List.mem_erase_of_ne (fun e => nd.1 (by rw [← e]; exact h))).mpr (hz z (List.mem_cons_of_mem _ h))
def timesAt (p : List Nat) : Option Nat := (List.range 6).find? fun k => itP p k == List.range p.length
theorem back_5 : ∀ n : Fin 6, ((permN (List.range n.val) n.val).all fun p => (timesAt p).isSome) = true := by decide +kernel
/-- six, by the first one: the kernel's memory is given back between -/
def backAt (x : Nat) : Bool := (permN ((List.range 6).erase x) 5).all fun l => (timesAt (x :: l)).isSome
theorem back6_0 : backAt 0 = true := by decide +kernel
theorem back6_1 : backAt 1 = true := by decide +kernel
theorem back6_2 : backAt 2 = true := by decide +kernel
theorem back6_3 : backAt 3 = true := by decide +kernel
theorem back6_4 : backAt 4 = true := by decide +kernel
theorem back6_5 : backAt 5 = true := by decide +kernel
theorem back_6 : ((permN (List.range 6) 6).all fun p => (timesAt p).isSome) = true := by
  refine bx_of ?_
  simp (disch := with_unfolding_all (
    rw [permN, List.all_flatMap, List.all_eq_true]
    intro x hx
    rw [List.all_map]
    have h : x < 6 := List.mem_range.mp hx
    have e : ∀ y, backAt y = true → (permN ((List.range 6).erase y) 5).all ((fun p => (timesAt p).isSome) ∘ fun l => y :: l) = true := fun y h => h
    match x, h with
    | 0, _ => exact e 0 back6_0
    | 1, _ => exact e 1 back6_1
    | 2, _ => exact e 2 back6_2
    | 3, _ => exact e 3 back6_3
    | 4, _ => exact e 4 back6_4
    | 5, _ => exact e 5 back6_5
    )) only [↓bx_true]

theorem all_back (n : Fin 7) : ((permN (List.range n.val) n.val).all fun p => (timesAt p).isSome) = true := by
  rcases Nat.lt_or_ge n.val 6 with h | h
  · exact back_5 ⟨n.val, h⟩
  · have e : n.val = 6 := by omega
    rw [e]
    exact back_6
theorem q_len (s : Sc) (k : Nat) : (qAt s k).length = s.ls.length := by simp [qAt, firstOf]
theorem nd_map {f : Str → Nat} : ∀ {l : List Str}, l.Nodup → (∀ x ∈ l, ∀ y ∈ l, f x = f y → x = y) → (l.map f).Nodup
  | [], _, _ => by simp
  | a :: l, nd, h => by
    rw [List.nodup_cons] at nd
    rw [List.map_cons, List.nodup_cons]
    refine ⟨fun hm => ?_, nd_map nd.2 fun x hx y hy => h x (List.mem_cons_of_mem _ hx) y (List.mem_cons_of_mem _ hy)⟩
    obtain ⟨b, hb, e⟩ := List.mem_map.mp hm
    exact nd.1 (h b (List.mem_cons_of_mem _ hb) a (List.mem_cons_self ..) e ▸ hb)
theorem q_perm {s : Sc} (ok : ScOk s) (k : Nat) : qAt s k ∈ permN (List.range s.ls.length) s.ls.length := by
  refine mem_perm (q_len s k) ?_ fun z hz => ?_
  · unfold qAt
    refine nd_map (first_nd ok) fun x hx y hy e => ?_
    have h1 := idx_at (rowK_all ok k hx)
    have h2 := idx_at (rowK_all ok k hy)
    rw [e, h2.1] at h1
    exact (Option.some.inj h1.1).symm
  · unfold qAt at hz
    obtain ⟨w, hw, rfl⟩ := List.mem_map.mp hz
    rw [List.mem_range, ← rowK_len s k]
    exact List.idxOf_lt_length_of_mem (rowK_all ok k hw)
/-- the wheel is the span, as often as the turning comes back first -/
theorem wheel_times {s : Sc} (ok : ScOk s) {T : Nat} (per : Per s T) : ∃ k, timesAt (qAt s 1) = some k ∧ k < 6 ∧ T = spanOf s * (k + 1) := by
  refine bx_of ?_
  simp (disch := with_unfolding_all (
    have h6 := List.all_eq_true.mp (all_back ⟨s.ls.length, by have := ok.ll; omega⟩) (qAt s 1) (q_perm ok 1)
    obtain ⟨k, hk⟩ := Option.isSome_iff_exists.mp h6
    have sp := span_pos ok
    unfold timesAt at hk
    rw [List.find?_range_eq_some] at hk
    obtain ⟨h1, h2, h3⟩ := hk
    have e1 : rowK s (k + 1) = firstOf s := by
      rw [← q_id ok, q_it ok]
      have := eq_of_beq h1
      rw [q_len] at this
      exact this
    refine ⟨k, ?_, List.mem_range.mp h2, ?_⟩
    · unfold timesAt
      rw [List.find?_range_eq_some]
      exact ⟨h1, h2, h3⟩
    · obtain ⟨c, hc⟩ := per_mod ok per
      have hT : T ≤ spanOf s * (k + 1) := by
        rcases Nat.lt_or_ge (spanOf s * (k + 1)) T with h | h
        · refine absurd ⟨Nat.mul_mod_right _ _, ?_⟩ (per.least _ (Nat.mul_pos sp (by omega)) h)
          rw [Nat.mul_comm]
          exact e1
        · exact h
      have hc0 : 0 < c := by
        rcases Nat.eq_zero_or_pos c with h | h
        · rw [h, Nat.mul_zero] at hc
          have := per.pos
          omega
        · exact h
      rw [hc] at hT ⊢
      have hck : c ≤ k + 1 := Nat.le_of_mul_le_mul_left hT sp
      rcases Nat.lt_or_ge c (k + 1) with h | h
      · exfalso
        have hb := per.back
        rw [hc, Nat.mul_comm] at hb
        have hq := (q_id ok c).mpr hb
        obtain ⟨j, rfl⟩ : ∃ j, c = j + 1 := ⟨c - 1, by omega⟩
        rw [q_it ok j] at hq
        have := h3 j (by omega)
        rw [q_len, hq] at this
        simp at this
      · rw [show c = k + 1 by omega]
    )) only [↓bx_true]

end Dk

/-! steps -/
namespace Dk
open PySem L2 RZ L3
def hit (a b : Str) (t : Int) (p : Post) : Bool := decide (roomAt p.2.1 (t - 1 - p.2.2) = b) && decide (roomAt p.2.1 (t - p.2.2) = a)
def crossOf (s : Sc) (a b : Str) (t : Int) : Bool := !decide (a = b) && (s.ps.map (hit a b t)).any id
def onwardOf (s : Sc) (T : Nat) (z : Str) (t : Int) : List Str := (s.ns.filter fun y => decide ((z, y) ∈ s.ds) || decide (z = y)).filter fun y => (!decide (y ∈ litOf s (rowZ s T (t + 1)) ((t + 1) % (T : Int)))) && !crossOf s z y (t + 1)
end Dk

/-! scenes without changes; some beats later -/
namespace Dk
open PySem L2 RZ L3
structure Plain (s : Sc) : Prop where
  m : s.meet = false
  r : s.rel = 0
def lateP (m : Int) (p : Post) : Post := (p.1, p.2.1, (p.2.2 + m) % (p.2.1.length : Int))
def lateS (m : Int) (s : Sc) : Sc := { s with ps := s.ps.map (lateP m) }
end Dk

/-! rounds turned about -/
namespace Dk
open PySem L2 RZ L3
def turnL : List Str → List Str
  | [] => []
  | a :: l => a :: l.reverse
theorem room_per (l : List Str) (x : Int) (c : Int) : roomAt l (x + (l.length : Int) * c) = roomAt l x := by
  unfold roomAt
  rw [Int.add_mul_emod_self_left]
def aboutP (p : Post) : Post := (p.1, turnL p.2.1, -p.2.2 % (p.2.1.length : Int))
def aboutS (s : Sc) : Sc := { s with ps := s.ps.map aboutP }
end Dk

/-! ways: cells, steps from a cell -/
namespace Dk
open PySem L2 RZ L3
abbrev Cell := Str × Int
abbrev cellR (c : Cell) : Rep := aKey [.inr c.1, .inl c.2]
def succW (s : Sc) (T : Nat) (c : Cell) : List Cell := (onwardOf s T c.1 c.2).map fun y => (y, (c.2 + 1) % (T : Int))
def darkW (s : Sc) (T : Nat) (z : Str) (t : Int) : Bool := !decide (z ∈ litOf s (rowZ s T t) (t % (T : Int)))
def restsW (T : Nat) : Option Int → List Int
  | none => (List.range T).map fun i : Nat => (i : Int)
  | some b => [b % (T : Int)]
def beginW (s : Sc) (T : Nat) (starts : List Str) (b : Option Int) : List Cell := (restsW T b).flatMap fun t => (starts.filter fun z => darkW s T z t).map fun z => (z, t)
theorem onward_in {s : Sc} {T : Nat} {z : Str} {t : Int} {y : Str} (h : y ∈ onwardOf s T z t) : y ∈ s.ns := (List.mem_filter.mp (List.mem_filter.mp h).1).1
theorem onward_len (s : Sc) (T : Nat) (z : Str) (t : Int) : (onwardOf s T z t).length ≤ s.ns.length := Nat.le_trans (List.length_filter_le _ _) (List.length_filter_le _ _)
theorem rests_in {T : Nat} (hT : 0 < T) {b : Option Int} {t : Int} (h : t ∈ restsW T b) : 0 ≤ t ∧ t < T := by
  cases b with
  | none =>
    obtain ⟨i, hi, rfl⟩ := List.mem_map.mp h
    have := List.mem_range.mp hi
    omega
  | some b =>
    have : t = b % (T : Int) := by simpa [restsW] using h
    subst this
    exact ⟨Int.emod_nonneg _ (by omega), Int.emod_lt_of_pos _ (by omega)⟩
theorem rests_len {T : Nat} (hT : 0 < T) (b : Option Int) : (restsW T b).length ≤ T := by
  cases b with
  | none => simp [restsW]
  | some b => simp [restsW]; omega
theorem per_small {s : Sc} (ok : ScOk s) {T : Nat} (per : Per s T) : T ≤ 7200 := by
  obtain ⟨k, _, hk, e⟩ := wheel_times ok per
  have h1 := span_le ok
  have h2 : spanOf s * (k + 1) ≤ 1200 * 6 := Nat.mul_le_mul h1 (by omega)
  omega
def univW (s : Sc) (T : Nat) : List Cell := (List.range T).flatMap fun i : Nat => s.ns.map fun z => (z, ((i : Nat) : Int))
theorem univ_len (s : Sc) (T : Nat) : (univW s T).length = T * s.ns.length := by
  unfold univW
  induction T with
  | zero => simp
  | succ T ih => rw [List.range_succ, List.flatMap_append, List.length_append, ih, Nat.succ_mul]; simp
theorem mem_univ {s : Sc} {T : Nat} {c : Cell} : c ∈ univW s T ↔ c.1 ∈ s.ns ∧ 0 ≤ c.2 ∧ c.2 < T := by
  refine bx_of ?_
  simp (disch := with_unfolding_all (
    unfold univW
    rw [List.mem_flatMap]
    constructor
    · rintro ⟨i, hi, h⟩
      obtain ⟨z, hz, rfl⟩ := List.mem_map.mp h
      have := List.mem_range.mp hi
      exact ⟨hz, by show (0 : Int) ≤ i; omega, by show (i : Int) < T; omega⟩
    · rintro ⟨h1, h2, h3⟩
      refine ⟨c.2.toNat, List.mem_range.mpr (by omega), List.mem_map.mpr ⟨c.1, h1, ?_⟩⟩
      obtain ⟨z, t⟩ := c
      simp only at *
      congr 1
      omega
    )) only [↓bx_true]

theorem succ_univ {s : Sc} {T : Nat} (hT : 0 < T) {c x : Cell} (h : x ∈ succW s T c) : x ∈ univW s T := by
  obtain ⟨y, hy, rfl⟩ := List.mem_map.mp h
  exact mem_univ.mpr ⟨onward_in hy, Int.emod_nonneg _ (by omega), Int.emod_lt_of_pos _ (by omega)⟩
theorem begin_univ {s : Sc} {T : Nat} (hT : 0 < T) {starts : List Str} (hs : ∀ z ∈ starts, z ∈ s.ns) {b : Option Int} {c : Cell} (h : c ∈ beginW s T starts b) : c ∈ univW s T := by
  obtain ⟨t, ht, h⟩ := List.mem_flatMap.mp h
  obtain ⟨z, hz, rfl⟩ := List.mem_map.mp h
  obtain ⟨h1, h2⟩ := rests_in hT ht
  exact mem_univ.mpr ⟨hs z (List.mem_filter.mp hz).1, h1, h2⟩
theorem begin_len {s : Sc} {T : Nat} (hT : 0 < T) (starts : List Str) (b : Option Int) : (beginW s T starts b).length ≤ T * starts.length := by
  unfold beginW
  have gen : ∀ l : List Int, (l.flatMap fun t => (starts.filter fun z => darkW s T z t).map fun z => (z, t)).length ≤ l.length * starts.length := by
    intro l
    induction l with
    | nil => simp
    | cons t l ih =>
      rw [List.flatMap_cons, List.length_append, List.length_map, List.length_cons, Nat.succ_mul]
      have := List.length_filter_le (fun z => darkW s T z t) starts
      omega
  exact Nat.le_trans (gen _) (Nat.mul_le_mul_right _ (rests_len hT b))
end Dk

/-! going through all, breadth first -/
namespace Dk
section
variable {α : Type} [DecidableEq α]
abbrev Ent (α : Type) := α × Option α × Nat
def cellsE (E : List (Ent α)) : List α := E.map (·.1)
/-- steps along a row -/
def Chn (succ : α → List α) (l : List α) : Prop := ∀ i a b, l[i]? = some a → l[i + 1]? = some b → b ∈ succ a
def push1 (E : List (Ent α)) (p : α) (d : Nat) (c : α) : List (Ent α) := if c ∈ cellsE E then E else E ++ [(c, some p, d + 1)]
def pushL (E : List (Ent α)) (p : α) (d : Nat) (cs : List α) : List (Ent α) := cs.foldl (fun E c => push1 E p d c) E
def firstE (cs : List α) : List (Ent α) := cs.foldl (fun E c => if c ∈ cellsE E then E else E ++ [(c, none, 0)]) []
structure BInv (succ : α → List α) (firsts : List α) (goal : α → Bool) (E : List (Ent α)) (n : Nat) : Prop where
  nd : (cellsE E).Nodup
  fst : ∀ c ∈ firsts, (c, none, 0) ∈ E
  par : ∀ c q d, (c, q, d) ∈ E → (q = none ∧ d = 0 ∧ c ∈ firsts) ∨ ∃ p q' d', q = some p ∧ d = d' + 1 ∧ (p, q', d') ∈ E ∧ c ∈ succ p
  srt : ∀ (i j : Nat) (x y : Ent α), i ≤ j → E[i]? = some x → E[j]? = some y → x.2.2 ≤ y.2.2
  cls : ∀ (i : Nat) (x : Ent α), i < n → E[i]? = some x → ∀ c ∈ succ x.1, ∃ y ∈ E, y.1 = c ∧ y.2.2 ≤ x.2.2 + 1
  ng : ∀ (i : Nat) (x : Ent α), i < n → E[i]? = some x → goal x.1 = false
  le : n ≤ E.length
  nx : ∀ (x : Ent α), E[n]? = some x → ∀ y ∈ E, y.2.2 ≤ x.2.2 + 1
/-- within a turn: k of the steps from the n-th are gone through -/
structure BMid (succ : α → List α) (firsts : List α) (goal : α → Bool) (E : List (Ent α)) (n : Nat) (p : α) (d : Nat) (cs : List α) : Prop where
  nd : (cellsE E).Nodup
  fst : ∀ c ∈ firsts, (c, none, 0) ∈ E
  par : ∀ c q d, (c, q, d) ∈ E → (q = none ∧ d = 0 ∧ c ∈ firsts) ∨ ∃ p q' d', q = some p ∧ d = d' + 1 ∧ (p, q', d') ∈ E ∧ c ∈ succ p
  srt : ∀ (i j : Nat) (x y : Ent α), i ≤ j → E[i]? = some x → E[j]? = some y → x.2.2 ≤ y.2.2
  cls : ∀ (i : Nat) (x : Ent α), i < n → E[i]? = some x → ∀ c ∈ succ x.1, ∃ y ∈ E, y.1 = c ∧ y.2.2 ≤ x.2.2 + 1
  ng : ∀ (i : Nat) (x : Ent α), i < n → E[i]? = some x → goal x.1 = false
  here : ∃ q, E[n]? = some (p, q, d)
  gn : goal p = false
  top : ∀ y ∈ E, y.2.2 ≤ d + 1
  cov : ∀ c ∈ cs, ∃ y ∈ E, y.1 = c ∧ y.2.2 ≤ d + 1
variable {succ : α → List α} {firsts : List α} {goal : α → Bool} {E : List (Ent α)} {n : Nat} {p : α} {d : Nat}
theorem mem_cells {c : α} : c ∈ cellsE E ↔ ∃ q d, (c, q, d) ∈ E := by
  unfold cellsE
  rw [List.mem_map]
  constructor
  · rintro ⟨⟨c', q, d⟩, h, rfl⟩
    exact ⟨q, d, h⟩
  · rintro ⟨q, d, h⟩
    exact ⟨_, h, rfl⟩
theorem cells_app (E F : List (Ent α)) : cellsE (E ++ F) = cellsE E ++ cellsE F := List.map_append
theorem bmid_of (I : BInv succ firsts goal E n) {q : Option α} (h : E[n]? = some (p, q, d)) (g : goal p = false) : BMid succ firsts goal E n p d [] :=
  ⟨I.nd, I.fst, I.par, I.srt, I.cls, I.ng, ⟨q, h⟩, g, I.nx _ h, fun _ z => by cases z⟩
theorem nd_push {c : α} (h : (cellsE E).Nodup) (hc : c ∉ cellsE E) (q : Option α) (d : Nat) : (cellsE (E ++ [(c, q, d)])).Nodup := by
  rw [cells_app, List.nodup_append]
  refine ⟨h, by simp [cellsE], fun a ha b hb e => ?_⟩
  have : b = c := by simpa [cellsE] using hb
  subst e
  rw [this] at ha
  exact hc ha
theorem get_app {β : Type} {l m : List β} {i : Nat} {x : β} (h : (l ++ m)[i]? = some x) : l[i]? = some x ∨ (l.length ≤ i ∧ m[i - l.length]? = some x) := by
  rcases Nat.lt_or_ge i l.length with z | z
  · rw [List.getElem?_append_left z] at h
    exact .inl h
  · rw [List.getElem?_append_right z] at h
    exact .inr ⟨z, h⟩
theorem get_one {β : Type} {i : Nat} {x y : β} (h : [y][i]? = some x) : i = 0 ∧ x = y := by
  cases i with
  | zero => exact ⟨rfl, (Option.some.inj h).symm⟩
  | succ i => simp at h
theorem get_l {β : Type} {l m : List β} {i : Nat} {x : β} (h : l[i]? = some x) : (l ++ m)[i]? = some x := by
  rw [List.getElem?_append_left (List.getElem?_eq_some_iff.mp h).1]
  exact h
theorem bmid_step {cs : List α} (I : BMid succ firsts goal E n p d cs) {c : α} (hc : c ∈ succ p) : BMid succ firsts goal (push1 E p d c) n p d (cs ++ [c]) := by
  refine bx_of ?_
  simp (disch := with_unfolding_all (
    unfold push1
    by_cases h : c ∈ cellsE E
    · rw [if_pos h]
      refine ⟨I.nd, I.fst, I.par, I.srt, I.cls, I.ng, I.here, I.gn, I.top, fun x hx => ?_⟩
      rcases List.mem_append.mp hx with z | z
      · exact I.cov x z
      · have : x = c := by simpa using z
        subst this
        obtain ⟨q, d', m⟩ := mem_cells.mp h
        exact ⟨_, m, rfl, I.top _ m⟩
    · rw [if_neg h]
      obtain ⟨q0, hq0⟩ := I.here
      have hn : n < E.length := (List.getElem?_eq_some_iff.mp hq0).1
      have hp : (p, q0, d) ∈ E := List.mem_of_getElem? hq0
      refine ⟨nd_push I.nd h _ _, fun x hx => List.mem_append_left _ (I.fst x hx), fun x q e hm => ?_, fun i j x y hij hx hy => ?_, fun i x hi hx y hy => ?_, fun i x hi hx => ?_, ⟨q0, get_l hq0⟩, I.gn, fun y hy => ?_, fun x hx => ?_⟩
      · rcases List.mem_append.mp hm with z | z
        · rcases I.par x q e z with z | ⟨p', q', d', a1, a2, a3, a4⟩
          · exact .inl z
          · exact .inr ⟨p', q', d', a1, a2, List.mem_append_left _ a3, a4⟩
        · have e1 : (x, q, e) = (c, some p, d + 1) := by simpa using z
          cases e1
          exact .inr ⟨p, q0, d, rfl, rfl, List.mem_append_left _ hp, hc⟩
      · rcases get_app hy with z | ⟨z1, z2⟩
        · have hj := (List.getElem?_eq_some_iff.mp z).1
          rcases get_app hx with w | ⟨w1, _⟩
          · exact I.srt i j x y hij w z
          · omega
        · obtain ⟨_, rfl⟩ := get_one z2
          rcases get_app hx with w | ⟨_, w⟩
          · exact I.top _ (List.mem_of_getElem? w)
          · obtain ⟨_, rfl⟩ := get_one w
            exact Nat.le_refl _
      · have hx : E[i]? = some x := by
          rcases get_app hx with w | ⟨w, _⟩
          · exact w
          · omega
        obtain ⟨z, z1, z2⟩ := I.cls i x hi hx y hy
        exact ⟨z, List.mem_append_left _ z1, z2⟩
      · rcases get_app hx with w | ⟨w, _⟩
        · exact I.ng i x hi w
        · omega
      · rcases List.mem_append.mp hy with z | z
        · exact I.top y z
        · have e1 : y = (c, some p, d + 1) := by simpa using z
          subst e1
          exact Nat.le_refl _
      · rcases List.mem_append.mp hx with z | z
        · obtain ⟨y, y1, y2⟩ := I.cov x z
          exact ⟨y, List.mem_append_left _ y1, y2⟩
        · have : x = c := by simpa using z
          subst this
          exact ⟨_, List.mem_append_right _ (List.mem_singleton.mpr rfl), rfl, Nat.le_refl _⟩
    )) only [↓bx_true]

theorem binv_of (I : BMid succ firsts goal E n p d (succ p)) : BInv succ firsts goal E (n + 1) := by
  refine bx_of ?_
  simp (disch := with_unfolding_all (
    obtain ⟨q0, hq0⟩ := I.here
    have hn : n < E.length := (List.getElem?_eq_some_iff.mp hq0).1
    refine ⟨I.nd, I.fst, I.par, I.srt, fun i x hi hx c hc => ?_, fun i x hi hx => ?_, hn, fun x hx y hy => ?_⟩
    · rcases Nat.lt_or_ge i n with z | z
      · exact I.cls i x z hx c hc
      · have : i = n := by omega
        subst this
        rw [hq0] at hx
        cases hx
        exact I.cov c hc
    · rcases Nat.lt_or_ge i n with z | z
      · exact I.ng i x z hx
      · have : i = n := by omega
        subst this
        rw [hq0] at hx
        cases hx
        exact I.gn
    · have := I.srt n (n + 1) _ x (by omega) hq0 hx
      have := I.top y hy
      simp only at *
      omega
    )) only [↓bx_true]

/-! the beginning -/
theorem first_snoc (cs : List α) (c : α) : firstE (cs ++ [c]) = if c ∈ cellsE (firstE cs) then firstE cs else firstE cs ++ [(c, none, 0)] := by
  unfold firstE
  rw [List.foldl_append]
  rfl
theorem first_inv (cs : List α) : (cellsE (firstE cs)).Nodup ∧ (∀ c ∈ cs, (c, none, 0) ∈ firstE cs) ∧ ∀ e ∈ firstE cs, e.2.1 = none ∧ e.2.2 = 0 ∧ e.1 ∈ cs := by
  refine bx_of ?_
  simp (disch := with_unfolding_all (
    have gen : ∀ n, n ≤ cs.length → (cellsE (firstE (cs.take n))).Nodup ∧ (∀ c ∈ cs.take n, (c, none, 0) ∈ firstE (cs.take n)) ∧ ∀ e ∈ firstE (cs.take n), e.2.1 = none ∧ e.2.2 = 0 ∧ e.1 ∈ cs.take n := by
      intro n
      induction n with
      | zero => intro _; simp [firstE, cellsE]
      | succ n ih =>
        intro h
        obtain ⟨i1, i2, i3⟩ := ih (by omega)
        have hn : n < cs.length := by omega
        rw [List.take_succ, List.getElem?_eq_getElem hn]
        show (cellsE (firstE (cs.take n ++ [cs[n]]))).Nodup ∧ (∀ c ∈ cs.take n ++ [cs[n]], (c, none, 0) ∈ firstE (cs.take n ++ [cs[n]])) ∧ ∀ e ∈ firstE (cs.take n ++ [cs[n]]), e.2.1 = none ∧ e.2.2 = 0 ∧ e.1 ∈ cs.take n ++ [cs[n]]
        rw [first_snoc]
        by_cases hc : cs[n] ∈ cellsE (firstE (cs.take n))
        · rw [if_pos hc]
          refine ⟨i1, fun c h => ?_, fun e he => ?_⟩
          · rcases List.mem_append.mp h with z | z
            · exact i2 c z
            · have : c = cs[n] := by simpa using z
              subst this
              obtain ⟨q, d, m⟩ := mem_cells.mp hc
              obtain ⟨a1, a2, _⟩ := i3 _ m
              simp only at a1 a2
              rw [a1, a2] at m
              exact m
          · obtain ⟨a1, a2, a3⟩ := i3 e he
            exact ⟨a1, a2, List.mem_append_left _ a3⟩
        · rw [if_neg hc]
          refine ⟨nd_push i1 hc _ _, fun c h => ?_, fun e he => ?_⟩
          · rcases List.mem_append.mp h with z | z
            · exact List.mem_append_left _ (i2 c z)
            · have : c = cs[n] := by simpa using z
              subst this
              exact List.mem_append_right _ (List.mem_singleton.mpr rfl)
          · rcases List.mem_append.mp he with z | z
            · obtain ⟨a1, a2, a3⟩ := i3 e z
              exact ⟨a1, a2, List.mem_append_left _ a3⟩
            · have : e = (cs[n], none, 0) := by simpa using z
              subst this
              exact ⟨rfl, rfl, List.mem_append_right _ (List.mem_singleton.mpr rfl)⟩
    have := gen cs.length (Nat.le_refl _)
    rwa [List.take_length] at this
    )) only [↓bx_true]

theorem binv_first : BInv succ firsts goal (firstE firsts) 0 := by
  obtain ⟨i1, i2, i3⟩ := first_inv firsts
  refine ⟨i1, i2, fun c q d h => ?_, fun i j x y _ hx hy => ?_, fun i x hi => absurd hi (Nat.not_lt_zero _), fun i x hi => absurd hi (Nat.not_lt_zero _), Nat.zero_le _, fun x _ y hy => ?_⟩
  · obtain ⟨a1, a2, a3⟩ := i3 _ h
    exact .inl ⟨a1, a2, a3⟩
  · rw [(i3 x (List.mem_of_getElem? hx)).2.1]
    exact Nat.zero_le _
  · rw [(i3 y hy).2.1]
    exact Nat.zero_le _
/-! what it comes to -/
/-- no walk of fewer steps -/
theorem bfs_least (I : BInv succ firsts goal E n) {c : α} {q : Option α} {d : Nat} (h : E[n]? = some (c, q, d) ∨ E.length ≤ n ∧ ∀ e ∈ E, e.2.2 < d) {l : List α} (hl : l ≠ []) (hf : ∀ a, l[0]? = some a → a ∈ firsts) (hc : Chn succ l) (hg : ∀ a, l[l.length - 1]? = some a → goal a = true) : d < l.length := by
  refine bx_of ?_
  simp (disch := with_unfolding_all (
    rcases Nat.lt_or_ge d l.length with z | z
    · exact z
    exfalso
    have low : ∀ e ∈ E, e.2.2 < d → ∃ i, i < n ∧ E[i]? = some e := fun e he hd => by
      obtain ⟨i, hi⟩ := List.getElem?_of_mem he
      rcases Nat.lt_or_ge i n with w | w
      · exact ⟨i, w, hi⟩
      · rcases h with h | ⟨h, _⟩
        · have := I.srt n i _ e w h hi
          simp only at this
          omega
        · have := (List.getElem?_eq_some_iff.mp hi).1
          omega
    have key : ∀ k, k < l.length → ∃ a e, l[k]? = some a ∧ e ∈ E ∧ e.1 = a ∧ e.2.2 ≤ k := by
      intro k
      induction k with
      | zero =>
        intro hk
        refine ⟨l[0], _, List.getElem?_eq_getElem hk, I.fst _ (hf _ (List.getElem?_eq_getElem hk)), rfl, Nat.le_refl _⟩
      | succ k ih =>
        intro hk
        obtain ⟨a, e, h1, h2, h3, h4⟩ := ih (by omega)
        obtain ⟨i, hi, hi2⟩ := low e h2 (by omega)
        have hs := hc k a l[k + 1] h1 (List.getElem?_eq_getElem hk)
        obtain ⟨y, y1, y2, y3⟩ := I.cls i e hi hi2 _ (by rw [h3]; exact hs)
        exact ⟨l[k + 1], y, List.getElem?_eq_getElem hk, y1, y2, by omega⟩
    have l0 : 0 < l.length := List.length_pos_iff.mpr hl
    obtain ⟨a, e, h1, h2, h3, h4⟩ := key (l.length - 1) (by omega)
    obtain ⟨i, hi, hi2⟩ := low e h2 (by omega)
    have := I.ng i e hi hi2
    rw [h3, hg a h1] at this
    cases this
    )) only [↓bx_true]

/-- as many as there can be -/
theorem nd_le {U : List α} : ∀ {l : List α}, l.Nodup → (∀ c ∈ l, c ∈ U) → l.length ≤ U.length := fun {l} h hs => by
  have gen : ∀ (l U : List α), l.Nodup → (∀ c ∈ l, c ∈ U) → l.length ≤ U.length := by
    intro l
    induction l with
    | nil => intro U _ _; exact Nat.zero_le _
    | cons a l ih =>
      intro U h hs
      rw [List.nodup_cons] at h
      have ha : a ∈ U := hs a (List.mem_cons_self ..)
      have := ih (U.erase a) h.2 fun c hc => (List.mem_erase_of_ne (fun e => h.1 (by rw [← e]; exact hc))).mpr (hs c (List.mem_cons_of_mem _ hc))
      rw [List.length_erase_of_mem ha] at this
      have hp : 0 < U.length := List.length_pos_of_mem ha
      rw [List.length_cons]
      omega
  exact gen l U h hs
theorem bfs_in {U : List α} (par : ∀ c q d, (c, q, d) ∈ E → (q = none ∧ d = 0 ∧ c ∈ firsts) ∨ ∃ p q' d', q = some p ∧ d = d' + 1 ∧ (p, q', d') ∈ E ∧ c ∈ succ p) (hf : ∀ c ∈ firsts, c ∈ U) (hs : ∀ c ∈ U, ∀ x ∈ succ c, x ∈ U) : ∀ c ∈ cellsE E, c ∈ U := by
  refine bx_of ?_
  simp (disch := with_unfolding_all (
    have gen : ∀ (d : Nat) c q, (c, q, d) ∈ E → c ∈ U := by
      intro d
      induction d with
      | zero =>
        intro c q h
        rcases par c q 0 h with ⟨_, _, h3⟩ | ⟨_, _, _, _, h2, _⟩
        · exact hf c h3
        · omega
      | succ d ih =>
        intro c q h
        rcases par c q (d + 1) h with ⟨_, h2, _⟩ | ⟨p, q', d', _, h2, h3, h4⟩
        · omega
        · have : d' = d := by omega
          subst this
          exact hs p (ih p q' h3) c h4
    intro c hc
    obtain ⟨q, d, h⟩ := mem_cells.mp hc
    exact gen d c q h
    )) only [↓bx_true]

/-- as deep as there are some ahead -/
theorem depth_lt (par : ∀ c q d, (c, q, d) ∈ E → (q = none ∧ d = 0 ∧ c ∈ firsts) ∨ ∃ p q' d', q = some p ∧ d = d' + 1 ∧ (p, q', d') ∈ E ∧ c ∈ succ p) : ∀ c q d, (c, q, d) ∈ E → d < E.length := by
  refine bx_of ?_
  simp (disch := with_unfolding_all (
    have all : ∀ (d : Nat) c q, (c, q, d) ∈ E → ∀ i, i ≤ d → i ∈ E.map fun e => e.2.2 := by
      intro d
      induction d with
      | zero => intro c q h i hi; exact List.mem_map.mpr ⟨_, h, by show 0 = i; omega⟩
      | succ d ih =>
        intro c q h i hi
        rcases Nat.lt_or_ge d i with z | z
        · exact List.mem_map.mpr ⟨_, h, by show d + 1 = i; omega⟩
        · rcases par c q (d + 1) h with ⟨_, h2, _⟩ | ⟨p, q', d', _, h2, h3, _⟩
          · omega
          · have : d' = d := by omega
            subst this
            exact ih p q' h3 i z
    intro c q d h
    have := nd_le (l := List.range (d + 1)) (U := E.map fun e => e.2.2) List.nodup_range fun i hi => all d c q h i (by have := List.mem_range.mp hi; omega)
    rw [List.length_range, List.length_map] at this
    omega
    )) only [↓bx_true]

/-- the way back: what is found so far (the last one first), the cell ahead of it -/
def Back (succ : α → List α) (firsts : List α) (E : List (Ent α)) (last : α) (d : Nat) (F : List α) (cur : Option α) : Prop :=
  Chn succ F.reverse ∧ (∀ a, F[0]? = some a → a = last) ∧ match cur with
  | none => F.length = d + 1 ∧ ∀ a, F.reverse[0]? = some a → a ∈ firsts
  | some c => ∃ q j, (c, q, j) ∈ E ∧ F.length + j = d ∧ (F = [] → c = last) ∧ ∀ a, F.reverse[0]? = some a → a ∈ succ c
theorem back_0 {c : α} {q : Option α} {d : Nat} (h : (c, q, d) ∈ E) : Back succ firsts E c d [] (some c) :=
  ⟨fun i a b h => by simp at h, fun a h => by simp at h, q, d, h, by simp, fun _ => rfl, fun a h => by simp at h⟩
theorem back_1 (I : BInv succ firsts goal E n) {last : α} {d : Nat} {F : List α} {c : α} (h : Back succ firsts E last d F (some c)) : ∃ q j, (c, q, j) ∈ E ∧ F.length ≤ d ∧ Back succ firsts E last d (F ++ [c]) q := by
  refine bx_of ?_
  simp (disch := with_unfolding_all (
    obtain ⟨h1, h2, q, j, h3, h4, h5, h6⟩ := h
    refine ⟨q, j, h3, by omega, ?_, fun a ha => ?_, ?_⟩
    · rw [List.reverse_append]
      intro i a b hi hj
      cases i with
      | zero =>
        have e : c = a := Option.some.inj hi
        subst e
        have hj : F.reverse[0]? = some b := by simpa using hj
        exact h6 b hj
      | succ i => exact h1 i a b (by simpa using hi) (by simpa using hj)
    · cases F with
      | nil =>
        have e : c = a := Option.some.inj ha
        exact e ▸ h5 rfl
      | cons x F => exact h2 a ha
    · rcases I.par c q j h3 with ⟨rfl, rfl, h7⟩ | ⟨p, q', d', rfl, rfl, h7, h8⟩
      · refine ⟨by simp; omega, fun a ha => ?_⟩
        have : c = a := by simpa using ha
        exact this ▸ h7
      · refine ⟨q', d', h7, by simp; omega, fun z => by simp at z, fun a ha => ?_⟩
        have : c = a := by simpa using ha
        exact this ▸ h8
    )) only [↓bx_true]

/-- a walk from one of the first ones to a goal -/
structure WalkG (succ : α → List α) (firsts : List α) (goal : α → Bool) (l : List α) : Prop where
  ne : l ≠ []
  fs : ∀ a, l[0]? = some a → a ∈ firsts
  ch : Chn succ l
  gl : ∀ a, l[l.length - 1]? = some a → goal a = true
/-- a lot that is closed -/
structure LotG (succ : α → List α) (firsts : List α) (goal : α → Bool) (C : List α) : Prop where
  nd : C.Nodup
  fs : ∀ c ∈ firsts, c ∈ C
  cl : ∀ c ∈ C, ∀ x ∈ succ c, x ∈ C
  ng : ∀ c ∈ C, goal c = false
theorem lot_none {C : List α} (L : LotG succ firsts goal C) {l : List α} : ¬ WalkG succ firsts goal l := fun w => by
  have key : ∀ k, k < l.length → ∃ a, l[k]? = some a ∧ a ∈ C := by
    intro k
    induction k with
    | zero => intro hk; exact ⟨l[0], List.getElem?_eq_getElem hk, L.fs _ (w.fs _ (List.getElem?_eq_getElem hk))⟩
    | succ k ih =>
      intro hk
      obtain ⟨a, h1, h2⟩ := ih (by omega)
      exact ⟨l[k + 1], List.getElem?_eq_getElem hk, L.cl a h2 _ (w.ch k a _ h1 (List.getElem?_eq_getElem hk))⟩
  have l0 : 0 < l.length := List.length_pos_iff.mpr w.ne
  obtain ⟨a, h1, h2⟩ := key (l.length - 1) (by omega)
  have := L.ng a h2
  rw [w.gl a h1] at this
  cases this
theorem lot_of (I : BInv succ firsts goal E n) (h : E.length ≤ n) : LotG succ firsts goal (cellsE E) := by
  refine ⟨I.nd, fun c hc => mem_cells.mpr ⟨_, _, I.fst c hc⟩, fun c hc x hx => ?_, fun c hc => ?_⟩
  · obtain ⟨q, d, m⟩ := mem_cells.mp hc
    obtain ⟨i, hi⟩ := List.getElem?_of_mem m
    obtain ⟨y, y1, y2, _⟩ := I.cls i _ (Nat.lt_of_lt_of_le (List.getElem?_eq_some_iff.mp hi).1 h) hi x hx
    exact mem_cells.mpr ⟨y.2.1, y.2.2, y2 ▸ y1⟩
  · obtain ⟨q, d, m⟩ := mem_cells.mp hc
    obtain ⟨i, hi⟩ := List.getElem?_of_mem m
    exact I.ng i _ (Nat.lt_of_lt_of_le (List.getElem?_eq_some_iff.mp hi).1 h) hi
end
end Dk

/-! ways, as the dict of cells tells them -/
namespace Dk
open PySem L2 RZ L3
abbrev keyC (c : Cell) : List Key := [.inr c.1, .inl c.2]
theorem key_inj {c d : Cell} : keyC c = keyC d ↔ c = d := by
  obtain ⟨a, i⟩ := c
  obtain ⟨b, j⟩ := d
  simp [keyC]
abbrev entR (E : List (Ent Cell)) : KRs := E.map fun e => ([.inr e.1.1, .inl e.1.2], kOpt (e.2.1.map fun p => [.inr p.1, .inl p.2]))
theorem look_ent (c : Cell) : ∀ E : List (Ent Cell), (lookT (entR E) (keyC c)).isSome = decide (c ∈ cellsE E)
  | [] => rfl
  | e :: E => by
    show (lookT ((keyC e.1, _) :: entR E) (keyC c)).isSome = _
    by_cases h : e.1 = c
    · rw [lookT_pos (key_inj.mpr h)]
      simp [cellsE, h]
    · rw [lookT_neg (fun z => h (key_inj.mp z)), look_ent c E]
      refine dec_iff ?_
      unfold cellsE
      rw [List.map_cons, List.mem_cons]
      exact ⟨.inr, fun z => z.resolve_left fun w => h w.symm⟩
theorem lookE_none {c : Cell} {E : List (Ent Cell)} (h : c ∉ cellsE E) : lookT (entR E) (keyC c) = none := by
  have := look_ent c E
  rw [decide_eq_false h] at this
  exact Option.isSome_eq_false_iff.mp this |> fun z => by simpa using z
theorem put_new {c : Cell} {E : List (Ent Cell)} (h : c ∉ cellsE E) (q : Option Cell) (d : Nat) : putT (entR E) (keyC c) (kOpt (q.map fun p => [.inr p.1, .inl p.2])) = entR (E ++ [(c, q, d)]) := by
  rw [putT_new (lookE_none h)]
  unfold entR
  rw [List.map_append]
  rfl
theorem put_old {c : Cell} {E : List (Ent Cell)} (h : c ∈ cellsE E) (hn : ∀ e ∈ E, e.2.1 = none) : putT (entR E) (keyC c) iNon = entR E := by
  unfold putT
  rw [look_ent c E, if_pos (decide_eq_true h)]
  unfold entR
  rw [List.map_map]
  refine List.map_congr_left fun e he => ?_
  show (if keyC e.1 = keyC c then (keyC e.1, iNon) else (keyC e.1, kOpt (e.2.1.map fun p => [.inr p.1, .inl p.2]))) = _
  split
  · rw [hn e he]; rfl
  · rfl
theorem ent_keys (E : List (Ent Cell)) : ((entR E).map fun p => aKey p.1) = (cellsE E).map cellR := by
  unfold entR cellsE
  rw [List.map_map, List.map_map]
  rfl
abbrev goalW (ys : List Str) (c : Cell) : Bool := decide (c.1 ∈ ys)
/-- what a way is: its beat, its rooms -/
structure WayOk (s : Sc) (T : Nat) (zs ys : List Str) (b : Option Int) (beat : Int) (L : List Cell) : Prop where
  wk : WalkG (succW s T) (beginW s T zs b) (goalW ys) L
  ls : ∀ L', WalkG (succW s T) (beginW s T zs b) (goalW ys) L' → L.length ≤ L'.length
  bt : (b = none → ∀ c, L[0]? = some c → c.2 = beat) ∧ ∀ i, b = some i → beat = i
  ln : L.length ≤ 57600
  lu : L.length ≤ T * s.ns.length
theorem look_at {c : Cell} {q : Option Cell} {d : Nat} : ∀ {E : List (Ent Cell)}, (cellsE E).Nodup → (c, q, d) ∈ E → lookT (entR E) (keyC c) = some (kOpt (q.map keyC))
  | [], _, h => by cases h
  | e :: E, nd, h => by
    show lookT ((keyC e.1, kOpt (e.2.1.map keyC)) :: entR E) (keyC c) = _
    have nd : (e.1 :: cellsE E).Nodup := nd
    rw [List.nodup_cons] at nd
    rcases List.mem_cons.mp h with z | z
    · subst z
      rw [lookT_pos rfl]
    · rw [lookT_neg, look_at nd.2 z]
      intro w
      have := key_inj.mp w
      exact nd.1 (this ▸ mem_cells.mpr ⟨q, d, z⟩)
/-- what a way comes to -/
def IsTold (K : PySem.W.Frag) (s : Sc) (T : Nat) (zs ys : List Str) (b : Option Int) (R : Rep) : Prop :=
  (∃ beat L, WayOk s T zs ys b beat L ∧ R = aTup K [aStr "way", iInt beat, aTup K (L.map fun c => aStr c.1)]) ∨
  ∃ C, LotG (succW s T) (beginW s T zs b) (goalW ys) C ∧ (∀ c ∈ C, c ∈ univW s T) ∧ C.length ≤ 57600 ∧ R = aTup K [aStr "closed", iLst (C.map cellR)]
/-- how many beats it tells -/
def Beats (K : PySem.W.Frag) (R : Rep) (o : Option Int) : Prop := (∃ i, ∃ l : List Str, R = aTup K [aStr "way", iInt i, aTup K (l.map aStr)] ∧ o = some ((l.length : Int) - 1)) ∨ ∃ R', R = aTup K [aStr "closed", R'] ∧ o = none
end Dk

/-! houses, scenes alike -/
namespace Dk
open PySem L2 RZ L3
def sameP (ps qs : List (Str × Str)) : Bool := ps.length == qs.length && ps.all fun p => decide (p ∈ qs)
def sameH (ns : List Str) (ds ss : List (Str × Str)) (ns' : List Str) (ds' ss' : List (Str × Str)) : Bool := decide (ns = ns') && (sameP ds ds' && sameP ss ss')
def itemD (p : Post) : PyData := .tuple [.str p.1, .tuple [.tuple (p.2.1.map PyData.str), .int p.2.2]]
def lampD (p : Str × Int) : PyData := .tuple [.str p.1, .int p.2]
structure TxOk (s : Sc) : Prop where
  ns : ∀ z ∈ s.ns, StrOk z
  ps : ∀ p ∈ s.ps, StrOk p.1 ∧ ∀ z ∈ p.2.1, StrOk z
  ls : ∀ p ∈ s.ls, StrOk p.1
def sameS (s t : Sc) : Bool := sameH s.ns s.ds s.ss t.ns t.ds t.ss && decide (s.ps = t.ps) && decide (s.ls = t.ls) && (s.meet == t.meet && decide (s.rel = t.rel))
end Dk

/-! the least number of steps -/
namespace Dk
section
variable {α : Type} [DecidableEq α] {succ : α → List α} {firsts : List α} {goal : α → Bool}
def HasLen (succ : α → List α) (firsts : List α) (goal : α → Bool) (n : Nat) : Prop := ∃ l, WalkG succ firsts goal l ∧ l.length = n + 1
theorem ex_least {p : Nat → Prop} (h : ∃ n, p n) : ∃ n, p n ∧ ∀ m, p m → n ≤ m := by
  obtain ⟨n, hn⟩ := h
  induction n using Nat.strongRecOn with
  | ind n ih =>
    by_cases q : ∃ m, m < n ∧ p m
    · obtain ⟨m, h1, h2⟩ := q
      exact ih m h1 h2
    · exact ⟨n, hn, fun m hm => by
        rcases Nat.lt_or_ge m n with z | z
        · exact absurd ⟨m, z, hm⟩ q
        · exact z⟩
open Classical in
noncomputable def leastO (succ : α → List α) (firsts : List α) (goal : α → Bool) : Option Nat := if h : ∃ n, HasLen succ firsts goal n ∧ ∀ m, HasLen succ firsts goal m → n ≤ m then some h.choose else none
theorem least_some {n : Nat} : leastO succ firsts goal = some n ↔ HasLen succ firsts goal n ∧ ∀ m, HasLen succ firsts goal m → n ≤ m := by
  refine bx_of ?_
  simp (disch := with_unfolding_all (
    unfold leastO
    split
    · rename_i h
      constructor
      · intro e
        have e := Option.some.inj e
        subst e
        exact h.choose_spec
      · rintro ⟨h1, h2⟩
        congr 1
        exact Nat.le_antisymm (h.choose_spec.2 _ h1) (h2 _ h.choose_spec.1)
    · rename_i h
      constructor
      · intro e; cases e
      · rintro h1
        exact absurd ⟨n, h1⟩ h
    )) only [↓bx_true]

theorem least_none : leastO succ firsts goal = none ↔ ∀ n, ¬ HasLen succ firsts goal n := by
  unfold leastO
  split
  · rename_i h
    constructor
    · intro e; cases e
    · intro e
      obtain ⟨n, hn⟩ := h
      exact absurd hn.1 (e n)
  · rename_i h
    exact ⟨fun _ n hn => h (ex_least ⟨n, hn⟩), fun _ => rfl⟩
theorem walk_len {l : List α} (w : WalkG succ firsts goal l) : HasLen succ firsts goal (l.length - 1) := by
  have := List.length_pos_iff.mpr w.ne
  exact ⟨l, w, by omega⟩
theorem least_walk {l : List α} (w : WalkG succ firsts goal l) (h : ∀ l', WalkG succ firsts goal l' → l.length ≤ l'.length) : leastO succ firsts goal = some (l.length - 1) := by
  refine least_some.mpr ⟨walk_len w, fun m ⟨l', w', e⟩ => ?_⟩
  have := h l' w'
  omega
theorem least_lot {C : List α} (L : LotG succ firsts goal C) : leastO succ firsts goal = none := least_none.mpr fun n ⟨l, w, _⟩ => lot_none L w
/-- the least of some numbers -/
def IsMin (l : List Int) (m : Int) : Prop := m ∈ l ∧ ∀ x ∈ l, m ≤ x
def optI (o : Option Nat) : Option Int := o.map fun n => (n : Int)
end
end Dk
namespace Dk
open PySem L2 RZ L3
noncomputable def wayN (s : Sc) (T : Nat) (zs ys : List Str) (b : Option Int) : Option Int := optI (leastO (succW s T) (beginW s T zs b) (goalW ys))
theorem way_n {s : Sc} {T : Nat} {zs ys : List Str} {b : Option Int} {beat : Int} {L : List Cell} (h : WayOk s T zs ys b beat L) : wayN s T zs ys b = some ((L.length : Int) - 1) := by
  unfold wayN
  rw [least_walk h.wk h.ls]
  have := List.length_pos_iff.mpr h.wk.ne
  show some (((L.length - 1 : Nat) : Int)) = _
  congr 1
  omega
theorem lot_n {s : Sc} {T : Nat} {zs ys : List Str} {b : Option Int} {C : List Cell} (h : LotG (succW s T) (beginW s T zs b) (goalW ys) C) : wayN s T zs ys b = none := by
  unfold wayN
  rw [least_lot h]
  rfl
end Dk
namespace Dk
open PySem L2 RZ L3
theorem told_beats {K : PySem.W.Frag} {s : Sc} {T : Nat} {zs ys : List Str} {b : Option Int} {R : Rep} (h : IsTold K s T zs ys b R) : Beats K R (wayN s T zs ys b) := by
  rcases h with ⟨beat, L, w, rfl⟩ | ⟨C, l, _, _, rfl⟩
  · exact .inl ⟨beat, L.map (·.1), by rw [List.map_map]; rfl, by rw [way_n w, List.length_map]⟩
  · exact .inr ⟨_, rfl, lot_n l⟩
def optD : Option Int → PyData
  | none => .none
  | some i => .int i
theorem optD_rep (K : PySem.W.Frag) (o : Option Int) : iOpt o = iDat K (optD o) := by cases o; exact dat_non K; exact dat_int K _
theorem optD_fit {n : Nat} (o : Option Int) : Fit (n + 1) (optD o) := by cases o; exact .non; exact .int _
end Dk
namespace Dk
open PySem L2 RZ L3
end Dk
namespace Dk
section
variable {α : Type} [DecidableEq α] {succ : α → List α} {firsts : List α} {goal : α → Bool}
end
end Dk
namespace Dk
open PySem L2 RZ L3
theorem mem_begin {s : Sc} {T : Nat} {zs : List Str} {b : Option Int} {c : Cell} : c ∈ beginW s T zs b ↔ c.2 ∈ restsW T b ∧ c.1 ∈ zs ∧ darkW s T c.1 c.2 = true := by
  unfold beginW
  rw [List.mem_flatMap]
  constructor
  · rintro ⟨t, ht, h⟩
    obtain ⟨z, hz, rfl⟩ := List.mem_map.mp h
    have := List.mem_filter.mp hz
    exact ⟨ht, this.1, this.2⟩
  · rintro ⟨h1, h2, h3⟩
    exact ⟨c.2, h1, List.mem_map.mpr ⟨c.1, List.mem_filter.mpr ⟨h2, h3⟩, rfl⟩⟩
end Dk
namespace Dk
open PySem L2 RZ L3
def darkO (s : Sc) (T : Nat) : Option Int → Str → Bool
  | none, _ => false
  | some f, z => darkW s T z f
end Dk
namespace Dk
open PySem L2 RZ L3
end Dk

/-! walks by beats without end: the least beats told by them -/
namespace Dk
open PySem L2 RZ L3
theorem cross_mod {s : Sc} (ok : ScOk s) {T : Nat} (per : Per s T) (a b : Str) (t : Int) : crossOf s a b (t % (T : Int) + 1) = crossOf s a b (t + 1) := by
  refine bx_of ?_
  simp (disch := with_unfolding_all (
    have hd := per_mod ok per
    unfold crossOf
    congr 2
    refine List.map_congr_left fun p hp => ?_
    have hl : p.2.1.length ∣ T := Nat.dvd_trans (dvd_lcmL (by unfold sizesOf; exact List.mem_append_left _ (List.mem_map.mpr ⟨p, hp, rfl⟩))) hd
    obtain ⟨c, hc⟩ := hl
    have key : ∀ y : Int, roomAt p.2.1 (t % (T : Int) + y) = roomAt p.2.1 (t + y) := fun y => by
      have e : t + y = t % (T : Int) + y + (p.2.1.length : Int) * ((c : Int) * (t / (T : Int))) := by
        have h1 := Int.emod_add_mul_ediv t (T : Int)
        rw [hc] at h1 ⊢
        push_cast at h1 ⊢
        rw [← Int.mul_assoc]
        omega
      rw [e, room_per]
    unfold hit
    have e1 : t % (T : Int) + 1 - 1 - p.2.2 = t % (T : Int) + (-p.2.2) := by omega
    have e2 : t + 1 - 1 - p.2.2 = t + (-p.2.2) := by omega
    have e3 : t % (T : Int) + 1 - p.2.2 = t % (T : Int) + (1 - p.2.2) := by omega
    have e4 : t + 1 - p.2.2 = t + (1 - p.2.2) := by omega
    rw [e1, e2, e3, e4, key, key]
    )) only [↓bx_true]

theorem onward_mod {s : Sc} (ok : ScOk s) {T : Nat} (per : Per s T) (z : Str) (t : Int) : onwardOf s T z (t % (T : Int)) = onwardOf s T z t := by
  have e1 : (t % (T : Int) + 1) % (T : Int) = (t + 1) % (T : Int) := by rw [Int.emod_add_emod]
  have e2 : rowZ s T (t % (T : Int) + 1) = rowZ s T (t + 1) := by unfold rowZ; rw [e1]
  unfold onwardOf
  rw [e1, e2]
  refine List.filter_congr fun y _ => ?_
  rw [cross_mod ok per]
/-- a walk unseen, its beats without end -/
structure AbsW (s : Sc) (T : Nat) (zs ys : List Str) (t : Int) (l : List Str) : Prop where
  fs : ∀ z, l[0]? = some z → z ∈ zs ∧ darkW s T z t = true
  ch : ∀ (i : Nat) x y, l[i]? = some x → l[i + 1]? = some y → y ∈ onwardOf s T x (t + (i : Nat))
  gl : ∀ z, l[l.length - 1]? = some z → z ∈ ys
theorem dark_modA {s : Sc} {T : Nat} (z : Str) (t : Int) : darkW s T z (t % (T : Int)) = darkW s T z t := by
  unfold darkW rowZ
  rw [Int.emod_emod_of_dvd _ (Int.dvd_refl _)]
theorem abs_has {s : Sc} (ok : ScOk s) {T : Nat} (per : Per s T) {zs ys : List Str} {b : Option Int} {n : Nat} : HasLen (succW s T) (beginW s T zs b) (goalW ys) n ↔ ∃ t l, (∀ i, b = some i → t = i) ∧ l.length = n + 1 ∧ AbsW s T zs ys t l := by
  refine bx_of ?_
  simp (disch := with_unfolding_all (
    have T0 : (0 : Int) < T := by have := per.pos; omega
    constructor
    · rintro ⟨L, w, el⟩
      obtain ⟨t, ht, h0⟩ : ∃ t : Int, (∀ i, b = some i → t = i) ∧ ∀ c, L[0]? = some c → c.2 = t % (T : Int) := by
        cases b with
        | some i =>
          refine ⟨i, fun j e => Option.some.inj e, fun c hc => ?_⟩
          have := (mem_begin.mp (w.fs c hc)).1
          exact List.mem_singleton.mp this
        | none =>
          cases e : L[0]? with
          | none => exact ⟨0, fun _ h => (nomatch h), fun c h => by cases h⟩
          | some c =>
            refine ⟨c.2, fun _ h => (nomatch h), fun d hd => ?_⟩
            cases hd
            have h2 := rests_in per.pos (mem_begin.mp (w.fs c e)).1
            exact (Int.emod_eq_of_lt h2.1 h2.2).symm
      have hr : ∀ (i : Nat) c, L[i]? = some c → c.2 = (t + (i : Nat)) % (T : Int) := fun i => by
        induction i with
        | zero => intro c hc; rw [h0 c hc]; simp
        | succ i ih =>
          intro c hc
          have hi : i < L.length := by have := (List.getElem?_eq_some_iff.mp hc).1; omega
          have h1 := ih L[i] (List.getElem?_eq_getElem hi)
          have h2 := w.ch i _ _ (List.getElem?_eq_getElem hi) hc
          obtain ⟨y, _, e⟩ := List.mem_map.mp h2
          rw [← e]
          show (L[i].2 + 1) % (T : Int) = _
          rw [h1, Int.emod_add_emod]
          congr 1
          push_cast
          omega
      refine ⟨t, L.map (·.1), ht, by rw [List.length_map]; exact el, ⟨fun z hz => ?_, fun i x y hx hy => ?_, fun z hz => ?_⟩⟩
      · rw [List.getElem?_map] at hz
        obtain ⟨c, hc, rfl⟩ := Option.map_eq_some_iff.mp hz
        have h := mem_begin.mp (w.fs c hc)
        refine ⟨h.2.1, ?_⟩
        have h2 := h.2.2
        rw [h0 c hc, dark_modA] at h2
        exact h2
      · rw [List.getElem?_map] at hx hy
        obtain ⟨c, hc, rfl⟩ := Option.map_eq_some_iff.mp hx
        obtain ⟨d, hd, rfl⟩ := Option.map_eq_some_iff.mp hy
        obtain ⟨y, h1, e⟩ := List.mem_map.mp (w.ch i c d hc hd)
        rw [← e]
        rw [hr i c hc, onward_mod ok per] at h1
        exact h1
      · rw [List.length_map, List.getElem?_map] at hz
        obtain ⟨c, hc, rfl⟩ := Option.map_eq_some_iff.mp hz
        exact of_decide_eq_true (w.gl c hc)
    · rintro ⟨t, l, ht, el, w⟩
      have gm : ∀ (i : Nat) c, (l.mapIdx fun (i : Nat) z => ((z, (t + (i : Nat)) % (T : Int)) : Cell))[i]? = some c → ∃ z, l[i]? = some z ∧ c = (z, (t + (i : Nat)) % (T : Int)) := fun i c h => by
        rw [List.getElem?_mapIdx] at h
        obtain ⟨z, hz, rfl⟩ := Option.map_eq_some_iff.mp h
        exact ⟨z, hz, rfl⟩
      refine ⟨l.mapIdx fun (i : Nat) z => ((z, (t + (i : Nat)) % (T : Int)) : Cell), ⟨fun e => ?_, fun c hc => ?_, fun i c d hc hd => ?_, fun c hc => ?_⟩, by rw [List.length_mapIdx]; exact el⟩
      · have := congrArg List.length e
        rw [List.length_mapIdx, el] at this
        cases this
      · obtain ⟨z, hz, rfl⟩ := gm 0 c hc
        obtain ⟨h1, h2⟩ := w.fs z hz
        refine mem_begin.mpr ⟨?_, h1, by rw [dark_modA]; simpa using h2⟩
        cases b with
        | some i => rw [ht i rfl]; simp [restsW]
        | none =>
          have a1 := Int.emod_nonneg (t + ((0 : Nat) : Int)) (show (T : Int) ≠ 0 by omega)
          have a2 := Int.emod_lt_of_pos (t + ((0 : Nat) : Int)) T0
          refine List.mem_map.mpr ⟨((t + ((0 : Nat) : Int)) % (T : Int)).toNat, List.mem_range.mpr (by omega), by omega⟩
      · obtain ⟨z, hz, rfl⟩ := gm i c hc
        obtain ⟨y, hy, rfl⟩ := gm (i + 1) d hd
        have h := w.ch i z y hz hy
        refine List.mem_map.mpr ⟨y, by rw [onward_mod ok per]; exact h, ?_⟩
        rw [Int.emod_add_emod]
        congr 2
        push_cast
        omega
      · rw [List.length_mapIdx] at hc
        obtain ⟨z, hz, rfl⟩ := gm _ c hc
        exact decide_eq_true (w.gl z hz)
    )) only [↓bx_true]

theorem least_le {α β : Type} [DecidableEq α] [DecidableEq β] {succ : α → List α} {firsts : List α} {goal : α → Bool} {succ' : β → List β} {firsts' : List β} {goal' : β → Bool} (h : ∀ n, HasLen succ firsts goal n → HasLen succ' firsts' goal' n) :
    ∀ n, leastO succ firsts goal = some n → ∃ m, leastO succ' firsts' goal' = some m ∧ m ≤ n := fun n e => by
  have h1 := h n (least_some.mp e).1
  cases e2 : leastO succ' firsts' goal' with
  | none => exact absurd h1 (least_none.mp e2 n)
  | some m => exact ⟨m, rfl, (least_some.mp e2).2 n h1⟩
/-- _law_less -/
def lessO : Option Int → Option Int → Bool
  | some i, some j => decide (i < j)
  | some _, none => true
  | none, _ => false
theorem way_same {s s' : Sc} (ok : ScOk s) (ok' : ScOk s') {T T' : Nat} (per : Per s T) (per' : Per s' T') {zs ys zs' ys' : List Str} {b b' : Option Int} (h : ∀ n, (∃ t l, (∀ i, b = some i → t = i) ∧ l.length = n + 1 ∧ AbsW s T zs ys t l) ↔ ∃ t l, (∀ i, b' = some i → t = i) ∧ l.length = n + 1 ∧ AbsW s' T' zs' ys' t l) :
    wayN s T zs ys b = wayN s' T' zs' ys' b' := by
  refine bx_of ?_
  simp (disch := with_unfolding_all (
    have e : leastO (succW s T) (beginW s T zs b) (goalW ys) = leastO (succW s' T') (beginW s' T' zs' b') (goalW ys') := by
      have k1 := least_le (succ := succW s T) (firsts := beginW s T zs b) (goal := goalW ys) (succ' := succW s' T') (firsts' := beginW s' T' zs' b') (goal' := goalW ys') fun n q => (abs_has ok' per').mpr ((h n).mp ((abs_has ok per).mp q))
      have k2 := least_le (succ := succW s' T') (firsts := beginW s' T' zs' b') (goal := goalW ys') (succ' := succW s T) (firsts' := beginW s T zs b) (goal' := goalW ys) fun n q => (abs_has ok per).mpr ((h n).mpr ((abs_has ok' per').mp q))
      cases e1 : leastO (succW s T) (beginW s T zs b) (goalW ys) with
      | none =>
        cases e2 : leastO (succW s' T') (beginW s' T' zs' b') (goalW ys') with
        | none => rfl
        | some m => obtain ⟨n, e3, _⟩ := k2 m e2; rw [e1] at e3; cases e3
      | some n =>
        obtain ⟨m, e2, hm⟩ := k1 n e1
        obtain ⟨n', e3, hn⟩ := k2 m e2
        rw [e1] at e3
        cases e3
        rw [e2, Nat.le_antisymm hm hn]
    unfold wayN
    rw [e]
    )) only [↓bx_true]

end Dk

/-! more light, less way: scenes without changes beside one another -/
namespace Dk
open PySem L2 RZ L3
/-- s' has less light, no more posts, no fewer doors -/
structure Less (s s' : Sc) : Prop where
  ns : s'.ns = s.ns
  ds : ∀ p ∈ s.ds, p ∈ s'.ds
  sh : ∀ t z, z ∈ shone s' t (firstOf s') → z ∈ shone s t (firstOf s)
  cr : ∀ a b t, crossOf s a b t = false → crossOf s' a b t = false
theorem mem_shone {s : Sc} {t : Int} {row : List Str} {z : Str} : z ∈ shone s t row ↔ ∃ (i : Nat) (p : Post) (w : Str), s.ps[i]? = some p ∧ row[i]? = some w ∧ z ∈ shines s t (p, w) := by
  unfold shone
  rw [List.mem_flatMap]
  constructor
  · rintro ⟨⟨p, w⟩, hq, hz⟩
    obtain ⟨i, hi⟩ := List.getElem?_of_mem hq
    rw [List.getElem?_zip_eq_some] at hi
    exact ⟨i, p, w, hi.1, hi.2, hz⟩
  · rintro ⟨i, p, w, h1, h2, hz⟩
    exact ⟨(p, w), List.mem_of_getElem? (i := i) (List.getElem?_zip_eq_some.mpr ⟨h1, h2⟩), hz⟩
theorem mem_shines {s : Sc} {t : Int} {p : Post} {w z : Str} : z ∈ shines s t (p, w) ↔ z = roomAt p.2.1 (t - p.2.2) ∨ (reachOf s w = 1 ∧ z ∈ seesOf s.ns s.ss (roomAt p.2.1 (t - p.2.2))) := by
  unfold shines
  rw [List.mem_cons]
  refine or_congr Iff.rfl ?_
  split
  · rename_i h
    exact ⟨fun q => ⟨h, q⟩, fun q => q.2⟩
  · rename_i h
    exact ⟨fun q => absurd q List.not_mem_nil, fun q => absurd q.1 h⟩
/-! the scenes of the law -/
def lessS (r : Sc) : Sc := { r with ss := r.ss.drop 1 }
def dimS (r : Sc) : Sc := { r with ls := r.ls.map fun p => (p.1, 0) }
def moreD (p : Str × Str) (r : Sc) : Sc := { r with ds := r.ds ++ if p.1 = p.2 then [] else [p] }
def crowdS (l : List Str) (d c : Int) (r : Sc) : Sc := { r with ps := r.ps ++ [(("extra" : Str), l, d)], ls := r.ls ++ [(("extra" : Str), c)] }
section
variable {rooms posts size : Nat} {r : Sc}
/-! what each does to light and ways -/
end
end Dk

/-! rooms by other names and in another order -/
namespace Dk
open PySem L2 RZ L3
structure Moved (s s' : Sc) (f : Str → Str) : Prop where
  inj : ∀ a ∈ s.ns, ∀ b ∈ s.ns, f a = f b → a = b
  np : s'.ns.Perm (s.ns.map f)
  ds : ∀ a ∈ s.ns, ∀ b ∈ s.ns, ((f a, f b) ∈ s'.ds ↔ (a, b) ∈ s.ds)
  ss : ∀ a ∈ s.ns, ∀ b ∈ s.ns, ((f a, f b) ∈ s'.ss ↔ (a, b) ∈ s.ss)
  ps : s'.ps = s.ps.map fun p => (p.1, p.2.1.map f, p.2.2)
  ls : s'.ls = s.ls
  me : s'.meet = s.meet
  re : s'.rel = s.rel
theorem per_oneM {s : Sc} {T T' : Nat} (h : Per s T) (h' : Per s T') : T = T' := by
  rcases Nat.lt_trichotomy T T' with c | c | c
  · exact absurd ⟨h.dv, h.back⟩ (h'.least T h.pos c)
  · exact c
  · exact absurd ⟨h'.dv, h'.back⟩ (h.least T' h'.pos c)
section
variable {s s' : Sc} {f : Str → Str}
theorem Moved.mem (m : Moved s s' f) {z : Str} : z ∈ s'.ns ↔ ∃ x ∈ s.ns, f x = z := by rw [m.np.mem_iff, List.mem_map]
theorem Moved.mf (m : Moved s s' f) {z : Str} (h : z ∈ s.ns) : f z ∈ s'.ns := m.mem.mpr ⟨z, h, rfl⟩
theorem map_room {l : List Str} (h : 1 ≤ l.length) (i : Int) : roomAt (l.map f) i = f (roomAt l i) := by
  unfold roomAt
  rw [List.length_map]
  have h0 := Int.emod_nonneg i (show (l.length : Int) ≠ 0 by omega)
  have h1 := Int.emod_lt_of_pos i (show (0 : Int) < l.length by omega)
  have h2 : (i % (l.length : Int)).toNat < l.length := by omega
  rw [List.getD_eq_getElem?_getD, List.getD_eq_getElem?_getD, List.getElem?_map, List.getElem?_eq_getElem h2]
  rfl
theorem room_ns (ok : ScOk s) {p : Post} (hp : p ∈ s.ps) (i : Int) : roomAt p.2.1 i ∈ s.ns := roomAt_in (ok.pr p hp).1 (ok.pr p hp).2.2.1 i
theorem moved_spots (ok : ScOk s) (m : Moved s s' f) (b : Int) : spotsOf s' b = (spotsOf s b).map f := by
  unfold spotsOf
  rw [m.ps, List.map_map, List.map_map]
  exact List.map_congr_left fun p hp => map_room (ok.pr p hp).1 _
theorem meet1_map {sp : List Str} (inj : ∀ a ∈ sp, ∀ b ∈ sp, f a = f b → a = b) {i j : Nat} (hi : i < sp.length) (hj : j < sp.length) (l : List Str) : meet1 (sp.map f) i j l = meet1 sp i j l := by
  unfold meet1
  rw [List.getD_eq_getElem?_getD, List.getD_eq_getElem?_getD, List.getElem?_map, List.getElem?_map, List.getD_eq_getElem?_getD, List.getD_eq_getElem?_getD, List.getElem?_eq_getElem hi, List.getElem?_eq_getElem hj]
  show (if f sp[i] = f sp[j] then _ else _) = if sp[i] = sp[j] then _ else _
  by_cases c : sp[i] = sp[j]
  · rw [if_pos c, if_pos (congrArg f c)]
  · rw [if_neg c, if_neg fun h => c (inj _ (List.getElem_mem hi) _ (List.getElem_mem hj) h)]
theorem meetIn_map {sp : List Str} (inj : ∀ a ∈ sp, ∀ b ∈ sp, f a = f b → a = b) {i : Nat} (l : List Str) : ∀ n, i + n < sp.length → meetIn (sp.map f) i n l = meetIn sp i n l
  | 0, _ => rfl
  | n + 1, h => by
    rw [meetIn, meetIn, meetIn_map inj l n (by omega), meet1_map inj (by omega) (by omega)]
theorem meetOut_map {sp : List Str} (inj : ∀ a ∈ sp, ∀ b ∈ sp, f a = f b → a = b) (l : List Str) : ∀ n, n ≤ sp.length → meetOut (sp.map f) n l = meetOut sp n l
  | 0, _ => rfl
  | n + 1, h => by
    rw [meetOut, meetOut, meetOut_map inj l n (by omega), List.length_map, meetIn_map inj _ _ (by omega)]
theorem moved_pl (m : Moved s s' f) : s'.ps.length = s.ps.length := by rw [m.ps, List.length_map]
theorem moved_change (ok : ScOk s) (m : Moved s s' f) (b : Int) (l : List Str) : changeL s' b l = changeL s b l := by
  refine bx_of ?_
  simp (disch := with_unfolding_all (
    have hm : meetsL s' b l = meetsL s b l := by
      unfold meetsL
      rw [m.me, moved_spots ok m, moved_pl m]
      rw [meetOut_map (fun x hx y hy h => ?_) l _ (by rw [spots_len]; exact Nat.le_refl _)]
      obtain ⟨p, hp, rfl⟩ := List.mem_map.mp hx
      obtain ⟨q, hq, rfl⟩ := List.mem_map.mp hy
      exact m.inj _ (room_ns ok hp _) _ (room_ns ok hq _) h
    have he : easing s' b l.length ↔ easing s b l.length := by unfold easing; rw [m.re, moved_pl m]
    have ha : easeAt s' b = easeAt s b := by unfold easeAt; rw [m.re, moved_pl m]
    unfold changeL
    by_cases c : easing s b l.length
    · rw [if_pos c, if_pos (he.mpr c), hm, ha, moved_pl m]
    · rw [if_neg c, if_neg (fun h => c (he.mp h)), hm]
    )) only [↓bx_true]

theorem moved_first (m : Moved s s' f) : firstOf s' = firstOf s := by unfold firstOf; rw [m.ls]
theorem moved_row (ok : ScOk s) (m : Moved s s' f) : ∀ k, rowAt s' k = rowAt s k
  | 0 => moved_first m
  | k + 1 => by rw [rowAt, rowAt, moved_row ok m k, moved_change ok m]
theorem moved_span (m : Moved s s' f) : spanOf s' = spanOf s := by
  unfold spanOf sizesOf
  have e : s'.ps ≠ [] ↔ s.ps ≠ [] := by rw [m.ps]; simp
  rw [moved_pl m, m.re, m.ls]
  congr 2
  · rw [m.ps, List.map_map]
    exact List.map_congr_left fun p _ => List.length_map ..
  · by_cases c : s.rel ≠ 0 ∧ s.ps ≠ [] ∧ s.ls.length > s.ps.length
    · rw [if_pos c, if_pos ⟨c.1, e.mpr c.2.1, c.2.2⟩]
    · rw [if_neg c, if_neg fun h => c ⟨h.1, e.mp h.2.1, h.2.2⟩]
theorem moved_per (ok : ScOk s) (m : Moved s s' f) {T : Nat} (per : Per s T) : Per s' T where
  pos := per.pos
  dv := by rw [moved_span m]; exact per.dv
  back := by rw [moved_row ok m, moved_first m]; exact per.back
  least := fun k h1 h2 => by rw [moved_span m, moved_row ok m, moved_first m]; exact per.least k h1 h2
  le := per.le
theorem moved_rowZ (ok : ScOk s) (m : Moved s s' f) (T : Nat) (b : Int) : rowZ s' T b = rowZ s T b := moved_row ok m _
theorem moved_sees (m : Moved s s' f) {a z : Str} (ha : a ∈ s.ns) (hz : z ∈ s.ns) : f z ∈ seesOf s'.ns s'.ss (f a) ↔ z ∈ seesOf s.ns s.ss a := by
  unfold seesOf
  rw [List.mem_filter, List.mem_filter, decide_eq_true_eq, decide_eq_true_eq, m.ss a ha z hz]
  exact and_congr ⟨fun _ => hz, fun _ => m.mf hz⟩ Iff.rfl
theorem moved_shone (ok : ScOk s) (m : Moved s s' f) {t : Int} {row : List Str} {z : Str} (hz : z ∈ s.ns) : f z ∈ shone s' t row ↔ z ∈ shone s t row := by
  refine bx_of ?_
  simp (disch := with_unfolding_all (
    rw [mem_shone, mem_shone]
    have key : ∀ p ∈ s.ps, ∀ w, f z ∈ shines s' t ((p.1, p.2.1.map f, p.2.2), w) ↔ z ∈ shines s t (p, w) := fun p hp w => by
      rw [mem_shines, mem_shines]
      dsimp only
      rw [map_room (ok.pr p hp).1, moved_sees m (room_ns ok hp _) hz, show reachOf s' w = reachOf s w from by unfold reachOf; rw [m.ls]]
      exact or_congr ⟨fun h => m.inj _ hz _ (room_ns ok hp _) h, fun h => congrArg f h⟩ Iff.rfl
    constructor
    · rintro ⟨i, p, w, h1, h2, h3⟩
      rw [m.ps, List.getElem?_map] at h1
      cases hq : s.ps[i]? with
      | none => rw [hq] at h1; cases h1
      | some q =>
        rw [hq] at h1
        cases h1
        exact ⟨i, q, w, hq, h2, (key q (List.mem_of_getElem? hq) w).mp h3⟩
    · rintro ⟨i, p, w, h1, h2, h3⟩
      exact ⟨i, _, w, by rw [m.ps, List.getElem?_map, h1]; rfl, h2, (key p (List.mem_of_getElem? h1) w).mpr h3⟩
    )) only [↓bx_true]

theorem moved_litm (ok : ScOk s) (m : Moved s s' f) {t : Int} {row : List Str} {z : Str} (hz : z ∈ s.ns) : f z ∈ litOf s' row t ↔ z ∈ litOf s row t := by
  unfold litOf
  rw [List.mem_filter, List.mem_filter, decide_eq_true_eq, decide_eq_true_eq, moved_shone ok m hz]
  exact and_congr ⟨fun _ => hz, fun _ => m.mf hz⟩ Iff.rfl
/-- what is lit, by the new names -/
theorem moved_lit (ok : ScOk s) (m : Moved s s' f) (t : Int) (row : List Str) : (litOf s' row t).Perm ((litOf s row t).map f) := by
  unfold litOf
  refine (m.np.filter _).trans ?_
  rw [List.filter_map]
  refine List.Perm.of_eq (congrArg (List.map f) (List.filter_congr fun z hz => ?_))
  show decide (f z ∈ shone s' t row) = _
  exact dec_iff (moved_shone ok m hz)
theorem moved_dark (ok : ScOk s) (m : Moved s s' f) {T : Nat} {z : Str} (hz : z ∈ s.ns) (t : Int) : darkW s' T (f z) t = darkW s T z t := by
  unfold darkW
  rw [moved_rowZ ok m]
  congr 1
  exact dec_iff (moved_litm ok m hz)
theorem moved_cross (ok : ScOk s) (m : Moved s s' f) {a b : Str} (ha : a ∈ s.ns) (hb : b ∈ s.ns) (t : Int) : crossOf s' (f a) (f b) t = crossOf s a b t := by
  unfold crossOf
  rw [m.ps, List.map_map, dec_iff (show f a = f b ↔ a = b from ⟨m.inj a ha b hb, congrArg f⟩)]
  congr 2
  refine List.map_congr_left fun p hp => ?_
  show hit (f a) (f b) t (p.1, p.2.1.map f, p.2.2) = hit a b t p
  unfold hit
  dsimp only
  rw [map_room (ok.pr p hp).1, map_room (ok.pr p hp).1, dec_iff (show f (roomAt p.2.1 (t - 1 - p.2.2)) = f b ↔ _ from ⟨m.inj _ (room_ns ok hp _) b hb, congrArg f⟩), dec_iff (show f (roomAt p.2.1 (t - p.2.2)) = f a ↔ _ from ⟨m.inj _ (room_ns ok hp _) a ha, congrArg f⟩)]
theorem moved_onward (ok : ScOk s) (m : Moved s s' f) {T : Nat} {x y : Str} (hx : x ∈ s.ns) (hy : y ∈ s.ns) (t : Int) : f y ∈ onwardOf s' T (f x) t ↔ y ∈ onwardOf s T x t := by
  unfold onwardOf
  rw [List.mem_filter, List.mem_filter, List.mem_filter, List.mem_filter, moved_rowZ ok m, moved_cross ok m hx hy, dec_iff (m.ds x hx y hy), dec_iff (show f x = f y ↔ x = y from ⟨m.inj x hx y hy, congrArg f⟩), dec_iff (moved_litm ok m hy)]
  exact and_congr (and_congr ⟨fun _ => hy, fun _ => m.mf hy⟩ Iff.rfl) Iff.rfl
theorem moved_in {T : Nat} {zs ys : List Str} {t : Int} {l : List Str} (hz : ∀ z ∈ zs, z ∈ s.ns) (w : AbsW s T zs ys t l) : ∀ z ∈ l, z ∈ s.ns := fun z h => by
  obtain ⟨i, hi⟩ := List.getElem?_of_mem h
  cases i with
  | zero => exact hz z (w.fs z hi).1
  | succ i =>
    have hl := (List.getElem?_eq_some_iff.mp hi).1
    exact onward_in (w.ch i _ z (List.getElem?_eq_getElem (by omega)) hi)
theorem moved_abs (ok : ScOk s) (m : Moved s s' f) {T : Nat} {zs ys : List Str} (hz : ∀ z ∈ zs, z ∈ s.ns) (hy : ∀ z ∈ ys, z ∈ s.ns) {t : Int} {l : List Str} (hl : ∀ z ∈ l, z ∈ s.ns) : AbsW s' T (zs.map f) (ys.map f) t (l.map f) ↔ AbsW s T zs ys t l := by
  refine bx_of ?_
  simp (disch := with_unfolding_all (
    have fin : ∀ (as : List Str), (∀ a ∈ as, a ∈ s.ns) → ∀ z ∈ s.ns, (f z ∈ as.map f ↔ z ∈ as) := fun as ha z h => ⟨fun q => by
      obtain ⟨a, q1, q2⟩ := List.mem_map.mp q
      rw [← m.inj a (ha a q1) z h q2]
      exact q1, fun q => List.mem_map.mpr ⟨z, q, rfl⟩⟩
    constructor
    · intro w
      refine ⟨fun z e => ?_, fun i x y h1 h2 => ?_, fun z e => ?_⟩
      · have zn := hl z (List.mem_of_getElem? e)
        obtain ⟨q1, q2⟩ := w.fs (f z) (by rw [List.getElem?_map, e]; rfl)
        exact ⟨(fin zs hz z zn).mp q1, by rw [← moved_dark ok m zn]; exact q2⟩
      · exact (moved_onward ok m (hl x (List.mem_of_getElem? h1)) (hl y (List.mem_of_getElem? h2)) _).mp (w.ch i (f x) (f y) (by rw [List.getElem?_map, h1]; rfl) (by rw [List.getElem?_map, h2]; rfl))
      · exact (fin ys hy z (hl z (List.mem_of_getElem? e))).mp (w.gl (f z) (by rw [List.length_map, List.getElem?_map, e]; rfl))
    · intro w
      have un : ∀ (i : Nat) z, (l.map f)[i]? = some z → ∃ x, l[i]? = some x ∧ f x = z := fun i z e => by
        rw [List.getElem?_map] at e
        cases q : l[i]? with
        | none => rw [q] at e; cases e
        | some x => rw [q] at e; exact ⟨x, rfl, Option.some.inj e⟩
      refine ⟨fun z e => ?_, fun i x y h1 h2 => ?_, fun z e => ?_⟩
      · obtain ⟨x, q, rfl⟩ := un 0 z e
        have xn := hl x (List.mem_of_getElem? q)
        obtain ⟨q1, q2⟩ := w.fs x q
        exact ⟨(fin zs hz x xn).mpr q1, by rw [moved_dark ok m xn]; exact q2⟩
      · obtain ⟨a, q1, rfl⟩ := un i x h1
        obtain ⟨b, q2, rfl⟩ := un (i + 1) y h2
        exact (moved_onward ok m (hl a (List.mem_of_getElem? q1)) (hl b (List.mem_of_getElem? q2)) _).mpr (w.ch i a b q1 q2)
      · rw [List.length_map] at e
        obtain ⟨x, q, rfl⟩ := un _ z e
        exact (fin ys hy x (hl x (List.mem_of_getElem? q))).mpr (w.gl x q)
    )) only [↓bx_true]

/-- names and orders tell nothing -/
theorem moved_way (ok : ScOk s) (ok' : ScOk s') (m : Moved s s' f) {T T' : Nat} (per : Per s T) (per' : Per s' T') {zs ys : List Str} (hz : ∀ z ∈ zs, z ∈ s.ns) (hy : ∀ z ∈ ys, z ∈ s.ns) (b : Option Int) : wayN s' T' (zs.map f) (ys.map f) b = wayN s T zs ys b := by
  refine bx_of ?_
  simp (disch := with_unfolding_all (
    cases per_oneM per' (moved_per ok m per)
    refine way_same ok' ok per' per fun n => ?_
    constructor
    · rintro ⟨t, l', h1, h2, w⟩
      have hl' : ∀ z ∈ l', ∃ x ∈ s.ns, f x = z := fun z h => m.mem.mp (moved_in (fun z h => by
        obtain ⟨x, q, rfl⟩ := List.mem_map.mp h
        exact m.mf (hz x q)) w z h)
      obtain ⟨l, rfl, hl⟩ : ∃ l : List Str, l.map f = l' ∧ ∀ z ∈ l, z ∈ s.ns := by
        clear w h2
        induction l' with
        | nil => exact ⟨[], rfl, fun _ h => nomatch h⟩
        | cons z l' ih =>
          obtain ⟨l, e, h⟩ := ih fun x hx => hl' x (.tail _ hx)
          obtain ⟨x, hx, rfl⟩ := hl' z (.head _)
          refine ⟨x :: l, by rw [List.map_cons, e], fun y hy => ?_⟩
          rcases List.mem_cons.mp hy with rfl | hy
          · exact hx
          · exact h y hy
      exact ⟨t, l, h1, by rw [List.length_map] at h2; exact h2, (moved_abs ok m hz hy hl).mp w⟩
    · rintro ⟨t, l, h1, h2, w⟩
      exact ⟨t, l.map f, h1, by rw [List.length_map]; exact h2, (moved_abs ok m hz hy (moved_in hz w)).mpr w⟩
    )) only [↓bx_true]

end
end Dk

/-! the scene that _law_moved makes -/
namespace Dk
open PySem L2 RZ L3
def frF (ns nm : List Str) (z : Str) : Str := nm.getD (ns.idxOf z) e0
def movS (r : Sc) (nm od : List Str) : Sc := { r with ns := od, ds := r.ds.map (fun p => (frF r.ns nm p.2, frF r.ns nm p.1)), ss := (r.ss.map fun p => (frF r.ns nm p.1, frF r.ns nm p.2)).reverse, ps := r.ps.map fun p => (p.1, p.2.1.map (frF r.ns nm), p.2.2) }
section
variable {r : Sc} {nm od : List Str} {a b c : Nat}
theorem fr_at {ns : List Str} {z : Str} (hz : z ∈ ns) (hl : ns.length ≤ nm.length) : ∃ h : ns.idxOf z < nm.length, frF ns nm z = nm[ns.idxOf z] := by
  have h1 : ns.idxOf z < ns.length := List.idxOf_lt_length_iff.mpr hz
  refine ⟨by omega, ?_⟩
  unfold frF
  rw [List.getD_eq_getElem?_getD, List.getElem?_eq_getElem (by omega)]
  rfl
theorem fr_mem {ns : List Str} {z : Str} (hz : z ∈ ns) (hl : ns.length ≤ nm.length) : frF ns nm z ∈ nm := by
  obtain ⟨h, e⟩ := fr_at hz hl
  rw [e]
  exact List.getElem_mem h
theorem fr_inj {ns : List Str} (hl : ns.length ≤ nm.length) (nn : nm.Nodup) : ∀ a ∈ ns, ∀ b ∈ ns, frF ns nm a = frF ns nm b → a = b := fun a ha b hb e => by
  obtain ⟨h1, e1⟩ := fr_at ha hl
  obtain ⟨h2, e2⟩ := fr_at hb hl
  rw [e1, e2] at e
  have e3 := (List.getElem_inj nn).mp e
  have g1 := List.getElem_idxOf (List.idxOf_lt_length_iff.mpr ha)
  have g2 := List.getElem_idxOf (List.idxOf_lt_length_iff.mpr hb)
  rw [← g1, ← g2]
  congr 1
theorem mov_moved (ho : HouseOk a r.ns r.ds r.ss) (hl : r.ns.length ≤ nm.length) (nn : nm.Nodup) (pm : od.Perm (r.ns.map (frF r.ns nm))) : Moved (builtOf r) (builtOf (movS r nm od)) (frF r.ns nm) where
  inj := fr_inj hl nn
  np := pm
  ds := fun x hx y hy => by
    have inj := fr_inj (ns := r.ns) hl nn
    show _ ∈ doorsOf (r.ds.map _) ↔ _ ∈ doorsOf r.ds
    rw [mem_doors, mem_doors, List.mem_map, List.mem_map]
    have key : ∀ u ∈ r.ns, ∀ v ∈ r.ns, ((∃ p ∈ r.ds, (frF r.ns nm p.2, frF r.ns nm p.1) = (frF r.ns nm u, frF r.ns nm v)) ↔ (v, u) ∈ r.ds) := fun u hu v hv => ⟨fun ⟨p, h1, h2⟩ => by
      obtain ⟨m1, m2, _⟩ := ho.dm p h1
      have e1 := inj _ m2 _ hu (Prod.mk.inj h2).1
      have e2 := inj _ m1 _ hv (Prod.mk.inj h2).2
      rw [← e1, ← e2]
      exact h1, fun h => ⟨_, h, rfl⟩⟩
    rw [key x hx y hy]
    show _ ∨ (∃ p ∈ r.ds, (frF r.ns nm p.2, frF r.ns nm p.1) = (frF r.ns nm y, frF r.ns nm x)) ↔ _
    rw [key y hy x hx]
    exact or_comm
  ss := fun x hx y hy => by
    have inj := fr_inj (ns := r.ns) hl nn
    show _ ∈ sightsOf ((r.ss.map _).reverse) ↔ _ ∈ sightsOf r.ss
    rw [mem_sights, mem_sights, List.mem_reverse, List.mem_map]
    exact ⟨fun ⟨p, h1, h2⟩ => by
      obtain ⟨m1, m2, _⟩ := ho.sm p h1
      have e1 := inj _ m1 _ hx (Prod.mk.inj h2).1
      have e2 := inj _ m2 _ hy (Prod.mk.inj h2).2
      rw [← e1, ← e2]
      exact h1, fun h => ⟨_, h, rfl⟩⟩
  ps := rfl
  ls := rfl
  me := rfl
  re := rfl
theorem mov_drok (dr : DrOk a b c r) (hl : r.ns.length ≤ nm.length) (nn : nm.Nodup) (hn : ∀ z ∈ nm, NmOk z) (pm : od.Perm (r.ns.map (frF r.ns nm))) : DrOk a b c (movS r nm od) := by
  refine bx_of ?_
  simp (disch := with_unfolding_all (
    have inj := fr_inj (ns := r.ns) hl nn
    have mf : ∀ z ∈ r.ns, frF r.ns nm z ∈ od := fun z hz => pm.mem_iff.mpr (List.mem_map.mpr ⟨z, hz, rfl⟩)
    have le : od.length = r.ns.length := by rw [pm.length_eq, List.length_map]
    have ho := dr.ho
    exact {
      ho := {
        n0 := by show 1 ≤ od.length; rw [le]; exact ho.n0
        n1 := by show od.length ≤ a; rw [le]; exact ho.n1
        nd := by
          refine pm.nodup_iff.mpr ?_
          have gen : ∀ l : List Str, (∀ z ∈ l, z ∈ r.ns) → l.Nodup → (l.map (frF r.ns nm)).Nodup := by
            intro l
            induction l with
            | nil => intro _ _; exact List.nodup_nil
            | cons x l ih =>
              intro h nd
              rw [List.nodup_cons] at nd
              rw [List.map_cons, List.nodup_cons]
              refine ⟨fun hm => ?_, ih (fun z hz => h z (.tail _ hz)) nd.2⟩
              obtain ⟨y, hy, e⟩ := List.mem_map.mp hm
              exact nd.1 (inj y (h y (.tail _ hy)) x (h x (.head _)) e ▸ hy)
          exact gen r.ns (fun _ h => h) ho.nd
        nm := fun z hz => by
          obtain ⟨x, hx, rfl⟩ := List.mem_map.mp (pm.mem_iff.mp hz)
          exact hn _ (fr_mem hx hl)
        dl := by show (r.ds.map _).length ≤ _; rw [List.length_map]; exact ho.dl
        dm := fun p hp => by
          obtain ⟨q, hq, rfl⟩ := List.mem_map.mp hp
          obtain ⟨h1, h2, h3⟩ := ho.dm q hq
          exact ⟨mf _ h2, mf _ h1, fun e => h3 (inj _ h2 _ h1 e).symm⟩
        sl := by show ((r.ss.map _).reverse).length ≤ _; rw [List.length_reverse, List.length_map]; exact ho.sl
        sm := fun p hp => by
          obtain ⟨q, hq, rfl⟩ := List.mem_map.mp (List.mem_reverse.mp hp)
          obtain ⟨h1, h2, h3⟩ := ho.sm q hq
          exact ⟨mf _ h1, mf _ h2, fun e => h3 (inj _ h1 _ h2 e)⟩ }
      pl := by show (r.ps.map _).length ≤ b; rw [List.length_map]; exact dr.pl
      pd := by
        show ((r.ps.map _).map _).Nodup
        rw [List.map_map]
        exact dr.pd
      pn := fun p hp => by
        obtain ⟨q, hq, rfl⟩ := List.mem_map.mp hp
        exact dr.pn q hq
      pr := fun p hp => by
        obtain ⟨q, hq, rfl⟩ := List.mem_map.mp hp
        obtain ⟨ro, h1, h2⟩ := dr.pr q hq
        have ll : (q.2.1.map (frF r.ns nm)).length = q.2.1.length := List.length_map ..
        refine ⟨⟨by show 1 ≤ (q.2.1.map _).length; rw [ll]; exact ro.l1, by show (q.2.1.map _).length ≤ c; rw [ll]; exact ro.l6, fun z hz => ?_, fun i hi => ?_⟩, h1, by show q.2.2 < ((q.2.1.map _).length : Nat); rw [ll]; exact h2⟩
        · obtain ⟨x, hx, rfl⟩ := List.mem_map.mp hz
          exact mf x (ro.ln x hx)
        · change i < (q.2.1.map _).length at hi
          rw [ll] at hi
          have hm : (i + 1) % q.2.1.length < q.2.1.length := Nat.mod_lt _ (by omega)
          have cy := ro.cy i hi
          show relR (r.ds.map _) ((q.2.1.map _).getD i _) ((q.2.1.map _).getD ((i + 1) % (q.2.1.map _).length) _)
          rw [ll]
          rw [List.getD_eq_getElem?_getD, List.getD_eq_getElem?_getD, List.getElem?_eq_getElem hi, List.getElem?_eq_getElem hm] at cy
          rw [List.getD_eq_getElem?_getD, List.getD_eq_getElem?_getD, List.getElem?_map, List.getElem?_map, List.getElem?_eq_getElem hi, List.getElem?_eq_getElem hm]
          rcases cy with e | e | e
          · exact .inl (congrArg (frF r.ns nm) e)
          · exact .inr (.inr (List.mem_map.mpr ⟨_, e, rfl⟩))
          · exact .inr (.inl (List.mem_map.mpr ⟨_, e, rfl⟩))
      ll := dr.ll
      lp := by show (r.ps.map _).length ≤ _; rw [List.length_map]; exact dr.lp
      ld := dr.ld
      ln := dr.ln
      r0 := dr.r0
      r4 := dr.r4 }
    )) only [↓bx_true]

end
end Dk

/-! is_name's mirror -/
namespace Dk
open PySem L2 RZ L3
def letters : Str := "abcdefghijklmnopqrstuvwxyz"
def isName (z : Str) : Bool := (decide ((1 : Int) ≤ z.length) && decide ((z.length : Int) ≤ 8)) && ((z.cps.toList.map fun c => decide (c ∈ letters.cps.toList)).all id)
end Dk

/-! new scenes -/
namespace Dk
open PySem L2 RZ L3
/-- what a new scene is made of -/
structure ScNew (s : Sc) : Prop where
  ok : ScOk s
  pn : ∀ p ∈ s.ps, isName p.1 = true ∧ p.1.length ≤ 1000
  ln : ∀ p ∈ s.ls, (isName p.1 = true ∧ p.1.length ≤ 1000) ∧ 0 ≤ p.2 ∧ p.2 ≤ 1
  pw : ∀ p ∈ s.ps, ∀ i, i < p.2.1.length → (p.2.1.getD i Str.empty, p.2.1.getD ((i + 1) % p.2.1.length) Str.empty) ∈ s.ds ∨ p.2.1.getD i Str.empty = p.2.1.getD ((i + 1) % p.2.1.length) Str.empty
end Dk

/-! what a way comes to, to the letter: the search is a function of what is asked -/
namespace Dk
open PySem L2 RZ L3
section
variable {α : Type} [DecidableEq α] {succ : α → List α} {firsts : List α} {goal : α → Bool} {E : List (Ent α)}
/-- the search behind n steps -/
def runE (succ : α → List α) (firsts : List α) : Nat → List (Ent α)
  | 0 => firstE firsts
  | n + 1 => match (runE succ firsts n)[n]? with
    | some e => pushL (runE succ firsts n) e.1 e.2.2 (succ e.1)
    | none => runE succ firsts n
theorem run_next {n : Nat} {e : Ent α} (h : (runE succ firsts n)[n]? = some e) : runE succ firsts (n + 1) = pushL (runE succ firsts n) e.1 e.2.2 (succ e.1) := by
  show (match (runE succ firsts n)[n]? with
    | some e => pushL (runE succ firsts n) e.1 e.2.2 (succ e.1)
    | none => runE succ firsts n) = _
  rw [h]
/-- none of the first n steps met a goal, nor the end -/
def Calm (succ : α → List α) (firsts : List α) (goal : α → Bool) (n : Nat) : Prop := ∀ m, m < n → ∃ e, (runE succ firsts m)[m]? = some e ∧ goal e.1 = false
theorem calm_0 : Calm succ firsts goal 0 := fun m h => absurd h (Nat.not_lt_zero m)
theorem calm_next {n : Nat} {e : Ent α} (h : Calm succ firsts goal n) (he : (runE succ firsts n)[n]? = some e) (g : goal e.1 = false) : Calm succ firsts goal (n + 1) := fun m hm => by
  rcases Nat.lt_or_ge m n with l | l
  · exact h m l
  · have e : m = n := by omega
    subst e
    exact ⟨_, he, g⟩
structure EndAt (succ : α → List α) (firsts : List α) (goal : α → Bool) (n : Nat) : Prop where
  calm : Calm succ firsts goal n
  stop : ∀ e, (runE succ firsts n)[n]? = some e → goal e.1 = true
theorem push_snoc (p : α) (d : Nat) (cs : List α) (c : α) : pushL E p d (cs ++ [c]) = push1 (pushL E p d cs) p d c := by
  unfold pushL
  rw [List.foldl_append]
  rfl
/-- the way that the entries tell to a cell -/
structure TraceOf (E : List (Ent α)) (c : α) (d : Nat) (L : List α) : Prop where
  len : L.length = d + 1
  last : ∀ a, L[d]? = some a → a = c
  pr : ∀ i a b, L[i]? = some a → L[i + 1]? = some b → ∃ j, (b, some a, j) ∈ E
/-- found so far (the last one first), the cell ahead of it -/
def PredOk (E : List (Ent α)) (c : α) (F : List α) (cur : Option α) : Prop := (∀ i a b, F[i]? = some a → F[i + 1]? = some b → ∃ j, (a, some b, j) ∈ E) ∧ (∀ a x, F[F.length - 1]? = some a → cur = some x → ∃ j, (a, some x, j) ∈ E)
theorem pred_0 {c : α} : PredOk E c [] (some c) := ⟨fun i a b h => by simp at h, fun a x h => by simp at h⟩
theorem pred_1 {c x : α} {q : Option α} {j : Nat} {F : List α} (h : PredOk E c F (some x)) (he : (x, q, j) ∈ E) : PredOk E c (F ++ [x]) q := by
  refine ⟨fun i a b ha hb => ?_, fun a y ha hy => ?_⟩
  · rcases Nat.lt_or_ge (i + 1) F.length with l | l
    · rw [List.getElem?_append_left (by omega)] at ha
      rw [List.getElem?_append_left l] at hb
      exact h.1 i a b ha hb
    · have hl : i + 1 < (F ++ [x]).length := (List.getElem?_eq_some_iff.mp hb).1
      rw [List.length_append, List.length_singleton] at hl
      have e : F.length = i + 1 := by omega
      rw [List.getElem?_append_right (by omega), e, Nat.sub_self] at hb
      have hb : x = b := Option.some.inj hb
      subst hb
      rw [List.getElem?_append_left (by omega)] at ha
      exact h.2 a x (by rw [e]; exact ha) rfl
  · rw [List.length_append, List.length_singleton, Nat.add_sub_cancel, List.getElem?_append_right (Nat.le_refl _), Nat.sub_self] at ha
    have ha : x = a := Option.some.inj ha
    subst ha
    subst hy
    exact ⟨j, he⟩
theorem trace_of {c : α} {d : Nat} {F : List α} (h : PredOk E c F none) (hl : F.length = d + 1) (h0 : ∀ a, F[0]? = some a → a = c) : TraceOf E c d F.reverse := by
  refine ⟨by simpa using hl, fun a ha => ?_, fun i a b ha hb => ?_⟩
  · rw [List.getElem?_reverse (by omega), show F.length - 1 - d = 0 by omega] at ha
    exact h0 a ha
  · have hi : i + 1 < F.reverse.length := (List.getElem?_eq_some_iff.mp hb).1
    rw [List.length_reverse] at hi
    rw [List.getElem?_reverse (by omega)] at ha hb
    exact h.1 (F.length - 1 - (i + 1)) b a hb (by rw [show F.length - 1 - (i + 1) + 1 = F.length - 1 - i by omega]; exact ha)
end
end Dk
local macro_rules | `(tactic| decreasing_trivial_pre_omega) => do
  let K := Lean.mkIdent `K
  let C_House := Lean.mkIdent `C_House
  let T_House := Lean.mkIdent `T_House.cl
  let n_House_named := Lean.mkIdent `T_House.n_named
  let n_House_doored := Lean.mkIdent `T_House.n_doored
  let n_House_sighted := Lean.mkIdent `T_House.n_sighted
  let C_Scene := Lean.mkIdent `C_Scene
  let T_Scene := Lean.mkIdent `T_Scene.cl
  let n_Scene_inside := Lean.mkIdent `T_Scene.n_inside
  let n_Scene_rounds := Lean.mkIdent `T_Scene.n_rounds
  let n_Scene_lamps := Lean.mkIdent `T_Scene.n_lamps
  let n_Scene_meeting := Lean.mkIdent `T_Scene.n_meeting
  let n_Scene_relieving := Lean.mkIdent `T_Scene.n_relieving
  let n_Scene_rows := Lean.mkIdent `T_Scene.n_rows
  let n_Scene_glow := Lean.mkIdent `T_Scene.n_glow
  `(tactic| first
  | ((with_reducible refine L3.gEv ?_); first | with_reducible refine L3.ev_varM ?_ | with_reducible refine L3.ev_int ?_ | with_reducible refine L3.ev_str ?_ | with_reducible refine L3.ev_op ?_ | ((with_reducible refine L3.ev_call_at ?_); first | refine L3.ev_draw0 ?_ | refine L3.ev_callP0 ?_ | refine L3.ev_callK ?_ | refine L3.ev_callB2 ?_ | refine L3.ev_callPDi ?_ | refine L3.ev_callRO ?_ | refine L3.ev_callKDn ?_ | with_reducible refine L3.ev_callF0 ?_ | refine L3.ev_callT ?_) | ((with_reducible refine L3.ev_meth_at ?_); first | refine L3.ev_methK ?_ | refine L3.ev_methM ?_) | with_reducible refine L3.ev_dictP ?_ | with_reducible refine L3.ev_dictD ?_ | with_reducible refine L3.ev_sortI ?_ | with_reducible refine L3.ev_cb ?_ | with_reducible refine L3.ev_dgetD ?_ | with_reducible refine L3.ev_lst ?_ | with_reducible refine L3.ev_bl ?_ | with_reducible refine L3.ev_tup (K := $K) ?_ | ((with_reducible refine L3.ev_fld (C := $C_House) $T_House ?_ ?_); focus (first | exact $n_House_named | exact $n_House_doored | exact $n_House_sighted)) | ((with_reducible refine L3.ev_fld (C := $C_Scene) $T_Scene ?_ ?_); focus (first | exact $n_Scene_inside | exact $n_Scene_rounds | exact $n_Scene_lamps | exact $n_Scene_meeting | exact $n_Scene_relieving | exact $n_Scene_rows | exact $n_Scene_glow))  | with_reducible refine L3.ev_append ?_ | with_reducible refine L3.ev_non ?_ | with_reducible refine L3.ev_slC ?_ | with_reducible refine L3.ev_dgetI ?_ | with_reducible refine L3.ev_ty ?_ | with_reducible refine L3.ev_un ?_ | with_reducible refine L3.ev_chain ?_ | with_reducible refine L3.ev_andV ?_ | with_reducible refine L3.ev_orV ?_ | with_reducible refine L3.ev_notV ?_ | with_reducible refine L3.ev_if ?_ | with_reducible refine L3.ev_tM1 ?_ | ((with_reducible refine L3.ev_callN_at ?_); first | refine L3.ev_callKP (gR := fun a b => a ++ b) L3.all2_gapp ?_ | refine L3.ev_callKN ?_) | ((with_reducible refine L3.ev_make_at ?_); refine L3.ev_make3 ?_) | with_reducible refine L3.ev_dinP ?_ | with_reducible refine L3.ev_dinD ?_ | with_reducible refine L3.ev_dninD ?_ | with_reducible refine L3.ev_disp1 fun _ => ?_ | with_reducible refine L3.ev_stepL ?_ | with_reducible refine L3.ev_lRg1 ?_ | with_reducible refine L3.ev_lRg2 ?_ | with_reducible refine L3.ev_idxL ?_ | with_reducible refine L3.ev_idxT ?_ | with_reducible refine L3.ev_dnewT ?_ | with_reducible refine L3.ev_dnewK ?_ | with_reducible refine L3.ev_dE ?_ | with_reducible refine L3.ev_rev ?_ | with_reducible refine L3.ev_ref ?_ | with_reducible refine L3.ev_itemsR (K := $K) ?_ | with_reducible refine L3.ev_tupK1 ?_ | with_reducible refine L3.ev_dnewTT ?_ | with_reducible refine L3.ev_inT ?_ | with_reducible refine L3.ev_ninT ?_ | with_reducible refine L3.ev_getT ?_)
  | ((with_reducible refine L3.gEx ?_); first | ((with_reducible refine L3.k_at_at ?_); first | refine L3.k_at rfl ?_) | ((with_reducible refine L3.k_fld_at ?_); first | refine L3.k_fldS rfl ?_ | refine L3.k_fldM (i := 0) rfl rfl ?_ | refine L3.k_fldM (i := 1) rfl rfl ?_ | refine L3.k_fldM (i := 2) rfl rfl ?_ | refine L3.k_fldM (i := 3) rfl rfl ?_ | refine L3.k_fldG (by assumption) rfl ?_ | refine L3.k_fldG (L3.HasO.app (by assumption) _) rfl ?_ | refine L3.k_fldG (by assumption) (by assumption) ?_) | ((with_reducible refine L3.k_meth_at ?_); first | refine L3.k_methS rfl ?_ | refine L3.k_methM (i := 0) rfl rfl ?_ | refine L3.k_methM (i := 1) rfl rfl ?_ | refine L3.k_methM (i := 2) rfl rfl ?_ | refine L3.k_methG (by assumption) rfl ?_ | refine L3.k_methG (L3.HasO.app (by assumption) _) rfl ?_ | refine L3.k_methG (by assumption) (by assumption) ?_) | ((with_reducible refine L3.k_hg_at ?_); first | refine L3.k_hg L3.hd_f rfl ?_ | refine L3.k_hg (L3.hd_m (i := 0) rfl) rfl ?_ | refine L3.k_hg (L3.hd_m (i := 1) rfl) rfl ?_ | refine L3.k_hg (L3.hd_m (i := 2) rfl) rfl ?_) | ((with_reducible refine L3.k_hd_at ?_); first | refine L3.k_hd L3.hd_f ?_ | refine L3.k_hd (L3.hd_m (i := 0) rfl) ?_ | refine L3.k_hd (L3.hd_m (i := 1) rfl) ?_ | refine L3.k_hd (L3.hd_m (i := 2) rfl) ?_ | refine L3.k_hd (L3.hd_m (i := 3) rfl) ?_ | refine L3.k_hd (L3.hd_m L3.at_last) ?_ | refine L3.k_hd (by assumption) ?_) | ((with_reducible refine L3.k_atI_at ?_); first | refine L3.k_atI rfl ?_) | ((with_reducible refine L3.k_putT_at ?_); first | refine L3.k_putT (i := 0) rfl ?_ ?_ | refine L3.k_putT (i := 1) rfl ?_ ?_ | refine L3.k_putT (i := 2) rfl ?_ ?_) | ((with_reducible refine L3.k_ht_at ?_); first | refine L3.k_ht L3.ht_f ?_ | refine L3.k_ht (L3.ht_m (i := 0) rfl) ?_ | refine L3.k_ht (L3.ht_m (i := 1) rfl) ?_ | refine L3.k_ht (L3.ht_m (i := 2) rfl) ?_ | refine L3.k_ht (L3.ht_m (i := 3) rfl) ?_ | refine L3.k_ht (L3.ht_m L3.at_last) ?_ | refine L3.k_ht (by assumption) ?_) | ((with_reducible refine L3.k_putD_at ?_); first | refine L3.k_putD (i := 0) rfl ?_ ?_ | refine L3.k_putD (i := 1) rfl ?_ ?_ | refine L3.k_putD (i := 2) rfl ?_ ?_) | ((with_reducible refine L3.k_setL_at ?_); first | refine L3.k_setL (i := 0) rfl rfl ?_ ?_ | refine L3.k_setL (i := 1) rfl rfl ?_ ?_ | refine L3.k_setL (i := 2) rfl rfl ?_ ?_) | ((with_reducible refine L3.k_put_at ?_); first | refine L3.k_put (i := 0) rfl ?_ ?_ | refine L3.k_put (i := 1) rfl ?_ ?_ | refine L3.k_put (i := 2) rfl ?_ ?_) | ((with_reducible refine L3.k_set_at ?_); first | refine L3.k_set (j := 0) rfl ?_ ?_ | refine L3.k_set (j := 1) rfl ?_ ?_ | refine L3.k_set (j := 2) rfl ?_ ?_) | ((with_reducible refine L3.k_pd_at ?_); first | refine L3.k_pd (.inl rfl) ?_ | refine L3.k_pd (.inr ⟨_, 0, rfl, rfl⟩) ?_ | refine L3.k_pd (.inr ⟨_, 1, rfl, rfl⟩) ?_ | refine L3.k_pd (.inr ⟨_, 2, rfl, rfl⟩) ?_ | refine L3.k_pd (by assumption) ?_) | ((with_reducible refine L3.k_app_at ?_); first | refine L3.k_app (i := 0) rfl ?_ | refine L3.k_app (i := 1) rfl ?_ | refine L3.k_app (i := 2) rfl ?_ | refine L3.k_app (i := 3) rfl ?_ | refine L3.k_app L3.at_last ?_) | ((with_reducible refine L3.k_app2_at ?_); first | refine L3.k_app2 (j := 0) rfl ?_ ?_ | refine L3.k_app2 (j := 1) rfl ?_ ?_ | refine L3.k_app2 (j := 2) rfl ?_ ?_ | refine L3.k_app2 (j := 3) rfl ?_ ?_) | with_reducible refine L3.k_rd ?_ | with_reducible refine L3.k_b ?_ | with_reducible refine L3.k_int ?_ | with_reducible refine L3.k_keySI ?_ | with_reducible refine L3.k_key ?_ | with_reducible refine L3.k_ref ?_ | with_reducible refine L3.k_str ?_ | with_reducible refine L3.k_tup ?_ | with_reducible refine L3.k_lst ?_ | with_reducible refine L3.k_ss ?_ | with_reducible refine L3.k_par ?_ | with_reducible refine L3.k_par3 ?_ | with_reducible refine L3.k_strs (f := L3.iLst) ?_ | with_reducible refine L3.k_strs (f := L3.aTupD) ?_ | with_reducible refine L3.k_lstR ?_ | with_reducible refine L3.k_zin (by assumption) ?_ | with_reducible refine L3.k_box ?_ | with_reducible refine L3.k_ofL ?_ ?_ ?_ | with_reducible refine L3.k_ofT ?_ ?_ ?_ | with_reducible refine L3.k_ofS ?_ ?_ ?_ | ((with_reducible refine L3.k_draw ?_ ?_); focus (exact ⟨by first | decide | omega, by first | decide | omega⟩)) | ((refine L3.k_draw ?_ ?_); focus (exact ⟨by first | decide | omega, by first | decide | omega⟩)) | refine L3.k_box ?_)
  | ((with_reducible refine L3.gSt ?_); first | ((with_reducible refine L3.st_seqL ?_); intro _) | ((with_reducible refine L3.st_fldM (C := $C_House) $T_House ?_ ?_); focus (first | exact $n_House_named | exact $n_House_doored | exact $n_House_sighted)) | ((with_reducible refine L3.st_fldT (C := $C_House) $T_House ?_ ?_); focus (first | exact $n_House_named | exact $n_House_doored | exact $n_House_sighted)) | ((with_reducible refine L3.st_fldK (C := $C_House) $T_House ?_ ?_); focus (first | exact $n_House_named | exact $n_House_doored | exact $n_House_sighted)) | ((with_reducible refine L3.st_fld (C := $C_House) $T_House ?_ ?_); focus (first | exact $n_House_named | exact $n_House_doored | exact $n_House_sighted)) | ((with_reducible refine L3.st_fldM (C := $C_Scene) $T_Scene ?_ ?_); focus (first | exact $n_Scene_inside | exact $n_Scene_rounds | exact $n_Scene_lamps | exact $n_Scene_meeting | exact $n_Scene_relieving | exact $n_Scene_rows | exact $n_Scene_glow)) | ((with_reducible refine L3.st_fldT (C := $C_Scene) $T_Scene ?_ ?_); focus (first | exact $n_Scene_inside | exact $n_Scene_rounds | exact $n_Scene_lamps | exact $n_Scene_meeting | exact $n_Scene_relieving | exact $n_Scene_rows | exact $n_Scene_glow)) | ((with_reducible refine L3.st_fldK (C := $C_Scene) $T_Scene ?_ ?_); focus (first | exact $n_Scene_inside | exact $n_Scene_rounds | exact $n_Scene_lamps | exact $n_Scene_meeting | exact $n_Scene_relieving | exact $n_Scene_rows | exact $n_Scene_glow)) | ((with_reducible refine L3.st_fld (C := $C_Scene) $T_Scene ?_ ?_); focus (first | exact $n_Scene_inside | exact $n_Scene_rounds | exact $n_Scene_lamps | exact $n_Scene_meeting | exact $n_Scene_relieving | exact $n_Scene_rows | exact $n_Scene_glow))  | with_reducible refine L3.st_augI ?_ | with_reducible refine L3.st_asgM ?_ | with_reducible refine L3.st_asgLM ?_ | with_reducible refine L3.st_asg ?_ | with_reducible refine L3.st_asgT (vs := []) ?_ | with_reducible refine L3.st_if ?_ | with_reducible refine L3.st_ret ?_ | with_reducible refine L3.st_drop ?_ | with_reducible refine L3.st_next ?_ | with_reducible refine L3.st_nextE ?_ | with_reducible refine L3.st_retN ?_ | with_reducible refine L3.st_par ?_ | with_reducible refine L3.st_par3 ?_ | with_reducible refine L3.st_asg2 ?_ | with_reducible refine L3.st_brk ?_ | with_reducible refine L3.st_cont ?_ | with_reducible refine L3.st_delL ?_)
  | ((with_reducible refine L3.gEa ?_); first | with_reducible refine L3.ea_cons ?_ | with_reducible refine L3.ea_nil ?_)
  | ((with_reducible refine L3.ol_at ?_); first | refine L3.c_lenL _ ?_ | refine L3.c_lenDT (i := 0) rfl _ ?_ | refine L3.c_lenDT (i := 1) rfl _ ?_ | refine L3.c_lenD L3.hd_f _ ?_ | refine L3.c_lenD (L3.hd_m (i := 0) rfl) _ ?_ | refine L3.c_lenD (L3.hd_m (i := 1) rfl) _ ?_ | refine L3.c_lenD (L3.hd_m (i := 2) rfl) _ ?_ | refine L3.c_lenD (L3.hd_m (i := 3) rfl) _ ?_ | refine L3.c_listK L3.hd_f _ ?_ | refine L3.c_lenG (L3.hl_m (i := 0) rfl) _ ?_ | refine L3.c_lenG (L3.hl_m (i := 1) rfl) _ ?_ | refine L3.c_lenG (L3.hl_m (i := 2) rfl) _ ?_ | refine L3.c_lenG (L3.hl_m L3.at_last) _ ?_ | refine L3.c_lenT _ ?_ | refine L3.c_tupL _ ?_ | refine L3.c_tupD _ ?_ | refine L3.c_listL _ ?_ | refine L3.c_listT _ ?_ | refine L3.c_tupT _ ?_ | refine L3.c_all _ ?_ | refine L3.c_any _ ?_ | refine L3.c_lenQ _ ?_ | refine L3.c_listQ _ ?_ | refine L3.c_tupQ _ ?_ | refine L3.c_max2 _ ?_ | refine L3.c_min2 _ ?_ | refine L3.c_lenS ?_ _ ?_ | refine L3.c_minL ?_ ?_ | refine L3.c_maxL ?_ ?_)
  | ((with_reducible refine L3.o2_at ?_); first | refine L3.o_neE L3.hd_f _ ?_ | refine L3.o_add _ ?_ | refine L3.o_sub _ ?_ | refine L3.o_lt _ ?_ | refine L3.o_le _ ?_ | refine L3.o_gt _ ?_ | refine L3.o_ge _ ?_ | refine L3.o_eqI _ ?_ | refine L3.o_neI _ ?_ | refine L3.o_eqS _ ?_ | refine L3.o_neS _ ?_ | refine L3.o_eqB _ ?_ | refine L3.o_neB _ ?_ | refine L3.o_mul ?_ _ ?_ | refine L3.o_mod ?_ _ ?_ | refine L3.o_fdivW ?_ _ ?_ | refine L3.o_pow (by exact ⟨by decide, by decide, by decide⟩) _ ?_ | refine L3.o_ixL rfl _ ?_ | refine L3.o_ixT rfl _ ?_ | refine L3.o_ixSI0 _ ?_ | refine L3.o_ixSI1 _ ?_ | refine L3.o_ixL L3.atI_0 _ ?_ | refine L3.o_ixT L3.atI_0 _ ?_ | refine L3.o_cat ?_ _ ?_ | refine L3.o_rep2 ?_ _ ?_ | refine L3.o_catT ?_ _ ?_ | refine L3.o_addS ?_ _ ?_ | refine L3.o_ixQ rfl _ ?_ | refine L3.o_inG (.inl rfl) _ ?_ | refine L3.o_inG (.inr (.inr (.inr ⟨_, 0, rfl, rfl⟩))) _ ?_ | refine L3.o_inG (.inr (.inr (.inr ⟨_, 1, rfl, rfl⟩))) _ ?_ | refine L3.o_inG (by assumption) _ ?_ | refine L3.o_ninG (.inl rfl) _ ?_ | refine L3.o_ninG (.inr (.inr (.inr ⟨_, 0, rfl, rfl⟩))) _ ?_ | refine L3.o_ninG (.inr (.inr (.inr ⟨_, 1, rfl, rfl⟩))) _ ?_ | refine L3.o_ninG (by assumption) _ ?_)
  | ((with_reducible refine L3.gAnd ?_); first | refine L3.k_ho2S ?_ | refine L3.k_ho2M (i := 0) rfl ?_ | refine L3.k_ho2M (i := 1) rfl ?_ | refine L3.k_ho2M (i := 2) rfl ?_ | refine L3.k_ho3 (by assumption) ?_ | refine L3.k_ho3 (L3.HasO.app (by assumption) _) ?_ | ((with_reducible refine L3.k_len ?_ ?_); focus (first | exact Nat.le_of_ble_eq_true rfl | (simp; done))) | ((with_reducible refine L3.k_leneq ?_ ?_); focus rfl))
  | ((with_reducible refine L3.gIte ?_); first | with_reducible refine L3.k_t ?_ | with_reducible refine L3.k_f ?_ | with_reducible refine L3.k_nt ?_ | with_reducible refine L3.k_nf ?_)
  | ((with_reducible refine L3.gEt ?_); first | with_reducible refine L3.et_test ?_ | with_reducible refine L3.et_tB ?_ | with_reducible refine L3.et_and ?_ | with_reducible refine L3.et_or ?_ | with_reducible refine L3.et_not ?_ | with_reducible refine L3.et_yes ?_)
  | with_reducible refine L3.tg_name ?_
  | ((with_reducible refine L3.tg_tup ?_ ?_); focus rfl)
  | ((with_reducible refine L3.tg_tupSI ?_ ?_); focus rfl)
  | with_reducible refine L3.tg_setL ?_
  | with_reducible refine L3.tg_putP ?_
  | with_reducible refine L3.tg_putD ?_
  | with_reducible refine L3.tg_putI ?_
  | with_reducible refine L3.tg_putT1 ?_
  | ((with_reducible refine L3.tg_star_at ?_); first | refine L3.tg_star ?_ ?_ _ (.inl rfl) | refine L3.tg_star ?_ ?_ _ (.inr (.inl rfl)) | refine L3.tg_star ?_ ?_ _ (.inr (.inr rfl)))
  | with_reducible refine L3.tgs_cons ?_
  | with_reducible refine L3.tgs_nil ?_
  | ((with_reducible refine L3.gWk ?_); first | refine L3.Wk.so ?_ | refine L3.Wk.no ?_ | exact L3.Wk.nil)
  | with_reducible refine L3.etp_and ?_ (fun _ => ?_)
  | with_reducible refine L3.etp_or ?_ (fun _ => ?_)
  | with_reducible refine L3.etp_not ?_
  | ((with_reducible refine L3.ep_at ?_); intro _ _ _)
  | ((with_reducible refine L3.etp_at ?_); intro _ _ _)
  | ((with_reducible refine L3.eap_at ?_); intro _ _ _)
  | ((with_reducible refine L3.o1_at ?_); first | refine L3.o_neg _ ?_)
  | with_reducible refine L3.ti_rng1 ?_
  | with_reducible refine L3.ti_rng2 ?_
  | with_reducible refine L3.ti_rng3 ?_
  | with_reducible refine L3.ti_list ?_
  | with_reducible refine L3.ti_tup ?_
  | with_reducible refine L3.eoc_none ?_
  | with_reducible refine L3.eoc_some ?_
  | with_reducible refine L3.os_list ?_
  | refine L3.os_tup ?_
  | with_reducible refine L3.k_nat ?_
  | ((with_reducible refine L3.cmul_at ?_); first | exact .inl ⟨by omega, by omega⟩ | exact .inr ⟨by omega, by omega⟩)
  | ((with_reducible refine L3.nle_at ?_); first | exact Nat.le_of_ble_eq_true rfl | omega | (simp; done) | (simp; omega))
  | ((with_reducible refine L3.nlt_at ?_); first | exact Nat.le_of_ble_eq_true rfl | omega | (simp; done) | (simp; omega))
  | ((with_reducible refine L3.ile_at ?_); first | omega | (simp; done) | (simp; omega))
  | ((with_reducible refine L3.ilt_at ?_); first | omega | (simp; done) | (simp; omega))
  | ((with_reducible refine L3.gEq ?_); first | with_reducible exact L3.dat_int _ _ | with_reducible exact L3.dat_str _ _ | with_reducible exact L3.dat_bl _ _ | with_reducible exact L3.dat_non _ | with_reducible apply L3.dat_lst | with_reducible apply L3.dat_tup | with_reducible exact L3.dats_nil | with_reducible apply L3.dats_cons)
  | with_reducible apply L3.Fit.int
  | with_reducible apply L3.Fit.str
  | with_reducible apply L3.Fit.bl
  | with_reducible apply L3.Fit.non
  | with_reducible apply L3.fit_l
  | with_reducible apply L3.fit_t
  | with_reducible apply L3.fitA_nil
  | with_reducible apply L3.fitA_cons
  | assumption)
namespace Dk
open PySem L2 RZ L3
structure Txt_House (K : PySem.W.Frag) (mg : Str → Option Value) (C : Addr) : Prop where
  cl : Cls K C
  mg : mg "House" = some (.ref C)
  n_named : NoAttr K C "named"
  n_doored : NoAttr K C "doored"
  n_sighted : NoAttr K C "sighted"
structure Txt_Scene (K : PySem.W.Frag) (mg : Str → Option Value) (C : Addr) : Prop where
  cl : Cls K C
  mg : mg "Scene" = some (.ref C)
  n_inside : NoAttr K C "inside"
  n_rounds : NoAttr K C "rounds"
  n_lamps : NoAttr K C "lamps"
  n_meeting : NoAttr K C "meeting"
  n_relieving : NoAttr K C "relieving"
  n_rows : NoAttr K C "rows"
  n_glow : NoAttr K C "glow"
def top (i : Nat) : Stmt := PySem.Challenge.pw_darkthread_k33_whole_names_and_orders_te.main.body.getD i (.Pass ⟨0, 0, 0, 0⟩)
section
variable {P : Program} {w : World} {K : PySem.W.Frag} {mg : Str → Option Value} {base : Heap}

abbrev s__law_box : Stmt := top 50
theorem sc__law_box : FnScope ["_law_script"] ["_law_script"] (defScope s__law_box) := ⟨rfl, rfl, rfl, by decide +kernel, rfl, by decide +kernel, by decide +kernel⟩
abbrev ts__law_box (K : PySem.W.Frag) : TSp := tsBox K
theorem ok__law_box (B : Bt mg) {f : Addr} {fd : FuncData} (d : Df K mg "_law_box" s__law_box ["_law_script"] f fd) : Cl P w K mg base CX0 1 "_law_box" (ts__law_box K) [] := by
  refine bx_of ?_
  simp (disch := with_unfolding_all (
    refine cl_of d (okT (kk := 0) d.fn sc__law_box (fun Rs M k X h => by obtain ⟨ns, rfl, _⟩ := h; rfl) fun cdv A outer s H E hr => ⟨_,
      (pss_one (ps_ret (pe_lst (pa_cons (pe_callTy call_list_of (by rfl) B.list (by decide +kernel) (pa_cons (pe_slice sl_list (pv 0) po_none (po_some pe_int)) pa_nil)) (pa_cons pe_int (pa_cons pe_int (pa_cons pe_int (pa_cons pe_int pa_nil)))))))), ?_⟩)
    try dsimp only [L3.cxK, L3.cxKX]
    rintro Rs M k X ⟨ns, rfl, hl, rfl, q⟩
    refine st_dn ?_
    refine st_ret (ev_lstM (ea_cons (ep_cb (eap_cons (ep_sl (R := iLst ((cutL ns none (some 63)).map iInt)) (ep_var rfl) eo_none (eo_someX ep_int) s_scr) eap_nil) c_listL _ _ (eap_cons ep_int (eap_cons ep_int (eap_cons ep_int (eap_cons ep_int eap_nil))) _ _ ⟨by simp, fun a => ?_⟩))))
    refine kdn (P' := mBox) (A := []) (B := []) (fun S o h => ⟨⟨cutL ns none (some 63), 0, 0, 29, 0, by decide, by decide, by decide, by decide, ?_⟩, h⟩) (q a)
    unfold cutL
    simp
    omega
    )) only [↓bx_true]

abbrev s__law_draw : Stmt := top 47
theorem sc__law_draw : FnScope ["_law_box_here", "_law_many", "_law_cell", "_law_got"] ["_law_box_here", "_law_many"] (defScope s__law_draw) := ⟨rfl, rfl, rfl, by decide +kernel, rfl, by decide +kernel, by decide +kernel⟩
abbrev ts__law_draw (K : PySem.W.Frag) : TSp := tsDraw
theorem ok__law_draw (B : Bt mg) {f : Addr} {fd : FuncData} (d : Df K mg "_law_draw" s__law_draw ["_law_box_here", "_law_many"] f fd) : Cl P w K mg base CX0 1 "_law_draw" (ts__law_draw K) [] := by
  refine bx_of ?_
  simp (disch := with_unfolding_all (
    refine cl_of d (okT (kk := 0) d.fn sc__law_draw (fun Rs M k X h => by obtain ⟨b, n, rfl, _⟩ := h; rfl) fun cdv A outer s H E hr => ⟨_,
      (pss_cons (ps_if (PW.pt (pw_and (pt_cmpR op_lt (pe_ix ix_list (pv 0) pe_int (fun _ _ => rfl)) pe_int (nomark _)) (pw_and1 (pt_cmpR op_lt (pe_ix ix_list (pv 0) pe_int (fun _ _ => rfl)) (pe_callB call_len (by rfl) B.len (by decide +kernel) (pa_cons (pe_ix ix_list (pv 0) pe_int (fun _ _ => rfl)) pa_nil)) (nomark _))))) (pss_cons (ps_set (i := 2) sc__law_draw.nd rfl (Or.inl rfl) (pe_ix ix_seq (pe_ix ix_list (pv 0) pe_int (fun _ _ => rfl)) (pe_ix ix_list (pv 0) pe_int (fun _ _ => rfl)) (fun _ _ => rfl)))
        (pss_cons (ps_asg (pe_op op_add (pe_ix ix_list (pv 0) pe_int (fun _ _ => rfl)) pe_int) (pg_sub (pv 0) pe_int set_list))
        (pss_cons (ps_asg (pe_callB (call_max2 rfl) (by rfl) B.max (by decide +kernel) (pa_cons pe_int (pa_cons (pe_op op_sub (pv 2) (pe_op op_pow pe_int pe_int)) pa_nil))) (pg_sub (pv 0) pe_int set_list))
        (pss_one (ps_asg (pe_op op_mod (pe_op op_add (pe_op op_add (pe_op op_mul (pe_ix ix_list (pv 0) pe_int (fun _ _ => rfl)) pe_int) (pe_op op_mul (pe_op op_mod (pv 2) pe_int) pe_int)) pe_int) pe_int) (pg_sub (pv 0) pe_int set_list)))))) pss_nil)
        (pss_cons (ps_if (pt_cmpR op_gt (pe_ix ix_list (pv 0) pe_int (fun _ _ => rfl)) pe_int (nomark _)) (pss_cons (ps_set (i := 3) sc__law_draw.nd rfl (Or.inl rfl) (pe_op op_mod (pe_ix ix_list (pv 0) pe_int (fun _ _ => rfl)) (pv 1)))
        (pss_cons (ps_asg (pe_op op_fdivW (pe_ix ix_list (pv 0) pe_int (fun _ _ => rfl)) (pv 1)) (pg_sub (pv 0) pe_int set_list))
        (pss_one (ps_ret (pv 3))))) pss_nil)
        (pss_cons (ps_asg (pe_op op_add (pe_ix ix_list (pv 0) pe_int (fun _ _ => rfl)) pe_int) (pg_sub (pv 0) pe_int set_list))
        (pss_cons (ps_asg (pe_op op_mod (pe_op op_add (pe_op op_add (pe_op op_pow (pe_ix ix_list (pv 0) pe_int (fun _ _ => rfl)) pe_int) (pe_op op_mul pe_int (pe_ix ix_list (pv 0) pe_int (fun _ _ => rfl)))) pe_int) pe_int) (pg_sub (pv 0) pe_int set_list))
        (pss_one (ps_ret (pe_op op_mod (pe_op op_fdivW (pe_ix ix_list (pv 0) pe_int (fun _ _ => rfl)) pe_int) (pv 1)))))))), ?_⟩)
    try dsimp only [L3.cxK, L3.cxKX]
    rintro Rs M k X ⟨b, n, rfl, hn, hn2, rfl, q⟩
    have hn3 : n.natAbs < 2 ^ 100 := by omega
    refine st_dn ?_
    refine st_open (A := []) (B := []) (fun x : BoxV => mLst x.l) (fun S o h => h) fun x => ?_
    show St E _ [some (iRef b), some (iInt n), none, none] [(b, mLst x.l)] _
    refine st_cut (fun Γ1 M1 => ∃ (y : BoxV) (c2 : Option Rep), Γ1 = [some (iRef b), some (iInt n), c2, none] ∧ M1 = [(b, mLst y.l)]) ?_ ?_
    · refine st_ifp (etp_and (etp_test (ep_op (ep_op (ep_var rfl) ep_int (o_ixH rfl)) ep_int o_lt)) (fun _ => etp_test (ep_op (ep_op (ep_var rfl) ep_int (o_ixH rfl)) (ep_cb (eap_cons (ep_op (ep_var rfl) ep_int (o_ixH rfl)) eap_nil) c_lenL) o_lt))) (fun hc => ?_) (fun _ => ?_)
      · have hp : x.pos < x.ns.length := by simpa using (Bool.and_eq_true_iff.mp hc).2
        have h1 := x.h1
        obtain ⟨cell, hcell⟩ : ∃ cell, atI x.ns x.pos = some cell := by
          refine ⟨x.ns[x.pos.toNat]'(by omega), ?_⟩
          have := atI_nat (xs := x.ns) (j := x.pos.toNat) (v := x.ns[x.pos.toNat]'(by omega)) (by simp)
          rwa [show ((x.pos.toNat : Nat) : Int) = x.pos by omega] at this
        refine st_seq (st_asg (ep_op (ep_op (ep_var rfl) ep_int (o_ixH rfl)) (ep_op (ep_var rfl) ep_int (o_ixH rfl)) (o_or1 (o_ixL (atI_map hcell))) _ _ ?_))
        refine st_seq (st_asgT (vs := []) (ep_op (ep_op (ep_var rfl) ep_int (o_ixH rfl)) ep_int o_add _ _ ?_))
        refine tg_subM (A := []) (B := []) (ep_var rfl) ep_int rfl ?_
        refine st_seq (st_asgT (vs := []) (ep_cb (eap_cons ep_int (eap_cons (ep_op (ep_var rfl) (ep_op ep_int ep_int (o_pow ⟨by decide, by decide, by decide⟩)) o_sub) eap_nil)) c_max2 _ _ ?_))
        refine tg_subM (A := []) (B := []) (ep_var rfl) ep_int rfl ?_
        have h3 := x.h3
        have h4 := x.h4
        have hm := Int.emod_nonneg cell (show (2147483629 : Int) ≠ 0 by decide)
        have hm2 := Int.emod_lt_of_pos cell (show (0 : Int) < 2147483629 by decide)
        refine st_asgT (vs := []) (ep_op (ep_op (ep_op (ep_op (ep_op (ep_var rfl) ep_int (o_ixH rfl)) ep_int (o_mul (.inl ⟨by omega, by omega⟩))) (ep_op (ep_op (ep_var rfl) ep_int (o_mod (by decide))) ep_int (o_mul (.inl ⟨by omega, by omega⟩))) o_add) ep_int o_add) ep_int (o_mod (by decide)) _ _ ?_)
        refine tg_subM (A := []) (B := []) (ep_var rfl) ep_int rfl ?_
        exact ⟨⟨x.ns, x.pos + 1, max 0 (cell - 10 ^ (18 : Int).toNat), _, x.cnt, by omega, by omega, Int.emod_nonneg _ (by decide), Int.emod_lt_of_pos _ (by decide), x.h5⟩, _, rfl, rfl⟩
      · exact st_next ⟨x, none, rfl, rfl⟩
    · rintro Γ1 M1 ⟨y, c2, rfl, rfl⟩
      have y2 := y.h2
      have y3 := y.h3
      have y4 := y.h4
      refine st_seq (st_ifp (etp_test (ep_op (ep_op (ep_var rfl) ep_int (o_ixH rfl)) ep_int o_gt)) (fun hc => ?_) (fun _ => ?_))
      · refine st_seq (st_asg (ep_op (ep_op (ep_var rfl) ep_int (o_ixH rfl)) (ep_var rfl) (o_mod hn) _ _ ?_))
        refine st_seq (st_asgT (vs := []) (ep_op (ep_op (ep_var rfl) ep_int (o_ixH rfl)) (ep_var rfl) (o_fdivW (wide_div hn hn3 (by decide) (by decide))) _ _ ?_))
        refine tg_subM (A := []) (B := []) (ep_var rfl) ep_int rfl ?_
        refine st_ret (ep_var rfl _ _ ?_)
        refine kdn (P' := mBox) (A := []) (B := []) (fun S o h => ⟨⟨y.ns, y.pos, y.big / n, y.seed, y.cnt, y.h1, Int.ediv_nonneg y2 (by omega), y3, y4, y.h5⟩, h⟩) (q _ (Int.emod_nonneg _ (by omega)) (Int.emod_lt_of_pos _ hn))
      · refine st_next ?_
        refine st_seq (st_asgT (vs := []) (ep_op (ep_op (ep_var rfl) ep_int (o_ixH rfl)) ep_int o_add _ _ ?_))
        refine tg_subM (A := []) (B := []) (ep_var rfl) ep_int rfl ?_
        refine st_seq (st_asgT (vs := []) (ep_op (ep_op (ep_op (ep_op (ep_op (ep_var rfl) ep_int (o_ixH rfl)) ep_int (o_pow ⟨by decide, by decide, by omega⟩)) (ep_op ep_int (ep_op (ep_var rfl) ep_int (o_ixH rfl)) (o_mul (.inl ⟨by decide, by decide⟩))) o_add) ep_int o_add) ep_int (o_mod (by decide)) _ _ ?_))
        refine tg_subM (A := []) (B := []) (ep_var rfl) ep_int rfl ?_
        refine st_ret (ep_op (ep_op (ep_op (ep_var rfl) ep_int (o_ixH rfl)) ep_int (o_fdivW (wide_div (b := 7) (by decide) (by decide) (by decide) (by decide)))) (ep_var rfl) (o_mod hn) _ _ ?_)
        refine kdn (P' := mBox) (A := []) (B := []) (fun S o h => ⟨⟨y.ns, y.pos, y.big, _, y.cnt + 1, y.h1, y.h2, Int.emod_nonneg _ (by decide), Int.emod_lt_of_pos _ (by decide), y.h5⟩, h⟩) (q _ (Int.emod_nonneg _ (by omega)) (Int.emod_lt_of_pos _ hn))
    )) only [↓bx_true]

abbrev s__law_of : Stmt := top 48
theorem sc__law_of : FnScope ["_law_box_here", "_law_some_here"] ["_law_box_here", "_law_some_here"] (defScope s__law_of) := ⟨rfl, rfl, rfl, by decide +kernel, rfl, by decide +kernel, by decide +kernel⟩
abbrev ts__law_of (K : PySem.W.Frag) : TSp := tsOf2 K
theorem ok__law_of (B : Bt mg) (c__law_draw : Cl P w K mg base CX0 1 "_law_draw" (ts__law_draw K) []) {f : Addr} {fd : FuncData} (d : Df K mg "_law_of" s__law_of ["_law_box_here", "_law_some_here"] f fd) : Cl P w K mg base CX0 2 "_law_of" (ts__law_of K) [] := by
  refine bx_of ?_
  simp (disch := with_unfolding_all (
    refine cl_of d (okT (kk := 1) d.fn sc__law_of (fun Rs M k X h => by obtain ⟨b, _, rfl, _, ⟨rs, rfl, _⟩ | ⟨rs, rfl, _⟩ | ⟨z, rfl, _⟩⟩ := h <;> rfl) fun cdv A outer s H E hr => ⟨_,
      (pss_one (ps_ret (pe_ix ix_seq (pv 1) (pe_cl c__law_draw hr (by decide) pass0 rfl (pa_cons (pv 0) (pa_cons (pe_callB call_len (by rfl) B.len (by decide +kernel) (pa_cons (pv 1) pa_nil)) pa_nil))) (fun _ _ => rfl)))), ?_⟩)
    try dsimp only [L3.cxK, L3.cxKX]
    rintro Rs M k X ⟨b, _, rfl, rfl, ⟨rs, rfl, h1, h2, q⟩ | ⟨rs, rfl, h1, h2, q⟩ | ⟨z, rfl, h1, h2, q⟩⟩
    · refine st_ret (ev_op (ep_var rfl _ _ (ev_draw (F := []) rfl (ep_var rfl) (ep_cb (eap_cons (ep_var rfl) eap_nil) c_lenL) (by omega) (by omega) fun r r0 r1 => ?_)))
      obtain ⟨R, hR, hm⟩ := at_some rs r0 r1
      exact o_or1 (o_ixL hR) _ (q R hm)
    · refine st_ret (ev_op (ep_var rfl _ _ (ev_draw (F := []) rfl (ep_var rfl) (ep_cb (eap_cons (ep_var rfl) eap_nil) c_lenT) (by omega) (by omega) fun r r0 r1 => ?_)))
      obtain ⟨R, hR, hm⟩ := at_some rs r0 r1
      exact o_or2 (o_or1 (o_ixT hR)) _ (q R hm)
    · refine st_ret (ev_op (ep_var rfl _ _ (ev_draw (F := []) rfl (ep_var rfl) (ep_cb (eap_cons (ep_var rfl) eap_nil) (c_lenS (by omega))) (by omega) (by omega) fun r r0 r1 => ?_)))
      obtain ⟨c, hR, hm⟩ := at_some z.cps.toList r0 (by simpa [Str.length] using r1)
      exact o_or2 (o_or2 (o_ixS (by omega) hR)) _ (q c hm)
    )) only [↓bx_true]

abbrev s__law_names : Stmt := top 49
theorem sc__law_names : FnScope ["_law_box_here", "_law_many", "_law_letters", "_law_start", "_law_step", "_law_tail", "_law_pick", "_law_found", "_law_k", "_law_sign"] ["_law_box_here", "_law_many"] (defScope s__law_names) := ⟨rfl, rfl, rfl, by decide +kernel, rfl, by decide +kernel, by decide +kernel⟩
abbrev ts__law_names (K : PySem.W.Frag) : TSp := boxK fun Rs q => ∃ many : Nat, Rs = [iInt many] ∧ many ≤ 26 ∧ ∀ l : List Str, l.length = many → l.Nodup → (∀ z ∈ l, NmOk z) → q (iLst (l.map aStr))
theorem ok__law_names (B : Bt mg) (c__law_of : Cl P w K mg base CX0 2 "_law_of" (ts__law_of K) []) (c__law_draw : Cl P w K mg base CX0 1 "_law_draw" (ts__law_draw K) []) {f : Addr} {fd : FuncData} (d : Df K mg "_law_names" s__law_names ["_law_box_here", "_law_many"] f fd) : Cl P w K mg base CX0 3 "_law_names" (ts__law_names K) [] := by
  refine bx_of ?_
  simp (disch := with_unfolding_all (
    refine cl_of d (okT (kk := 2) d.fn sc__law_names (fun Rs M k X h => by obtain ⟨b, _, rfl, _, _, rfl, _⟩ := h; rfl) fun cdv A outer s H E hr => ⟨_,
      (pss_cons (ps_set (i := 2) sc__law_names.nd rfl (Or.inl rfl) pe_str)
        (pss_cons (ps_par (i := 3) (j := 4) rfl sc__law_names.nd rfl rfl (by decide) rfl rfl (pa_cons (pe_cl c__law_draw hr (by decide) pass0 rfl (pa_cons (pv 0) (pa_cons pe_int pa_nil))) (pa_cons (pe_cl c__law_of hr (by decide) pass0 rfl (pa_cons (pv 0) (pa_cons (pe_lst (pa_cons pe_int (pa_cons pe_int (pa_cons pe_int (pa_cons pe_int (pa_cons pe_int (pa_cons pe_int pa_nil))))))) pa_nil))) pa_nil)) (by rfl))
        (pss_cons (ps_par (i := 5) (j := 6) rfl sc__law_names.nd rfl rfl (by decide) rfl rfl (pa_cons (pe_cl c__law_of hr (by decide) pass0 rfl (pa_cons (pv 0) (pa_cons (pe_lst (pa_cons pe_str (pa_cons pe_str (pa_cons pe_str (pa_cons pe_str (pa_cons pe_str pa_nil)))))) pa_nil))) (pa_cons (pe_cl c__law_draw hr (by decide) pass0 rfl (pa_cons (pv 0) (pa_cons pe_int pa_nil))) pa_nil)) (by rfl))
        (pss_cons (ps_set (i := 7) sc__law_names.nd rfl (Or.inl rfl) (pe_lst pa_nil))
        (pss_cons (ps_for PassesOwn.never rfl (pi_range1 (by rfl) B.range (pa_cons (pv 1) pa_nil)) (pg_name (i := 8) sc__law_names.nd rfl (Or.inl rfl)) (pss_cons (ps_set (i := 9) sc__law_names.nd rfl (Or.inl rfl) (pe_ix ix_str (pv 2) (pe_op op_mod (pe_op op_add (pv 3) (pe_op op_mul (pv 4) (pv 8))) pe_int) (fun _ _ => rfl)))
        (pss_one (ps_expr (pe_bm PySem.F.plainAttrs_list PySem.F.slot_list_append PySem.F.type_list_append mt_append (pv 7) (pa_cons (pe_ix ix_list (pe_lst (pa_cons (pe_op op_add_str (pv 9) (pv 5)) (pa_cons (pe_op op_add_str (pv 5) (pv 9)) (pa_cons (pe_op op_add_str (pv 9) (pe_op op_mulS (pv 5) (pe_op op_mod (pv 8) pe_int))) pa_nil)))) (pv 6) (fun _ _ => rfl)) pa_nil))))))
        (pss_one (ps_ret (pv 7)))))))), ?_⟩)
    try dsimp only [L3.cxK, L3.cxKX]
    rintro Rs M k X ⟨b, _, rfl, rfl, many, rfl, hm, q⟩
    (repeat' decreasing_trivial_pre_omega)
    intro start hst
    (repeat' decreasing_trivial_pre_omega)
    intro R hR
    have hT : ∃ t : Nat, R = iInt (t : Nat) ∧ t ∈ [1, 3, 5, 7, 9, 11] := by
      simp only [List.mem_cons, List.not_mem_nil, or_false] at hR
      rcases hR with rfl | rfl | rfl | rfl | rfl | rfl
      · exact ⟨1, rfl, by decide⟩
      · exact ⟨3, rfl, by decide⟩
      · exact ⟨5, rfl, by decide⟩
      · exact ⟨7, rfl, by decide⟩
      · exact ⟨9, rfl, by decide⟩
      · exact ⟨11, rfl, by decide⟩
    obtain ⟨step, rfl, hstep⟩ := hT
    (repeat' decreasing_trivial_pre_omega)
    intro R hR
    have hT : ∃ t : Str, R = aStr t ∧ t ∈ tails := by
      simp only [List.mem_cons, List.not_mem_nil, or_false] at hR
      rcases hR with rfl | rfl | rfl | rfl | rfl
      · exact ⟨"", rfl, by decide⟩
      · exact ⟨"q", rfl, by decide⟩
      · exact ⟨"zz", rfl, by decide⟩
      · exact ⟨"lamp", rfl, by decide⟩
      · exact ⟨"andlamp", rfl, by decide⟩
    obtain ⟨tail, rfl, htail⟩ := hT
    (repeat' decreasing_trivial_pre_omega)
    intro pick hpick
    (repeat' decreasing_trivial_pre_omega)
    intro a
    (repeat' decreasing_trivial_pre_omega)
    refine st_forG Nat ?_
    (repeat' decreasing_trivial_pre_omega)
    refine ⟨many, rfl, by omega, fun i n => n = i, fun _ => [some (iRef b), some (iInt many), some (aStr "abcdefghijklmnopqrstuvwxyz"), some (iInt start), some (iInt step), some (aStr tail), some (iInt pick), some (iRef a), none, none], fun n => [(b, mBox), (a, mLst ((List.range n).map fun k => aStr (nmK start step tail pick k)))], lj 0 rfl (by (repeat' decreasing_trivial_pre_omega)) rfl, ?_, ?_⟩
    · rintro i r n hi rfl rfl
      try dsimp only
      have ht := (tails_ok tail htail).1
      have hsl : ∀ c : Nat, (⟨#[c]⟩ : Str).length = 1 := fun _ => rfl
      (repeat' decreasing_trivial_pre_omega)
      rw [show ((start : Int) + step * n) % 26 = (((start + step * n) % 26 : Nat) : Int) by push_cast; rfl]
      refine o_ixS (by decide) (letter_at _ (Nat.mod_lt _ (by decide))) _ ?_
      have hs := hsl (97 + (start + step * n) % 26)
      have hml : (Txt.mul tail ((n : Int) % 2)).length ≤ 7 := by
        rcases mul_mod tail n with h | h
        · rw [h]; exact Nat.zero_le _
        · rw [h]; exact ht
      (repeat' decreasing_trivial_pre_omega)
      refine o_mulS (mulOk_01 (n := (n : Int) % 2) (by omega) (by omega)) _ ?_
      (repeat' decreasing_trivial_pre_omega)
      refine o_ixL (at3 (by omega) _ _ _) _ ?_
      (repeat' decreasing_trivial_pre_omega)
      refine lj (n + 1) rfl (by (repeat' decreasing_trivial_pre_omega)) ?_
      rw [List.range_succ, List.map_append]
      rfl
    · rintro n Γ1 rfl w
      refine st_wk w ?_
      refine st_ret (ev_told (ev_var rfl ⟨a, 1, _, rfl, rfl, ?_⟩))
      rw [show (List.range n).map (fun k => aStr (nmK start step tail pick k)) = ((List.range n).map (nmK start step tail pick)).map aStr by rw [List.map_map]; rfl]
      refine q _ (by simp) ?_ ?_
      · refine nodup_map_on ?_ List.nodup_range
        intro x hx y hy e
        exact nmK_inj hstep (by have := List.mem_range.mp hx; omega) (by have := List.mem_range.mp hy; omega) e
      · intro z hz
        obtain ⟨x, _, rfl⟩ := List.mem_map.mp hz
        exact nmK_ok htail
    )) only [↓bx_true]

abbrev s__law_house : Stmt := top 51
theorem sc__law_house : FnScope ["_law_box_here", "_law_limit", "_law_rooms", "_law_thick", "_law_doors", "_law_sights", "_law_at", "_law_to", "_law_one", "_law_other"] ["_law_box_here", "_law_limit"] (defScope s__law_house) := ⟨rfl, rfl, rfl, by decide +kernel, rfl, by decide +kernel, by decide +kernel⟩
abbrev ts__law_house (K : PySem.W.Frag) : TSp := boxK fun Rs q => ∃ limit : Nat, Rs = [iInt limit] ∧ (1 ≤ limit ∧ limit ≤ 8) ∧ ∀ ns ds ss, HouseOk limit ns ds ss → q (iHs K ns ds ss)
theorem ok__law_house (B : Bt mg) (c__law_names : Cl P w K mg base CX0 3 "_law_names" (ts__law_names K) []) (c__law_draw : Cl P w K mg base CX0 1 "_law_draw" (ts__law_draw K) []) {f : Addr} {fd : FuncData} (d : Df K mg "_law_house" s__law_house ["_law_box_here", "_law_limit"] f fd) : Cl P w K mg base CX0 4 "_law_house" (ts__law_house K) [] := by
  refine bx_of ?_
  simp (disch := with_unfolding_all (
    refine cl_of d (okT (kk := 3) d.fn sc__law_house (fun Rs M k X h => by obtain ⟨b, _, rfl, _, _, rfl, _⟩ := h; rfl) fun cdv A outer s H E hr => ⟨_,
      (pss_cons (ps_set (i := 2) sc__law_house.nd rfl (Or.inl rfl) (pe_cl c__law_names hr (by decide) pass0 rfl (pa_cons (pv 0) (pa_cons (pe_op op_add pe_int (pe_cl c__law_draw hr (by decide) pass0 rfl (pa_cons (pv 0) (pa_cons (pv 1) pa_nil)))) pa_nil))))
        (pss_cons (ps_par3 (i := 3) (j := 4) (l := 5) rfl sc__law_house.nd rfl rfl rfl (by decide) (by decide) (by decide) rfl rfl rfl (pa_cons (pe_cl c__law_draw hr (by decide) pass0 rfl (pa_cons (pv 0) (pa_cons pe_int pa_nil))) (pa_cons (pe_lst pa_nil) (pa_cons (pe_lst pa_nil) pa_nil))) (by rfl))
        (pss_cons (ps_for PassesOwn.never rfl (pi_range1 (by rfl) B.range (pa_cons (pe_callB call_len (by rfl) B.len (by decide +kernel) (pa_cons (pv 2) pa_nil)) pa_nil)) (pg_name (i := 6) sc__law_house.nd rfl (Or.inl rfl)) (pss_one (ps_for PassesOwn.never rfl (pi_range2 (by rfl) B.range (pa_cons (pe_op op_add (pv 6) pe_int) (pa_cons (pe_callB call_len (by rfl) B.len (by decide +kernel) (pa_cons (pv 2) pa_nil)) pa_nil))) (pg_name (i := 7) sc__law_house.nd rfl (Or.inl rfl)) (pss_one (ps_if (PW.pt (pw_or (PW.pt (pw_and (pt_cmpR op_eq (pv 7) (pe_op op_add (pv 6) pe_int) (nomark _)) (pw_and1 (pt_cmpR op_gt (pe_cl c__law_draw hr (by decide) pass0 rfl (pa_cons (pv 0) (pa_cons pe_int pa_nil))) pe_int (nomark _))))) (pw_or1 (pt_cmpR op_lt (pe_cl c__law_draw hr (by decide) pass0 rfl (pa_cons (pv 0) (pa_cons pe_int pa_nil))) (pv 3) (nomark _))))) (pss_one (ps_expr (pe_bm PySem.F.plainAttrs_list PySem.F.slot_list_append PySem.F.type_list_append mt_append (pv 4) (pa_cons (pe_ix ix_list (pe_lst (pa_cons (pe_tup (pa_cons (pe_ix ix_list (pv 2) (pv 6) (fun _ _ => rfl)) (pa_cons (pe_ix ix_list (pv 2) (pv 7) (fun _ _ => rfl)) pa_nil))) (pa_cons (pe_tup (pa_cons (pe_ix ix_list (pv 2) (pv 7) (fun _ _ => rfl)) (pa_cons (pe_ix ix_list (pv 2) (pv 6) (fun _ _ => rfl)) pa_nil))) pa_nil))) (pe_cl c__law_draw hr (by decide) pass0 rfl (pa_cons (pv 0) (pa_cons pe_int pa_nil))) (fun _ _ => rfl)) pa_nil)))) pss_nil)))))
        (pss_cons (ps_for PassesOwn.never rfl (pi_list (pv 2)) (pg_name (i := 8) sc__law_house.nd rfl (Or.inr rfl)) (pss_one (ps_set (i := 5) sc__law_house.nd rfl (Or.inl rfl) (pe_op op_cat (pv 5) (pe_lc (own := [("_law_other", 9)]) rfl sc__law_house.nd (pi_list (pv 2)) (blkOk_by (own := [("_law_other", 9)]) (N := ["_law_box_here", "_law_limit", "_law_rooms", "_law_thick", "_law_doors", "_law_sights", "_law_at", "_law_to", "_law_one", "_law_other"]) (sc := defScope s__law_house) (by decide +kernel)) (fun _ _ _ _ _ => (pg_name (i := 9) sc__law_house.nd rfl (by first | exact Or.inl rfl | exact Or.inr rfl))) (fun _ _ _ _ _ => (pts_one (PW.pt (pw_and (pt_cmpR op_ne (pv 9) (pv 8) (nomark _)) (pw_and1 (pt_cmpR op_eq (pe_cl c__law_draw hr (by decide) pass0 rfl (pa_cons (pv 0) (pa_cons pe_int pa_nil))) pe_int (nomark _))))))) (fun _ _ _ _ _ => (pe_tup (pa_cons (pv 8) (pa_cons (pv 9) pa_nil)))))))))
        (pss_one (ps_ret (pe_tup (pa_cons (pv 2) (pa_cons (pv 4) (pa_cons (pv 5) pa_nil)))))))))), ?_⟩)
    try dsimp only [L3.cxK, L3.cxKX]
    rintro Rs M k X ⟨b, _, rfl, rfl, limit, rfl, ⟨l1, l2⟩, q⟩
    (repeat' decreasing_trivial_pre_omega)
    intro m hm
    (repeat' decreasing_trivial_pre_omega)
    refine ⟨_, leS_rfl, 1 + m, rfl, by omega, fun ns n1 n2 n3 => ?_⟩
    (repeat' decreasing_trivial_pre_omega)
    intro th hth
    refine ea_cons (ev_lstM (ea_nil ⟨by simp, fun dl => ?_⟩))
    (repeat' decreasing_trivial_pre_omega)
    refine st_forG (List (Str × Str)) ?_
    (repeat' decreasing_trivial_pre_omega)
    refine ⟨ns.length, by simp, by omega, fun i ds => ds.length ≤ 8 * i ∧ ∀ p ∈ ds, p.1 ∈ ns ∧ p.2 ∈ ns ∧ p.1 ≠ p.2, fun _ => [some (iRef b), some (iInt limit), some (iLst (ns.map aStr)), some (iInt th), some (iRef dl), some (iLst []), none, none, none, none], fun ds => [(b, mBox), (dl, mLst (ds.map (prR K)))], lj [] ⟨by simp, by simp⟩ (by (repeat' decreasing_trivial_pre_omega)) rfl, ?_, ?_⟩
    · rintro i r ds hi rfl ⟨p1, p2⟩
      try dsimp only
      (repeat' decreasing_trivial_pre_omega)
      refine st_forG (List (Str × Str)) ?_
      (repeat' decreasing_trivial_pre_omega)
      rw [List.length_map]
      refine ⟨i + 1, ns.length, rfl, by omega, by omega, by omega, by omega, fun j ds => ds.length ≤ 8 * i + j ∧ ∀ p ∈ ds, p.1 ∈ ns ∧ p.2 ∈ ns ∧ p.1 ≠ p.2, fun _ => [some (iRef b), some (iInt limit), some (iLst (ns.map aStr)), some (iInt th), some (iRef dl), some (iLst []), some (iInt i), none, none, none], fun ds => [(b, mBox), (dl, mLst (ds.map (prR K)))], lj ds ⟨by omega, p2⟩ (by (repeat' decreasing_trivial_pre_omega)) rfl, ?_, ?_⟩
      · rintro j r ds hj rfl ⟨p1, p2⟩
        try dsimp only
        refine tg_name ?_
        have hn := n1
        have hj2 : i + 1 + j < ns.length := by omega
        have hne : ns[i] ≠ ns[i + 1 + j] := fun e => by
          have := (List.getElem_inj n2).mp e
          omega
        refine st_if_any (fun kb X hk => ?_) ?_ ?_
        · (repeat' (first | decreasing_trivial_pre_omega | exact hk _ | refine L3.ite_b (fun _ => ?_) (fun _ => ?_) | intro _ _))
        · (repeat' decreasing_trivial_pre_omega)
          refine o_ixN i rfl hi _ ?_
          (repeat' decreasing_trivial_pre_omega)
          refine o_ixN (i + 1 + j) (by push_cast; rfl) hj2 _ ?_
          (repeat' decreasing_trivial_pre_omega)
          refine o_ixN (i + 1 + j) (by push_cast; rfl) hj2 _ ?_
          (repeat' decreasing_trivial_pre_omega)
          refine o_ixN i rfl hi _ ?_
          (repeat' decreasing_trivial_pre_omega)
          intro d hd
          obtain rfl | rfl : d = 0 ∨ d = 1 := by omega
          · (repeat' decreasing_trivial_pre_omega)
            refine lj (ds ++ [(ns[i], ns[i + 1 + j])]) ⟨by simp; omega, fun p hp => ?_⟩ (by (repeat' decreasing_trivial_pre_omega)) (by simp)
            rcases List.mem_append.mp hp with h | h
            · exact p2 p h
            · rw [List.mem_singleton.mp h]
              exact ⟨List.getElem_mem _, List.getElem_mem _, hne⟩
          · (repeat' decreasing_trivial_pre_omega)
            refine lj (ds ++ [(ns[i + 1 + j], ns[i])]) ⟨by simp; omega, fun p hp => ?_⟩ (by (repeat' decreasing_trivial_pre_omega)) (by simp)
            rcases List.mem_append.mp hp with h | h
            · exact p2 p h
            · rw [List.mem_singleton.mp h]
              exact ⟨List.getElem_mem _, List.getElem_mem _, hne.symm⟩
        · (repeat' decreasing_trivial_pre_omega)
          exact lj ds ⟨by omega, p2⟩ (by (repeat' decreasing_trivial_pre_omega)) rfl
      · rintro ds Γ1 ⟨p1, p2⟩ w
        refine lj ds ⟨?_, p2⟩ (Wk.trans (by (repeat' decreasing_trivial_pre_omega)) w) rfl
        try dsimp only at p1
        omega
    · rintro ds Γ1 ⟨p1, p2⟩ w
      refine st_wk w ?_
      try dsimp only
      (repeat' decreasing_trivial_pre_omega)
      refine st_forG (List (Str × Str)) ?_
      (repeat' decreasing_trivial_pre_omega)
      refine ⟨fun i ss => ss.length ≤ 8 * i ∧ ∀ p ∈ ss, p.1 ∈ ns ∧ p.2 ∈ ns ∧ p.1 ≠ p.2, fun ss => [some (iRef b), some (iInt limit), some (iLst (ns.map aStr)), some (iInt th), some (iRef dl), some (iLst (ss.map (prR K))), none, none, none, none], fun _ => [(b, mBox), (dl, mLst (ds.map (prR K)))], lj [] ⟨by simp, by simp⟩ (by (repeat' decreasing_trivial_pre_omega)) rfl, ?_, ?_⟩
      · rintro i r ss hi hr ⟨s1, s2⟩
        have hi' : i < ns.length := by simpa using hi
        rw [List.getElem?_map, List.getElem?_eq_getElem hi'] at hr
        cases hr
        try dsimp only
        (repeat' decreasing_trivial_pre_omega)
        refine ev_lcD (l := ns) (e := aStr) (e' := fun y => prR K (ns[i], y)) (p := fun y => y ≠ ns[i]) (by (repeat' decreasing_trivial_pre_omega)) (by omega) (by decide) (fun y hy kb h1 h2 => ?_) (fun y hy hp => ?_) (fun l' q1 q2 => ?_)
        · (repeat' decreasing_trivial_pre_omega)
          refine ite_b (fun h => ?_) (fun _ => h2)
          have hp : y ≠ ns[i] := by simpa using h
          (repeat' decreasing_trivial_pre_omega)
          intro d hd
          (repeat' decreasing_trivial_pre_omega)
          cases decide ((d : Int) = 0) with
          | true => exact h1 hp
          | false => exact h2
        · (repeat' decreasing_trivial_pre_omega)
        · have hl := q1.length_le
          (repeat' decreasing_trivial_pre_omega)
          refine lj (ss ++ l'.map fun y => (ns[i], y)) ⟨by simp; omega, fun p hp => ?_⟩ (by simp only [List.map_append, List.map_map]; exact Wk.so (Wk.so (Wk.so (Wk.so (Wk.so (Wk.so (Wk.no (Wk.no (Wk.no (Wk.no Wk.nil)))))))))) rfl
          rcases List.mem_append.mp hp with h | h
          · exact s2 p h
          · obtain ⟨y, hy, rfl⟩ := List.mem_map.mp h
            exact ⟨List.getElem_mem _, q1.subset hy, (q2 y hy).symm⟩
      · rintro ss Γ1 ⟨s1, s2⟩ w
        refine st_wk w ?_
        try dsimp only
        refine st_told (i := 1) (j := 4) (a := dl) rfl rfl ?_
        (repeat' decreasing_trivial_pre_omega)
        rw [List.length_map] at s1
        exact q ns ds ss ⟨by omega, by omega, n2, n3, by omega, p2, by omega, s2⟩
    )) only [↓bx_true]

abbrev s__law_near : Stmt := top 52
theorem sc__law_near : FnScope ["_law_house_here", "_law_room", "_law_other"] ["_law_house_here", "_law_room"] (defScope s__law_near) := ⟨rfl, rfl, rfl, by decide +kernel, rfl, by decide +kernel, by decide +kernel⟩
abbrev ts__law_near (K : PySem.W.Frag) : TSp := pureTs (fun p : (List Str × List (Str × Str) × List (Str × Str)) × Str => [iHs K p.1.1 p.1.2.1 p.1.2.2, aStr p.2]) (fun p => p.1.1.length ≤ 1000 ∧ PrOk p.1.2.1 ∧ StrOk p.2 ∧ ∀ z ∈ p.1.1, StrOk z) (fun p => iLst ((nearOf p.1.1 p.1.2.1 p.2).map aStr))
theorem ok__law_near (B : Bt mg) {f : Addr} {fd : FuncData} (d : Df K mg "_law_near" s__law_near ["_law_house_here", "_law_room"] f fd) : Cl P w K mg base CX0 1 "_law_near" (ts__law_near K) [] := by
  refine bx_of ?_
  simp (disch := with_unfolding_all (
    refine cl_of d (okT (kk := 0) d.fn sc__law_near (fun Rs M k X h => by obtain ⟨_, rfl, _⟩ := h; rfl) fun cdv A outer s H E hr => ⟨_,
      (pss_one (ps_ret (pe_lc (own := [("_law_other", 2)]) rfl sc__law_near.nd (pi_list (pe_ix ix_tup (pv 0) pe_int (fun _ _ => rfl))) (blkOk_by (own := [("_law_other", 2)]) (N := ["_law_house_here", "_law_room", "_law_other"]) (sc := defScope s__law_near) (by decide +kernel)) (fun _ _ _ _ _ => (pg_name (i := 2) sc__law_near.nd rfl (by first | exact Or.inl rfl | exact Or.inr rfl))) (fun _ _ _ _ _ => (pts_one (PW.pt (pw_or (pt_cmpR (castOp (K := K) (r := rInD) rfl (op_inD (by exact hu65_of hr))) (pe_tup (pa_cons (pv 1) (pa_cons (pv 2) pa_nil))) (pe_ix (castIx (K := K) (r := rIxT) rfl ix_tup) (pv 0) pe_int (fun _ _ => rfl)) (by rfl)) (pw_or1 (pt_cmpR (castOp (K := K) (r := rInD) rfl (op_inD (by exact hu65_of hr))) (pe_tup (pa_cons (pv 2) (pa_cons (pv 1) pa_nil))) (pe_ix (castIx (K := K) (r := rIxT) rfl ix_tup) (pv 0) pe_int (fun _ _ => rfl)) (by rfl))))))) (fun _ _ _ _ _ => (pv 2))))), ?_⟩)
    try dsimp only [L3.cxK, L3.cxKX]
    rintro Rs M k X ⟨⟨⟨ns, ds, ss⟩, z⟩, rfl, ⟨h1, h2, h3, h4⟩, rfl, q⟩
    try dsimp only at h1 h2 h3 h4 q
    (repeat' decreasing_trivial_pre_omega)
    refine ep_lcF (l := ns) (e := aStr) (p := fun y => decide ((z, y) ∈ ds) || decide ((y, z) ∈ ds)) ?_ (by omega) (by decide) (fun y hy => ?_) (fun y hy hp => ?_) _ _ q
    · (repeat' decreasing_trivial_pre_omega)
    · (repeat' decreasing_trivial_pre_omega)
      · exact o_inP ⟨h3, h4 y hy⟩ h2 _ ⟨_, rfl, by assumption⟩
      · exact o_inP ⟨h4 y hy, h3⟩ h2 _ ⟨_, rfl, by assumption⟩
    · (repeat' decreasing_trivial_pre_omega)
    )) only [↓bx_true]

abbrev s__law_hand : Stmt := top 53
theorem sc__law_hand : FnScope ["_law_house_here", "_law_room", "_law_near_here", "_law_other"] ["_law_house_here", "_law_room"] (defScope s__law_hand) := ⟨rfl, rfl, rfl, by decide +kernel, rfl, by decide +kernel, by decide +kernel⟩
abbrev ts__law_hand (K : PySem.W.Frag) : TSp := pureTs (fun p : (List Str × List (Str × Str) × List (Str × Str)) × Str => [iHs K p.1.1 p.1.2.1 p.1.2.2, aStr p.2]) (fun p => p.1.1.length ≤ 1000 ∧ PrOk p.1.2.1 ∧ StrOk p.2 ∧ ∀ z ∈ p.1.1, StrOk z) (fun p => iLst ((handOf p.1.1 p.1.2.1 p.2).map aStr))
theorem ok__law_hand (B : Bt mg) (c__law_near : Cl P w K mg base CX0 1 "_law_near" (ts__law_near K) []) {f : Addr} {fd : FuncData} (d : Df K mg "_law_hand" s__law_hand ["_law_house_here", "_law_room"] f fd) : Cl P w K mg base CX0 2 "_law_hand" (ts__law_hand K) [] := by
  refine bx_of ?_
  simp (disch := with_unfolding_all (
    refine cl_of d (okT (kk := 1) d.fn sc__law_hand (fun Rs M k X h => by obtain ⟨_, rfl, _⟩ := h; rfl) fun cdv A outer s H E hr => ⟨_,
      (pss_cons (ps_set (i := 2) sc__law_hand.nd rfl (Or.inr rfl) (pe_cl c__law_near hr (by decide) pass0 rfl (pa_cons (pv 0) (pa_cons (pv 1) pa_nil))))
        (pss_one (ps_ret (pe_lc (own := [("_law_other", 3)]) rfl sc__law_hand.nd (pi_list (pe_ix ix_tup (pv 0) pe_int (fun _ _ => rfl))) (blkOk_by (own := [("_law_other", 3)]) (N := ["_law_house_here", "_law_room", "_law_near_here", "_law_other"]) (sc := defScope s__law_hand) (by decide +kernel)) (fun _ _ _ _ _ => (pg_name (i := 3) sc__law_hand.nd rfl (by first | exact Or.inl rfl | exact Or.inr rfl))) (fun _ _ _ _ _ => (pts_one (PW.pt (pw_or (pt_cmpR op_eq (pv 3) (pv 1) (nomark _)) (pw_or1 (pt_cmpR (castOp (K := K) (r := fun K => rIn K false) rfl op_in_seq) (pv 3) (pv 2) (by rfl))))))) (fun _ _ _ _ _ => (pv 3)))))), ?_⟩)
    try dsimp only [L3.cxK, L3.cxKX]
    rintro Rs M k X ⟨⟨⟨ns, ds, ss⟩, z⟩, rfl, ⟨h1, h2, h3, h4⟩, rfl, q⟩
    try dsimp only at h1 h2 h3 h4 q
    (repeat' decreasing_trivial_pre_omega)
    refine ⟨((ns, ds, ss), z), leS_rfl, ⟨h1, h2, h3, h4⟩, ?_⟩
    (repeat' decreasing_trivial_pre_omega)
    refine ep_lcF (l := ns) (e := aStr) (p := fun y => decide (y = z) || decide (y ∈ nearOf ns ds z)) ?_ (by omega) (by decide) (fun y hy => ?_) (fun y hy hp => ?_) _ _ q
    · (repeat' decreasing_trivial_pre_omega)
    · (repeat' decreasing_trivial_pre_omega)
    · (repeat' decreasing_trivial_pre_omega)
    )) only [↓bx_true]

abbrev s__law_round : Stmt := top 54
theorem sc__law_round : FnScope ["_law_box_here", "_law_house_here", "_law_limit", "_law_size", "_law_walk", "_law_k", "_law_half"] ["_law_box_here", "_law_house_here", "_law_limit"] (defScope s__law_round) := ⟨rfl, rfl, rfl, by decide +kernel, rfl, by decide +kernel, by decide +kernel⟩
theorem nm_so {z : Str} (h : NmOk z) : StrOk z := fun c hc => by have := h.2.2 c hc; omega
theorem house_pr {limit : Nat} {ns : List Str} {ds ss : List (Str × Str)} (h : HouseOk limit ns ds ss) : PrOk ds := fun p hp => ⟨nm_so (h.nm _ (h.dm p hp).1), nm_so (h.nm _ (h.dm p hp).2.1)⟩
abbrev ts__law_round (K : PySem.W.Frag) : TSp := boxK fun Rs q => ∃ lh ns ds ss, ∃ limit : Nat, Rs = [iHs K ns ds ss, iInt limit] ∧ HouseOk lh ns ds ss ∧ lh ≤ 8 ∧ 1 ≤ limit ∧ limit ≤ 1000 ∧ ∀ l, RoundOk ns ds limit l → q (aTup K (l.map aStr))
theorem ok__law_round (B : Bt mg) (c__law_draw : Cl P w K mg base CX0 1 "_law_draw" (ts__law_draw K) []) (c__law_of : Cl P w K mg base CX0 2 "_law_of" (ts__law_of K) []) (c__law_near : Cl P w K mg base CX0 1 "_law_near" (ts__law_near K) []) (c__law_hand : Cl P w K mg base CX0 2 "_law_hand" (ts__law_hand K) []) {f : Addr} {fd : FuncData} (d : Df K mg "_law_round" s__law_round ["_law_box_here", "_law_house_here", "_law_limit"] f fd) : Cl P w K mg base CX0 3 "_law_round" (ts__law_round K) [] := by
  refine bx_of ?_
  simp (disch := with_unfolding_all (
    refine cl_of d (okT (kk := 2) d.fn sc__law_round (fun Rs M k X h => by obtain ⟨b, _, rfl, _, _, _, _, _, _, rfl, _⟩ := h; rfl) fun cdv A outer s H E hr => ⟨_,
      (pss_cons (ps_set (i := 3) sc__law_round.nd rfl (Or.inl rfl) (pe_op op_add pe_int (pe_cl c__law_draw hr (by decide) pass0 rfl (pa_cons (pv 0) (pa_cons (pv 2) pa_nil)))))
        (pss_cons (ps_lm (ps_set (i := 4) sc__law_round.nd rfl (Or.inl rfl) (pe_lst (pa_cons (pe_cl c__law_of hr (by decide) pass0 rfl (pa_cons (pv 0) (pa_cons (pe_ix ix_tup (pv 1) pe_int (fun _ _ => rfl)) pa_nil))) pa_nil))))
        (pss_cons (ps_for PassesOwn.never rfl (pi_range1 (by rfl) B.range (pa_cons (pe_op op_sub (pv 3) pe_int) pa_nil)) (pg_name (i := 5) sc__law_round.nd rfl (Or.inl rfl)) (pss_one (ps_expr (pe_bm PySem.F.plainAttrs_list PySem.F.slot_list_append PySem.F.type_list_append mt_append (pv 4) (pa_cons (pe_cl c__law_of hr (by decide) pass0 rfl (pa_cons (pv 0) (pa_cons (pe_op op_cat (pe_lst (pa_cons (pe_ix ix_list (pv 4) (pe_un un_neg pe_int) (fun _ _ => rfl)) pa_nil)) (pe_cl c__law_near hr (by decide) pass0 rfl (pa_cons (pv 1) (pa_cons (pe_ix ix_list (pv 4) (pe_un un_neg pe_int) (fun _ _ => rfl)) pa_nil)))) pa_nil))) pa_nil)))))
        (pss_cons (ps_if (pt_cmpR op_in_seq (pe_ix ix_list (pv 4) pe_int (fun _ _ => rfl)) (pe_cl c__law_hand hr (by decide) pass0 rfl (pa_cons (pv 1) (pa_cons (pe_ix ix_list (pv 4) (pe_un un_neg pe_int) (fun _ _ => rfl)) pa_nil))) (by rfl)) (pss_one (ps_ret (pe_callTy call_tuple_of (by rfl) B.tuple (by decide +kernel) (pa_cons (pv 4) pa_nil)))) pss_nil)
        (pss_cons (ps_set (i := 6) sc__law_round.nd rfl (Or.inl rfl) (pe_slice sl_list (pv 4) po_none (po_some (pe_op op_add (pe_op op_fdivW (pv 3) pe_int) pe_int))))
        (pss_one (ps_ret (pe_callTy call_tuple_of (by rfl) B.tuple (by decide +kernel) (pa_cons (pe_op op_cat (pv 6) (pe_revL (pe_slice sl_list (pv 6) (po_some pe_int) (po_some (pe_un un_neg pe_int))))) pa_nil))))))))), ?_⟩)
    try dsimp only [L3.cxK, L3.cxKX]
    rintro Rs M k X ⟨b, _, rfl, rfl, lh, ns, ds, ss, limit, rfl, ho, l8, l1, l2, q⟩
    have n0 := ho.n0
    have n1 := ho.n1
    have so : ∀ z ∈ ns, StrOk z := fun z hz => nm_so (ho.nm z hz)
    (repeat' decreasing_trivial_pre_omega)
    intro sz hsz
    refine o_add _ ?_
    (repeat' decreasing_trivial_pre_omega)
    refine k_map (l := ns) (f := aStr) fun z0 hz0 => ?_
    (repeat' decreasing_trivial_pre_omega)
    intro a
    (repeat' decreasing_trivial_pre_omega)
    refine st_forG (List Str) ?_
    (repeat' decreasing_trivial_pre_omega)
    refine ⟨sz, by congr 2; omega, by omega, fun i l => l.length = 1 + i ∧ (∀ z ∈ l, z ∈ ns) ∧ Chain ds l, fun _ => [some (iRef b), some (iHs K ns ds ss), some (iInt limit), some (iInt (1 + sz)), some (iRef a), none, none], fun l => [(b, mBox), (a, mLst (l.map aStr))], lj [z0] ⟨rfl, by simpa using hz0, by intro i hi; simp at hi⟩ (by (repeat' decreasing_trivial_pre_omega)) rfl, ?_, ?_⟩
    · rintro i r l hi rfl ⟨p1, p2, p3⟩
      try dsimp only
      have hl := last_in (l := l) (ns := ns) (by omega) p2
      have nl : (nearOf ns ds (l.getD (l.length - 1) Str.empty)).length ≤ 8 := Nat.le_trans (List.length_filter_le _ _) (by omega)
      (repeat' decreasing_trivial_pre_omega)
      refine o_ixM1 1 rfl (at_m1 (by omega)) _ ?_
      (repeat' decreasing_trivial_pre_omega)
      refine o_ixM1 1 rfl (at_m1 (by omega)) _ ?_
      (repeat' decreasing_trivial_pre_omega)
      refine ⟨((ns, ds, ss), l.getD (l.length - 1) Str.empty), leS_rfl, ⟨by dsimp only; omega, house_pr ho, so _ hl, so⟩, ?_⟩
      (repeat' decreasing_trivial_pre_omega)
      · rw [List.length_map]
        show 1 + (nearOf ns ds (l.getD (l.length - 1) Str.empty)).length ≤ 1000000
        omega
      · rw [List.length_append, List.length_map]
        show 1 + (nearOf ns ds (l.getD (l.length - 1) Str.empty)).length ≤ 1000000
        omega
      · try dsimp only
        refine k_map (l := l.getD (l.length - 1) Str.empty :: nearOf ns ds (l.getD (l.length - 1) Str.empty)) (f := aStr) fun z hz => ?_
        have hz2 : z ∈ ns ∧ relR ds (l.getD (l.length - 1) Str.empty) z := by
          rcases List.mem_cons.mp hz with h | h
          · rw [h]; exact ⟨hl, .inl rfl⟩
          · exact near_rel h
        (repeat' decreasing_trivial_pre_omega)
        refine lj (l ++ [z]) ⟨by simp; omega, fun y hy => ?_, chain_add p3 hz2.2⟩ (by (repeat' decreasing_trivial_pre_omega)) (by simp)
        rcases List.mem_append.mp hy with h | h
        · exact p2 y h
        · rw [List.mem_singleton.mp h]; exact hz2.1
    · rintro l Γ1 ⟨p1, p2, p3⟩ w
      refine st_wk w ?_
      try dsimp only
      have e1 : (((1 : Int) + (sz : Nat)) - 1).toNat = sz := by omega
      have ll : l.length = 1 + sz := p1
      have hl := last_in (l := l) (ns := ns) (by omega) p2
      have nl : (nearOf ns ds (l.getD (l.length - 1) Str.empty)).length ≤ 8 := Nat.le_trans (List.length_filter_le _ _) (by omega)
      refine st_told (i := 1) (j := 4) (a := a) rfl rfl ?_
      (repeat' decreasing_trivial_pre_omega)
      refine o_ixN 0 rfl (by omega) _ ?_
      (repeat' decreasing_trivial_pre_omega)
      refine o_ixL (at_m1 (by omega)) _ ?_
      (repeat' decreasing_trivial_pre_omega)
      refine ⟨((ns, ds, ss), l.getD (l.length - 1) Str.empty), leS_rfl, ⟨by dsimp only; omega, house_pr ho, so _ hl, so⟩, ?_⟩
      (repeat' decreasing_trivial_pre_omega)
      refine ite_b (fun hd => ?_) (fun hd => ?_)
      · (repeat' decreasing_trivial_pre_omega)
        refine q l ⟨by omega, by omega, p2, closed p3 (by omega) ?_⟩
        have := hand_rel (of_decide_eq_true hd)
        rw [List.getD_eq_getElem?_getD (i := 0), List.getElem?_eq_getElem (by omega)]
        exact this
      · have h2 : 2 ≤ l.length := by
          rcases Nat.lt_or_ge l.length 2 with h | h
          · have h0 : l.length - 1 = 0 := by omega
            have h1 := hand_self (ds := ds) hl
            have := of_decide_eq_false hd
            dsimp only at this
            rw [h0, List.getD_eq_getElem?_getD, List.getElem?_eq_getElem (by omega)] at h1 this
            exact absurd h1 this
          · exact h
        (repeat' decreasing_trivial_pre_omega)
        · exact wide_div (b := 60) (by omega) (by decide) (by decide) (by decide)
        all_goals rw [show ((1 : Int) + (sz : Nat)) / 2 + 1 = ((l.length / 2 + 1 : Nat) : Int) by omega, cutL_take, cutL_mid]
        · simp
          omega
        · have e : (l.map aStr).take (l.length / 2 + 1) ++ ((((l.map aStr).take (l.length / 2 + 1)).drop 1).take (((l.map aStr).take (l.length / 2 + 1)).length - 2)).reverse = (backL l (l.length / 2)).map aStr := by
            unfold backL
            rw [List.map_append, List.map_reverse, List.map_take, List.map_take, List.map_drop, List.map_take]
            congr 3
            simp
            omega
          rw [e]
          exact q _ (back_ok p3 p2 h2 (by omega))
    )) only [↓bx_true]

abbrev s__law_scene : Stmt := top 55
theorem sc__law_scene : FnScope ["_law_box_here", "_law_rooms", "_law_posts", "_law_size", "_law_house_here", "_law_names_here", "_law_folk", "_law_found", "_law_k", "_law_walk", "_law_many", "_law_lamps", "_law_changing", "_law_easing", "_law_made_here"] ["_law_box_here", "_law_rooms", "_law_posts", "_law_size"] (defScope s__law_scene) := ⟨rfl, rfl, rfl, by decide +kernel, rfl, by decide +kernel, by decide +kernel⟩
abbrev ts__law_scene (K : PySem.W.Frag) : TSp := boxK fun Rs q => ∃ rooms posts size : Nat, Rs = [iInt rooms, iInt posts, iInt size] ∧ 1 ≤ rooms ∧ rooms ≤ 8 ∧ posts ≤ 5 ∧ 1 ≤ size ∧ size ≤ 6 ∧ ∀ r, DrOk rooms posts size r → q (iDF (madeF K r))
theorem ok__law_scene (B : Bt mg) (c__law_house : Cl P w K mg base CX0 4 "_law_house" (ts__law_house K) []) (c__law_names : Cl P w K mg base CX0 3 "_law_names" (ts__law_names K) []) (c__law_draw : Cl P w K mg base CX0 1 "_law_draw" (ts__law_draw K) []) (c__law_round : Cl P w K mg base CX0 3 "_law_round" (ts__law_round K) []) (c__law_of : Cl P w K mg base CX0 2 "_law_of" (ts__law_of K) []) {f : Addr} {fd : FuncData} (d : Df K mg "_law_scene" s__law_scene ["_law_box_here", "_law_rooms", "_law_posts", "_law_size"] f fd) : Cl P w K mg base CX0 5 "_law_scene" (ts__law_scene K) [] := by
  refine bx_of ?_
  simp (disch := with_unfolding_all (
    refine cl_of d (okT (kk := 4) d.fn sc__law_scene (fun Rs M k X h => by obtain ⟨b, _, rfl, _, _, _, _, rfl, _⟩ := h; rfl) fun cdv A outer s H E hr => ⟨_,
      (pss_cons (ps_set (i := 4) sc__law_scene.nd rfl (Or.inl rfl) (pe_cl c__law_house hr (by decide) pass0 rfl (pa_cons (pv 0) (pa_cons (pv 1) pa_nil))))
        (pss_cons (ps_asg (pe_tup (pa_cons (pe_cl c__law_names hr (by decide) pass0 rfl (pa_cons (pv 0) (pa_cons pe_int pa_nil))) (pa_cons (pe_cl c__law_names hr (by decide) pass0 rfl (pa_cons (pv 0) (pa_cons pe_int pa_nil))) (pa_cons (pe_lst pa_nil) pa_nil)))) (pg_tup rfl (pgs_cons (pg_name (i := 5) sc__law_scene.nd rfl (Or.inl rfl)) (pgs_cons (pg_name (i := 6) sc__law_scene.nd rfl (Or.inr rfl)) (pgs_cons (pg_name (i := 7) sc__law_scene.nd rfl (Or.inl rfl)) pgs_nil)))))
        (pss_cons (ps_for PassesOwn.never rfl (pi_range1 (by rfl) B.range (pa_cons (pe_cl c__law_draw hr (by decide) pass0 rfl (pa_cons (pv 0) (pa_cons (pe_op op_add (pv 2) pe_int) pa_nil))) pa_nil)) (pg_name (i := 8) sc__law_scene.nd rfl (Or.inl rfl)) (pss_cons (ps_set (i := 9) sc__law_scene.nd rfl (Or.inl rfl) (pe_cl c__law_round hr (by decide) pass0 rfl (pa_cons (pv 0) (pa_cons (pv 4) (pa_cons (pv 3) pa_nil)))))
        (pss_one (ps_expr (pe_bm PySem.F.plainAttrs_list PySem.F.slot_list_append PySem.F.type_list_append mt_append (pv 7) (pa_cons (pe_tup (pa_cons (pe_ix ix_list (pv 5) (pv 8) (fun _ _ => rfl)) (pa_cons (pv 9) (pa_cons (pe_cl c__law_draw hr (by decide) pass0 rfl (pa_cons (pv 0) (pa_cons (pe_callB call_len (by rfl) B.len (by decide +kernel) (pa_cons (pv 9) pa_nil)) pa_nil))) pa_nil)))) pa_nil))))))
        (pss_cons (ps_set (i := 10) sc__law_scene.nd rfl (Or.inl rfl) (pe_callB (call_min2 rfl) (by rfl) B.min (by decide +kernel) (pa_cons pe_int (pa_cons (pe_op op_add (pe_callB call_len (by rfl) B.len (by decide +kernel) (pa_cons (pv 7) pa_nil)) (pe_cl c__law_draw hr (by decide) pass0 rfl (pa_cons (pv 0) (pa_cons pe_int pa_nil)))) pa_nil))))
        (pss_cons (ps_setLc (i := 11) (own := [("_law_k", 8)]) rfl sc__law_scene.nd rfl rfl (sw_true rfl rfl rfl (by decide +kernel)) (pi_range1 (by rfl) B.range (pa_cons (pv 10) pa_nil)) (blkOk_by (own := [("_law_k", 8)]) (N := ["_law_box_here", "_law_rooms", "_law_posts", "_law_size", "_law_house_here", "_law_names_here", "_law_folk", "_law_found", "_law_k", "_law_walk", "_law_many", "_law_lamps", "_law_changing", "_law_easing", "_law_made_here"]) (sc := defScope s__law_scene) (by decide +kernel)) (fun _ _ _ _ _ => (pg_name (i := 8) sc__law_scene.nd rfl (by first | exact Or.inl rfl | exact Or.inr rfl))) (fun _ _ _ _ _ => pts_nil) (fun _ _ _ _ _ => (pe_tup (pa_cons (pe_ix (castIx (K := K) (r := rIxL) rfl ix_list) (pv 6) (pv 8) (fun _ _ => rfl)) (pa_cons (pe_cl c__law_draw hr (by decide) pass0 rfl (pa_cons (pv 0) (pa_cons pe_int pa_nil))) pa_nil)))))
        (pss_cons (ps_par (i := 12) (j := 13) rfl sc__law_scene.nd rfl rfl (by decide) rfl rfl (pa_cons (pe_cmpR op_eq (pe_cl c__law_draw hr (by decide) pass0 rfl (pa_cons (pv 0) (pa_cons pe_int pa_nil))) pe_int (nomark _)) (pa_cons (pe_cl c__law_of hr (by decide) pass0 rfl (pa_cons (pv 0) (pa_cons (pe_lst (pa_cons pe_int (pa_cons pe_int (pa_cons pe_int (pa_cons pe_int (pa_cons pe_int (pa_cons pe_int pa_nil))))))) pa_nil))) pa_nil)) (by rfl))
        (pss_cons (ps_set (i := 14) sc__law_scene.nd rfl (Or.inl rfl) (pe_disp (pps_cons pe_str (pv 4) (pps_cons pe_str (pv 7) (pps_cons pe_str (pv 11) pps_nil))) rfl rfl (by simp) (by decide)))
        (pss_cons (ps_asg (pe_tup (pa_cons (pv 12) (pa_cons (pv 13) pa_nil))) (pg_tup rfl (pgs_cons (pg_sub (pv 14) pe_str (set_dict (by exact hu_of hr))) (pgs_cons (pg_sub (pv 14) pe_str (set_dict (by exact hu_of hr))) pgs_nil))))
        (pss_one (ps_fz (ps_ret (pv 14)))))))))))), ?_⟩)
    try dsimp only [L3.cxK, L3.cxKX]
    rintro Rs M k X ⟨b, _, rfl, rfl, rooms, posts, size, rfl, r1, r8, p5, s1, s6, q⟩
    (repeat' decreasing_trivial_pre_omega)
    refine ⟨_, leS_rfl, rooms, rfl, ⟨r1, r8⟩, fun ns ds ss ho => ?_⟩
    (repeat' decreasing_trivial_pre_omega)
    refine ⟨_, leS_rfl, 5, rfl, by decide, fun nm n1 n2 n3 => ?_⟩
    (repeat' decreasing_trivial_pre_omega)
    refine ⟨_, leS_rfl, 6, rfl, by decide, fun fk f1 f2 f3 => ?_⟩
    refine ea_cons (ev_lstM (ea_nil ⟨by simp, fun fd => ?_⟩))
    rw [show [(b, mBox)] ++ [(fd, mLst [])] = [(b, mBox), (fd, mLst [])] from rfl]
    (repeat' decreasing_trivial_pre_omega)
    refine st_forG (List Post) ?_
    (repeat' decreasing_trivial_pre_omega)
    intro np hnp
    (repeat' decreasing_trivial_pre_omega)
    refine ⟨np, rfl, by omega, fun i ps => ps.length = i ∧ ps.map (·.1) = nm.take i ∧ ∀ p ∈ ps, RoundOk ns ds size p.2.1 ∧ 0 ≤ p.2.2 ∧ p.2.2 < p.2.1.length, fun _ => [some (iRef b), some (iInt rooms), some (iInt posts), some (iInt size), some (iHs K ns ds ss), some (iLst (nm.map aStr)), some (iLst (fk.map aStr)), some (iRef fd), none, none, none, none, none, none, none], fun ps => [(b, mBox), (fd, mLst (ps.map (postR K)))], lj [] ⟨rfl, rfl, by simp⟩ (by (repeat' decreasing_trivial_pre_omega)) rfl, ?_, ?_⟩
    · rintro i r ps hi rfl ⟨p1, p2, p3⟩
      try dsimp only
      (repeat' decreasing_trivial_pre_omega)
      refine ⟨_, leS_rfl, rooms, ns, ds, ss, size, rfl, ho, r8, s1, by omega, fun l hl => ?_⟩
      have l6 := hl.l6
      have l1 := hl.l1
      have hn : i < nm.length := by omega
      (repeat' decreasing_trivial_pre_omega)
      refine o_ixN i rfl hn _ ?_
      (repeat' decreasing_trivial_pre_omega)
      rw [List.length_map]
      (repeat' decreasing_trivial_pre_omega)
      intro dd hdd
      (repeat' decreasing_trivial_pre_omega)
      refine lj (ps ++ [(nm[i], l, (dd : Int))]) ⟨by simp [p1], ?_, ?_⟩ (by (repeat' decreasing_trivial_pre_omega)) (by simp)
      · rw [List.map_append, p2, List.take_succ, List.getElem?_eq_getElem hn]
        rfl
      · intro p hp
        rcases List.mem_append.mp hp with h | h
        · exact p3 p h
        · rw [List.mem_singleton.mp h]
          exact ⟨hl, by show (0 : Int) ≤ dd; omega, hdd⟩
    · rintro ps Γ1 ⟨p1, p2, p3⟩ w
      refine st_wk w ?_
      try dsimp only
      refine st_told (i := 1) (j := 7) (a := fd) rfl rfl ?_
      (repeat' decreasing_trivial_pre_omega)
      intro ex hex
      (repeat' decreasing_trivial_pre_omega)
      have em : min (6 : Int) (((ps.map (postR K)).length : Nat) + (ex : Int)) = ((min 6 (np + ex) : Nat) : Int) := by
        rw [List.length_map, p1]
        omega
      rw [em]
      refine ev_lcRng (α := Str × Int) (e := lampR K) (P := fun i x => x.1 = fk.getD i Str.empty ∧ 0 ≤ x.2 ∧ x.2 ≤ 1) (m := min 6 (np + ex)) (by (repeat' decreasing_trivial_pre_omega)) (by omega) (by decide) (fun i hi k' hk => ?_) (fun ls l1 l2 => ?_)
      · have hf : i < fk.length := by omega
        (repeat' decreasing_trivial_pre_omega)
        refine o_ixN i rfl hf _ ?_
        (repeat' decreasing_trivial_pre_omega)
        intro rc hrc
        (repeat' decreasing_trivial_pre_omega)
        refine hk (fk[i], (rc : Int)) ⟨?_, by show (0 : Int) ≤ rc; omega, by show (rc : Int) ≤ 1; omega⟩
        rw [List.getD_eq_getElem?_getD, List.getElem?_eq_getElem hf]
        rfl
      · (repeat' decreasing_trivial_pre_omega)
        intro ch hch
        (repeat' decreasing_trivial_pre_omega)
        refine k_map (l := [0, 1, 2, 3, 4, 0]) (f := iInt) fun rel hrel => ?_
        (repeat' decreasing_trivial_pre_omega)
        refine ev_disp fun dd => ?_
        refine ed_cons (ev_str ⟨_, rfl, ev_var rfl (ed_cons (ev_str ⟨_, rfl, ev_var rfl (ed_cons (ev_str ⟨_, rfl, ev_var rfl (ed_nil ⟨1, rfl, Nat.le_of_ble_eq_true rfl, (by decide +kernel : (["house", "posts", "lamps"] : List Str).Nodup), ?_⟩)⟩))⟩))⟩)
        (repeat' decreasing_trivial_pre_omega)
        refine st_tFzL (i := 1) (j := 14) rfl rfl ?_
        (repeat' decreasing_trivial_pre_omega)
        have em2 : ps.map (fun p => p.1) = nm.take np := p2
        have el : ls.map (fun p => p.1) = fk.take (min 6 (np + ex)) := by
          refine List.ext_getElem? fun i => ?_
          rw [List.getElem?_map]
          cases hx : ls[i]? with
          | none =>
            have := List.getElem?_eq_none_iff.mp hx
            rw [List.getElem?_eq_none (by rw [List.length_take]; omega)]
            rfl
          | some x =>
            have hi := (List.getElem?_eq_some_iff.mp hx).1
            rw [List.getElem?_take_of_lt (by omega), List.getElem?_eq_getElem (show i < fk.length by omega)]
            have h3 := (l2 i x hx).1
            rw [List.getD_eq_getElem?_getD, List.getElem?_eq_getElem (show i < fk.length by omega)] at h3
            show some x.1 = _
            rw [h3]
            rfl
        have pin : ∀ p ∈ ps, p.1 ∈ nm := fun p hp => List.mem_of_mem_take (by rw [← em2]; exact List.mem_map.mpr ⟨p, hp, rfl⟩)
        have lin : ∀ p ∈ ls, p.1 ∈ fk := fun p hp => List.mem_of_mem_take (by rw [← el]; exact List.mem_map.mpr ⟨p, hp, rfl⟩)
        refine q ⟨ns, ds, ss, ps, ls, decide ((ch : Int) = 0), rel⟩ ⟨ho, by show ps.length ≤ posts; omega, ?_, fun p hp => n3 _ (pin p hp), p3, by show ls.length ≤ 6; omega, by show ps.length ≤ ls.length; omega, ?_, fun p hp => ⟨f3 _ (lin p hp), ?_⟩, ?_, ?_⟩
        · show (ps.map fun p => p.1).Nodup
          rw [em2]
          exact n2.sublist (List.take_sublist _ _)
        · show (ls.map fun p => p.1).Nodup
          rw [el]
          exact f2.sublist (List.take_sublist _ _)
        · obtain ⟨i, hi⟩ := List.getElem?_of_mem hp
          exact (l2 i p hi).2
        · show (0 : Int) ≤ rel
          simp at hrel
          omega
        · show rel ≤ (4 : Int)
          simp at hrel
          omega
    )) only [↓bx_true]

abbrev s__law_moved : Stmt := top 62
theorem sc__law_moved : FnScope ["_law_box_here", "_law_m", "_law_rooms", "_law_doors", "_law_sights", "_law_fresh", "_law_order", "_law_room", "_law_found", "_law_turned_doors", "_law_a", "_law_b", "_law_name", "_law_walk", "_law_late"] ["_law_box_here", "_law_m"] (defScope s__law_moved) := ⟨rfl, rfl, rfl, by decide +kernel, rfl, by decide +kernel, by decide +kernel⟩
theorem fr_look {ns nm : List Str} {z : Str} (hz : z ∈ ns) (hl : ns.length ≤ nm.length) : (ns.zip (nm.map aStr)).lookup z = some (aStr (frF ns nm z)) := by
  refine bx_of ?_
  simp (disch := with_unfolding_all (
    unfold frF
    induction ns generalizing nm with
    | nil => cases hz
    | cons x ns ih =>
      cases nm with
      | nil => simp at hl
      | cons y nm =>
        rw [List.map_cons, List.zip_cons_cons, List.lookup_cons]
        by_cases c : z = x
        · subst c
          simp
        · rw [show (z == x) = false from beq_eq_false_iff_ne.mpr c]
          have h2 : z ∈ ns := by
            rcases List.mem_cons.mp hz with e | h
            · exact absurd e c
            · exact h
          rw [List.idxOf_cons, show (x == z) = false from beq_eq_false_iff_ne.mpr fun e => c e.symm]
          exact ih h2 (by simpa using hl)
    )) only [↓bx_true]

abbrev ts__law_moved (K : PySem.W.Frag) : TSp := boxK fun Rs q => ∃ r : Sc, Rs = [iDF (madeF K r)] ∧ r.ns.length ≤ 8 ∧ r.ns.Nodup ∧ r.ps.length ≤ 100 ∧ r.ds.length ≤ 1000 ∧ r.ss.length ≤ 1000 ∧ (∀ p ∈ r.ds, p.1 ∈ r.ns ∧ p.2 ∈ r.ns) ∧ (∀ p ∈ r.ss, p.1 ∈ r.ns ∧ p.2 ∈ r.ns) ∧ (∀ p ∈ r.ps, p.2.1.length ≤ 100 ∧ ∀ z ∈ p.2.1, z ∈ r.ns) ∧ ∀ nm od : List Str, nm.length = 8 → nm.Nodup → (∀ z ∈ nm, NmOk z) → od.Perm (r.ns.map (frF r.ns nm)) → q (aTup K [iDF (madeF K (movS r nm od)), iDF (r.ns.zip (nm.map aStr))])
theorem ok__law_moved (B : Bt mg) (c__law_names : Cl P w K mg base CX0 3 "_law_names" (ts__law_names K) []) (c__law_draw : Cl P w K mg base CX0 1 "_law_draw" (ts__law_draw K) []) {f : Addr} {fd : FuncData} (d : Df K mg "_law_moved" s__law_moved ["_law_box_here", "_law_m"] f fd) : Cl P w K mg base CX0 4 "_law_moved" (ts__law_moved K) [] := by
  refine bx_of ?_
  simp (disch := with_unfolding_all (
    refine cl_of d (okT (kk := 3) d.fn sc__law_moved (fun Rs M k X h => by obtain ⟨b, _, rfl, _, _, rfl, _⟩ := h; rfl) fun cdv A outer s H E hr => ⟨_,
      (pss_cons (ps_asg (pe_dget (by exact hu_of hr) (pv 1) pe_str (fun _ _ => rfl)) (pg_tup rfl (pgs_cons (pg_name (i := 2) sc__law_moved.nd rfl (Or.inl rfl)) (pgs_cons (pg_name (i := 3) sc__law_moved.nd rfl (Or.inl rfl)) (pgs_cons (pg_name (i := 4) sc__law_moved.nd rfl (Or.inl rfl)) pgs_nil)))))
        (pss_cons (ps_set (i := 5) sc__law_moved.nd rfl (Or.inr rfl) (pe_dictZ rfl (by rfl) B.dict (by rfl) B.zip (pa_cons (pv 2) (pa_cons (pe_cl c__law_names hr (by decide) pass0 rfl (pa_cons (pv 0) (pa_cons pe_int pa_nil))) pa_nil))))
        (pss_cons (ps_fz (ps_set (i := 6) sc__law_moved.nd rfl (Or.inl rfl) (pe_lst pa_nil)))
        (pss_cons (ps_for PassesOwn.never rfl (pi_list (pv 2)) (pg_name (i := 7) sc__law_moved.nd rfl (Or.inl rfl)) (pss_one (ps_expr (pe_bm PySem.F.plainAttrs_list PySem.F.slot_list_insert PySem.F.type_list_insert mt_insertM (pv 6) (pa_cons (pe_cl c__law_draw hr (by decide) pass0 rfl (pa_cons (pv 0) (pa_cons (pe_op op_add (pe_callB call_len (by rfl) B.len (by decide +kernel) (pa_cons (pv 6) pa_nil)) pe_int) pa_nil))) (pa_cons (pe_dget (by exact hu_of hr) (pv 5) (pv 7) (fun _ _ => rfl)) pa_nil))))))
        (pss_cons (ps_set (i := 8) sc__law_moved.nd rfl (Or.inl rfl) (pe_callTy call_dictDC (by rfl) B.dict (by decide +kernel) (pa_cons (pv 1) pa_nil)))
        (pss_cons (ps_setLc (i := 9) (own := [("_law_a", 10), ("_law_b", 11)]) rfl sc__law_moved.nd rfl rfl (sw_true rfl rfl rfl (by decide +kernel)) (pi_list (pv 3)) (blkOk_by (own := [("_law_a", 10), ("_law_b", 11)]) (N := ["_law_box_here", "_law_m", "_law_rooms", "_law_doors", "_law_sights", "_law_fresh", "_law_order", "_law_room", "_law_found", "_law_turned_doors", "_law_a", "_law_b", "_law_name", "_law_walk", "_law_late"]) (sc := defScope s__law_moved) (by decide +kernel)) (fun s0 H0 C0 cl0 fp0 => blk_tup2 (i := 10) (j := 11) sc__law_moved.nd (s := s0) (H := H0) (C := C0) (cl := cl0) (fp := fp0)) (fun _ _ _ _ _ => pts_nil) (fun _ _ _ _ _ => (pe_tup (pa_cons (pe_dget (by exact hu_of hr) (pv 5) (pv 11) (fun _ _ => rfl)) (pa_cons (pe_dget (by exact hu_of hr) (pv 5) (pv 10) (fun _ _ => rfl)) pa_nil)))))
        (pss_cons (ps_asg (pe_tup (pa_cons (pv 6) (pa_cons (pv 9) (pa_cons (pe_revL (pe_lc (own := [("_law_a", 10), ("_law_b", 11)]) rfl sc__law_moved.nd (pi_list (pv 4)) (blkOk_by (own := [("_law_a", 10), ("_law_b", 11)]) (N := ["_law_box_here", "_law_m", "_law_rooms", "_law_doors", "_law_sights", "_law_fresh", "_law_order", "_law_room", "_law_found", "_law_turned_doors", "_law_a", "_law_b", "_law_name", "_law_walk", "_law_late"]) (sc := defScope s__law_moved) (by decide +kernel)) (fun s0 H0 C0 cl0 fp0 => blk_tup2 (i := 10) (j := 11) sc__law_moved.nd (s := s0) (H := H0) (C := C0) (cl := cl0) (fp := fp0)) (fun _ _ _ _ _ => pts_nil) (fun _ _ _ _ _ => (pe_tup (pa_cons (pe_dget (by exact hu_of hr) (pv 5) (pv 10) (fun _ _ => rfl)) (pa_cons (pe_dget (by exact hu_of hr) (pv 5) (pv 11) (fun _ _ => rfl)) pa_nil)))))) pa_nil)))) (pg_sub (pv 8) pe_str (set_dict (by exact hu_of hr))))
        (pss_cons (ps_asg (pe_lst pa_nil) (pg_sub (pv 8) pe_str (set_dict (by exact hu_of hr))))
        (pss_cons (ps_for PassesOwn.never rfl (pi_list (pe_dget (by exact hu_of hr) (pv 1) pe_str (fun _ _ => rfl))) (pg_tup rfl (pgs_cons (pg_name (i := 12) sc__law_moved.nd rfl (Or.inl rfl)) (pgs_cons (pg_name (i := 13) sc__law_moved.nd rfl (Or.inl rfl)) (pgs_cons (pg_name (i := 14) sc__law_moved.nd rfl (Or.inl rfl)) pgs_nil)))) (pss_one (ps_expr (pe_bm PySem.F.plainAttrs_list PySem.F.slot_list_append PySem.F.type_list_append mt_append (pe_dget (by exact hu_of hr) (pv 8) pe_str (fun _ _ => rfl)) (pa_cons (pe_tup (pa_cons (pv 12) (pa_cons (pe_callTy call_tuple_of (by rfl) B.tuple (by decide +kernel) (pa_cons (pe_lc (own := [("_law_room", 7)]) rfl sc__law_moved.nd (pi_tup (pv 13)) (blkOk_by (own := [("_law_room", 7)]) (N := ["_law_box_here", "_law_m", "_law_rooms", "_law_doors", "_law_sights", "_law_fresh", "_law_order", "_law_room", "_law_found", "_law_turned_doors", "_law_a", "_law_b", "_law_name", "_law_walk", "_law_late"]) (sc := defScope s__law_moved) (by decide +kernel)) (fun _ _ _ _ _ => (pg_name (i := 7) sc__law_moved.nd rfl (by first | exact Or.inl rfl | exact Or.inr rfl))) (fun _ _ _ _ _ => pts_nil) (fun _ _ _ _ _ => (pe_dget (by exact hu_of hr) (pv 5) (pv 7) (fun _ _ => rfl)))) pa_nil)) (pa_cons (pv 14) pa_nil)))) pa_nil)))))
        (pss_one (ps_fz (ps_ret (pe_tup (pa_cons (pv 8) (pa_cons (pv 5) pa_nil))))))))))))))), ?_⟩)
    try dsimp only [L3.cxK, L3.cxKX]
    rintro Rs M k X ⟨b, _, rfl, rfl, r, rfl, n8, nd, pl, dl, sl, hd, hs, hp, q⟩
    (repeat' decreasing_trivial_pre_omega)
    refine ev_dictZ ?_
    (repeat' decreasing_trivial_pre_omega)
    refine ⟨_, leS_rfl, 8, rfl, by decide, fun nm nl nn hnm => ?_⟩
    (repeat' decreasing_trivial_pre_omega)
    refine ⟨r.ns, nm.map aStr, rfl, nd, by rw [List.length_map]; omega, fun fr => ?_⟩
    have look : ∀ z ∈ r.ns, (r.ns.zip (nm.map aStr)).lookup z = some (aStr (frF r.ns nm z)) := fun z hz => fr_look hz (by omega)
    (repeat' decreasing_trivial_pre_omega)
    refine st_tFzL (i := 1) (j := 5) (d := fr) (kvs := r.ns.zip (nm.map aStr)) rfl rfl ?_
    (repeat' decreasing_trivial_pre_omega)
    intro a
    refine st_seq (st_forG (List Str) ?_)
    (repeat' decreasing_trivial_pre_omega)
    rw [List.length_map]
    refine ⟨fun i od => od.Perm ((r.ns.take i).map (frF r.ns nm)), fun _ => [some (iRef b), some (iDF (madeF K r)), some (iLst (r.ns.map aStr)), some (iLst (r.ds.map (prR K))), some (iLst (r.ss.map (prR K))), some (iDF (r.ns.zip (nm.map aStr))), some (iRef a), none, none, none, none, none, none, none, none], fun od => [(b, mBox), (a, mLst (od.map aStr))], lj [] (by simp) (by (repeat' decreasing_trivial_pre_omega)) rfl, ?_, ?_⟩
    · rintro i rr od hi hr pm
      have hi' : i < r.ns.length := by simpa using hi
      rw [List.getElem?_map, List.getElem?_eq_getElem hi'] at hr
      cases hr
      have lo := pm.length_eq
      rw [List.length_map, List.length_take] at lo
      have tk : r.ns.take (i + 1) = r.ns.take i ++ [r.ns[i]] := by rw [List.take_succ, List.getElem?_eq_getElem hi']; rfl
      have lk := look _ (List.getElem_mem hi')
      generalize r.ns[i] = z at tk lk
      try dsimp only
      (repeat' decreasing_trivial_pre_omega)
      refine ev_insert ?_
      (repeat' decreasing_trivial_pre_omega)
      rw [List.length_map, show ((od.length : Int) + 1) = ((od.length + 1 : Nat) : Int) by omega]
      (repeat' decreasing_trivial_pre_omega)
      intro at_ hat
      (repeat' decreasing_trivial_pre_omega)
      refine ⟨z, _, rfl, .inl rfl, _, lk, ?_⟩
      (repeat' decreasing_trivial_pre_omega)
      refine ⟨at_, _, 1, od.map aStr, rfl, rfl, by omega, by simp; omega, ?_⟩
      refine lj (od.take at_ ++ [frF r.ns nm z] ++ od.drop at_) ?_ (by (repeat' decreasing_trivial_pre_omega)) ?_
      · rw [tk, List.map_append, List.map_singleton]
        refine List.Perm.trans ?_ (pm.append_right _)
        have h1 : (od.take at_ ++ [frF r.ns nm z] ++ od.drop at_).Perm (od.take at_ ++ (od.drop at_ ++ [frF r.ns nm z])) := by
          rw [List.append_assoc]
          exact List.perm_append_comm.append_left _
        rw [← List.append_assoc, List.take_append_drop] at h1
        exact h1
      · rw [List.map_append, List.map_append, List.map_take, List.map_drop]
        rfl
    rintro od Γ1 pm w
    refine st_wk w ?_
    try dsimp only
    rw [List.take_length] at pm
    (repeat' decreasing_trivial_pre_omega)
    intro d
    refine st_told (i := 1) (j := 6) (a := a) rfl rfl ?_
    refine st_seq (st_asgT (vs := []) (Ep.ev (ep_lcG (l := r.ds) (e := prR K) (e' := fun p => prR K (frF r.ns nm p.2, frF r.ns nm p.1)) (ep_var rfl) (by omega) (by decide) fun x hx => ?_) ?_))
    · obtain ⟨h1, h2⟩ := hd x hx
      refine tg_tup rfl (tgs_cons (tg_name (tgs_cons (tg_name (tgs_nil ⟨rfl, ?_⟩)))))
      (repeat' decreasing_trivial_pre_omega)
      refine ⟨x.2, _, rfl, .inl rfl, _, look _ h2, ?_⟩
      (repeat' decreasing_trivial_pre_omega)
      refine ⟨x.1, _, rfl, .inl rfl, _, look _ h1, ?_⟩
      (repeat' decreasing_trivial_pre_omega)
    refine tg_name ?_
    try dsimp only
    refine st_join (α := Unit) (P := fun _ => True) (G := fun _ => [some (iRef b), some (iDF (madeF K r)), some (iLst (r.ns.map aStr)), some (iLst (r.ds.map (prR K))), some (iLst (r.ss.map (prR K))), some (iDF (r.ns.zip (nm.map aStr))), none, none, some (iRef d), none, none, none, none, none, none]) (N := fun _ => [(b, mBox), (d, mDK (putD (madeF K r) "house" (iHs K od (movS r nm od).ds (movS r nm od).ss)))]) ?_ (fun _ _ => ?_)
    · (repeat' decreasing_trivial_pre_omega)
      refine Ep.ev (ep_lcG (l := r.ss) (e := prR K) (e' := fun p => prR K (frF r.ns nm p.1, frF r.ns nm p.2)) (ep_var rfl) (by omega) (by decide) fun x hx => ?_) ?_
      · obtain ⟨h1, h2⟩ := hs x hx
        refine tg_tup rfl (tgs_cons (tg_name (tgs_cons (tg_name (tgs_nil ⟨rfl, ?_⟩)))))
        (repeat' decreasing_trivial_pre_omega)
        refine ⟨x.1, _, rfl, .inl rfl, _, look _ h1, ?_⟩
        (repeat' decreasing_trivial_pre_omega)
        refine ⟨x.2, _, rfl, .inl rfl, _, look _ h2, ?_⟩
        (repeat' decreasing_trivial_pre_omega)
      refine ⟨_, rfl, ?_⟩
      (repeat' decreasing_trivial_pre_omega)
      refine lj () True.intro (by (repeat' decreasing_trivial_pre_omega)) ?_
      show _ = [(b, mBox), (d, mDK (putD (madeF K r) "house" (aTup K [iLst (od.map aStr), iLst ((r.ds.map fun p => (frF r.ns nm p.2, frF r.ns nm p.1)).map (prR K)), iLst (((r.ss.map fun p => (frF r.ns nm p.1, frF r.ns nm p.2)).reverse).map (prR K))])))]
      rw [List.map_reverse, List.map_map, List.map_map]
      rfl
    try dsimp only
    refine st_seq (st_asgT (vs := []) (ev_lstM (ea_nil ⟨by simp, fun f => ?_⟩)))
    (repeat' decreasing_trivial_pre_omega)
    refine st_seq (st_forG Nat (tip_list (rl := r.ps.map (postR K)) ?_ _ _ ?_))
    · (repeat' decreasing_trivial_pre_omega)
    rw [List.length_map]
    refine ⟨fun i n => n = i, fun _ => [some (iRef b), some (iDF (madeF K r)), some (iLst (r.ns.map aStr)), some (iLst (r.ds.map (prR K))), some (iLst (r.ss.map (prR K))), some (iDF (r.ns.zip (nm.map aStr))), none, none, some (iRef d), none, none, none, none, none, none], fun n => [(b, mBox), (d, mDK (putD (putD (madeF K r) "house" (iHs K od (movS r nm od).ds (movS r nm od).ss)) "posts" (iRef f))), (f, mLst (((movS r nm od).ps.take n).map (postR K)))], lj 0 rfl (by (repeat' decreasing_trivial_pre_omega)) rfl, ?_, ?_⟩
    · rintro i rr n hi hr rfl
      rw [List.getElem?_map, List.getElem?_eq_getElem hi] at hr
      cases hr
      obtain ⟨h1, h2⟩ := hp _ (List.getElem_mem hi)
      have lm : (movS r nm od).ps.length = r.ps.length := List.length_map ..
      have tk : (movS r nm od).ps.take (n + 1) = (movS r nm od).ps.take n ++ [(r.ps[n].1, r.ps[n].2.1.map (frF r.ns nm), r.ps[n].2.2)] := by
        rw [List.take_succ, show (movS r nm od).ps[n]? = some (r.ps[n].1, r.ps[n].2.1.map (frF r.ns nm), r.ps[n].2.2) from by show (r.ps.map _)[n]? = _; rw [List.getElem?_map, List.getElem?_eq_getElem hi]; rfl]
        rfl
      have tl : ((movS r nm od).ps.take n).length ≤ 100 := by rw [List.length_take]; omega
      generalize r.ps[n] = p at h1 h2 tk
      try dsimp only
      (repeat' decreasing_trivial_pre_omega)
      refine Ep.ev (ep_lcTM (l := p.2.1) (e := aStr) (e' := fun z => aStr (frF r.ns nm z)) (ep_var rfl) (by omega) (by decide) fun z hz => ?_) ?_
      · (repeat' decreasing_trivial_pre_omega)
        refine ⟨z, _, rfl, .inl rfl, _, look _ (h2 z hz), ?_⟩
        (repeat' decreasing_trivial_pre_omega)
      (repeat' decreasing_trivial_pre_omega)
      refine lj (n + 1) rfl (by (repeat' decreasing_trivial_pre_omega)) ?_
      rw [tk, List.map_append, List.map_singleton]
      show _ = [(b, mBox), _, (f, mLst (_ ++ [aTup K [aStr p.1, aTup K ((p.2.1.map (frF r.ns nm)).map aStr), iInt p.2.2]]))]
      rw [List.map_map]
      rfl
    · rintro n Γ1 rfl w
      refine st_wk w ?_
      try dsimp only
      rw [show r.ps.length = (movS r nm od).ps.length from (List.length_map ..).symm, List.take_length]
      refine st_next ?_
      refine st_turn (turn_fzD (i := 2) (j := 1) (l := f) (d := d) (f := "posts") rfl rfl rfl) ?_
      refine st_tFzL (i := 1) (j := 8) (d := d) (kvs := madeF K (movS r nm od)) rfl rfl ?_
      (repeat' decreasing_trivial_pre_omega)
      exact q nm od nl nn hnm pm
    )) only [↓bx_true]

abbrev s_is_name : Stmt := top 34
theorem sc_is_name : FnScope ["text", "sign"] ["text"] (defScope s_is_name) := ⟨rfl, rfl, rfl, by decide +kernel, rfl, by decide +kernel, by decide +kernel⟩
abbrev ts_is_name (K : PySem.W.Frag) : TSp := pureTs (fun z : Str => [aStr z]) (fun z => z.length ≤ 1000) (fun z => iBl (isName z))
theorem ok_is_name (B : Bt mg) (g_MOST_LETTERS : ∃ u, mg "MOST_LETTERS" = some u ∧ RelV (.int 8) u) (g_LETTERS : ∃ u, mg "LETTERS" = some u ∧ RelV (.str letters) u) {f : Addr} {fd : FuncData} (d : Df K mg "is_name" s_is_name ["text"] f fd) : Cl P w K mg base CX0 1 "is_name" (ts_is_name K) [] := by
  refine bx_of ?_
  simp (disch := with_unfolding_all (
    refine cl_of d (okT (kk := 0) d.fn sc_is_name (fun Rs M k X h => by obtain ⟨z, rfl, _⟩ := h; rfl) fun cdv A outer s H E hr => ⟨_,
      (pss_one (ps_ret (pe_and (pe_chain op_le op_le pe_int (pe_callB call_len (by rfl) B.len (by decide +kernel) (pa_cons (pv 0) pa_nil)) (pe_gc rfl g_MOST_LETTERS)) (pe_one (pe_callB (cr_all rfl) (by rfl) B.all (by decide +kernel) (pa_cons (pe_lc (own := [("sign", 1)]) rfl sc_is_name.nd (pi_str (pv 0)) (blkOk_by (own := [("sign", 1)]) (N := ["text", "sign"]) (sc := defScope s_is_name) (by decide +kernel)) (fun _ _ _ _ _ => (pg_name (i := 1) sc_is_name.nd rfl (by first | exact Or.inl rfl | exact Or.inr rfl))) (fun _ _ _ _ _ => pts_nil) (fun _ _ _ _ _ => (pe_cmpR op_in_sign (pv 1) (pe_gc rfl g_LETTERS) (by rfl)))) pa_nil)))))), ?_⟩)
    try dsimp only [L3.cxK, L3.cxKX]
    rintro Rs M k X ⟨z, rfl, hz, rfl, q⟩
    exact st_ret (ep_andV (ep_chain ep_int (ep_cb (eap_cons (ep_var rfl) eap_nil) (c_lenS (by omega))) o_le (fun _ => ep_int) (fun _ => o_le)) (fun _ => ep_cb (eap_cons (ep_lcS (e' := iBl) (g := fun c => decide (c ∈ letters.cps.toList)) (ep_var rfl) (by omega) (by decide) (fun c hc => ep_op (ep_var rfl) ep_str o_inSign)) eap_nil) c_all) _ _ q)
    )) only [↓bx_true]

abbrev s_need_fresh : Stmt := top 35
theorem sc_need_fresh : FnScope ["name", "known"] ["name", "known"] (defScope s_need_fresh) := ⟨rfl, rfl, rfl, by decide +kernel, rfl, by decide +kernel, by decide +kernel⟩
abbrev ts_need_fresh (K : PySem.W.Frag) : TSp := roK fun M Rs q => ∃ z R, Rs = [aStr z, R] ∧ (isName z = true ∧ z.length ≤ 1000) ∧ ((∃ l : List Str, HasL K M R (l.map aStr) ∧ z ∉ l) ∨ (∃ kvs, HasD M R kvs ∧ kvs.lookup z = none)) ∧ q iNon
theorem ok_need_fresh (B : Bt mg) (c_is_name : Cl P w K mg base CX0 1 "is_name" (ts_is_name K) []) {f : Addr} {fd : FuncData} (d : Df K mg "need_fresh" s_need_fresh ["name", "known"] f fd) : Cl P w K mg base CX0 2 "need_fresh" (ts_need_fresh K) [] := by
  refine bx_of ?_
  simp (disch := with_unfolding_all (
    refine cl_of d (okT (kk := 1) d.fn sc_need_fresh (fun Rs M k X h => by obtain ⟨_, _, rfl, _⟩ := h; rfl) fun cdv A outer s H E hr => ⟨_,
      (pss_cons (ps_if (pt_not (pt_val (pe_cl c_is_name hr (by decide) pass0 rfl (pa_cons (pv 0) pa_nil)))) (pss_one ps_never) pss_nil)
        (pss_one (ps_if (pt_orr (pt_cmpR op_in_seq (pv 0) (pv 1) (by rfl)) (pt_cmp (pc_din (by exact hu_of hr) (pv 0) (pv 1)))) (pss_one ps_never) pss_nil))), ?_⟩)
    try dsimp only [L3.cxK, L3.cxKX]
    rintro Rs M k X ⟨z, R, rfl, ⟨h1, h2⟩, h3, q⟩
    (repeat' decreasing_trivial_pre_omega)
    refine ⟨z, leS_rfl, h2, ?_⟩
    try dsimp only
    rw [h1]
    (repeat' decreasing_trivial_pre_omega)
    rcases h3 with ⟨l, hl, hn⟩ | ⟨kvs, hd, hn⟩
    · refine et_or1 ?_
      (repeat' decreasing_trivial_pre_omega)
      refine ite_b (fun h => absurd (of_decide_eq_true h) hn) (fun _ => ?_)
      (repeat' decreasing_trivial_pre_omega)
    · refine et_or2 ?_
      (repeat' decreasing_trivial_pre_omega)
      rw [hn]
      (repeat' decreasing_trivial_pre_omega)
      refine ite_b (fun h => by simp at h) (fun _ => ?_)
      (repeat' decreasing_trivial_pre_omega)
    )) only [↓bx_true]

abbrev s_House_need_room : Stmt := inClass (top 36) 1
theorem sc_House_need_room : FnScope ["self", "room"] ["self", "room"] (defScope s_House_need_room) := ⟨rfl, rfl, rfl, by decide +kernel, rfl, by decide +kernel, by decide +kernel⟩
abbrev ts_House_need_room (K : PySem.W.Frag) (C_House : Addr) : TSp := methK C_House fun M fs Rs q => ∃ z Rn, ∃ l : List Str, Rs = [aStr z] ∧ fs.lookup ("named" : Str) = some Rn ∧ HasL K M Rn (l.map aStr) ∧ z ∈ l ∧ q iNon
theorem ok_House_need_room (B : Bt mg) {C_House : Addr} (T_House : Txt_House K mg C_House) {f : Addr} {fd : FuncData} (d : Fun K "need_room" "House.need_room" s_House_need_room f fd) (hm : Meth K C_House "need_room" f) : ClM P w K mg base CX0 1 C_House "need_room" (ts_House_need_room K C_House) [] := by
  refine bx_of ?_
  simp (disch := with_unfolding_all (
    refine ⟨T_House.cl, f, fd, ["self", "room"], [], ?_, hm, d.binds fun _ _ _ _ _ _ us hl => match us, hl with | [_, _], _ => rfl, .nil⟩
    refine (okT (kk := 0) d sc_House_need_room (fun Rs M k X h => by obtain ⟨_, _, _, rfl, _, _, _, _, rfl, _⟩ := h; rfl) fun cdv A outer s H E hr => ⟨_,
      (pss_one (ps_if (pt_cmpR op_notIn_seq (pv 1) (pe_fld (pv 0) (by rfl)) (by rfl)) (pss_one ps_never) pss_nil)), ?_⟩)
    try dsimp only [L3.cxK, L3.cxKX]
    rintro Rs M k X ⟨R, _, fs, rfl, ho, z, Rn, l, rfl, hf, hl, hz, q⟩
    (repeat' decreasing_trivial_pre_omega)
    refine ite_b (fun h => by simp [hz] at h) (fun _ => ?_)
    (repeat' decreasing_trivial_pre_omega)
    )) only [↓bx_true]

abbrev s_House_need_pair : Stmt := inClass (top 36) 2
theorem sc_House_need_pair : FnScope ["self", "one", "other"] ["self", "one", "other"] (defScope s_House_need_pair) := ⟨rfl, rfl, rfl, by decide +kernel, rfl, by decide +kernel, by decide +kernel⟩
abbrev ts_House_need_pair (K : PySem.W.Frag) (C_House : Addr) : TSp := methK C_House fun M fs Rs q => ∃ a b Rn, ∃ l : List Str, Rs = [aStr a, aStr b] ∧ fs.lookup ("named" : Str) = some Rn ∧ fs.lookup ("need_room" : Str) = none ∧ HasL K M Rn (l.map aStr) ∧ a ∈ l ∧ b ∈ l ∧ a ≠ b ∧ q iNon
theorem ok_House_need_pair (B : Bt mg) {C_House : Addr} (T_House : Txt_House K mg C_House) (cm_House_need_room : ClM P w K mg base CX0 1 C_House "need_room" (ts_House_need_room K C_House) []) {f : Addr} {fd : FuncData} (d : Fun K "need_pair" "House.need_pair" s_House_need_pair f fd) (hm : Meth K C_House "need_pair" f) : ClM P w K mg base CX0 2 C_House "need_pair" (ts_House_need_pair K C_House) [] := by
  refine bx_of ?_
  simp (disch := with_unfolding_all (
    refine ⟨T_House.cl, f, fd, ["self", "one", "other"], [], ?_, hm, d.binds fun _ _ _ _ _ _ us hl => match us, hl with | [_, _, _], _ => rfl, .nil⟩
    refine (okT (kk := 1) d sc_House_need_pair (fun Rs M k X h => by obtain ⟨_, _, _, rfl, _, _, _, _, _, rfl, _⟩ := h; rfl) fun cdv A outer s H E hr => ⟨_,
      (pss_cons (ps_expr (pe_clM cm_House_need_room hr (by decide) pass0 (pv 0) (pa_cons (pv 1) pa_nil)))
        (pss_cons (ps_expr (pe_clM cm_House_need_room hr (by decide) pass0 (pv 0) (pa_cons (pv 2) pa_nil)))
        (pss_one (ps_if (pt_cmpR op_eq (pv 1) (pv 2) (nomark _)) (pss_one ps_never) pss_nil)))), ?_⟩)
    try dsimp only [L3.cxK, L3.cxKX]
    rintro Rs M k X ⟨R, _, fs, rfl, ho, a, b, Rn, l, rfl, hf, hm, hl, ha, hb, hab, q⟩
    (repeat' decreasing_trivial_pre_omega)
    refine ⟨_, leS_rfl, a, Rn, l, rfl, hf, hl, ha, ?_⟩
    (repeat' decreasing_trivial_pre_omega)
    refine ⟨_, leS_rfl, b, Rn, l, rfl, hf, hl, hb, ?_⟩
    (repeat' decreasing_trivial_pre_omega)
    refine ite_b (fun h => absurd (of_decide_eq_true h) hab) (fun _ => ?_)
    (repeat' decreasing_trivial_pre_omega)
    )) only [↓bx_true]

abbrev s_House___init__ : Stmt := inClass (top 36) 0
theorem sc_House___init__ : FnScope ["self", "rooms", "doors", "sights", "name", "one", "other"] ["self", "rooms", "doors", "sights"] (defScope s_House___init__) := ⟨rfl, rfl, rfl, by decide +kernel, rfl, by decide +kernel, by decide +kernel⟩
abbrev ts_House___init__ (K : PySem.W.Frag) (C_House : Addr) : TSp := initK C_House fun Rs Z => ∃ ns ds ss, Rs = [aSeq K (ns.map aStr), aSeq K (ds.map (prR K)), aSeq K (ss.map (prR K))] ∧ (ns.length ≤ 8 ∧ ns.Nodup ∧ (∀ z ∈ ns, isName z = true ∧ z.length ≤ 1000)) ∧
  (ds.length ≤ 10000 ∧ ∀ p ∈ ds, p.1 ∈ ns ∧ p.2 ∈ ns ∧ p.1 ≠ p.2) ∧ (ss.length ≤ 10000 ∧ ∀ p ∈ ss, p.1 ∈ ns ∧ p.2 ∈ ns ∧ p.1 ≠ p.2) ∧ Z (houseF ns (doorsOf ds) (sightsOf ss))
theorem ok_House___init__ (B : Bt mg) {C_House : Addr} (T_House : Txt_House K mg C_House) (g_MOST_ROOMS : ∃ u, mg "MOST_ROOMS" = some u ∧ RelV (.int 8) u) (c_need_fresh : Cl P w K mg base CX0 2 "need_fresh" (ts_need_fresh K) []) (cm_House_need_pair : ClM P w K mg base CX0 2 C_House "need_pair" (ts_House_need_pair K C_House) []) {f : Addr} {fd : FuncData} {dvs : List V} {kws : List (Str × V)} (d : FunD K "__init__" "House.__init__" (defArgs s_House___init__) (defBody s_House___init__) (defScope s_House___init__) dvs kws f fd) : FnOk P w K mg base CX0 3 f fd ["self", "rooms", "doors", "sights"] (spT (ts_House___init__ K C_House)) := by
  refine bx_of ?_
  simp (disch := with_unfolding_all (
    refine (okTD (kk := 2) d sc_House___init__ (fun Rs M k X h => by obtain ⟨_, _, rfl, _, _, ⟨_, _, _, rfl, _⟩, _⟩ := h; rfl) fun cdv A outer s H E hr => ⟨_,
      (pss_cons (ps_if (pt_cmpR op_gt (pe_callB call_len (by rfl) B.len (by decide +kernel) (pa_cons (pv 1) pa_nil)) (pe_gc rfl g_MOST_ROOMS) (nomark _)) (pss_one ps_never) pss_nil)
        (pss_cons (ps_fld (pv 0) (pe_lst pa_nil) rfl)
        (pss_cons (ps_for PassesOwn.never rfl (pi_seq (pv 1)) (pg_name (i := 4) sc_House___init__.nd rfl (Or.inl rfl)) (pss_cons (ps_expr (pe_cl c_need_fresh hr (by decide) pass0 rfl (pa_cons (pv 4) (pa_cons (pe_fld (pv 0) (by rfl)) pa_nil))))
        (pss_one (ps_expr (pe_bm PySem.F.plainAttrs_list PySem.F.slot_list_append PySem.F.type_list_append mt_append (pe_fld (pv 0) (by rfl)) (pa_cons (pv 4) pa_nil))))))
        (pss_cons (ps_fld (pv 0) pe_dnewT rfl)
        (pss_cons (ps_for PassesOwn.never rfl (pi_seq (pv 2)) (pg_tup rfl (pgs_cons (pg_name (i := 5) sc_House___init__.nd rfl (Or.inl rfl)) (pgs_cons (pg_name (i := 6) sc_House___init__.nd rfl (Or.inl rfl)) pgs_nil))) (pss_cons (ps_expr (pe_clM cm_House_need_pair hr (by decide) pass0 (pv 0) (pa_cons (pv 5) (pa_cons (pv 6) pa_nil))))
        (pss_one (ps_asg2 pe_bl (pg_sub (pe_fld (pv 0) (by rfl)) (pe_tup (pa_cons (pv 5) (pa_cons (pv 6) pa_nil))) (set_dict (by exact hu_of hr))) (pg_sub (pe_fld (pv 0) (by rfl)) (pe_tup (pa_cons (pv 6) (pa_cons (pv 5) pa_nil))) (set_dict (by exact hu_of hr)))))))
        (pss_cons (ps_fld (pv 0) pe_dnewT rfl)
        (pss_one (ps_for PassesOwn.never rfl (pi_seq (pv 3)) (pg_tup rfl (pgs_cons (pg_name (i := 5) sc_House___init__.nd rfl (Or.inl rfl)) (pgs_cons (pg_name (i := 6) sc_House___init__.nd rfl (Or.inl rfl)) pgs_nil))) (pss_cons (ps_expr (pe_clM cm_House_need_pair hr (by decide) pass0 (pv 0) (pa_cons (pv 5) (pa_cons (pv 6) pa_nil))))
        (pss_one (ps_asg pe_bl (pg_sub (pe_fld (pv 0) (by rfl)) (pe_tup (pa_cons (pv 5) (pa_cons (pv 6) pa_nil))) (set_dict (by exact hu_of hr)))))))))))))), ?_⟩)
    try dsimp only [L3.cxK, L3.cxKX]
    rintro Rs M k X ⟨a, _, rfl, rfl, Z, ⟨ns, ds, ss, rfl, ⟨n1, n2, n3⟩, ⟨d1, d2⟩, ⟨s1, s2⟩, hz⟩, q⟩
    (repeat' decreasing_trivial_pre_omega)
    refine ite_b (fun h => by simp at h; omega) (fun _ => ?_)
    (repeat' decreasing_trivial_pre_omega)
    intro l
    (repeat' decreasing_trivial_pre_omega)
    refine st_forG Nat (tip_seq (ep_var rfl) _ _ ?_)
    refine ⟨fun i n => n = i, fun _ => [some (iRef a), some (aSeq K (ns.map aStr)), some (aSeq K (ds.map (prR K))), some (aSeq K (ss.map (prR K))), none, none, none], fun n => [(a, mObj C_House [("named", iRef l)]), (l, mLst ((ns.take n).map aStr))], lj 0 rfl (by (repeat' decreasing_trivial_pre_omega)) rfl, ?_, ?_⟩
    · rintro i r n hi hr rfl
      have hi' : n < ns.length := by simpa using hi
      rw [List.getElem?_map, List.getElem?_eq_getElem hi'] at hr
      cases hr
      obtain ⟨m1, m2⟩ := n3 _ (List.getElem_mem hi')
      (repeat' decreasing_trivial_pre_omega)
      refine ⟨_, leS_rfl, ns[n], iRef l, rfl, ⟨m1, m2⟩, .inl ⟨ns.take n, .inr (.inr (.inr ⟨l, 1, rfl, rfl⟩)), ?_⟩, ?_⟩
      · exact take_nin n2 hi'
      (repeat' decreasing_trivial_pre_omega)
      refine lj (n + 1) rfl (by (repeat' decreasing_trivial_pre_omega)) ?_
      rw [List.take_succ, List.getElem?_eq_getElem hi', List.map_append]
      rfl
    · rintro n Γ1 rfl w
      refine st_wk w ?_
      try dsimp only
      rw [List.length_map, List.take_length]
      refine st_fzF (i := 1) (j := 0) (f := "named") (fs := [("named", iRef l)]) rfl rfl rfl ?_
      show St E _ _ [(a, mObj C_House [("named", iLst (ns.map aStr))])] _
      (repeat' decreasing_trivial_pre_omega)
      intro d
      (repeat' decreasing_trivial_pre_omega)
      refine st_forG Nat (tip_seq (ep_var rfl) _ _ ?_)
      refine ⟨fun i n => n = i, fun _ => [some (iRef a), some (aSeq K (ns.map aStr)), some (aSeq K (ds.map (prR K))), some (aSeq K (ss.map (prR K))), none, none, none], fun n => [(a, mObj C_House [("named", iLst (ns.map aStr)), ("doored", iRef d)]), (d, mPD (doorsOf (ds.take n)))], lj 0 rfl (by (repeat' decreasing_trivial_pre_omega)) rfl, ?_, ?_⟩
      · rintro i r n hi hr rfl
        have hi' : n < ds.length := by simpa using hi
        rw [List.getElem?_map, List.getElem?_eq_getElem hi'] at hr
        cases hr
        obtain ⟨q1, q2, q3⟩ := d2 _ (List.getElem_mem hi')
        have dl := doors_len ds n (by omega)
        have dl2 := putP_len (doorsOf (ds.take n)) (ds[n].1, ds[n].2)
        (repeat' decreasing_trivial_pre_omega)
        refine ⟨_, leS_rfl, ds[n].1, ds[n].2, _, ns, rfl, rfl, rfl, .inl rfl, q1, q2, q3, ?_⟩
        (repeat' decreasing_trivial_pre_omega)
        refine lj (n + 1) rfl (by (repeat' decreasing_trivial_pre_omega)) ?_
        unfold doorsOf
        rw [fold_snoc _ _ _ _ hi']
        rfl
      · rintro n Γ1 rfl w
        refine st_wk w ?_
        try dsimp only
        rw [List.length_map, List.take_length]
        refine st_fzP (i := 1) (j := 0) (f := "doored") (fs := [("named", iLst (ns.map aStr)), ("doored", iRef d)]) rfl rfl rfl ?_
        show St E _ _ [(a, mObj C_House [("named", iLst (ns.map aStr)), ("doored", iPD (doorsOf ds))])] _
        refine st_nt ?_
        (repeat' decreasing_trivial_pre_omega)
        intro t
        (repeat' decreasing_trivial_pre_omega)
        refine st_forG Nat (tip_seq (ep_var rfl) _ _ ?_)
        refine ⟨fun i n => n = i, fun _ => [some (iRef a), some (aSeq K (ns.map aStr)), some (aSeq K (ds.map (prR K))), some (aSeq K (ss.map (prR K))), none, none, none], fun n => [(a, mObj C_House [("named", iLst (ns.map aStr)), ("doored", iPD (doorsOf ds)), ("sighted", iRef t)]), (t, mPD (sightsOf (ss.take n)))], lj 0 rfl (by (repeat' decreasing_trivial_pre_omega)) rfl, ?_, ?_⟩
        · rintro i r n hi hr rfl
          have hi' : n < ss.length := by simpa using hi
          rw [List.getElem?_map, List.getElem?_eq_getElem hi'] at hr
          cases hr
          obtain ⟨q1, q2, q3⟩ := s2 _ (List.getElem_mem hi')
          have dl := sights_len ss n (by omega)
          (repeat' decreasing_trivial_pre_omega)
          refine ⟨_, leS_rfl, ss[n].1, ss[n].2, _, ns, rfl, rfl, rfl, .inl rfl, q1, q2, q3, ?_⟩
          (repeat' decreasing_trivial_pre_omega)
          refine lj (n + 1) rfl (by (repeat' decreasing_trivial_pre_omega)) ?_
          unfold sightsOf
          rw [fold_snoc _ _ _ _ hi']
          rfl
        · rintro n Γ1 rfl w
          try dsimp only
          rw [List.length_map, List.take_length]
          exact ⟨_, _, turn_fzP (i := 1) (j := 0) (f := "sighted") rfl rfl rfl, q _ hz⟩
    )) only [↓bx_true]

theorem bd_House___init__ {f : Addr} {fd : FuncData} {e0 e1 e2 : Addr} (F : FunD K "__init__" "House.__init__" (defArgs s_House___init__) (defBody s_House___init__) (defScope s_House___init__) [V.ref e0, V.ref e1, V.ref e2] [] f fd) : ∃ ds, Vals [] ds ∧ Binds K fd ["self", "rooms", "doors", "sights"] ds := by
  exact FunD.binds1 (ps := ["self", "rooms", "doors", "sights"]) F 4 3 (by simp) rfl fun T kV doc pm an cdv ct us its h1 h2 => match us, its, h1, h2 with
    | [a, b, c, d], [x, y, z], _, _ => ⟨_, rfl, rfl⟩
abbrev s__law_made : Stmt := top 56
theorem sc__law_made : FnScope ["_law_house_here"] ["_law_house_here"] (defScope s__law_made) := ⟨rfl, rfl, rfl, by decide +kernel, rfl, by decide +kernel, by decide +kernel⟩
theorem sign_in (c : Nat) (h1 : 97 ≤ c) (h2 : c ≤ 122) : c ∈ letters.cps.toList := by
  have h : ∀ d : Fin 26, 97 + d.val ∈ letters.cps.toList := by decide +kernel
  have := h ⟨c - 97, by omega⟩
  rwa [show 97 + (c - 97) = c by omega] at this
theorem nm_name {z : Str} (h : NmOk z) : isName z = true ∧ z.length ≤ 1000 := by
  obtain ⟨⟨h1, _⟩, h2, h3⟩ := h
  refine ⟨?_, by omega⟩
  unfold isName
  rw [Bool.and_eq_true, Bool.and_eq_true, decide_eq_true_eq, decide_eq_true_eq, List.all_eq_true]
  refine ⟨⟨by omega, by omega⟩, fun b hb => ?_⟩
  obtain ⟨c, hc, rfl⟩ := List.mem_map.mp hb
  have := h3 c hc
  exact decide_eq_true (sign_in c this.1 this.2)
abbrev ts__law_made (K : PySem.W.Frag) (C_House : Addr) : TSp := pureTs (fun p : List Str × List (Str × Str) × List (Str × Str) => [iHs K p.1 p.2.1 p.2.2]) (fun p => HouseOk 8 p.1 p.2.1 p.2.2) (fun p => iHouse C_House p.1 (doorsOf p.2.1) (sightsOf p.2.2))
theorem ok__law_made (B : Bt mg) {C_House : Addr} (T_House : Txt_House K mg C_House) (ci_House : ClI P w K mg base CX0 3 C_House "House" (ts_House___init__ K C_House) []) {f : Addr} {fd : FuncData} (d : Df K mg "_law_made" s__law_made ["_law_house_here"] f fd) : Cl P w K mg base CX0 5 "_law_made" (ts__law_made K C_House) [] := by
  refine bx_of ?_
  simp (disch := with_unfolding_all (
    refine cl_of d (okT (kk := 4) d.fn sc__law_made (fun Rs M k X h => by obtain ⟨_, rfl, _⟩ := h; rfl) fun cdv A outer s H E hr => ⟨_,
      (pss_one (ps_ret (pe_clI ci_House hr (by decide) pass0 rfl (pa_cons (pe_callTy call_list_of (by rfl) B.list (by decide +kernel) (pa_cons (pe_ix ix_tup (pv 0) pe_int (fun _ _ => rfl)) pa_nil)) (pa_cons (pe_callTy call_list_of (by rfl) B.list (by decide +kernel) (pa_cons (pe_ix ix_tup (pv 0) pe_int (fun _ _ => rfl)) pa_nil)) (pa_cons (pe_callTy call_list_of (by rfl) B.list (by decide +kernel) (pa_cons (pe_ix ix_tup (pv 0) pe_int (fun _ _ => rfl)) pa_nil)) pa_nil)))))), ?_⟩)
    try dsimp only [L3.cxK, L3.cxKX]
    rintro Rs M k X ⟨⟨ns, ds, ss⟩, rfl, ho, rfl, q⟩
    try dsimp only at ho q
    (repeat' decreasing_trivial_pre_omega)
    refine ⟨_, leS_cons seq_l (leS_cons seq_l (leS_cons seq_l leS_nil)), ns, ds, ss, rfl, ⟨ho.n1, ho.nd, fun z hz => nm_name (ho.nm z hz)⟩, ⟨by have := ho.dl; omega, ho.dm⟩, ⟨by have := ho.sl; omega, ho.sm⟩, ?_⟩
    (repeat' decreasing_trivial_pre_omega)
    )) only [↓bx_true]

abbrev s_House_has_room : Stmt := inClass (top 36) 6
theorem sc_House_has_room : FnScope ["self", "name"] ["self", "name"] (defScope s_House_has_room) := ⟨rfl, rfl, rfl, by decide +kernel, rfl, by decide +kernel, by decide +kernel⟩
abbrev ts_House_has_room (K : PySem.W.Frag) (C_House : Addr) : TSp := methK C_House fun M fs Rs q => ∃ z Rn, ∃ l : List Str, Rs = [aStr z] ∧ fs.lookup ("named" : Str) = some Rn ∧ HasL K M Rn (l.map aStr) ∧ q (iBl (decide (z ∈ l)))
theorem ok_House_has_room (B : Bt mg) {C_House : Addr} (T_House : Txt_House K mg C_House) {f : Addr} {fd : FuncData} (d : Fun K "has_room" "House.has_room" s_House_has_room f fd) (hm : Meth K C_House "has_room" f) : ClM P w K mg base CX0 1 C_House "has_room" (ts_House_has_room K C_House) [] := by
  refine bx_of ?_
  simp (disch := with_unfolding_all (
    refine ⟨T_House.cl, f, fd, ["self", "name"], [], ?_, hm, d.binds fun _ _ _ _ _ _ us hl => match us, hl with | [_, _], _ => rfl, .nil⟩
    refine (okT (kk := 0) d sc_House_has_room (fun Rs M k X h => by obtain ⟨_, _, _, rfl, _, _, _, _, rfl, _⟩ := h; rfl) fun cdv A outer s H E hr => ⟨_,
      (pss_one (ps_ret (pe_cmpR op_in_seq (pv 1) (pe_fld (pv 0) (by rfl)) (by rfl)))), ?_⟩)
    try dsimp only [L3.cxK, L3.cxKX]
    rintro Rs M k X ⟨R, _, fs, rfl, ho, z, Rn, l, rfl, hf, hl, q⟩
    (repeat' decreasing_trivial_pre_omega)
    )) only [↓bx_true]

abbrev s_House_has_door : Stmt := inClass (top 36) 9
theorem sc_House_has_door : FnScope ["self", "a", "b"] ["self", "a", "b"] (defScope s_House_has_door) := ⟨rfl, rfl, rfl, by decide +kernel, rfl, by decide +kernel, by decide +kernel⟩
abbrev ts_House_has_door (K : PySem.W.Frag) (C_House : Addr) : TSp := methK C_House fun M fs Rs q => ∃ a b ns ds ss, fs = houseF ns ds ss ∧ Rs = [aStr a, aStr b] ∧ a ∈ ns ∧ b ∈ ns ∧ q (iBl (decide ((a, b) ∈ ds)))
theorem ok_House_has_door (B : Bt mg) {C_House : Addr} (T_House : Txt_House K mg C_House) (cm_House_need_room : ClM P w K mg base CX0 1 C_House "need_room" (ts_House_need_room K C_House) []) {f : Addr} {fd : FuncData} (d : Fun K "has_door" "House.has_door" s_House_has_door f fd) (hm : Meth K C_House "has_door" f) : ClM P w K mg base CX0 2 C_House "has_door" (ts_House_has_door K C_House) [] := by
  refine bx_of ?_
  simp (disch := with_unfolding_all (
    refine ⟨T_House.cl, f, fd, ["self", "a", "b"], [], ?_, hm, d.binds fun _ _ _ _ _ _ us hl => match us, hl with | [_, _, _], _ => rfl, .nil⟩
    refine (okT (kk := 1) d sc_House_has_door (fun Rs M k X h => by obtain ⟨_, _, _, rfl, _, _, _, _, _, _, _, rfl, _⟩ := h; rfl) fun cdv A outer s H E hr => ⟨_,
      (pss_cons (ps_expr (pe_clM cm_House_need_room hr (by decide) pass0 (pv 0) (pa_cons (pv 1) pa_nil)))
        (pss_cons (ps_expr (pe_clM cm_House_need_room hr (by decide) pass0 (pv 0) (pa_cons (pv 2) pa_nil)))
        (pss_one (ps_ret (pe_cmp (pc_din (by exact hu_of hr) (pe_tup (pa_cons (pv 1) (pa_cons (pv 2) pa_nil))) (pe_fld (pv 0) (by rfl)))))))), ?_⟩)
    try dsimp only [L3.cxK, L3.cxKX]
    rintro Rs M k X ⟨R, _, _, rfl, ho, a, b, ns, ds, ss, rfl, rfl, ha, hb, q⟩
    (repeat' decreasing_trivial_pre_omega)
    refine ⟨_, leS_rfl, a, _, ns, rfl, rfl, .inl rfl, ha, ?_⟩
    (repeat' decreasing_trivial_pre_omega)
    refine ⟨_, leS_rfl, b, _, ns, rfl, rfl, .inl rfl, hb, ?_⟩
    (repeat' decreasing_trivial_pre_omega)
    )) only [↓bx_true]

abbrev s_House_at_hand : Stmt := inClass (top 36) 11
theorem sc_House_at_hand : FnScope ["self", "a", "b"] ["self", "a", "b"] (defScope s_House_at_hand) := ⟨rfl, rfl, rfl, by decide +kernel, rfl, by decide +kernel, by decide +kernel⟩
abbrev ts_House_at_hand (K : PySem.W.Frag) (C_House : Addr) : TSp := methK C_House fun M fs Rs q => ∃ a b ns ds ss, fs = houseF ns ds ss ∧ Rs = [aStr a, aStr b] ∧ a ∈ ns ∧ b ∈ ns ∧ q (iBl (decide ((a, b) ∈ ds) || decide (a = b)))
theorem ok_House_at_hand (B : Bt mg) {C_House : Addr} (T_House : Txt_House K mg C_House) (cm_House_has_door : ClM P w K mg base CX0 2 C_House "has_door" (ts_House_has_door K C_House) []) {f : Addr} {fd : FuncData} (d : Fun K "at_hand" "House.at_hand" s_House_at_hand f fd) (hm : Meth K C_House "at_hand" f) : ClM P w K mg base CX0 3 C_House "at_hand" (ts_House_at_hand K C_House) [] := by
  refine bx_of ?_
  simp (disch := with_unfolding_all (
    refine ⟨T_House.cl, f, fd, ["self", "a", "b"], [], ?_, hm, d.binds fun _ _ _ _ _ _ us hl => match us, hl with | [_, _, _], _ => rfl, .nil⟩
    refine (okT (kk := 2) d sc_House_at_hand (fun Rs M k X h => by obtain ⟨_, _, _, rfl, _, _, _, _, _, _, _, rfl, _⟩ := h; rfl) fun cdv A outer s H E hr => ⟨_,
      (pss_one (ps_ret (pe_or (pe_clM cm_House_has_door hr (by decide) pass0 (pv 0) (pa_cons (pv 1) (pa_cons (pv 2) pa_nil))) (pe_one (pe_cmpR op_eq (pv 1) (pv 2) (nomark _)))))), ?_⟩)
    try dsimp only [L3.cxK, L3.cxKX]
    rintro Rs M k X ⟨R, _, _, rfl, ho, a, b, ns, ds, ss, rfl, rfl, ha, hb, q⟩
    (repeat' decreasing_trivial_pre_omega)
    refine ⟨_, leS_rfl, a, b, ns, ds, ss, rfl, rfl, ha, hb, ?_⟩
    (repeat' decreasing_trivial_pre_omega)
    cases h : decide ((a, b) ∈ ds) with
    | true =>
      rw [h] at q
      (repeat' decreasing_trivial_pre_omega)
    | false =>
      rw [h] at q
      (repeat' decreasing_trivial_pre_omega)
    )) only [↓bx_true]

abbrev s_need_round : Stmt := top 18
theorem sc_need_round : FnScope ["house", "rooms", "room", "at"] ["house", "rooms"] (defScope s_need_round) := ⟨rfl, rfl, rfl, by decide +kernel, rfl, by decide +kernel, by decide +kernel⟩
abbrev ts_need_round (K : PySem.W.Frag) (C_House : Addr) : TSp := pureK fun Rs q => ∃ ns ds ss, ∃ l : List Str, Rs = [iHouse C_House ns ds ss, aTup K (l.map aStr)] ∧ 1 ≤ l.length ∧ l.length ≤ 6 ∧ (∀ z ∈ l, z ∈ ns) ∧ (∀ i, i < l.length → (l.getD i Str.empty, l.getD ((i + 1) % l.length) Str.empty) ∈ ds ∨ l.getD i Str.empty = l.getD ((i + 1) % l.length) Str.empty) ∧ q iNon
theorem ok_need_round (B : Bt mg) {C_House : Addr} (T_House : Txt_House K mg C_House) (g_MOST_ROUND : ∃ u, mg "MOST_ROUND" = some u ∧ RelV (.int 6) u) (cm_House_has_room : ClM P w K mg base CX0 1 C_House "has_room" (ts_House_has_room K C_House) []) (cm_House_at_hand : ClM P w K mg base CX0 3 C_House "at_hand" (ts_House_at_hand K C_House) []) {f : Addr} {fd : FuncData} (d : Df K mg "need_round" s_need_round ["house", "rooms"] f fd) : Cl P w K mg base CX0 4 "need_round" (ts_need_round K C_House) [] := by
  refine bx_of ?_
  simp (disch := with_unfolding_all (
    refine cl_of d (okT (kk := 3) d.fn sc_need_round (fun Rs M k X h => by obtain ⟨_, _, _, _, _, rfl, _⟩ := h; rfl) fun cdv A outer s H E hr => ⟨_,
      (pss_cons (ps_if (pt_not (pt_chain op_le op_le pe_int (pe_callB call_len (by rfl) B.len (by decide +kernel) (pa_cons (pv 1) pa_nil)) (pe_gc rfl g_MOST_ROUND))) (pss_one ps_never) pss_nil)
        (pss_cons (ps_for PassesOwn.never rfl (pi_tup (pv 1)) (pg_name (i := 2) sc_need_round.nd rfl (Or.inl rfl)) (pss_one (ps_if (pt_not (pt_val (pe_clM cm_House_has_room hr (by decide) pass0 (pv 0) (pa_cons (pv 2) pa_nil)))) (pss_one ps_never) pss_nil)))
        (pss_one (ps_for PassesOwn.never rfl (pi_enumT (by rfl) B.enumerate (pa_cons (pv 1) pa_nil)) (pg_tup rfl (pgs_cons (pg_name (i := 3) sc_need_round.nd rfl (Or.inl rfl)) (pgs_cons (pg_name (i := 2) sc_need_round.nd rfl (Or.inl rfl)) pgs_nil))) (pss_one (ps_if (pt_not (pt_val (pe_clM cm_House_at_hand hr (by decide) pass0 (pv 0) (pa_cons (pv 2) (pa_cons (pe_ix ix_tup (pv 1) (pe_op op_mod (pe_op op_add (pv 3) pe_int) (pe_callB call_len (by rfl) B.len (by decide +kernel) (pa_cons (pv 1) pa_nil))) (fun _ _ => rfl)) pa_nil))))) (pss_one ps_never) pss_nil)))))), ?_⟩)
    try dsimp only [L3.cxK, L3.cxKX]
    rintro Rs M k X ⟨rfl, ns, ds, ss, l, rfl, l1, l6, hn, hw, q⟩
    (repeat' decreasing_trivial_pre_omega)
    rw [List.length_map]
    refine ite_b (fun _ => ?_) (fun h => by simp at h; omega)
    (repeat' decreasing_trivial_pre_omega)
    refine ite_b (fun h => by simp at h; omega) (fun _ => ?_)
    (repeat' decreasing_trivial_pre_omega)
    refine st_forG Unit (tip_tup (ep_var rfl) _ _ ?_)
    refine ⟨fun _ _ => True, fun _ => [some (iHouse C_House ns ds ss), some (aTup K (l.map aStr)), none, none], fun _ => [], lj () True.intro (by (repeat' decreasing_trivial_pre_omega)) rfl, ?_, ?_⟩
    · rintro i r _ hi hr _
      have hi' : i < l.length := by simpa using hi
      rw [List.getElem?_map, List.getElem?_eq_getElem hi'] at hr
      cases hr
      (repeat' decreasing_trivial_pre_omega)
      refine ⟨_, leS_rfl, l[i], _, ns, rfl, rfl, .inl rfl, ?_⟩
      (repeat' decreasing_trivial_pre_omega)
      refine ite_b (fun h => by simp [hn l[i] (List.getElem_mem hi')] at h) (fun _ => ?_)
      (repeat' decreasing_trivial_pre_omega)
      exact lj () True.intro (by (repeat' decreasing_trivial_pre_omega)) rfl
    · rintro _ Γ1 _ w
      refine st_wk w ?_
      try dsimp only
      refine st_forG Unit (tip_enumT (ep_var rfl) _ _ ?_)
      refine ⟨fun _ _ => True, fun _ => [some (iHouse C_House ns ds ss), some (aTup K (l.map aStr)), none, none], fun _ => [], lj () True.intro (by (repeat' decreasing_trivial_pre_omega)) rfl, ?_, ?_⟩
      · rintro i r _ hi ⟨r1, r2, rfl, hr, rfl⟩ _
        have hi' : i < l.length := by simpa using hi
        rw [List.getElem?_map, List.getElem?_eq_getElem hi'] at hr
        cases hr
        (repeat' decreasing_trivial_pre_omega)
        have hm : (i + 1) % l.length < l.length := Nat.mod_lt _ (by omega)
        refine o_ixNT ((i + 1) % l.length) (by rw [List.length_map]; push_cast; rfl) hm _ ?_
        (repeat' decreasing_trivial_pre_omega)
        refine ⟨_, leS_rfl, l[i], l[(i + 1) % l.length], ns, ds, ss, rfl, rfl, hn _ (List.getElem_mem _), hn _ (List.getElem_mem _), ?_⟩
        have hw' := hw i hi'
        simp only [List.getD_eq_getElem?_getD, List.getElem?_eq_getElem hi', List.getElem?_eq_getElem hm, Option.getD_some] at hw'
        have e : (decide ((l[i], l[(i + 1) % l.length]) ∈ ds) || decide (l[i] = l[(i + 1) % l.length])) = true := by simpa using hw'
        rw [e]
        (repeat' decreasing_trivial_pre_omega)
        exact lj () True.intro (by (repeat' decreasing_trivial_pre_omega)) rfl
      · rintro _ Γ1 _ w
        (repeat' decreasing_trivial_pre_omega)
    )) only [↓bx_true]

abbrev s_need_delay : Stmt := top 42
theorem sc_need_delay : FnScope ["rooms", "delay"] ["rooms", "delay"] (defScope s_need_delay) := ⟨rfl, rfl, rfl, by decide +kernel, rfl, by decide +kernel, by decide +kernel⟩
abbrev ts_need_delay (K : PySem.W.Frag) : TSp := pureTs (fun p : List Rep × Int => [aTup K p.1, iInt p.2]) (fun p => 0 ≤ p.2 ∧ p.2 < p.1.length ∧ p.1.length ≤ 1000000) (fun _ => iNon)
theorem ok_need_delay (B : Bt mg) {f : Addr} {fd : FuncData} (d : Df K mg "need_delay" s_need_delay ["rooms", "delay"] f fd) : Cl P w K mg base CX0 1 "need_delay" (ts_need_delay K) [] := by
  refine bx_of ?_
  simp (disch := with_unfolding_all (
    refine cl_of d (okT (kk := 0) d.fn sc_need_delay (fun Rs M k X h => by obtain ⟨_, rfl, _⟩ := h; rfl) fun cdv A outer s H E hr => ⟨_,
      (pss_one (ps_if (pt_not (pt_chain op_le op_lt pe_int (pv 1) (pe_callB call_len (by rfl) B.len (by decide +kernel) (pa_cons (pv 0) pa_nil)))) (pss_one ps_never) pss_nil)), ?_⟩)
    try dsimp only [L3.cxK, L3.cxKX]
    rintro Rs M k X ⟨⟨l, d⟩, rfl, ⟨h1, h2, h3⟩, rfl, q⟩
    try dsimp only at h1 h2 h3 q
    (repeat' decreasing_trivial_pre_omega)
    refine ite_b (fun _ => ?_) (fun h => by simp at h; omega)
    (repeat' decreasing_trivial_pre_omega)
    refine ite_b (fun h => by simp at h; omega) (fun _ => ?_)
    (repeat' decreasing_trivial_pre_omega)
    )) only [↓bx_true]

abbrev s_need_reach : Stmt := top 43
theorem sc_need_reach : FnScope ["reach"] ["reach"] (defScope s_need_reach) := ⟨rfl, rfl, rfl, by decide +kernel, rfl, by decide +kernel, by decide +kernel⟩
abbrev ts_need_reach (K : PySem.W.Frag) : TSp := pureTs (fun b : Int => [iInt b]) (fun b => 0 ≤ b ∧ b ≤ 1) (fun _ => iNon)
theorem ok_need_reach (B : Bt mg) {f : Addr} {fd : FuncData} (d : Df K mg "need_reach" s_need_reach ["reach"] f fd) : Cl P w K mg base CX0 1 "need_reach" (ts_need_reach K) [] := by
  refine bx_of ?_
  simp (disch := with_unfolding_all (
    refine cl_of d (okT (kk := 0) d.fn sc_need_reach (fun Rs M k X h => by obtain ⟨_, rfl, _⟩ := h; rfl) fun cdv A outer s H E hr => ⟨_,
      (pss_one (ps_if (pt_not (pt_chain op_le op_le pe_int (pv 0) pe_int)) (pss_one ps_never) pss_nil)), ?_⟩)
    try dsimp only [L3.cxK, L3.cxKX]
    rintro Rs M k X ⟨b, rfl, ⟨h1, h2⟩, rfl, q⟩
    try dsimp only at h1 h2 q
    (repeat' decreasing_trivial_pre_omega)
    refine ite_b (fun _ => ?_) (fun h => by simp at h; omega)
    (repeat' decreasing_trivial_pre_omega)
    refine ite_b (fun h => by simp at h; omega) (fun _ => ?_)
    (repeat' decreasing_trivial_pre_omega)
    )) only [↓bx_true]

abbrev s_need_relief : Stmt := top 44
theorem sc_need_relief : FnScope ["relief"] ["relief"] (defScope s_need_relief) := ⟨rfl, rfl, rfl, by decide +kernel, rfl, by decide +kernel, by decide +kernel⟩
abbrev ts_need_relief (K : PySem.W.Frag) : TSp := pureTs (fun b : Int => [iInt b]) (fun b => 0 ≤ b ∧ b ≤ 4) (fun _ => iNon)
theorem ok_need_relief (B : Bt mg) (g_NEVER : ∃ u, mg "NEVER" = some u ∧ RelV (.int 0) u) (g_MOST_RELIEF : ∃ u, mg "MOST_RELIEF" = some u ∧ RelV (.int 4) u) {f : Addr} {fd : FuncData} (d : Df K mg "need_relief" s_need_relief ["relief"] f fd) : Cl P w K mg base CX0 1 "need_relief" (ts_need_relief K) [] := by
  refine bx_of ?_
  simp (disch := with_unfolding_all (
    refine cl_of d (okT (kk := 0) d.fn sc_need_relief (fun Rs M k X h => by obtain ⟨_, rfl, _⟩ := h; rfl) fun cdv A outer s H E hr => ⟨_,
      (pss_one (ps_if (pt_not (pt_chain op_le op_le (pe_gc rfl g_NEVER) (pv 0) (pe_gc rfl g_MOST_RELIEF))) (pss_one ps_never) pss_nil)), ?_⟩)
    try dsimp only [L3.cxK, L3.cxKX]
    rintro Rs M k X ⟨b, rfl, ⟨h1, h2⟩, rfl, q⟩
    try dsimp only at h1 h2 q
    (repeat' decreasing_trivial_pre_omega)
    refine ite_b (fun _ => ?_) (fun h => by simp at h; omega)
    (repeat' decreasing_trivial_pre_omega)
    refine ite_b (fun h => by simp at h; omega) (fun _ => ?_)
    (repeat' decreasing_trivial_pre_omega)
    )) only [↓bx_true]

abbrev s_shared : Stmt := top 20
theorem sc_shared : FnScope ["one", "other"] ["one", "other"] (defScope s_shared) := ⟨rfl, rfl, rfl, by decide +kernel, rfl, by decide +kernel, by decide +kernel⟩
abbrev ts_shared (K : PySem.W.Frag) : TSp := pureTs (fun p : Nat × Nat => [iInt p.1, iInt p.2]) (fun _ => True) (fun p => iInt (Nat.gcd p.1 p.2 : Nat))
theorem cp_shared {E : XK} {Γ : Ct} {M : SH} {tr : TA} (a b : Nat) (h : Eap E tr Γ M [iInt a, iInt b]) : Ep E (tCall (spT (ts_shared K)) [] E0 tr) Γ M (iInt (Nat.gcd a b : Nat)) := ep_callP (a, b) h rfl True.intro
theorem ok_shared (B : Bt mg) {f : Addr} {fd : FuncData} (d : Df K mg "shared" s_shared ["one", "other"] f fd) : Cl P w K mg base CX0 1 "shared" (ts_shared K) [] := by
  refine bx_of ?_
  simp (disch := with_unfolding_all (
    refine cl_of d (okT (kk := 0) d.fn sc_shared (fun Rs M k X h => by obtain ⟨_, rfl, _⟩ := h; rfl) fun cdv A outer s H E hr => ⟨_,
      (pss_cons (ps_while PassesOwn.never (pt_cmpR op_gt (pv 1) pe_int (nomark _)) (pss_one (ps_par (i := 0) (j := 1) rfl sc_shared.nd rfl rfl (by decide) rfl rfl (pa_cons (pv 1) (pa_cons (pe_op op_mod (pv 0) (pv 1)) pa_nil)) (by rfl))))
        (pss_one (ps_ret (pv 0)))), ?_⟩)
    try dsimp only [L3.cxK, L3.cxKX]
    rintro Rs M k X ⟨⟨a, b⟩, rfl, -, rfl, q⟩
    refine st_seq (st_while (fun m Γ1 M1 => ∃ c d : Nat, Γ1 = [some (iInt c), some (iInt d)] ∧ M1 = [] ∧ Nat.gcd c d = Nat.gcd a b ∧ m = d) b ⟨a, b, rfl, rfl, rfl, rfl⟩ ?_)
    rintro m Γ1 M1 ⟨c, d, rfl, rfl, hg, rfl⟩
    refine etp_test (ep_op (ep_var rfl) ep_int o_gt) _ _ (ite_b (fun hc => ?_) (fun hc => ?_))
    · have hd : 0 < m := by simpa using hc
      refine st_par (eap_cons (ep_var rfl) (eap_cons (ep_op (ep_var rfl) (ep_var rfl) (o_mod (by omega))) eap_nil) _ _ ⟨_, _, rfl, ?_⟩)
      refine ⟨c % m, Nat.mod_lt _ hd, m, c % m, by rw [Int.natCast_emod]; rfl, rfl, ?_, rfl⟩
      rw [← hg, Nat.gcd_comm c m, Nat.gcd_rec m c, Nat.gcd_comm]
    · have hd : m = 0 := by simpa using hc
      subst hd
      rw [Nat.gcd_zero_right] at hg
      refine st_ret (ep_var rfl _ _ ?_)
      rw [hg]
      exact q
    )) only [↓bx_true]

abbrev s_wheel_of : Stmt := top 21
theorem sc_wheel_of : FnScope ["sizes", "found", "size"] ["sizes"] (defScope s_wheel_of) := ⟨rfl, rfl, rfl, by decide +kernel, rfl, by decide +kernel, by decide +kernel⟩
abbrev ts_wheel_of (K : PySem.W.Frag) : TSp := pureTs (fun l : List Nat => [aSeq K (l.map fun n : Nat => iInt n)]) (fun l => ∀ n ∈ l, 0 < n ∧ n < 2 ^ 60) (fun l => iInt (lcmL l : Nat))
theorem ok_wheel_of (B : Bt mg) (c_shared : Cl P w K mg base CX0 1 "shared" (ts_shared K) []) {f : Addr} {fd : FuncData} (d : Df K mg "wheel_of" s_wheel_of ["sizes"] f fd) : Cl P w K mg base CX0 2 "wheel_of" (ts_wheel_of K) [] := by
  refine bx_of ?_
  simp (disch := with_unfolding_all (
    refine cl_of d (okT (kk := 1) d.fn sc_wheel_of (fun Rs M k X h => by obtain ⟨_, rfl, _⟩ := h; rfl) fun cdv A outer s H E hr => ⟨_,
      (pss_cons (ps_set (i := 1) sc_wheel_of.nd rfl (Or.inl rfl) pe_int)
        (pss_cons (ps_for PassesOwn.never rfl (pi_seq (pv 0)) (pg_name (i := 2) sc_wheel_of.nd rfl (Or.inl rfl)) (pss_one (ps_set (i := 1) sc_wheel_of.nd rfl (Or.inl rfl) (pe_op op_fdivW (pe_op op_mul (pv 1) (pv 2)) (pe_cl c_shared hr (by decide) pass0 rfl (pa_cons (pv 1) (pa_cons (pv 2) pa_nil)))))))
        (pss_one (ps_ret (pv 1))))), ?_⟩)
    try dsimp only [L3.cxK, L3.cxKX]
    rintro Rs M k X ⟨l, rfl, hl, rfl, q⟩
    refine st_seq (st_asg (ep_int _ _ ?_))
    refine st_seq (st_for (tip_seq (ep_var rfl) _ _ ⟨fun i Γ1 M1 => ∃ c2, Γ1 = [some (aSeq K (l.map fun n : Nat => iInt n)), some (iInt (lcmL (l.take i) : Nat)), c2] ∧ M1 = [], ⟨none, rfl, rfl⟩, ?_, ?_⟩))
    · rintro i r Γ1 M1 hi hr ⟨c2, rfl, rfl⟩
      have hi' : i < l.length := by simpa using hi
      rw [List.getElem?_map, List.getElem?_eq_getElem hi'] at hr
      cases hr
      obtain ⟨n0, n1⟩ := hl l[i] (List.getElem_mem hi')
      have hp : 0 < lcmL (l.take i) := lcmL_pos fun b hb => (hl b (List.mem_of_mem_take hb)).1
      have gp := gcd_pos_of (b := l[i]) hp
      have gl : Nat.gcd (lcmL (l.take i)) l[i] ≤ l[i] := Nat.gcd_le_right _ n0
      refine tg_name ?_
      refine st_asg (ep_op (ep_op (ep_var rfl) (ep_var rfl) (o_mul (.inr ⟨by omega, by omega⟩))) (cp_shared _ _ (eap_cons (ep_var rfl) (eap_cons (ep_var rfl) eap_nil))) (o_fdivW (wide_div (b := 60) (by omega) (by omega) (by decide) (by decide))) _ _ ?_)
      have e : l.take (i + 1) = l.take i ++ [l[i]] := by rw [List.take_succ]; simp [hi']
      refine ⟨some (iInt l[i]), ?_, rfl⟩
      rw [e, lcmL_app]
      have e2 : lcmL [l[i]] = l[i] := by simp [lcmL]
      rw [e2]
      show [_, some (iInt _), _] = _
      have e3 : ((lcmL (l.take i) : Nat) : Int) * ((l[i] : Nat) : Int) / ((Nat.gcd (lcmL (l.take i)) l[i] : Nat) : Int) = ((Nat.lcm (lcmL (l.take i)) l[i] : Nat) : Int) := by
        unfold Nat.lcm
        push_cast
        rfl
      rw [e3]
    · rintro Γ1 M1 ⟨c2, rfl, rfl⟩
      rw [List.length_map, List.take_length]
      exact st_ret (ep_var rfl _ _ q)
    )) only [↓bx_true]

abbrev s_Scene_span : Stmt := inClass (top 45) 1
theorem sc_Scene_span : FnScope ["self", "sizes", "rooms", "delay"] ["self"] (defScope s_Scene_span) := ⟨rfl, rfl, rfl, by decide +kernel, rfl, by decide +kernel, by decide +kernel⟩
abbrev ts_Scene_span (K : PySem.W.Frag) (C_House : Addr) (C_Scene : Addr) : TSp := methK C_Scene fun M fs Rs q => ∃ s Rr Rg, fs = sceneF K C_House s Rr Rg ∧ Rs = [] ∧ ScOk s ∧ q (iInt (spanOf s : Nat))
theorem ok_Scene_span (B : Bt mg) {C_House : Addr} (T_House : Txt_House K mg C_House) {C_Scene : Addr} (T_Scene : Txt_Scene K mg C_Scene) (g_NEVER : ∃ u, mg "NEVER" = some u ∧ RelV (.int 0) u) (c_wheel_of : Cl P w K mg base CX0 2 "wheel_of" (ts_wheel_of K) []) {f : Addr} {fd : FuncData} (d : Fun K "span" "Scene.span" s_Scene_span f fd) (hm : Meth K C_Scene "span" f) : ClM P w K mg base CX0 3 C_Scene "span" (ts_Scene_span K C_House C_Scene) [] := by
  refine bx_of ?_
  simp (disch := with_unfolding_all (
    refine ⟨T_Scene.cl, f, fd, ["self"], [], ?_, hm, d.binds fun _ _ _ _ _ _ us hl => match us, hl with | [_], _ => rfl, .nil⟩
    refine (okT (kk := 2) d sc_Scene_span (fun Rs M k X h => by obtain ⟨_, _, _, rfl, _, _, _, _, _, rfl, _⟩ := h; rfl) fun cdv A outer s H E hr => ⟨_,
      (pss_cons (ps_setLc (i := 1) (own := [("rooms", 2), ("delay", 3)]) rfl sc_Scene_span.nd rfl rfl (sw_true rfl rfl rfl (by decide +kernel)) (pi_values (pe_fld (pv 0) (by rfl))) (blkOk_by (own := [("rooms", 2), ("delay", 3)]) (N := ["self", "sizes", "rooms", "delay"]) (sc := defScope s_Scene_span) (by decide +kernel)) (fun s0 H0 C0 cl0 fp0 => blk_tup2 (i := 2) (j := 3) sc_Scene_span.nd (s := s0) (H := H0) (C := C0) (cl := cl0) (fp := fp0)) (fun _ _ _ _ _ => pts_nil) (fun _ _ _ _ _ => (pe_callB (castCall (K := K) (r := rLn) rfl call_len) (by rfl) B.len (by decide +kernel) (pa_cons (pv 2) pa_nil))))
        (pss_cons (ps_if (PW.pt (pw_and (pt_cmpR op_ne (pe_fld (pv 0) (by rfl)) (pe_gc rfl g_NEVER) (nomark _)) (pw_and (pt_cmpR (op_neE (by exact hu0_of hr)) (pe_fld (pv 0) (by rfl)) pe_dE (nomark _)) (pw_and1 (pt_cmpR op_gt (pe_callB call_lenF (by rfl) B.len (by decide +kernel) (pa_cons (pe_fld (pv 0) (by rfl)) pa_nil)) (pe_callB call_lenF (by rfl) B.len (by decide +kernel) (pa_cons (pe_fld (pv 0) (by rfl)) pa_nil)) (nomark _)))))) (pss_one (ps_expr (pe_bm PySem.F.plainAttrs_list PySem.F.slot_list_append PySem.F.type_list_append mt_append (pv 1) (pa_cons (pe_op op_mul (pe_fld (pv 0) (by rfl)) (pe_callB call_lenF (by rfl) B.len (by decide +kernel) (pa_cons (pe_fld (pv 0) (by rfl)) pa_nil))) pa_nil)))) pss_nil)
        (pss_one (ps_ret (pe_cl c_wheel_of hr (by decide) pass0 rfl (pa_cons (pv 1) pa_nil)))))), ?_⟩)
    try dsimp only [L3.cxK, L3.cxKX]
    rintro Rs M k X ⟨R, _, _, rfl, ho, s, Rr, Rg, rfl, rfl, ok, q⟩
    (repeat' decreasing_trivial_pre_omega)
    refine ev_lcX (by decide) (tip_valsF (by (repeat' decreasing_trivial_pre_omega)) _ _ ⟨by have := ok.pl; simp; omega, fun i acc M2 => acc = ((s.ps.take i).map fun p => iInt p.2.1.length) ∧ M2 = M, ⟨rfl, rfl⟩, ?_, ?_⟩)
    · rintro i r acc M2 hi ⟨pr, hr, rfl⟩ hacc ⟨rfl, rfl⟩
      have hi' : i < s.ps.length := by simpa using hi
      rw [List.getElem?_map, List.getElem?_eq_getElem hi'] at hr
      cases hr
      (repeat' decreasing_trivial_pre_omega)
      refine ⟨?_, rfl⟩
      rw [List.take_succ, List.getElem?_eq_getElem hi', List.map_append, List.length_map]
      rfl
    rintro acc M2 - ⟨rfl, rfl⟩ a
    rw [List.length_map, List.take_length]
    have fin : ∀ l : List Nat, l = sizesOf s → St E (tRet (tCall (spT (ts_wheel_of K)) [] E0 (tCons (tVar 1) tNil))) [some R, some (iRef a), none, none] (M2 ++ [(a, mLst (l.map fun n : Nat => iInt n))]) { nx := fun x M' => k iNon M', rt := k, ex := X } := by
      rintro l rfl
      refine st_told (i := M2.length) (j := 1) (a := a) rfl at_last ?_
      rw [erase_last]
      (repeat' decreasing_trivial_pre_omega)
      exact ⟨sizesOf s, leS_seqL, sizes_pos ok, q⟩
    rw [show (s.ps.map fun p : Post => iInt (p.2.1.length : Nat)) = (s.ps.map fun p : Post => p.2.1.length).map fun n : Nat => iInt n by rw [List.map_map]; rfl]
    have no : ¬ (s.rel ≠ 0 ∧ s.ps ≠ [] ∧ s.ls.length > s.ps.length) → (s.ps.map fun p : Post => p.2.1.length) = sizesOf s := fun h => by unfold sizesOf; rw [if_neg h, List.append_nil]
    (repeat' decreasing_trivial_pre_omega)
    refine ite_b (fun h1 => ?_) (fun h1 => ?_)
    · (repeat' decreasing_trivial_pre_omega)
      refine ite_b (fun h2 => ?_) (fun h2 => ?_)
      · (repeat' decreasing_trivial_pre_omega)
        refine ite_b (fun h3 => ?_) (fun h3 => ?_)
        · have hr0 : s.rel ≠ 0 := by simpa using h1
          have hp0 : s.ps ≠ [] := by simpa using h2
          have hl0 : s.ls.length > s.ps.length := by simpa using h3
          (repeat' decreasing_trivial_pre_omega)
          · left
            have := ok.r0; have := ok.r4; have := ok.pl
            constructor
            · omega
            · simp; omega
          refine k_app2 (j := M2.length) at_last (by have := ok.pl; simp; omega) ?_
          rw [set_last]
          have e : ((s.ps.map fun p : Post => p.2.1.length).map fun n : Nat => iInt n) ++ [iInt (s.rel * ((roundsF K s.ps).length : Nat))] = (sizesOf s).map fun n : Nat => iInt n := by
            unfold sizesOf
            rw [if_pos ⟨hr0, hp0, hl0⟩, List.map_append, List.length_map]
            have er : ((s.rel.toNat * s.ps.length : Nat) : Int) = s.rel * (s.ps.length : Nat) := by
              push_cast
              rw [show ((s.rel.toNat : Nat) : Int) = s.rel by have := ok.r0; omega]
            rw [← er]
            rfl
          rw [e]
          exact fin _ rfl
        · refine st_next ?_
          exact fin _ (no fun z => by simp at h3; omega)
      · refine st_next ?_
        exact fin _ (no fun z => by simp [z.2.1] at h2)
    · refine st_next ?_
      exact fin _ (no fun z => by simp [z.1] at h1)
    )) only [↓bx_true]

abbrev s_place : Stmt := top 19
theorem sc_place : FnScope ["rooms", "beat", "delay"] ["rooms", "beat", "delay"] (defScope s_place) := ⟨rfl, rfl, rfl, by decide +kernel, rfl, by decide +kernel, by decide +kernel⟩
abbrev ts_place (K : PySem.W.Frag) : TSp := pureTs (fun p : List Str × Int × Int => [aSeq K (p.1.map aStr), iInt p.2.1, iInt p.2.2]) (fun p => 0 < p.1.length ∧ p.1.length ≤ 1000000) (fun p => aStr (roomAt p.1 (p.2.1 - p.2.2)))
theorem ok_place (B : Bt mg) {f : Addr} {fd : FuncData} (d : Fun K "place" "place" s_place f fd) : FnOk P w K mg base CX0 1 f fd ["rooms", "beat", "delay"] (spT (ts_place K)) := by
  refine bx_of ?_
  simp (disch := with_unfolding_all (
    refine (okT (kk := 0) d sc_place (fun Rs M k X h => by obtain ⟨_, rfl, _⟩ := h; rfl) fun cdv A outer s H E hr => ⟨_,
      (pss_one (ps_ret (pe_ix ix_seq (pv 0) (pe_op op_mod (pe_op op_sub (pv 1) (pv 2)) (pe_callB call_len (by rfl) B.len (by decide +kernel) (pa_cons (pv 0) pa_nil))) (fun _ _ => rfl)))), ?_⟩)
    try dsimp only [L3.cxK, L3.cxKX]
    rintro Rs M k X ⟨⟨l, beat, delay⟩, rfl, ⟨h0, h1⟩, rfl, q⟩
    try dsimp only at h0 h1 q
    show St E _ [some (aSeq K (l.map aStr)), some (iInt beat), some (iInt delay)] [] _
    (repeat' decreasing_trivial_pre_omega)
    rw [List.length_map]
    exact o_ixQ (roomAt_at h0 _) _ q
    )) only [↓bx_true]

theorem bd_place {f : Addr} {fd : FuncData} (F : FunD K "place" "place" (defArgs s_place) (defBody s_place) (defScope s_place) [] [("delay", .int 0)] f fd) : ∃ ds, Vals [V.int 0] ds ∧ Binds K fd ["rooms", "beat", "delay"] ds := by
  refine FunD.binds0 F 2 (by simp) rfl fun D doc pm an cdv ct us ks h1 h2 => ?_
  match us, ks, h1, h2 with
  | [a, b], [c], _, _ => exact ⟨_, _, _, _, _, _, rfl, rfl, rfl⟩
theorem kb_place {f : Addr} {fd : FuncData} (F : FunD K "place" "place" (defArgs s_place) (defBody s_place) (defScope s_place) [] [("delay", .int 0)] f fd) : ∃ g, KBn K fd ["rooms", "beat", "delay"] 2 ["delay"] g (fun vs zs => vs ++ zs) := by
  obtain ⟨oc, od, dV, kV, doc, pm, an, cdv, ct, osl, rfl, lk, hcd, hD, hK⟩ := F.ex
  rcases hD with ⟨_, rfl⟩ | ⟨e, _⟩
  · refine ⟨fun us ws => us ++ ws, ⟨fun s us ws X h1 h2 => ?_, fun r1 r2 => r1.append r2⟩⟩
    match us, ws, h1, h2 with
    | [a, b], [c], _, _ => exact .of_eq rfl
  · exact absurd rfl e
abbrev s_Scene_room_now : Stmt := inClass (top 45) 2
theorem sc_Scene_room_now : FnScope ["self", "post", "beat", "rooms", "delay"] ["self", "post", "beat"] (defScope s_Scene_room_now) := ⟨rfl, rfl, rfl, by decide +kernel, rfl, by decide +kernel, by decide +kernel⟩
abbrev ts_Scene_room_now (K : PySem.W.Frag) (C_House : Addr) (C_Scene : Addr) : TSp := methK C_Scene fun M fs Rs q => ∃ s Rr Rg p b, fs = sceneF K C_House s Rr Rg ∧ Rs = [aStr p.1, iInt b] ∧ ScOk s ∧ p ∈ s.ps ∧ q (aStr (roomAt p.2.1 (b - p.2.2)))
theorem ok_Scene_room_now (B : Bt mg) {C_House : Addr} (T_House : Txt_House K mg C_House) {C_Scene : Addr} (T_Scene : Txt_Scene K mg C_Scene) (c_place : Cl P w K mg base CX0 1 "place" (ts_place K) [V.int 0]) (cN_place : ClN P w K mg base CX0 1 "place" (ts_place K) 2 ["delay"] (fun vs zs => vs ++ zs)) {f : Addr} {fd : FuncData} (d : Fun K "room_now" "Scene.room_now" s_Scene_room_now f fd) (hm : Meth K C_Scene "room_now" f) : ClM P w K mg base CX0 2 C_Scene "room_now" (ts_Scene_room_now K C_House C_Scene) [] := by
  refine bx_of ?_
  simp (disch := with_unfolding_all (
    refine ⟨T_Scene.cl, f, fd, ["self", "post", "beat"], [], ?_, hm, d.binds fun _ _ _ _ _ _ us hl => match us, hl with | [_, _, _], _ => rfl, .nil⟩
    refine (okT (kk := 1) d sc_Scene_room_now (fun Rs M k X h => by obtain ⟨_, _, _, rfl, _, _, _, _, _, _, _, rfl, _⟩ := h; rfl) fun cdv A outer s H E hr => ⟨_,
      (pss_cons (ps_asg (pe_dget (by exact hu_of hr) (pe_fld (pv 0) (by rfl)) (pv 1) (fun _ _ => rfl)) (pg_tup rfl (pgs_cons (pg_name (i := 3) sc_Scene_room_now.nd rfl (Or.inl rfl)) (pgs_cons (pg_name (i := 4) sc_Scene_room_now.nd rfl (Or.inl rfl)) pgs_nil))))
        (pss_one (ps_ret (pe_clN cN_place hr (by decide) pass0 rfl (pa_cons (pv 3) (pa_cons (pv 2) pa_nil)) (pk_cons (pv 4) pk_nil))))), ?_⟩)
    try dsimp only [L3.cxK, L3.cxKX]
    rintro Rs M k X ⟨R, _, _, rfl, ho, s, Rr, Rg, p, b, rfl, rfl, ok, hp, q⟩
    (repeat' decreasing_trivial_pre_omega)
    refine k_hg hd_f (look_map (fun p : Post => p.1) (roundR K) ok.pd hp) ?_
    obtain ⟨p1, p2, _⟩ := ok.pr p hp
    (repeat' decreasing_trivial_pre_omega)
    refine ⟨(p.2.1, b, p.2.2), leS_cons seq_t leS_rfl, ⟨by dsimp only; omega, by dsimp only; omega⟩, ?_⟩
    (repeat' decreasing_trivial_pre_omega)
    )) only [↓bx_true]

abbrev s_House_sees : Stmt := inClass (top 36) 8
theorem sc_House_sees : FnScope ["self", "room", "other"] ["self", "room"] (defScope s_House_sees) := ⟨rfl, rfl, rfl, by decide +kernel, rfl, by decide +kernel, by decide +kernel⟩
abbrev ts_House_sees (K : PySem.W.Frag) (C_House : Addr) : TSp := methK C_House fun M fs Rs q => ∃ z ns ds ss, fs = houseF ns ds ss ∧ Rs = [aStr z] ∧ z ∈ ns ∧ ns.length ≤ 1000 ∧ q (iLst ((ns.filter fun y => decide ((z, y) ∈ ss)).map aStr))
theorem ok_House_sees (B : Bt mg) {C_House : Addr} (T_House : Txt_House K mg C_House) (cm_House_need_room : ClM P w K mg base CX0 1 C_House "need_room" (ts_House_need_room K C_House) []) {f : Addr} {fd : FuncData} (d : Fun K "sees" "House.sees" s_House_sees f fd) (hm : Meth K C_House "sees" f) : ClM P w K mg base CX0 2 C_House "sees" (ts_House_sees K C_House) [] := by
  refine bx_of ?_
  simp (disch := with_unfolding_all (
    refine ⟨T_House.cl, f, fd, ["self", "room"], [], ?_, hm, d.binds fun _ _ _ _ _ _ us hl => match us, hl with | [_, _], _ => rfl, .nil⟩
    refine (okT (kk := 1) d sc_House_sees (fun Rs M k X h => by obtain ⟨_, _, _, rfl, _, _, _, _, _, _, rfl, _⟩ := h; rfl) fun cdv A outer s H E hr => ⟨_,
      (pss_cons (ps_expr (pe_clM cm_House_need_room hr (by decide) pass0 (pv 0) (pa_cons (pv 1) pa_nil)))
        (pss_one (ps_ret (pe_lc (own := [("other", 2)]) rfl sc_House_sees.nd (pi_list (pe_fld (pv 0) (by rfl))) (blkOk_by (own := [("other", 2)]) (N := ["self", "room", "other"]) (sc := defScope s_House_sees) (by decide +kernel)) (fun _ _ _ _ _ => (pg_name (i := 2) sc_House_sees.nd rfl (by first | exact Or.inl rfl | exact Or.inr rfl))) (fun _ _ _ _ _ => (pts_one (pt_cmp (pc_din (by exact hu_of hr) (pe_tup (pa_cons (pv 1) (pa_cons (pv 2) pa_nil))) (pe_fldK (K := K) rfl (pv 0) (by rfl)))))) (fun _ _ _ _ _ => (pv 2)))))), ?_⟩)
    try dsimp only [L3.cxK, L3.cxKX]
    rintro Rs M k X ⟨R, _, _, rfl, ho, z, ns, ds, ss, rfl, rfl, hz, hn, q⟩
    (repeat' decreasing_trivial_pre_omega)
    refine ⟨_, leS_rfl, z, _, ns, rfl, rfl, .inl rfl, hz, ?_⟩
    (repeat' decreasing_trivial_pre_omega)
    refine ep_lcF (l := ns) (e := aStr) (p := fun y => decide ((z, y) ∈ ss)) ?_ (by omega) (by decide) (fun y hy => ?_) (fun y hy hp => ?_) _ _ q
    · (repeat' decreasing_trivial_pre_omega)
    · (repeat' decreasing_trivial_pre_omega)
    · (repeat' decreasing_trivial_pre_omega)
    )) only [↓bx_true]

abbrev s_House_rooms : Stmt := inClass (top 36) 3
theorem sc_House_rooms : FnScope ["self"] ["self"] (defScope s_House_rooms) := ⟨rfl, rfl, rfl, by decide +kernel, rfl, by decide +kernel, by decide +kernel⟩
abbrev ts_House_rooms (K : PySem.W.Frag) (C_House : Addr) : TSp := methK C_House fun M fs Rs q => ∃ ns ds ss, fs = houseF ns ds ss ∧ Rs = [] ∧ q (iLst (ns.map aStr))
theorem ok_House_rooms (B : Bt mg) {C_House : Addr} (T_House : Txt_House K mg C_House) {f : Addr} {fd : FuncData} (d : Fun K "rooms" "House.rooms" s_House_rooms f fd) (hm : Meth K C_House "rooms" f) : ClM P w K mg base CX0 1 C_House "rooms" (ts_House_rooms K C_House) [] := by
  refine bx_of ?_
  simp (disch := with_unfolding_all (
    refine ⟨T_House.cl, f, fd, ["self"], [], ?_, hm, d.binds fun _ _ _ _ _ _ us hl => match us, hl with | [_], _ => rfl, .nil⟩
    refine (okT (kk := 0) d sc_House_rooms (fun Rs M k X h => by obtain ⟨_, _, _, rfl, _, _, _, _, _, rfl, _⟩ := h; rfl) fun cdv A outer s H E hr => ⟨_,
      (pss_one (ps_ret (pe_callTy call_list_of (by rfl) B.list (by decide +kernel) (pa_cons (pe_fld (pv 0) (by rfl)) pa_nil)))), ?_⟩)
    try dsimp only [L3.cxK, L3.cxKX]
    rintro Rs M k X ⟨R, _, _, rfl, ho, ns, ds, ss, rfl, rfl, q⟩
    (repeat' decreasing_trivial_pre_omega)
    )) only [↓bx_true]

abbrev s_Scene_lit_by : Stmt := inClass (top 45) 5
theorem sc_Scene_lit_by : FnScope ["self", "row", "beat", "found", "post", "watcher", "room", "other"] ["self", "row", "beat"] (defScope s_Scene_lit_by) := ⟨rfl, rfl, rfl, by decide +kernel, rfl, by decide +kernel, by decide +kernel⟩
abbrev ts_Scene_lit_by (K : PySem.W.Frag) (C_House : Addr) (C_Scene : Addr) : TSp := methK C_Scene fun M fs Rs q => ∃ s Rr Rg row b, fs = sceneF K C_House s Rr Rg ∧ Rs = [iLst (row.map aStr), iInt b] ∧ ScOk s ∧ s.ps.length ≤ row.length ∧ row.length ≤ 1000 ∧ (∀ w ∈ row, w ∈ firstOf s) ∧ q (iLst ((litOf s row b).map aStr))
theorem ok_Scene_lit_by (B : Bt mg) {C_House : Addr} (T_House : Txt_House K mg C_House) {C_Scene : Addr} (T_Scene : Txt_Scene K mg C_Scene) (cm_Scene_room_now : ClM P w K mg base CX0 2 C_Scene "room_now" (ts_Scene_room_now K C_House C_Scene) []) (cm_House_sees : ClM P w K mg base CX0 2 C_House "sees" (ts_House_sees K C_House) []) (cm_House_rooms : ClM P w K mg base CX0 1 C_House "rooms" (ts_House_rooms K C_House) []) {f : Addr} {fd : FuncData} (d : Fun K "lit_by" "Scene.lit_by" s_Scene_lit_by f fd) (hm : Meth K C_Scene "lit_by" f) : ClM P w K mg base CX0 3 C_Scene "lit_by" (ts_Scene_lit_by K C_House C_Scene) [] := by
  refine bx_of ?_
  simp (disch := with_unfolding_all (
    refine ⟨T_Scene.cl, f, fd, ["self", "row", "beat"], [], ?_, hm, d.binds fun _ _ _ _ _ _ us hl => match us, hl with | [_, _, _], _ => rfl, .nil⟩
    refine (okT (kk := 2) d sc_Scene_lit_by (fun Rs M k X h => by obtain ⟨_, _, _, rfl, _, _, _, _, _, _, _, rfl, _⟩ := h; rfl) fun cdv A outer s H E hr => ⟨_,
      (pss_cons (ps_set (i := 3) sc_Scene_lit_by.nd rfl (Or.inr rfl) pe_dnewK)
        (pss_cons (ps_for PassesOwn.never rfl (pi_zipK (by rfl) B.zip (pa_cons (pe_fld (pv 0) (by rfl)) (pa_cons (pv 1) pa_nil))) (pg_tup rfl (pgs_cons (pg_name (i := 4) sc_Scene_lit_by.nd rfl (Or.inl rfl)) (pgs_cons (pg_name (i := 5) sc_Scene_lit_by.nd rfl (Or.inl rfl)) pgs_nil))) (pss_cons (ps_set (i := 6) sc_Scene_lit_by.nd rfl (Or.inl rfl) (pe_clM cm_Scene_room_now hr (by decide) pass0 (pv 0) (pa_cons (pv 4) (pa_cons (pv 2) pa_nil))))
        (pss_cons (ps_asg pe_bl (pg_sub (pv 3) (pv 6) (set_dict (by exact hu_of hr))))
        (pss_one (ps_if (pt_cmpR op_eq (pe_dget (by exact hu_of hr) (pe_fld (pv 0) (by rfl)) (pv 5) (fun _ _ => rfl)) pe_int (nomark _)) (pss_one (ps_for PassesOwn.never rfl (pi_list (pe_clM cm_House_sees hr (by decide) pass0 (pe_fld (pv 0) (by rfl)) (pa_cons (pv 6) pa_nil))) (pg_name (i := 7) sc_Scene_lit_by.nd rfl (Or.inl rfl)) (pss_one (ps_asg pe_bl (pg_sub (pv 3) (pv 7) (set_dict (by exact hu_of hr))))))) pss_nil)))))
        (pss_one (ps_ret (pe_lc (own := [("room", 6)]) rfl sc_Scene_lit_by.nd (pi_list (pe_clM0 cm_House_rooms hr (by decide) pass0 (pe_fld (pv 0) (by rfl)))) (blkOk_by (own := [("room", 6)]) (N := ["self", "row", "beat", "found", "post", "watcher", "room", "other"]) (sc := defScope s_Scene_lit_by) (by decide +kernel)) (fun _ _ _ _ _ => (pg_name (i := 6) sc_Scene_lit_by.nd rfl (by first | exact Or.inl rfl | exact Or.inr rfl))) (fun _ _ _ _ _ => (pts_one (pt_cmp (pc_din (by exact hu_of hr) (pv 6) (pv 3))))) (fun _ _ _ _ _ => (pv 6))))))), ?_⟩)
    try dsimp only [L3.cxK, L3.cxKX]
    rintro Rs M k X ⟨R, _, _, rfl, ho, s, Rr, Rg, row, b, rfl, rfl, ok, hl, hl2, hw, q⟩
    have p5 := ok.pl
    have n8 := ok.nl
    (repeat' decreasing_trivial_pre_omega)
    intro a
    (repeat' decreasing_trivial_pre_omega)
    refine st_forG FR (tip_zipK (kvs := roundsF K s.ps) (rl := row.map aStr) (n := s.ps.length) (by (repeat' decreasing_trivial_pre_omega)) (by (repeat' decreasing_trivial_pre_omega)) (by simp; omega) _ _ ?_)
    refine ⟨fun i kvs => (∀ z, (kvs.lookup z).isSome = decide (z ∈ ((s.ps.zip row).take i).flatMap (shines s b))) ∧ kvs.length ≤ 9 * i, fun _ => [some R, some (iLst (row.map aStr)), some (iInt b), some (iRef a), none, none, none, none], fun kvs => M ++ [(a, mDK kvs)], lj [] ⟨by simp, by simp⟩ (by (repeat' decreasing_trivial_pre_omega)) rfl, ?_, ?_⟩
    · rintro i r kvs hi ⟨q1, q2, ⟨pr, hpr, rfl⟩, hq2, rfl⟩ ⟨k1, k2⟩
      have hi2 : i < row.length := by omega
      rw [List.getElem?_map, List.getElem?_eq_getElem hi] at hpr
      cases hpr
      rw [List.getElem?_map, List.getElem?_eq_getElem hi2] at hq2
      cases hq2
      have hwi := hw _ (List.getElem_mem hi2)
      obtain ⟨lp, hlp, elp⟩ := List.mem_map.mp hwi
      have rch := reach_at ok hlp
      (repeat' decreasing_trivial_pre_omega)
      refine ⟨_, leS_rfl, s, Rr, Rg, s.ps[i], b, rfl, rfl, ok, List.getElem_mem hi, ?_⟩
      (repeat' decreasing_trivial_pre_omega)
      refine k_putD (i := M.length) at_last (by omega) ?_
      try dsimp only
      rw [set_last]
      (repeat' decreasing_trivial_pre_omega)
      refine k_hg hd_f (by rw [← elp]; exact look_map (fun p : Str × Int => p.1) (fun p : Str × Int => iInt p.2) ok.ld hlp) ?_
      (repeat' decreasing_trivial_pre_omega)
      have lz : (s.ps.zip row).length = s.ps.length := by simp; omega
      have et : (s.ps.zip row).take (i + 1) = (s.ps.zip row).take i ++ [(s.ps[i], row[i])] := by
        rw [List.take_succ, List.getElem?_eq_getElem (by omega)]
        simp
      have pl := putD_len kvs (roomAt s.ps[i].2.1 (b - s.ps[i].2.2)) (iBl true)
      have k3 : ∀ z, ((putD kvs (roomAt s.ps[i].2.1 (b - s.ps[i].2.2)) (iBl true)).lookup z).isSome = decide (z ∈ ((s.ps.zip row).take i).flatMap (shines s b) ++ [roomAt s.ps[i].2.1 (b - s.ps[i].2.2)]) := fun z => by
        rw [putD_is, k1 z]
        exact dec_or (by rw [List.mem_append, List.mem_singleton])
      generalize putD kvs (roomAt s.ps[i].2.1 (b - s.ps[i].2.2)) (iBl true) = kv2 at pl k3 ⊢
      have hin : roomAt s.ps[i].2.1 (b - s.ps[i].2.2) ∈ s.ns := roomAt_in (ok.pr _ (List.getElem_mem hi)).1 (ok.pr _ (List.getElem_mem hi)).2.2.1 _
      refine ite_b (fun h1 => ?_) (fun h1 => ?_)
      · have r1 : reachOf s row[i] = 1 := by rw [← elp, rch]; simpa using h1
        refine st_forG FR (tip_list (rl := (seesOf s.ns s.ss (roomAt s.ps[i].2.1 (b - s.ps[i].2.2))).map aStr) ?_ _ _ ?_)
        · (repeat' decreasing_trivial_pre_omega)
          refine ⟨_, leS_rfl, _, s.ns, s.ds, s.ss, rfl, rfl, hin, by omega, ?_⟩
          (repeat' decreasing_trivial_pre_omega)
        have sl : (seesOf s.ns s.ss (roomAt s.ps[i].2.1 (b - s.ps[i].2.2))).length ≤ 8 := Nat.le_trans (List.length_filter_le _ _) n8
        refine ⟨fun j kvs => (∀ z, (kvs.lookup z).isSome = decide (z ∈ (((s.ps.zip row).take i).flatMap (shines s b) ++ [roomAt s.ps[i].2.1 (b - s.ps[i].2.2)]) ++ (seesOf s.ns s.ss (roomAt s.ps[i].2.1 (b - s.ps[i].2.2))).take j)) ∧ kvs.length ≤ 9 * i + 1 + j, fun _ => [some R, some (iLst (row.map aStr)), some (iInt b), some (iRef a), none, none, some (aStr (roomAt s.ps[i].2.1 (b - s.ps[i].2.2))), none], fun kvs => M ++ [(a, mDK kvs)], lj kv2 ⟨fun z => by rw [k3 z]; exact dec_iff (by simp), by omega⟩ (by (repeat' decreasing_trivial_pre_omega)) rfl, ?_, ?_⟩
        · rintro j r kv3 hj hr ⟨m1, m2⟩
          have hj' : j < (seesOf s.ns s.ss (roomAt s.ps[i].2.1 (b - s.ps[i].2.2))).length := by simpa using hj
          rw [List.getElem?_map, List.getElem?_eq_getElem hj'] at hr
          cases hr
          try dsimp only
          (repeat' decreasing_trivial_pre_omega)
          refine k_putD (i := M.length) at_last (by omega) ?_
          rw [set_last]
          have pl3 := putD_len kv3 (seesOf s.ns s.ss (roomAt s.ps[i].2.1 (b - s.ps[i].2.2)))[j] (iBl true)
          refine lj _ ⟨fun z => ?_, by omega⟩ (by (repeat' decreasing_trivial_pre_omega)) rfl
          rw [putD_is, m1 z]
          refine dec_or ?_
          rw [List.take_succ, List.getElem?_eq_getElem hj']
          simp only [List.mem_append, Option.toList_some, List.mem_singleton, or_assoc]
        · rintro kv3 Γ1 ⟨m1, m2⟩ w
          rw [List.length_map] at m1 m2
          refine lj kv3 ⟨fun z => ?_, by omega⟩ (Wk.trans (by (repeat' decreasing_trivial_pre_omega)) w) rfl
          rw [m1 z, et, List.flatMap_append, List.take_length]
          exact dec_iff (by simp [shines, r1])
      · have r1 : ¬ reachOf s row[i] = 1 := by rw [← elp, rch]; simpa using h1
        refine st_next ?_
        refine lj kv2 ⟨fun z => ?_, by omega⟩ (by (repeat' decreasing_trivial_pre_omega)) rfl
        rw [k3 z, et, List.flatMap_append]
        exact dec_iff (by simp [shines, r1])
    · rintro kvs Γ1 ⟨k1, k2⟩ w
      refine st_wk w ?_
      try dsimp only
      refine st_ret (ev_fgt ?_)
      refine ep_lcF (l := s.ns) (e := aStr) (p := fun z => decide (z ∈ shone s b row)) ?_ (by omega) (by decide) (fun y hy => ?_) (fun y hy hp => ?_) _ _ ⟨M.length, _, _, at_last, ?_⟩
      · (repeat' decreasing_trivial_pre_omega)
        refine ⟨_, leS_rfl, s.ns, s.ds, s.ss, rfl, rfl, ?_⟩
        (repeat' decreasing_trivial_pre_omega)
      · (repeat' decreasing_trivial_pre_omega)
        rw [k1 y, List.take_of_length_le (by simp; omega)]
        (repeat' decreasing_trivial_pre_omega)
      · (repeat' decreasing_trivial_pre_omega)
      · rw [erase_last]
        exact q
    )) only [↓bx_true]

abbrev s_Scene_changed : Stmt := inClass (top 45) 3
theorem sc_Scene_changed : FnScope ["self", "row", "beat", "found", "spots", "post", "one", "other", "at", "tired"] ["self", "row", "beat"] (defScope s_Scene_changed) := ⟨rfl, rfl, rfl, by decide +kernel, rfl, by decide +kernel, by decide +kernel⟩
abbrev ts_Scene_changed (K : PySem.W.Frag) (C_House : Addr) (C_Scene : Addr) : TSp := methK C_Scene fun M fs Rs q => ∃ s Rr Rg b l, fs = sceneF K C_House s Rr Rg ∧ Rs = [iLst (l.map aStr), iInt b] ∧ ScOk s ∧ s.ps.length ≤ l.length ∧ l.length ≤ 1000 ∧ q (iLst ((changeL s b l).map aStr))
theorem ok_Scene_changed (B : Bt mg) {C_House : Addr} (T_House : Txt_House K mg C_House) {C_Scene : Addr} (T_Scene : Txt_Scene K mg C_Scene) (g_NEVER : ∃ u, mg "NEVER" = some u ∧ RelV (.int 0) u) (cm_Scene_room_now : ClM P w K mg base CX0 2 C_Scene "room_now" (ts_Scene_room_now K C_House C_Scene) []) {f : Addr} {fd : FuncData} (d : Fun K "changed" "Scene.changed" s_Scene_changed f fd) (hm : Meth K C_Scene "changed" f) : ClM P w K mg base CX0 3 C_Scene "changed" (ts_Scene_changed K C_House C_Scene) [] := by
  refine bx_of ?_
  simp (disch := with_unfolding_all (
    refine ⟨T_Scene.cl, f, fd, ["self", "row", "beat"], [], ?_, hm, d.binds fun _ _ _ _ _ _ us hl => match us, hl with | [_, _, _], _ => rfl, .nil⟩
    refine (okT (kk := 2) d sc_Scene_changed (fun Rs M k X h => by obtain ⟨_, _, _, rfl, _, _, _, _, _, _, _, rfl, _⟩ := h; rfl) fun cdv A outer s H E hr => ⟨_,
      (pss_cons (ps_set (i := 3) sc_Scene_changed.nd rfl (Or.inl rfl) (pe_callTy call_list_of (by rfl) B.list (by decide +kernel) (pa_cons (pv 1) pa_nil)))
        (pss_cons (ps_setLc (i := 4) (own := [("post", 5)]) rfl sc_Scene_changed.nd rfl rfl (sw_true rfl rfl rfl (by decide +kernel)) (pi_keys (pe_fld (pv 0) (by rfl))) (blkOk_by (own := [("post", 5)]) (N := ["self", "row", "beat", "found", "spots", "post", "one", "other", "at", "tired"]) (sc := defScope s_Scene_changed) (by decide +kernel)) (fun _ _ _ _ _ => (pg_name (i := 5) sc_Scene_changed.nd rfl (by first | exact Or.inl rfl | exact Or.inr rfl))) (fun _ _ _ _ _ => pts_nil) (fun _ _ _ _ _ => (pe_clM cm_Scene_room_now hr (by decide) pass0 (pv 0) (pa_cons (pv 5) (pa_cons (pv 2) pa_nil)))))
        (pss_cons (ps_if (pt_val (pe_fld (pv 0) (by rfl))) (pss_one (ps_for PassesOwn.never rfl (pi_range1 (by rfl) B.range (pa_cons (pe_callB call_len (by rfl) B.len (by decide +kernel) (pa_cons (pv 4) pa_nil)) pa_nil)) (pg_name (i := 6) sc_Scene_changed.nd rfl (Or.inl rfl)) (pss_one (ps_for PassesOwn.never rfl (pi_range2 (by rfl) B.range (pa_cons (pe_op op_add (pv 6) pe_int) (pa_cons (pe_callB call_len (by rfl) B.len (by decide +kernel) (pa_cons (pv 4) pa_nil)) pa_nil))) (pg_name (i := 7) sc_Scene_changed.nd rfl (Or.inl rfl)) (pss_one (ps_if (pt_cmpR op_eq (pe_ix ix_list (pv 4) (pv 6) (fun _ _ => rfl)) (pe_ix ix_list (pv 4) (pv 7) (fun _ _ => rfl)) (nomark _)) (pss_one (ps_asg (pe_tup (pa_cons (pe_ix ix_list (pv 3) (pv 7) (fun _ _ => rfl)) (pa_cons (pe_ix ix_list (pv 3) (pv 6) (fun _ _ => rfl)) pa_nil))) (pg_tup rfl (pgs_cons (pg_sub (pv 3) (pv 6) set_list) (pgs_cons (pg_sub (pv 3) (pv 7) set_list) pgs_nil))))) pss_nil)))))) pss_nil)
        (pss_cons (ps_if (PW.pt (pw_and (pt_cmpR op_ne (pe_fld (pv 0) (by rfl)) (pe_gc rfl g_NEVER) (nomark _)) (pw_and (pt_cmpR op_eq (pe_op op_mod (pv 2) (pe_fld (pv 0) (by rfl))) pe_int (nomark _)) (pw_and1 (pt_chain op_lt op_lt pe_int (pe_callB call_len (by rfl) B.len (by decide +kernel) (pa_cons (pv 4) pa_nil)) (pe_callB call_len (by rfl) B.len (by decide +kernel) (pa_cons (pv 3) pa_nil))))))) (pss_cons (ps_set (i := 8) sc_Scene_changed.nd rfl (Or.inl rfl) (pe_op op_mod (pe_op op_fdivW (pv 2) (pe_fld (pv 0) (by rfl))) (pe_callB call_len (by rfl) B.len (by decide +kernel) (pa_cons (pv 4) pa_nil))))
        (pss_cons (ps_asg (pe_tup (pa_cons (pe_ix ix_list (pv 3) (pv 8) (fun _ _ => rfl)) (pa_cons (pe_ix ix_list (pv 3) (pe_callB call_len (by rfl) B.len (by decide +kernel) (pa_cons (pv 4) pa_nil)) (fun _ _ => rfl)) pa_nil))) (pg_tup rfl (pgs_cons (pg_name (i := 9) sc_Scene_changed.nd rfl (Or.inl rfl)) (pgs_cons (pg_sub (pv 3) (pv 8) set_list) pgs_nil))))
        (pss_cons (ps_delL (pv 3) (pe_callB call_len (by rfl) B.len (by decide +kernel) (pa_cons (pv 4) pa_nil)))
        (pss_one (ps_expr (pe_bm PySem.F.plainAttrs_list PySem.F.slot_list_append PySem.F.type_list_append mt_append (pv 3) (pa_cons (pv 9) pa_nil))))))) pss_nil)
        (pss_one (ps_ret (pv 3))))))), ?_⟩)
    try dsimp only [L3.cxK, L3.cxKX]
    rintro Rs M k X ⟨R, _, _, rfl, ho, s, Rr, Rg, b, l, rfl, rfl, ok, hl, hl2, q⟩
    have p5 := ok.pl
    refine st_seq (st_asg (ev_listM (rs := l.map aStr) (ev_var rfl ⟨.inl rfl, fun a => ?_⟩)))
    refine st_seq (st_asg (Ep.ev (ep_lcKeys (l := s.ps) (f := fun p : Post => p.1) (g := roundR K) (e' := fun p : Post => aStr (roomAt p.2.1 (b - p.2.2))) (by (repeat' decreasing_trivial_pre_omega)) (by omega) (by decide) (fun p hp => ?_)) ?_))
    · (repeat' decreasing_trivial_pre_omega)
      refine ⟨_, leS_rfl, s, Rr, Rg, p, b, rfl, rfl, ok, hp, ?_⟩
      (repeat' decreasing_trivial_pre_omega)
    rw [show (s.ps.map fun p : Post => aStr (roomAt p.2.1 (b - p.2.2))) = (spotsOf s b).map aStr by unfold spotsOf; rw [List.map_map]; rfl]
    have sl := spots_len s b
    refine st_join (P := fun l1 : List Str => l1 = meetsL s b l) (G := fun _ => [some R, some (iLst (l.map aStr)), some (iInt b), some (iRef a), some (iLst ((spotsOf s b).map aStr)), none, none, none, none, none]) (N := fun l1 => M ++ [(a, mLst (l1.map aStr))]) ?_ ?_
    · (repeat' decreasing_trivial_pre_omega)
      refine ite_b (fun hm => ?_) (fun hm => ?_)
      · refine st_forG (List Str) ?_
        (repeat' decreasing_trivial_pre_omega)
        refine ⟨_, rfl, by simp; omega, fun i l1 => l1 = meetOut (spotsOf s b) i l, fun _ => [some R, some (iLst (l.map aStr)), some (iInt b), some (iRef a), some (iLst ((spotsOf s b).map aStr)), none, none, none, none, none], fun l1 => M ++ [(a, mLst (l1.map aStr))], lj l rfl (by (repeat' decreasing_trivial_pre_omega)) rfl, ?_, ?_⟩
        · rintro i r l1 hi rfl rfl
          rw [List.length_map, sl] at hi
          try dsimp only
          (repeat' decreasing_trivial_pre_omega)
          refine st_forG (List Str) ?_
          (repeat' decreasing_trivial_pre_omega)
          rw [List.length_map, sl]
          refine ⟨i + 1, s.ps.length, rfl, by omega, by omega, by omega, by omega, fun j l2 => l2 = meetIn (spotsOf s b) i j (meetOut (spotsOf s b) i l), fun _ => [some R, some (iLst (l.map aStr)), some (iInt b), some (iRef a), some (iLst ((spotsOf s b).map aStr)), none, some (iInt i), none, none, none], fun l2 => M ++ [(a, mLst (l2.map aStr))], lj _ rfl (by (repeat' decreasing_trivial_pre_omega)) rfl, ?_, ?_⟩
          · rintro j r l2 hj rfl rfl
            try dsimp only
            have hi2 : i < (spotsOf s b).length := by omega
            have hj2 : i + 1 + j < (spotsOf s b).length := by omega
            have lm : (meetIn (spotsOf s b) i j (meetOut (spotsOf s b) i l)).length = l.length := by rw [meetIn_len, meetOut_len]
            (repeat' decreasing_trivial_pre_omega)
            refine o_ixN i rfl hi2 _ ?_
            (repeat' decreasing_trivial_pre_omega)
            refine o_ixN (i + 1 + j) (by push_cast; rfl) hj2 _ ?_
            (repeat' decreasing_trivial_pre_omega)
            refine ite_b (fun he => ?_) (fun he => ?_)
            · have e1 : (spotsOf s b).getD i e0 = (spotsOf s b).getD (i + 1 + j) e0 := by
                have := of_decide_eq_true he
                simpa [hi2, hj2] using this
              (repeat' decreasing_trivial_pre_omega)
              refine o_ixMN M.length (i + 1 + j) at_last (by push_cast; rfl) (by rw [lm]; omega) _ ?_
              (repeat' decreasing_trivial_pre_omega)
              refine o_ixMN M.length i at_last rfl (by rw [lm]; omega) _ ?_
              (repeat' decreasing_trivial_pre_omega)
              refine k_setL (n := i) (i := M.length) rfl at_last (by rw [List.length_map, lm]; omega) ?_
              rw [set_last]
              (repeat' decreasing_trivial_pre_omega)
              refine k_setL (n := i + 1 + j) (i := M.length) (by push_cast; rfl) at_last (by rw [List.length_set, List.length_map, lm]; omega) ?_
              rw [set_last]
              (repeat' decreasing_trivial_pre_omega)
              refine lj (meetIn (spotsOf s b) i (j + 1) (meetOut (spotsOf s b) i l)) rfl (by (repeat' decreasing_trivial_pre_omega)) ?_
              have hiq : i < (meetIn (spotsOf s b) i j (meetOut (spotsOf s b) i l)).length := by rw [lm]; omega
              have hjq : i + 1 + j < (meetIn (spotsOf s b) i j (meetOut (spotsOf s b) i l)).length := by rw [lm]; omega
              rw [meetIn, meet1, if_pos e1, ← swap_map hiq hjq]
            · refine st_next ?_
              refine lj (meetIn (spotsOf s b) i (j + 1) (meetOut (spotsOf s b) i l)) rfl (by (repeat' decreasing_trivial_pre_omega)) ?_
              have e1 : ¬ (spotsOf s b).getD i e0 = (spotsOf s b).getD (i + 1 + j) e0 := by
                have := of_decide_eq_false he
                simpa [hi2, hj2] using this
              rw [meetIn, meet1, if_neg e1]
          · rintro l2 Γ1 rfl w
            refine lj _ ?_ (Wk.trans (by (repeat' decreasing_trivial_pre_omega)) w) rfl
            rw [meetOut, sl]
            congr 1
            omega
        · rintro l1 Γ1 rfl w
          refine lj _ ?_ (Wk.trans (by (repeat' decreasing_trivial_pre_omega)) w) rfl
          unfold meetsL
          rw [if_pos hm, List.length_map, sl]
      · refine st_next ?_
        refine lj l ?_ (by (repeat' decreasing_trivial_pre_omega)) rfl
        unfold meetsL
        rw [hm]
        rfl
    · rintro l1 rfl
      refine st_join (P := fun l2 : List Str => l2 = changeL s b l) (G := fun _ => [some R, some (iLst (l.map aStr)), some (iInt b), some (iRef a), some (iLst ((spotsOf s b).map aStr)), none, none, none, none, none]) (N := fun l2 => M ++ [(a, mLst (l2.map aStr))]) ?_ ?_
      · have ml : (meetsL s b l).length = l.length := meetsL_len s b l
        have no : ¬ easing s b l.length → meetsL s b l = changeL s b l := fun h => by unfold changeL; rw [if_neg h]
        (repeat' decreasing_trivial_pre_omega)
        refine ite_b (fun h1 => ?_) (fun h1 => ?_)
        · have hr : s.rel ≠ 0 := by simpa using h1
          have hr0 := ok.r0
          (repeat' decreasing_trivial_pre_omega)
          refine ite_b (fun h2 => ?_) (fun h2 => ?_)
          · (repeat' decreasing_trivial_pre_omega)
            refine ite_b (fun h3 => ?_) (fun h3 => ?_)
            · have hp : 0 < s.ps.length := by simpa [sl] using h3
              (repeat' decreasing_trivial_pre_omega)
              refine ite_b (fun h4 => ?_) (fun h4 => ?_)
              · have he : easing s b l.length := ⟨hr, by simpa using h2, hp, by simpa [sl, ml] using h4⟩
                obtain ⟨a1, a2⟩ := easeAt_lt he
                (repeat' decreasing_trivial_pre_omega)
                · exact wide_div (b := 60) (by omega) (by have := ok.r4; omega) (by decide) (by decide)
                have ha : b / s.rel % ((List.map aStr (spotsOf s b)).length : Int) = (easeAt s b : Nat) := by
                  rw [List.length_map, sl]
                  exact a2.symm
                have hq : s.ps.length < (meetsL s b l).length := by rw [ml]; exact he.2.2.2
                rw [ha]
                refine o_ixMN M.length (easeAt s b) at_last rfl (by omega) _ ?_
                (repeat' decreasing_trivial_pre_omega)
                refine o_ixMN M.length s.ps.length at_last (by rw [List.length_map, sl]) hq _ ?_
                (repeat' decreasing_trivial_pre_omega)
                refine k_setL (n := easeAt s b) (i := M.length) rfl at_last (by rw [List.length_map]; omega) ?_
                rw [set_last]
                (repeat' decreasing_trivial_pre_omega)
                refine k_delL (n := s.ps.length) (i := M.length) (by rw [List.length_map, sl]) at_last (by rw [List.length_set, List.length_map]; exact hq) (by omega) ?_
                rw [set_last]
                (repeat' decreasing_trivial_pre_omega)
                refine k_app2 (j := M.length) at_last (by have := List.length_eraseIdx_le (((meetsL s b l).map aStr).set (easeAt s b) (aStr (meetsL s b l)[s.ps.length])) s.ps.length; rw [List.length_set, List.length_map] at this; omega) ?_
                rw [set_last]
                (repeat' decreasing_trivial_pre_omega)
                refine lj (changeL s b l) rfl (by (repeat' decreasing_trivial_pre_omega)) ?_
                rw [ease_map (by omega) hq]
                unfold changeL
                rw [if_pos he]
              · refine st_next ?_
                exact lj _ (no fun z => by have := z.2.2.2; simp [sl, ml] at h4; omega) (by (repeat' decreasing_trivial_pre_omega)) rfl
            · refine k_b (k_f (st_next ?_))
              exact lj _ (no fun z => by have := z.2.2.1; simp [sl] at h3; simp [h3] at this) (by (repeat' decreasing_trivial_pre_omega)) rfl
          · refine st_next ?_
            exact lj _ (no fun z => by simp [z.2.1] at h2) (by (repeat' decreasing_trivial_pre_omega)) rfl
        · refine st_next ?_
          exact lj _ (no fun z => by simp [z.1] at h1) (by (repeat' decreasing_trivial_pre_omega)) rfl
      · rintro l2 rfl
        refine st_ret (ev_told (ev_var rfl ⟨a, M.length, _, rfl, at_last, ?_⟩))
        rw [erase_last]
        exact q
    )) only [↓bx_true]

abbrev s_Scene_roll : Stmt := inClass (top 45) 4
theorem sc_Scene_roll : FnScope ["self", "first", "row", "span", "going"] ["self"] (defScope s_Scene_roll) := ⟨rfl, rfl, rfl, by decide +kernel, rfl, by decide +kernel, by decide +kernel⟩
abbrev ts_Scene_roll (K : PySem.W.Frag) (C_House : Addr) (C_Scene : Addr) : TSp := fun Rs M k _ => ∃ a r g s, Rs = [iRef a] ∧ M = [(a, mObj C_Scene (sceneF K C_House s (iRef r) (iRef g))), (r, mLst []), (g, mLst [])] ∧ ScOk s ∧ ∀ T, Per s T → k iNon [(a, mObj C_Scene (sceneF K C_House s (iRef r) (iRef g))), (r, mLst (rowsR K s T)), (g, mLst (glowR s T))]
theorem ok_Scene_roll (B : Bt mg) {C_House : Addr} (T_House : Txt_House K mg C_House) {C_Scene : Addr} (T_Scene : Txt_Scene K mg C_Scene) (cm_Scene_span : ClM P w K mg base CX0 3 C_Scene "span" (ts_Scene_span K C_House C_Scene) []) (cm_Scene_lit_by : ClM P w K mg base CX0 3 C_Scene "lit_by" (ts_Scene_lit_by K C_House C_Scene) []) (cm_Scene_changed : ClM P w K mg base CX0 3 C_Scene "changed" (ts_Scene_changed K C_House C_Scene) []) {f : Addr} {fd : FuncData} (d : Fun K "roll" "Scene.roll" s_Scene_roll f fd) (hm : Meth K C_Scene "roll" f) : ClM P w K mg base CX0 4 C_Scene "roll" (ts_Scene_roll K C_House C_Scene) [] := by
  refine bx_of ?_
  simp (disch := with_unfolding_all (
    refine ⟨T_Scene.cl, f, fd, ["self"], [], ?_, hm, d.binds fun _ _ _ _ _ _ us hl => match us, hl with | [_], _ => rfl, .nil⟩
    refine (okT (kk := 3) d sc_Scene_roll (fun Rs M k X h => by obtain ⟨_, _, _, _, rfl, _⟩ := h; rfl) fun cdv A outer s H E hr => ⟨_,
      (pss_cons (ps_set (i := 1) sc_Scene_roll.nd rfl (Or.inl rfl) (pe_callTy (call_listK rfl) (by rfl) B.list (by decide +kernel) (pa_cons (pe_fld (pv 0) (by rfl)) pa_nil)))
        (pss_cons (ps_set (i := 2) sc_Scene_roll.nd rfl (Or.inl rfl) (pv 1))
        (pss_cons (ps_set (i := 3) sc_Scene_roll.nd rfl (Or.inl rfl) (pe_clM0 cm_Scene_span hr (by decide) pass0 (pv 0)))
        (pss_cons (ps_set (i := 4) sc_Scene_roll.nd rfl (Or.inl rfl) pe_bl)
        (pss_one (ps_while PassesOwn.never (pt_val (pv 4)) (pss_cons (ps_expr (pe_bm PySem.F.plainAttrs_list PySem.F.slot_list_append PySem.F.type_list_append mt_append (pe_fld (pv 0) (by rfl)) (pa_cons (pe_callTy call_tupD (by rfl) B.tuple (by decide +kernel) (pa_cons (pv 2) pa_nil)) pa_nil)))
        (pss_cons (ps_expr (pe_bm PySem.F.plainAttrs_list PySem.F.slot_list_append PySem.F.type_list_append mt_append (pe_fld (pv 0) (by rfl)) (pa_cons (pe_clM cm_Scene_lit_by hr (by decide) pass0 (pv 0) (pa_cons (pv 2) (pa_cons (pe_op op_sub (pe_callB call_len (by rfl) B.len (by decide +kernel) (pa_cons (pe_fld (pv 0) (by rfl)) pa_nil)) pe_int) pa_nil))) pa_nil)))
        (pss_cons (ps_set (i := 2) sc_Scene_roll.nd rfl (Or.inl rfl) (pe_clM cm_Scene_changed hr (by decide) pass0 (pv 0) (pa_cons (pv 2) (pa_cons (pe_callB call_len (by rfl) B.len (by decide +kernel) (pa_cons (pe_fld (pv 0) (by rfl)) pa_nil)) pa_nil))))
        (pss_one (ps_set (i := 4) sc_Scene_roll.nd rfl (Or.inl rfl) (pe_or (pe_cmpR op_ne (pe_op op_mod (pe_callB call_len (by rfl) B.len (by decide +kernel) (pa_cons (pe_fld (pv 0) (by rfl)) pa_nil)) (pv 3)) pe_int (nomark _)) (pe_one (pe_cmpR (op_neD hr.units) (pv 2) (pv 1) (nomark _))))))))))))))), ?_⟩)
    try dsimp only [L3.cxK, L3.cxKX]
    rintro Rs M k X ⟨a, r, g, s, rfl, rfl, ok, q⟩
    obtain ⟨T, per⟩ := per_ex ok
    have hT := per.le
    have q' := q T per
    (repeat' decreasing_trivial_pre_omega)
    rw [show ((lampsF s.ls).map fun p => aStr p.1) = (firstOf s).map aStr by unfold firstOf; rw [List.map_map, List.map_map]; rfl]
    (repeat' decreasing_trivial_pre_omega)
    refine ⟨_, leS_rfl, s, iRef r, iRef g, rfl, rfl, ok, ?_⟩
    (repeat' decreasing_trivial_pre_omega)
    refine st_whileG Nat (fun m k => m = T - k ∧ k ≤ T) (fun k => [some (iRef a), some (iLst ((firstOf s).map aStr)), some (iLst ((rowAt s k).map aStr)), some (iInt (spanOf s : Nat)), some (iBl (decide (k < T)))]) (fun k => [(a, mObj C_Scene (sceneF K C_House s (iRef r) (iRef g))), (r, mLst (rowsR K s k)), (g, mLst (glowR s k))]) T (lj 0 ⟨by omega, by omega⟩ (by rw [show decide (0 < T) = true from decide_eq_true per.pos]; (repeat' decreasing_trivial_pre_omega)) rfl) ?_
    rintro m n ⟨rfl, hn⟩
    (repeat' decreasing_trivial_pre_omega)
    refine ite_b (fun h => ?_) (fun h => ?_)
    · have hlt : n < T := by simpa using h
      (repeat' decreasing_trivial_pre_omega)
      have lr : (rowsR K s n ++ [aTupD ((rowAt s n).map aStr)]).length = n + 1 := by simp
      have pl : s.ps.length ≤ (rowAt s n).length := by rw [row_len]; exact ok.pe
      have l6 : (rowAt s n).length ≤ 1000 := by rw [row_len]; have := ok.ll; omega
      rw [show (((rowsR K s n ++ [aTupD ((rowAt s n).map aStr)]).length : Nat) : Int) - 1 = (n : Nat) by rw [lr]; push_cast; omega]
      refine ⟨_, leS_rfl, s, iRef r, iRef g, rowAt s n, _, rfl, rfl, ok, pl, l6, row_sub ok.pe n, ?_⟩
      (repeat' decreasing_trivial_pre_omega)
      rw [lr]
      refine ⟨_, leS_rfl, s, iRef r, iRef g, _, rowAt s n, rfl, rfl, ok, pl, l6, ?_⟩
      (repeat' decreasing_trivial_pre_omega)
      · have := span_pos ok
        omega
      have rs : rowAt s (n + 1) = changeL s ((n + 1 : Nat) : Int) (rowAt s n) := rfl
      have e1 : rowsR K s n ++ [aTupD ((rowAt s n).map aStr)] = rowsR K s (n + 1) := by unfold rowsR; rw [List.range_succ, List.map_append]; rfl
      have e2 : glowR s n ++ [iLst ((litOf s (rowAt s n) (n : Nat)).map aStr)] = glowR s (n + 1) := by unfold glowR; rw [List.range_succ, List.map_append]; rfl
      have so : ∀ j, ∀ z ∈ rowAt s j, StrOk z := fun j z hz => by
        obtain ⟨p, hp, rfl⟩ := List.mem_map.mp (row_sub ok.pe j z hz)
        exact ok.lo p hp
      rw [lr, e1, e2, ← rs]
      refine ite_b (fun h1 => ?_) (fun h1 => ?_)
      · have h2 : ¬ (n + 1) % spanOf s = 0 := fun z => by
          simp at h1
          apply h1
          exact_mod_cast z
        have h3 : n + 1 < T := by
          rcases Nat.lt_or_ge (n + 1) T with h | h
          · exact h
          · have : n + 1 = T := by omega
            rw [this] at h2
            exact absurd per.dv h2
        exact ⟨T - (n + 1), by omega, lj (n + 1) ⟨rfl, by omega⟩ (by rw [show decide (n + 1 < T) = true from decide_eq_true h3]; (repeat' decreasing_trivial_pre_omega)) rfl⟩
      · have h2 : (n + 1) % spanOf s = 0 := by
          simp at h1
          exact_mod_cast h1
        (repeat' decreasing_trivial_pre_omega)
        refine o_neStrs (m := firstOf s) (so (n + 1)) (so 0) _ ?_
        have h3 : (!decide (rowAt s (n + 1) = firstOf s)) = decide (n + 1 < T) := by
          rcases Nat.lt_or_ge (n + 1) T with h | h
          · have := per.least (n + 1) (by omega) h
            rw [decide_eq_true h, decide_eq_false fun z => this ⟨h2, z⟩]
            rfl
          · have e : n + 1 = T := by omega
            rw [decide_eq_false (show ¬ n + 1 < T by omega), decide_eq_true (show rowAt s (n + 1) = firstOf s by rw [e]; exact per.back)]
            rfl
        rw [h3]
        exact ⟨T - (n + 1), by omega, lj (n + 1) ⟨rfl, by omega⟩ (by (repeat' decreasing_trivial_pre_omega)) rfl⟩
    · rintro Γ1 w
      have e : n = T := by have := of_decide_eq_false h; omega
      subst e
      exact q'
    )) only [↓bx_true]

abbrev s_Scene___init__ : Stmt := inClass (top 45) 0
theorem sc_Scene___init__ : FnScope ["self", "house", "posts", "watchers", "meet", "relief", "name", "rooms", "delay", "reach"] ["self", "house", "posts", "watchers", "meet", "relief"] (defScope s_Scene___init__) := ⟨rfl, rfl, rfl, by decide +kernel, rfl, by decide +kernel, by decide +kernel⟩
abbrev ts_Scene___init__ (K : PySem.W.Frag) (C_House : Addr) (C_Scene : Addr) : TSp := initK C_Scene fun Rs Z => ∃ s, Rs = [iHouse C_House s.ns s.ds s.ss, aSeq K (s.ps.map (postR K)), aSeq K (s.ls.map (lampR K)), iBl s.meet, iInt s.rel] ∧ ScNew s ∧ ∀ T, Per s T → Z (sceneF K C_House s (iLst (rowsR K s T)) (iLst (glowR s T)))
theorem ok_Scene___init__ (B : Bt mg) {C_House : Addr} (T_House : Txt_House K mg C_House) {C_Scene : Addr} (T_Scene : Txt_Scene K mg C_Scene) (g_NEVER : ∃ u, mg "NEVER" = some u ∧ RelV (.int 0) u) (g_MOST_POSTS : ∃ u, mg "MOST_POSTS" = some u ∧ RelV (.int 5) u) (g_MOST_WATCHERS : ∃ u, mg "MOST_WATCHERS" = some u ∧ RelV (.int 6) u) (c_need_fresh : Cl P w K mg base CX0 2 "need_fresh" (ts_need_fresh K) []) (c_need_round : Cl P w K mg base CX0 4 "need_round" (ts_need_round K C_House) []) (c_need_delay : Cl P w K mg base CX0 1 "need_delay" (ts_need_delay K) []) (c_need_reach : Cl P w K mg base CX0 1 "need_reach" (ts_need_reach K) []) (c_need_relief : Cl P w K mg base CX0 1 "need_relief" (ts_need_relief K) []) (cm_Scene_roll : ClM P w K mg base CX0 4 C_Scene "roll" (ts_Scene_roll K C_House C_Scene) []) {f : Addr} {fd : FuncData} {dvs : List V} {kws : List (Str × V)} (d : FunD K "__init__" "Scene.__init__" (defArgs s_Scene___init__) (defBody s_Scene___init__) (defScope s_Scene___init__) dvs kws f fd) : FnOk P w K mg base CX0 5 f fd ["self", "house", "posts", "watchers", "meet", "relief"] (spT (ts_Scene___init__ K C_House C_Scene)) := by
  refine bx_of ?_
  simp (disch := with_unfolding_all (
    refine (okTD (kk := 4) d sc_Scene___init__ (fun Rs M k X h => by obtain ⟨_, _, rfl, _, _, ⟨_, rfl, _⟩, _⟩ := h; rfl) fun cdv A outer s H E hr => ⟨_,
      (pss_cons (ps_if (PW.pt (pw_or (pt_cmpR op_gt (pe_callB call_len (by rfl) B.len (by decide +kernel) (pa_cons (pv 2) pa_nil)) (pe_gc rfl g_MOST_POSTS) (nomark _)) (pw_or1 (pt_cmpR op_gt (pe_callB call_len (by rfl) B.len (by decide +kernel) (pa_cons (pv 3) pa_nil)) (pe_gc rfl g_MOST_WATCHERS) (nomark _))))) (pss_one ps_never) pss_nil)
        (pss_cons (ps_fld (pv 0) (pv 1) rfl)
        (pss_cons (ps_fld (pv 0) pe_dnewK rfl)
        (pss_cons (ps_for PassesOwn.never rfl (pi_seq (pv 2)) (pg_tup rfl (pgs_cons (pg_name (i := 6) sc_Scene___init__.nd rfl (Or.inl rfl)) (pgs_cons (pg_name (i := 7) sc_Scene___init__.nd rfl (Or.inl rfl)) (pgs_cons (pg_name (i := 8) sc_Scene___init__.nd rfl (Or.inl rfl)) pgs_nil)))) (pss_cons (ps_expr (pe_cl c_need_fresh hr (by decide) pass0 rfl (pa_cons (pv 6) (pa_cons (pe_fld (pv 0) (by rfl)) pa_nil))))
        (pss_cons (ps_expr (pe_cl c_need_round hr (by decide) pass0 rfl (pa_cons (pv 1) (pa_cons (pv 7) pa_nil))))
        (pss_cons (ps_expr (pe_cl c_need_delay hr (by decide) pass0 rfl (pa_cons (pv 7) (pa_cons (pv 8) pa_nil))))
        (pss_one (ps_asg (pe_tup (pa_cons (pe_callTy call_tuple_of (by rfl) B.tuple (by decide +kernel) (pa_cons (pv 7) pa_nil)) (pa_cons (pv 8) pa_nil))) (pg_sub (pe_fld (pv 0) (by rfl)) (pv 6) (set_dict (by exact hu_of hr)))))))))
        (pss_cons (ps_fld (pv 0) pe_dnewK rfl)
        (pss_cons (ps_for PassesOwn.never rfl (pi_seq (pv 3)) (pg_tup rfl (pgs_cons (pg_name (i := 6) sc_Scene___init__.nd rfl (Or.inl rfl)) (pgs_cons (pg_name (i := 9) sc_Scene___init__.nd rfl (Or.inl rfl)) pgs_nil))) (pss_cons (ps_expr (pe_cl c_need_fresh hr (by decide) pass0 rfl (pa_cons (pv 6) (pa_cons (pe_fld (pv 0) (by rfl)) pa_nil))))
        (pss_cons (ps_expr (pe_cl c_need_reach hr (by decide) pass0 rfl (pa_cons (pv 9) pa_nil)))
        (pss_one (ps_asg (pv 9) (pg_sub (pe_fld (pv 0) (by rfl)) (pv 6) (set_dict (by exact hu_of hr))))))))
        (pss_cons (ps_expr (pe_cl c_need_relief hr (by decide) pass0 rfl (pa_cons (pv 5) pa_nil)))
        (pss_cons (ps_if (pt_cmpR op_lt (pe_callB call_lenF (by rfl) B.len (by decide +kernel) (pa_cons (pe_fld (pv 0) (by rfl)) pa_nil)) (pe_callB call_lenF (by rfl) B.len (by decide +kernel) (pa_cons (pe_fld (pv 0) (by rfl)) pa_nil)) (nomark _)) (pss_one ps_never) pss_nil)
        (pss_cons (ps_fz (ps_fld (pv 0) (pv 4) rfl))
        (pss_cons (ps_fz (ps_fld (pv 0) (pv 5) rfl))
        (pss_cons (ps_fld (pv 0) (pe_lst pa_nil) rfl)
        (pss_cons (ps_fld (pv 0) (pe_lst pa_nil) rfl)
        (pss_one (ps_expr (pe_clM0 cm_Scene_roll hr (by decide) pass0 (pv 0)))))))))))))))), ?_⟩)
    try dsimp only [L3.cxK, L3.cxKX]
    rintro Rs M k X ⟨a, _, rfl, rfl, Z, ⟨s, rfl, nw, hz⟩, q⟩
    have ok := nw.ok
    have p5 := ok.pl
    have l6 := ok.ll
    (repeat' decreasing_trivial_pre_omega)
    refine ite_b (fun h => by simp at h; omega) (fun _ => ?_)
    (repeat' decreasing_trivial_pre_omega)
    refine ite_b (fun h => by simp at h; omega) (fun _ => ?_)
    (repeat' decreasing_trivial_pre_omega)
    intro d
    (repeat' decreasing_trivial_pre_omega)
    refine st_forG Nat (tip_seq (ep_var rfl) _ _ ?_)
    refine ⟨fun i n => n = i, fun _ => [some (iRef a), some (iHouse C_House s.ns s.ds s.ss), some (aSeq K (s.ps.map (postR K))), some (aSeq K (s.ls.map (lampR K))), some (iBl s.meet), some (iInt s.rel), none, none, none, none], fun n => [(a, mObj C_Scene [("inside", iHouse C_House s.ns s.ds s.ss), ("rounds", iRef d)]), (d, mDK (roundsF K (s.ps.take n)))], lj 0 rfl (by (repeat' decreasing_trivial_pre_omega)) rfl, ?_, ?_⟩
    · rintro i r n hi hr rfl
      have hi' : n < s.ps.length := by simpa using hi
      rw [List.getElem?_map, List.getElem?_eq_getElem hi'] at hr
      cases hr
      have hp := List.getElem_mem hi'
      obtain ⟨p1, p2, p3, p4, p6⟩ := ok.pr _ hp
      have hn := nw.pn _ hp
      have hw := nw.pw _ hp
      have fr : (roundsF K (s.ps.take n)).lookup s.ps[n].1 = none := look_none (fun p : Post => p.1) (roundR K) (by
        rw [List.map_take]
        have := take_nin ok.pd (i := n) (by simpa using hi')
        rw [List.getElem_map] at this
        exact this)
      (repeat' decreasing_trivial_pre_omega)
      refine ⟨_, leS_rfl, s.ps[n].1, iRef d, rfl, hn, .inr ⟨_, hd_m (i := 1) rfl, fr⟩, ?_⟩
      (repeat' decreasing_trivial_pre_omega)
      refine ⟨_, leS_rfl, s.ns, s.ds, s.ss, s.ps[n].2.1, rfl, p1, p2, p3, hw, ?_⟩
      (repeat' decreasing_trivial_pre_omega)
      refine ⟨(s.ps[n].2.1.map aStr, s.ps[n].2.2), leS_rfl, ⟨p4, by rw [List.length_map]; exact p6, by rw [List.length_map]; omega⟩, ?_⟩
      (repeat' decreasing_trivial_pre_omega)
      have e : roundsF K (s.ps.take (n + 1)) = putD (roundsF K (s.ps.take n)) s.ps[n].1 (roundR K s.ps[n]) := by
        rw [putD_new fr, List.take_succ, List.getElem?_eq_getElem hi', roundsF, List.map_append]
        rfl
      refine lj (n + 1) rfl (by (repeat' decreasing_trivial_pre_omega)) ?_
      rw [e]
      rfl
    · rintro n Γ1 rfl w
      refine st_wk w ?_
      try dsimp only
      rw [List.length_map, List.take_length]
      (repeat' decreasing_trivial_pre_omega)
      intro d2
      (repeat' decreasing_trivial_pre_omega)
      refine st_forG Nat (tip_seq (ep_var rfl) _ _ ?_)
      refine ⟨fun i n => n = i, fun _ => [some (iRef a), some (iHouse C_House s.ns s.ds s.ss), some (aSeq K (s.ps.map (postR K))), some (aSeq K (s.ls.map (lampR K))), some (iBl s.meet), some (iInt s.rel), none, none, none, none], fun n => [(a, mObj C_Scene [("inside", iHouse C_House s.ns s.ds s.ss), ("rounds", iRef d), ("lamps", iRef d2)]), (d, mDK (roundsF K s.ps)), (d2, mDK (lampsF (s.ls.take n)))], lj 0 rfl (by (repeat' decreasing_trivial_pre_omega)) rfl, ?_, ?_⟩
      · rintro i r n hi hr rfl
        have hi' : n < s.ls.length := by simpa using hi
        rw [List.getElem?_map, List.getElem?_eq_getElem hi'] at hr
        cases hr
        obtain ⟨hn, h0, h1⟩ := nw.ln _ (List.getElem_mem hi')
        have fr : (lampsF (s.ls.take n)).lookup s.ls[n].1 = none := look_none (fun p : Str × Int => p.1) (fun p : Str × Int => iInt p.2) (by
          rw [List.map_take]
          have := take_nin ok.ld (i := n) (by simpa using hi')
          rw [List.getElem_map] at this
          exact this)
        (repeat' decreasing_trivial_pre_omega)
        refine ⟨_, leS_rfl, s.ls[n].1, iRef d2, rfl, hn, .inr ⟨_, hd_m (i := 2) rfl, fr⟩, ?_⟩
        (repeat' decreasing_trivial_pre_omega)
        refine ⟨s.ls[n].2, leS_rfl, ⟨h0, h1⟩, ?_⟩
        (repeat' decreasing_trivial_pre_omega)
        have e : lampsF (s.ls.take (n + 1)) = putD (lampsF (s.ls.take n)) s.ls[n].1 (iInt s.ls[n].2) := by
          rw [putD_new fr, List.take_succ, List.getElem?_eq_getElem hi', lampsF, List.map_append]
          rfl
        refine lj (n + 1) rfl (by (repeat' decreasing_trivial_pre_omega)) ?_
        rw [e]
        rfl
      · rintro n Γ1 rfl w
        refine st_wk w ?_
        try dsimp only
        rw [List.length_map, List.take_length]
        (repeat' decreasing_trivial_pre_omega)
        refine ⟨s.rel, leS_rfl, ⟨ok.r0, ok.r4⟩, ?_⟩
        (repeat' decreasing_trivial_pre_omega)
        refine ite_b (fun h => by have := ok.pe; simp at h; omega) (fun _ => ?_)
        (repeat' decreasing_trivial_pre_omega)
        refine st_tFz (i := 1) (j := 0) (f := "rounds") (fs := [("inside", iHouse C_House s.ns s.ds s.ss), ("rounds", iRef d), ("lamps", iRef d2)]) rfl rfl rfl ?_
        show St E _ _ [(a, mObj C_Scene [("inside", iHouse C_House s.ns s.ds s.ss), ("rounds", iDF (roundsF K s.ps)), ("lamps", iRef d2)]), (d2, mDK (lampsF s.ls))] _
        (repeat' decreasing_trivial_pre_omega)
        refine st_tFz (i := 1) (j := 0) (f := "lamps") (fs := [("inside", iHouse C_House s.ns s.ds s.ss), ("rounds", iDF (roundsF K s.ps)), ("lamps", iRef d2), ("meeting", iBl s.meet)]) rfl rfl rfl ?_
        show St E _ _ [(a, mObj C_Scene [("inside", iHouse C_House s.ns s.ds s.ss), ("rounds", iDF (roundsF K s.ps)), ("lamps", iDF (lampsF s.ls)), ("meeting", iBl s.meet)])] _
        (repeat' decreasing_trivial_pre_omega)
        intro r
        (repeat' decreasing_trivial_pre_omega)
        intro g
        refine ev_var rfl (k_set (j := 0) rfl (Nat.le_of_ble_eq_true rfl) ?_)
        refine st_nt (st_nt ?_)
        (repeat' decreasing_trivial_pre_omega)
        refine ⟨_, leS_rfl, a, r, g, s, rfl, rfl, ok, fun T per => ?_⟩
        refine ⟨_, _, turn_fzF (i := 1) (j := 0) (f := "rows") rfl rfl rfl, ?_⟩
        exact ⟨_, _, turn_fzF (i := 1) (j := 0) (f := "glow") rfl rfl rfl, q _ (hz T per)⟩
    )) only [↓bx_true]

theorem kb_Scene___init__ {f : Addr} {fd : FuncData} {e0 e1 : Addr} (F : FunD K "__init__" "Scene.__init__" (defArgs s_Scene___init__) (defBody s_Scene___init__) (defScope s_Scene___init__) [V.ref e0, V.ref e1] [("meet", V.bl false), ("relief", V.int 0)] f fd) : ∃ g, KBn K fd ["self", "house", "posts", "watchers", "meet", "relief"] (3 + 1) ["meet", "relief"] g (fun vs zs => vs ++ zs) := by
  obtain ⟨its, mv, h⟩ := FunD.kbinds (ps := ["self", "house", "posts", "watchers", "meet", "relief"]) F 4 ["meet", "relief"] [] (fun us _ _ ws => us ++ ws) (by simp) (by simp) (by simp) (fun r _ _ r2 => r.append r2) (fun T D doc pm an cdv ct us its mv ws h1 h2 h3 h4 => match us, its, mv, ws, h1, h2, h3, h4 with
    | [a, b, c, d], [x, y], [], [m, r], _, _, _, _ => ⟨_, rfl, rfl⟩)
  exact ⟨_, h⟩
abbrev s__law_built : Stmt := top 57
theorem sc__law_built : FnScope ["_law_m", "_law_made_here"] ["_law_m"] (defScope s__law_built) := ⟨rfl, rfl, rfl, by decide +kernel, rfl, by decide +kernel, by decide +kernel⟩
theorem house_8 {n : Nat} {ns : List Str} {ds ss : List (Str × Str)} (h : HouseOk n ns ds ss) (hn : n ≤ 8) : HouseOk 8 ns ds ss := ⟨h.n0, Nat.le_trans h.n1 hn, h.nd, h.nm, Nat.le_trans h.dl (Nat.mul_le_mul_left 12 hn), h.dm, h.sl, h.sm⟩
theorem built_new {rooms posts size : Nat} {r : Sc} (h : DrOk rooms posts size r) (h1 : rooms ≤ 8) (h2 : posts ≤ 5) (h3 : size ≤ 6) : ScNew (builtOf r) where
  ok := built_ok h h1 h2 h3
  pn := fun p hp => nm_name (h.pn p hp)
  ln := fun p hp => ⟨nm_name (h.ln p hp).1, (h.ln p hp).2⟩
  pw := fun p hp i hi => by
    rcases (h.pr p hp).1.cy i hi with e | e
    · exact .inr e
    · exact .inl ((mem_doors r.ds).mpr e)
abbrev ts__law_built (K : PySem.W.Frag) (C_House : Addr) (C_Scene : Addr) : TSp := pureK fun Rs q => ∃ rooms posts size r, Rs = [iDF (madeF K r)] ∧ DrOk rooms posts size r ∧ rooms ≤ 8 ∧ posts ≤ 5 ∧ size ≤ 6 ∧ ∀ T, Per (builtOf r) T → q (iObj C_Scene (sceneF K C_House (builtOf r) (iLst (rowsR K (builtOf r) T)) (iLst (glowR (builtOf r) T))))
theorem ok__law_built (B : Bt mg) {C_House : Addr} (T_House : Txt_House K mg C_House) {C_Scene : Addr} (T_Scene : Txt_Scene K mg C_Scene) (c__law_made : Cl P w K mg base CX0 5 "_law_made" (ts__law_made K C_House) []) (ciN_Scene : ClIN P w K mg base CX0 5 C_Scene "Scene" (ts_Scene___init__ K C_House C_Scene) 3 ["meet", "relief"] (fun vs zs => vs ++ zs)) {f : Addr} {fd : FuncData} (d : Df K mg "_law_built" s__law_built ["_law_m"] f fd) : Cl P w K mg base CX0 7 "_law_built" (ts__law_built K C_House C_Scene) [] := by
  refine bx_of ?_
  simp (disch := with_unfolding_all (
    refine cl_of d (okT (kk := 6) d.fn sc__law_built (fun Rs M k X h => by obtain ⟨_, _, _, _, _, rfl, _⟩ := h; rfl) fun cdv A outer s H E hr => ⟨_,
      (pss_cons (ps_set (i := 1) sc__law_built.nd rfl (Or.inl rfl) (pe_cl c__law_made hr (by decide) pass0 rfl (pa_cons (pe_dget (by exact hu_of hr) (pv 0) pe_str (fun _ _ => rfl)) pa_nil)))
        (pss_one (ps_ret (pe_clIN ciN_Scene hr (by decide) pass0 rfl (pa_cons (pv 1) (pa_cons (pe_callTy call_list_of (by rfl) B.list (by decide +kernel) (pa_cons (pe_dget (by exact hu_of hr) (pv 0) pe_str (fun _ _ => rfl)) pa_nil)) (pa_cons (pe_callTy call_list_of (by rfl) B.list (by decide +kernel) (pa_cons (pe_dget (by exact hu_of hr) (pv 0) pe_str (fun _ _ => rfl)) pa_nil)) pa_nil))) (pk_cons (pe_dget (by exact hu_of hr) (pv 0) pe_str (fun _ _ => rfl)) (pk_cons (pe_dget (by exact hu_of hr) (pv 0) pe_str (fun _ _ => rfl)) pk_nil)))))), ?_⟩)
    try dsimp only [L3.cxK, L3.cxKX]
    rintro Rs M k X ⟨rfl, rooms, posts, size, r, rfl, dr, r8, p5, s6, q⟩
    (repeat' decreasing_trivial_pre_omega)
    refine ⟨(r.ns, r.ds, r.ss), leS_rfl, house_8 dr.ho r8, ?_⟩
    (repeat' decreasing_trivial_pre_omega)
    refine ev_makeN (gR := fun a b => a ++ b) (fun S R Rs Zs v vs zs h1 h2 h3 => ⟨h1, h2.app h3⟩) ?_
    (repeat' decreasing_trivial_pre_omega)
    refine ⟨_, leS_cons (fun _ _ h => h) (leS_cons seq_l (leS_cons seq_l leS_rfl)), builtOf r, rfl, built_new dr r8 p5 s6, fun T per => ?_⟩
    exact q T per
    )) only [↓bx_true]

abbrev s__law_begin : Stmt := top 59
theorem sc__law_begin : FnScope ["_law_box_here", "_law_beat"] ["_law_box_here"] (defScope s__law_begin) := ⟨rfl, rfl, rfl, by decide +kernel, rfl, by decide +kernel, by decide +kernel⟩
abbrev ts__law_begin (K : PySem.W.Frag) : TSp := boxK fun Rs q => Rs = [] ∧ ∀ b : Option Int, (∀ i, b = some i → -1000000000 ≤ i ∧ i ≤ 1000000000) → q (iOpt b)
theorem ok__law_begin (B : Bt mg) (c__law_of : Cl P w K mg base CX0 2 "_law_of" (ts__law_of K) []) (c__law_draw : Cl P w K mg base CX0 1 "_law_draw" (ts__law_draw K) []) {f : Addr} {fd : FuncData} (d : Df K mg "_law_begin" s__law_begin ["_law_box_here"] f fd) : Cl P w K mg base CX0 3 "_law_begin" (ts__law_begin K) [] := by
  refine bx_of ?_
  simp (disch := with_unfolding_all (
    refine cl_of d (okT (kk := 2) d.fn sc__law_begin (fun Rs M k X h => by obtain ⟨b, _, rfl, _, rfl, _⟩ := h; rfl) fun cdv A outer s H E hr => ⟨_,
      (pss_cons (ps_set (i := 1) sc__law_begin.nd rfl (Or.inl rfl) (pe_op op_mul (pe_cl c__law_of hr (by decide) pass0 rfl (pa_cons (pv 0) (pa_cons (pe_lst (pa_cons (pe_un un_neg pe_int) (pa_cons pe_int pa_nil))) pa_nil))) (pe_cl c__law_draw hr (by decide) pass0 rfl (pa_cons (pv 0) (pa_cons (pe_ix ix_list (pe_lst (pa_cons pe_int (pa_cons (pe_op op_pow pe_int pe_int) pa_nil))) (pe_cl c__law_draw hr (by decide) pass0 rfl (pa_cons (pv 0) (pa_cons pe_int pa_nil))) (fun _ _ => rfl)) pa_nil)))))
        (pss_one (ps_ret (pe_cl c__law_of hr (by decide) pass0 rfl (pa_cons (pv 0) (pa_cons (pe_lst (pa_cons pe_non (pa_cons pe_non (pa_cons (pv 1) (pa_cons (pv 1) (pa_cons (pv 1) pa_nil)))))) pa_nil)))))), ?_⟩)
    try dsimp only [L3.cxK, L3.cxKX]
    rintro Rs M k X ⟨b, _, rfl, rfl, rfl, q⟩
    (repeat' decreasing_trivial_pre_omega)
    refine k_map (l := [-1, 1]) (f := iInt) fun s1 hs1 => ?_
    have bs : s1 = -1 ∨ s1 = 1 := by simpa using hs1
    (repeat' decreasing_trivial_pre_omega)
    intro rw1 hrw1
    have hr2 : rw1 < 2 := by omega
    rw [show [iInt 50, iInt (10 ^ Int.toNat 9)] = ([50, 1000000000] : List Int).map iInt from rfl]
    refine o_ixN (l := [50, 1000000000]) (g := iInt) rw1 rfl (by simpa using hr2) _ ?_
    have hn : 0 < ([50, 1000000000] : List Int)[rw1]'(by simpa using hr2) ∧ ([50, 1000000000] : List Int)[rw1]'(by simpa using hr2) ≤ 1000000000 := by
      rcases (show rw1 = 0 ∨ rw1 = 1 by omega) with h | h <;> simp [h]
    generalize ([50, 1000000000] : List Int)[rw1]'(by simpa using hr2) = n at hn
    (repeat' decreasing_trivial_pre_omega)
    intro d d0
    have hb : -1000000000 ≤ s1 * (d : Int) ∧ s1 * (d : Int) ≤ 1000000000 := by rcases bs with rfl | rfl <;> omega
    (repeat' decreasing_trivial_pre_omega)
    refine k_map (l := [none, none, some (s1 * (d : Int)), some (s1 * (d : Int)), some (s1 * (d : Int))]) (f := iOpt) fun b hb2 => ?_
    refine q b fun i e => ?_
    subst e
    simp only [List.mem_cons, List.not_mem_nil, or_false, Option.some.injEq, reduceCtorEq, false_or, or_self] at hb2
    subst hb2
    exact hb
    )) only [↓bx_true]

abbrev s__law_some : Stmt := top 58
theorem sc__law_some : FnScope ["_law_box_here", "_law_rooms", "_law_most_now", "_law_k"] ["_law_box_here", "_law_rooms", "_law_most_now"] (defScope s__law_some) := ⟨rfl, rfl, rfl, by decide +kernel, rfl, by decide +kernel, by decide +kernel⟩
abbrev ts__law_some (K : PySem.W.Frag) : TSp := boxK fun Rs q => ∃ rooms : List Str, ∃ m : Nat, Rs = [iLst (rooms.map aStr), iInt m] ∧ 0 < rooms.length ∧ rooms.length ≤ 8 ∧ m ≤ 8 ∧ ∀ zs : List Str, (∀ z ∈ zs, z ∈ rooms) → zs.length ≤ m → q (iLst (zs.map aStr))
theorem ok__law_some (B : Bt mg) (c__law_draw : Cl P w K mg base CX0 1 "_law_draw" (ts__law_draw K) []) (c__law_of : Cl P w K mg base CX0 2 "_law_of" (ts__law_of K) []) {f : Addr} {fd : FuncData} (d : Df K mg "_law_some" s__law_some ["_law_box_here", "_law_rooms", "_law_most_now"] f fd) : Cl P w K mg base CX0 3 "_law_some" (ts__law_some K) [] := by
  refine bx_of ?_
  simp (disch := with_unfolding_all (
    refine cl_of d (okT (kk := 2) d.fn sc__law_some (fun Rs M k X h => by obtain ⟨b, _, rfl, _, _, _, rfl, _⟩ := h; rfl) fun cdv A outer s H E hr => ⟨_,
      (pss_one (ps_ret (pe_lc (own := [("_law_k", 3)]) rfl sc__law_some.nd (pi_range1 (by rfl) B.range (pa_cons (pe_cl c__law_draw hr (by decide) pass0 rfl (pa_cons (pv 0) (pa_cons (pe_op op_add (pv 2) pe_int) pa_nil))) pa_nil)) (blkOk_by (own := [("_law_k", 3)]) (N := ["_law_box_here", "_law_rooms", "_law_most_now", "_law_k"]) (sc := defScope s__law_some) (by decide +kernel)) (fun _ _ _ _ _ => (pg_name (i := 3) sc__law_some.nd rfl (by first | exact Or.inl rfl | exact Or.inr rfl))) (fun _ _ _ _ _ => pts_nil) (fun _ _ _ _ _ => (pe_cl c__law_of hr (by decide) pass0 rfl (pa_cons (pv 0) (pa_cons (pv 1) pa_nil))))))), ?_⟩)
    try dsimp only [L3.cxK, L3.cxKX]
    rintro Rs M k X ⟨b, _, rfl, rfl, rooms, m, rfl, r0, r8, m8, q⟩
    (repeat' decreasing_trivial_pre_omega)
    refine ev_lcRngD (e := aStr) (P := fun _ z => z ∈ rooms) (by decide) ?_
    (repeat' decreasing_trivial_pre_omega)
    intro n hn
    (repeat' decreasing_trivial_pre_omega)
    refine ⟨n, rfl, by omega, fun i hi k' hk => ?_, fun l hl hp => ?_⟩
    · (repeat' decreasing_trivial_pre_omega)
      refine k_map fun z hz => hk z hz
    · refine q l (fun z hz => ?_) (by omega)
      obtain ⟨i, hi⟩ := List.getElem?_of_mem hz
      exact hp i z hi
    )) only [↓bx_true]

abbrev s__law_beats : Stmt := top 60
theorem sc__law_beats : FnScope ["_law_told"] ["_law_told"] (defScope s__law_beats) := ⟨rfl, rfl, rfl, by decide +kernel, rfl, by decide +kernel, by decide +kernel⟩
abbrev ts__law_beats (K : PySem.W.Frag) : TSp := pureK fun Rs q => ∃ R o, Rs = [R] ∧ Beats K R o ∧ q (iOpt o)
theorem ok__law_beats (B : Bt mg) {f : Addr} {fd : FuncData} (d : Df K mg "_law_beats" s__law_beats ["_law_told"] f fd) : Cl P w K mg base CX0 1 "_law_beats" (ts__law_beats K) [] := by
  refine bx_of ?_
  simp (disch := with_unfolding_all (
    refine cl_of d (okT (kk := 0) d.fn sc__law_beats (fun Rs M k X h => by obtain ⟨_, _, _, rfl, _⟩ := h; rfl) fun cdv A outer s H E hr => ⟨_,
      (pss_one (ps_ret (pe_ifExp (pt_cmpR op_eq (pe_ix ix_tup (pv 0) pe_int (fun _ _ => rfl)) pe_str (nomark _)) (pe_op op_sub (pe_callB call_len (by rfl) B.len (by decide +kernel) (pa_cons (pe_ix ix_tup (pv 0) pe_int (fun _ _ => rfl)) pa_nil)) pe_int) pe_non))), ?_⟩)
    try dsimp only [L3.cxK, L3.cxKX]
    rintro Rs M k X ⟨rfl, _, _, rfl, ⟨i, l, rfl, rfl⟩ | ⟨R, rfl, rfl⟩, q⟩
    · (repeat' decreasing_trivial_pre_omega)
      rw [show decide (("way" : Str) = "way") = true from by decide +kernel]
      (repeat' decreasing_trivial_pre_omega)
      rw [List.length_map]
      exact q
    · (repeat' decreasing_trivial_pre_omega)
      rw [show decide (("closed" : Str) = "way") = false from by decide +kernel]
      (repeat' decreasing_trivial_pre_omega)
    )) only [↓bx_true]

abbrev s_Scene_house : Stmt := inClass (top 45) 8
theorem sc_Scene_house : FnScope ["self"] ["self"] (defScope s_Scene_house) := ⟨rfl, rfl, rfl, by decide +kernel, rfl, by decide +kernel, by decide +kernel⟩
abbrev ts_Scene_house (K : PySem.W.Frag) (C_House : Addr) (C_Scene : Addr) : TSp := methK C_Scene fun M fs Rs q => ∃ s Rr Rg, fs = sceneF K C_House s Rr Rg ∧ Rs = [] ∧ q (iHouse C_House s.ns s.ds s.ss)
theorem ok_Scene_house (B : Bt mg) {C_House : Addr} (T_House : Txt_House K mg C_House) {C_Scene : Addr} (T_Scene : Txt_Scene K mg C_Scene) {f : Addr} {fd : FuncData} (d : Fun K "house" "Scene.house" s_Scene_house f fd) (hm : Meth K C_Scene "house" f) : ClM P w K mg base CX0 1 C_Scene "house" (ts_Scene_house K C_House C_Scene) [] := by
  refine bx_of ?_
  simp (disch := with_unfolding_all (
    refine ⟨T_Scene.cl, f, fd, ["self"], [], ?_, hm, d.binds fun _ _ _ _ _ _ us hl => match us, hl with | [_], _ => rfl, .nil⟩
    refine (okT (kk := 0) d sc_Scene_house (fun Rs M k X h => by obtain ⟨_, _, _, rfl, _, _, _, _, _, rfl, _⟩ := h; rfl) fun cdv A outer s H E hr => ⟨_,
      (pss_one (ps_ret (pe_fld (pv 0) (by rfl)))), ?_⟩)
    try dsimp only [L3.cxK, L3.cxKX]
    rintro Rs M k X ⟨R, _, _, rfl, ho, s, Rr, Rg, rfl, rfl, q⟩
    (repeat' decreasing_trivial_pre_omega)
    )) only [↓bx_true]

abbrev s_need_rooms : Stmt := top 23
theorem sc_need_rooms : FnScope ["scene", "rooms", "room"] ["scene", "rooms"] (defScope s_need_rooms) := ⟨rfl, rfl, rfl, by decide +kernel, rfl, by decide +kernel, by decide +kernel⟩
abbrev ts_need_rooms (K : PySem.W.Frag) (C_House : Addr) (C_Scene : Addr) : TSp := pureK fun Rs q => ∃ s Rr Rg, ∃ zs : List Str, Rs = [iObj C_Scene (sceneF K C_House s Rr Rg), aSeq K (zs.map aStr)] ∧ (∀ z ∈ zs, z ∈ s.ns) ∧ q iNon
theorem ok_need_rooms (B : Bt mg) {C_House : Addr} (T_House : Txt_House K mg C_House) {C_Scene : Addr} (T_Scene : Txt_Scene K mg C_Scene) (cm_House_need_room : ClM P w K mg base CX0 1 C_House "need_room" (ts_House_need_room K C_House) []) (cm_Scene_house : ClM P w K mg base CX0 1 C_Scene "house" (ts_Scene_house K C_House C_Scene) []) {f : Addr} {fd : FuncData} (d : Df K mg "need_rooms" s_need_rooms ["scene", "rooms"] f fd) : Cl P w K mg base CX0 2 "need_rooms" (ts_need_rooms K C_House C_Scene) [] := by
  refine bx_of ?_
  simp (disch := with_unfolding_all (
    refine cl_of d (okT (kk := 1) d.fn sc_need_rooms (fun Rs M k X h => by obtain ⟨_, _, _, _, _, rfl, _⟩ := h; rfl) fun cdv A outer s H E hr => ⟨_,
      (pss_one (ps_for PassesOwn.never rfl (pi_seq (pv 1)) (pg_name (i := 2) sc_need_rooms.nd rfl (Or.inl rfl)) (pss_one (ps_expr (pe_clM cm_House_need_room hr (by decide) pass0 (pe_clM0 cm_Scene_house hr (by decide) pass0 (pv 0)) (pa_cons (pv 2) pa_nil)))))), ?_⟩)
    try dsimp only [L3.cxK, L3.cxKX]
    rintro Rs M k X ⟨rfl, s, Rr, Rg, zs, rfl, hz, q⟩
    refine st_forG Unit ?_
    refine tip_seq (ep_var rfl) _ _ ?_
    refine ⟨fun _ _ => True, fun _ => [some (iObj C_Scene (sceneF K C_House s Rr Rg)), some (aSeq K (zs.map aStr)), none], fun _ => [], lj () True.intro (by (repeat' decreasing_trivial_pre_omega)) rfl, ?_, ?_⟩
    · rintro i r _ hi hr _
      rw [List.length_map] at hi
      rw [List.getElem?_map, List.getElem?_eq_getElem hi] at hr
      cases hr
      have hm := hz _ (List.getElem_mem hi)
      generalize zs[i] = z at hm
      try dsimp only
      (repeat' decreasing_trivial_pre_omega)
      refine ⟨_, leS_rfl, s, Rr, Rg, rfl, rfl, ?_⟩
      (repeat' decreasing_trivial_pre_omega)
      refine ⟨_, leS_rfl, z, _, s.ns, rfl, rfl, .inl rfl, hm, ?_⟩
      (repeat' decreasing_trivial_pre_omega)
      exact lj () True.intro (by (repeat' decreasing_trivial_pre_omega)) rfl
    · rintro _ Γ1 _ w
      exact q
    )) only [↓bx_true]

abbrev s_need_beat : Stmt := top 17
theorem sc_need_beat : FnScope ["beat"] ["beat"] (defScope s_need_beat) := ⟨rfl, rfl, rfl, by decide +kernel, rfl, by decide +kernel, by decide +kernel⟩
abbrev ts_need_beat (K : PySem.W.Frag) : TSp := pureTs (fun b : Int => [iInt b]) (fun b => -1000000000 ≤ b ∧ b ≤ 1000000000) (fun _ => iNon)
theorem ok_need_beat (B : Bt mg) (g_FARTHEST : ∃ u, mg "FARTHEST" = some u ∧ RelV (.int 1000000000) u) {f : Addr} {fd : FuncData} (d : Df K mg "need_beat" s_need_beat ["beat"] f fd) : Cl P w K mg base CX0 1 "need_beat" (ts_need_beat K) [] := by
  refine bx_of ?_
  simp (disch := with_unfolding_all (
    refine cl_of d (okT (kk := 0) d.fn sc_need_beat (fun Rs M k X h => by obtain ⟨_, rfl, _⟩ := h; rfl) fun cdv A outer s H E hr => ⟨_,
      (pss_one (ps_if (pt_not (pt_chain op_le op_le (pe_un un_neg (pe_gc rfl g_FARTHEST)) (pv 0) (pe_gc rfl g_FARTHEST))) (pss_one ps_never) pss_nil)), ?_⟩)
    try dsimp only [L3.cxK, L3.cxKX]
    rintro Rs M k X ⟨b, rfl, ⟨h1, h2⟩, rfl, q⟩
    try dsimp only at h1 h2 q
    (repeat' decreasing_trivial_pre_omega)
    refine ite_b (fun _ => ?_) (fun h => by simp at h; omega)
    (repeat' decreasing_trivial_pre_omega)
    refine ite_b (fun h => by simp at h; omega) (fun _ => ?_)
    (repeat' decreasing_trivial_pre_omega)
    )) only [↓bx_true]

abbrev s_need_ways : Stmt := top 24
theorem sc_need_ways : FnScope ["scene", "starts", "goals", "begin"] ["scene", "starts", "goals", "begin"] (defScope s_need_ways) := ⟨rfl, rfl, rfl, by decide +kernel, rfl, by decide +kernel, by decide +kernel⟩
abbrev ts_need_ways (K : PySem.W.Frag) (C_House : Addr) (C_Scene : Addr) : TSp := pureK fun Rs q => ∃ s Rr Rg, ∃ zs ys : List Str, ∃ b : Option Int, Rs = [iObj C_Scene (sceneF K C_House s Rr Rg), aSeq K (zs.map aStr), aSeq K (ys.map aStr), iOpt b] ∧ (∀ z ∈ zs, z ∈ s.ns) ∧ (∀ z ∈ ys, z ∈ s.ns) ∧ (∀ i, b = some i → -1000000000 ≤ i ∧ i ≤ 1000000000) ∧ q iNon
theorem ok_need_ways (B : Bt mg) {C_House : Addr} (T_House : Txt_House K mg C_House) {C_Scene : Addr} (T_Scene : Txt_Scene K mg C_Scene) (c_need_rooms : Cl P w K mg base CX0 2 "need_rooms" (ts_need_rooms K C_House C_Scene) []) (c_need_beat : Cl P w K mg base CX0 1 "need_beat" (ts_need_beat K) []) {f : Addr} {fd : FuncData} (d : Df K mg "need_ways" s_need_ways ["scene", "starts", "goals", "begin"] f fd) : Cl P w K mg base CX0 3 "need_ways" (ts_need_ways K C_House C_Scene) [] := by
  refine bx_of ?_
  simp (disch := with_unfolding_all (
    refine cl_of d (okT (kk := 2) d.fn sc_need_ways (fun Rs M k X h => by obtain ⟨_, _, _, _, _, _, _, rfl, _⟩ := h; rfl) fun cdv A outer s H E hr => ⟨_,
      (pss_cons (ps_expr (pe_cl c_need_rooms hr (by decide) pass0 rfl (pa_cons (pv 0) (pa_cons (pv 1) pa_nil))))
        (pss_cons (ps_expr (pe_cl c_need_rooms hr (by decide) pass0 rfl (pa_cons (pv 0) (pa_cons (pv 2) pa_nil))))
        (pss_one (ps_if (pt_cmpR op_notN (pv 3) pe_non (nomark _)) (pss_one (ps_expr (pe_cl c_need_beat hr (by decide) pass0 rfl (pa_cons (pv 3) pa_nil)))) pss_nil)))), ?_⟩)
    try dsimp only [L3.cxK, L3.cxKX]
    rintro Rs M k X ⟨rfl, s, Rr, Rg, zs, ys, b, rfl, hz, hy, hb, q⟩
    (repeat' decreasing_trivial_pre_omega)
    refine ⟨_, leS_rfl, s, Rr, Rg, zs, rfl, hz, ?_⟩
    (repeat' decreasing_trivial_pre_omega)
    refine ⟨_, leS_rfl, s, Rr, Rg, ys, rfl, hy, ?_⟩
    (repeat' decreasing_trivial_pre_omega)
    cases b with
    | none =>
      refine o_notN true (fun S v h => by cases h; rfl) _ ?_
      (repeat' decreasing_trivial_pre_omega)
    | some i =>
      refine o_notN false (fun S v h => by cases h; rfl) _ ?_
      (repeat' decreasing_trivial_pre_omega)
      refine ⟨i, leS_rfl, hb i rfl, ?_⟩
      (repeat' decreasing_trivial_pre_omega)
    )) only [↓bx_true]

abbrev s_Scene_crossed : Stmt := inClass (top 45) 20
theorem sc_Scene_crossed : FnScope ["self", "a", "b", "beat", "post"] ["self", "a", "b", "beat"] (defScope s_Scene_crossed) := ⟨rfl, rfl, rfl, by decide +kernel, rfl, by decide +kernel, by decide +kernel⟩
abbrev ts_Scene_crossed (K : PySem.W.Frag) (C_House : Addr) (C_Scene : Addr) : TSp := methK C_Scene fun M fs Rs q => ∃ s Rr Rg a b t, fs = sceneF K C_House s Rr Rg ∧ Rs = [aStr a, aStr b, iInt t] ∧ ScOk s ∧ q (iBl (crossOf s a b t))
theorem ok_Scene_crossed (B : Bt mg) {C_House : Addr} (T_House : Txt_House K mg C_House) {C_Scene : Addr} (T_Scene : Txt_Scene K mg C_Scene) (cm_Scene_room_now : ClM P w K mg base CX0 2 C_Scene "room_now" (ts_Scene_room_now K C_House C_Scene) []) {f : Addr} {fd : FuncData} (d : Fun K "crossed" "Scene.crossed" s_Scene_crossed f fd) (hm : Meth K C_Scene "crossed" f) : ClM P w K mg base CX0 3 C_Scene "crossed" (ts_Scene_crossed K C_House C_Scene) [] := by
  refine bx_of ?_
  simp (disch := with_unfolding_all (
    refine ⟨T_Scene.cl, f, fd, ["self", "a", "b", "beat"], [], ?_, hm, d.binds fun _ _ _ _ _ _ us hl => match us, hl with | [_, _, _, _], _ => rfl, .nil⟩
    refine (okT (kk := 2) d sc_Scene_crossed (fun Rs M k X h => by obtain ⟨_, _, _, rfl, _, _, _, _, _, _, _, _, rfl, _⟩ := h; rfl) fun cdv A outer s H E hr => ⟨_,
      (pss_one (ps_ret (pe_and (pe_cmpR op_ne (pv 1) (pv 2) (nomark _)) (pe_one (pe_callB (cr_any rfl) (by rfl) B.any (by decide +kernel) (pa_cons (pe_lc (own := [("post", 4)]) rfl sc_Scene_crossed.nd (pi_keys (pe_fld (pv 0) (by rfl))) (blkOk_by (own := [("post", 4)]) (N := ["self", "a", "b", "beat", "post"]) (sc := defScope s_Scene_crossed) (by decide +kernel)) (fun _ _ _ _ _ => (pg_name (i := 4) sc_Scene_crossed.nd rfl (by first | exact Or.inl rfl | exact Or.inr rfl))) (fun _ _ _ _ _ => pts_nil) (fun _ _ _ _ _ => (pe_and (pe_cmpR op_eq (pe_clM cm_Scene_room_now hr (by decide) pass0 (pv 0) (pa_cons (pv 4) (pa_cons (pe_op op_sub (pv 3) pe_int) pa_nil))) (pv 2) (nomark _)) (pe_one (pe_cmpR op_eq (pe_clM cm_Scene_room_now hr (by decide) pass0 (pv 0) (pa_cons (pv 4) (pa_cons (pv 3) pa_nil))) (pv 1) (nomark _)))))) pa_nil)))))), ?_⟩)
    try dsimp only [L3.cxK, L3.cxKX]
    rintro Rs M k X ⟨R, _, _, rfl, ho, s, Rr, Rg, a, b, t, rfl, rfl, ok, q⟩
    have p5 := ok.pl
    (repeat' decreasing_trivial_pre_omega)
    refine ite_b (fun c => ?_) (fun c => ?_)
    · (repeat' decreasing_trivial_pre_omega)
      refine Ep.ev (ep_lcKeys (l := s.ps) (f := fun p : Post => p.1) (g := roundR K) (e' := fun p : Post => iBl (hit a b t p)) (by (repeat' decreasing_trivial_pre_omega)) (by omega) (by decide) (fun p hp => ?_)) ?_
      · (repeat' decreasing_trivial_pre_omega)
        refine ⟨_, leS_rfl, s, Rr, Rg, p, t - 1, rfl, rfl, ok, hp, ?_⟩
        (repeat' decreasing_trivial_pre_omega)
        refine ite_b (fun c1 => ?_) (fun c1 => ?_)
        · (repeat' decreasing_trivial_pre_omega)
          refine ⟨_, leS_rfl, s, Rr, Rg, p, t, rfl, rfl, ok, hp, ?_⟩
          (repeat' decreasing_trivial_pre_omega)
          have e : hit a b t p = decide (roomAt p.2.1 (t - p.2.2) = a) := by unfold hit; rw [c1, Bool.true_and]
          rw [← e]
          assumption
        · have e : hit a b t p = false := by unfold hit; rw [c1, Bool.false_and]
          rw [← e]
          assumption
      rw [show (s.ps.map fun p : Post => iBl (hit a b t p)) = (s.ps.map (hit a b t)).map iBl by rw [List.map_map]; rfl]
      (repeat' decreasing_trivial_pre_omega)
      have e : crossOf s a b t = (s.ps.map (hit a b t)).any id := by unfold crossOf; rw [c, Bool.true_and]
      rw [← e]
      exact q
    · have e : crossOf s a b t = false := by unfold crossOf; rw [c, Bool.false_and]
      rw [← e]
      exact q
    )) only [↓bx_true]

abbrev s_Scene_dark : Stmt := inClass (top 45) 18
theorem sc_Scene_dark : FnScope ["self", "room", "beat"] ["self", "room", "beat"] (defScope s_Scene_dark) := ⟨rfl, rfl, rfl, by decide +kernel, rfl, by decide +kernel, by decide +kernel⟩
abbrev ts_Scene_dark (K : PySem.W.Frag) (C_House : Addr) (C_Scene : Addr) : TSp := methK C_Scene fun M fs Rs q => ∃ s T Rr z b, fs = sceneF K C_House s Rr (iLst (glowR s T)) ∧ Rs = [aStr z, iInt b] ∧ 0 < T ∧ q (iBl (!decide (z ∈ litOf s (rowZ s T b) (b % (T : Int)))))
theorem ok_Scene_dark (B : Bt mg) {C_House : Addr} (T_House : Txt_House K mg C_House) {C_Scene : Addr} (T_Scene : Txt_Scene K mg C_Scene) {f : Addr} {fd : FuncData} (d : Fun K "dark" "Scene.dark" s_Scene_dark f fd) (hm : Meth K C_Scene "dark" f) : ClM P w K mg base CX0 1 C_Scene "dark" (ts_Scene_dark K C_House C_Scene) [] := by
  refine bx_of ?_
  simp (disch := with_unfolding_all (
    refine ⟨T_Scene.cl, f, fd, ["self", "room", "beat"], [], ?_, hm, d.binds fun _ _ _ _ _ _ us hl => match us, hl with | [_, _, _], _ => rfl, .nil⟩
    refine (okT (kk := 0) d sc_Scene_dark (fun Rs M k X h => by obtain ⟨_, _, _, rfl, _, _, _, _, _, _, _, rfl, _⟩ := h; rfl) fun cdv A outer s H E hr => ⟨_,
      (pss_one (ps_ret (pe_cmpR op_notIn_seq (pv 1) (pe_ix ix_list (pe_fld (pv 0) (by rfl)) (pe_op op_mod (pv 2) (pe_callB call_len (by rfl) B.len (by decide +kernel) (pa_cons (pe_fld (pv 0) (by rfl)) pa_nil))) (fun _ _ => rfl)) (by rfl)))), ?_⟩)
    try dsimp only [L3.cxK, L3.cxKX]
    rintro Rs M k X ⟨R, _, _, rfl, ho, s, T, Rr, z, b, rfl, rfl, hT, q⟩
    (repeat' decreasing_trivial_pre_omega)
    refine glow_ix b hT _ ?_
    (repeat' decreasing_trivial_pre_omega)
    )) only [↓bx_true]

abbrev s_Scene_onward : Stmt := inClass (top 45) 22
theorem sc_Scene_onward : FnScope ["self", "room", "beat", "some", "other"] ["self", "room", "beat"] (defScope s_Scene_onward) := ⟨rfl, rfl, rfl, by decide +kernel, rfl, by decide +kernel, by decide +kernel⟩
abbrev ts_Scene_onward (K : PySem.W.Frag) (C_House : Addr) (C_Scene : Addr) : TSp := methK C_Scene fun M fs Rs q => ∃ s T Rr z t, fs = sceneF K C_House s Rr (iLst (glowR s T)) ∧ Rs = [aStr z, iInt t] ∧ ScOk s ∧ Per s T ∧ z ∈ s.ns ∧ q (iLst ((onwardOf s T z t).map aStr))
theorem ok_Scene_onward (B : Bt mg) {C_House : Addr} (T_House : Txt_House K mg C_House) {C_Scene : Addr} (T_Scene : Txt_Scene K mg C_Scene) (cm_House_rooms : ClM P w K mg base CX0 1 C_House "rooms" (ts_House_rooms K C_House) []) (cm_House_at_hand : ClM P w K mg base CX0 3 C_House "at_hand" (ts_House_at_hand K C_House) []) (cm_Scene_crossed : ClM P w K mg base CX0 3 C_Scene "crossed" (ts_Scene_crossed K C_House C_Scene) []) (cm_Scene_dark : ClM P w K mg base CX0 1 C_Scene "dark" (ts_Scene_dark K C_House C_Scene) []) {f : Addr} {fd : FuncData} (d : Fun K "onward" "Scene.onward" s_Scene_onward f fd) (hm : Meth K C_Scene "onward" f) : ClM P w K mg base CX0 4 C_Scene "onward" (ts_Scene_onward K C_House C_Scene) [] := by
  refine bx_of ?_
  simp (disch := with_unfolding_all (
    refine ⟨T_Scene.cl, f, fd, ["self", "room", "beat"], [], ?_, hm, d.binds fun _ _ _ _ _ _ us hl => match us, hl with | [_, _, _], _ => rfl, .nil⟩
    refine (okT (kk := 3) d sc_Scene_onward (fun Rs M k X h => by obtain ⟨_, _, _, rfl, _, _, _, _, _, _, _, rfl, _⟩ := h; rfl) fun cdv A outer s H E hr => ⟨_,
      (pss_cons (ps_setLc (i := 3) (own := [("other", 4)]) rfl sc_Scene_onward.nd rfl rfl (sw_true rfl rfl rfl (by decide +kernel)) (pi_list (pe_clM0 cm_House_rooms hr (by decide) pass0 (pe_fld (pv 0) (by rfl)))) (blkOk_by (own := [("other", 4)]) (N := ["self", "room", "beat", "some", "other"]) (sc := defScope s_Scene_onward) (by decide +kernel)) (fun _ _ _ _ _ => (pg_name (i := 4) sc_Scene_onward.nd rfl (by first | exact Or.inl rfl | exact Or.inr rfl))) (fun _ _ _ _ _ => (pts_one (pt_val (pe_clM cm_House_at_hand hr (by decide) pass0 (pe_fldK (K := K) rfl (pv 0) (by rfl)) (pa_cons (pv 1) (pa_cons (pv 4) pa_nil)))))) (fun _ _ _ _ _ => (pv 4)))
        (pss_one (ps_ret (pe_lc (own := [("other", 4)]) rfl sc_Scene_onward.nd (pi_list (pv 3)) (blkOk_by (own := [("other", 4)]) (N := ["self", "room", "beat", "some", "other"]) (sc := defScope s_Scene_onward) (by decide +kernel)) (fun _ _ _ _ _ => (pg_name (i := 4) sc_Scene_onward.nd rfl (by first | exact Or.inl rfl | exact Or.inr rfl))) (fun _ _ _ _ _ => (pts_one (PW.pt (pw_and (pt_val (pe_clM cm_Scene_dark hr (by decide) pass0 (pv 0) (pa_cons (pv 4) (pa_cons (pe_op op_add (pv 2) pe_int) pa_nil)))) (pw_and1 (pt_not (pt_val (pe_clM cm_Scene_crossed hr (by decide) pass0 (pv 0) (pa_cons (pv 1) (pa_cons (pv 4) (pa_cons (pe_op op_add (pv 2) pe_int) pa_nil))))))))))) (fun _ _ _ _ _ => (pv 4)))))), ?_⟩)
    try dsimp only [L3.cxK, L3.cxKX]
    rintro Rs M k X ⟨R, _, _, rfl, ho, s, T, Rr, z, t, rfl, rfl, ok, per, hz, q⟩
    have n8 := ok.nl
    (repeat' decreasing_trivial_pre_omega)
    refine Ep.ev (ep_lcF (l := s.ns) (e := aStr) (p := fun y => decide ((z, y) ∈ s.ds) || decide (z = y)) ?_ (by omega) (by decide) (fun y hy => ?_) (fun y hy hp => ?_)) ?_
    · (repeat' decreasing_trivial_pre_omega)
      refine ⟨_, leS_rfl, s.ns, s.ds, s.ss, rfl, rfl, ?_⟩
      (repeat' decreasing_trivial_pre_omega)
    · (repeat' decreasing_trivial_pre_omega)
      refine ⟨_, leS_rfl, z, y, s.ns, s.ds, s.ss, rfl, rfl, hz, hy, ?_⟩
      (repeat' decreasing_trivial_pre_omega)
    · (repeat' decreasing_trivial_pre_omega)
    have le : (s.ns.filter fun y => decide ((z, y) ∈ s.ds) || decide (z = y)).length ≤ 8 := Nat.le_trans (List.length_filter_le _ _) n8
    (repeat' decreasing_trivial_pre_omega)
    refine ep_lcF (l := s.ns.filter fun y => decide ((z, y) ∈ s.ds) || decide (z = y)) (e := aStr) (p := fun y => (!decide (y ∈ litOf s (rowZ s T (t + 1)) ((t + 1) % (T : Int)))) && !crossOf s z y (t + 1)) (by (repeat' decreasing_trivial_pre_omega)) (by omega) (by decide) (fun y hy => ?_) (fun y hy hp => ?_) _ _ q
    · (repeat' decreasing_trivial_pre_omega)
      · refine ⟨_, leS_rfl, s, T, Rr, y, t + 1, rfl, rfl, per.pos, ?_⟩
        (repeat' decreasing_trivial_pre_omega)
      · refine ⟨_, leS_rfl, s, Rr, _, z, y, t + 1, rfl, rfl, ok, ?_⟩
        (repeat' decreasing_trivial_pre_omega)
    · (repeat' decreasing_trivial_pre_omega)
    )) only [↓bx_true]

abbrev s_Scene_wheel : Stmt := inClass (top 45) 24
theorem sc_Scene_wheel : FnScope ["self"] ["self"] (defScope s_Scene_wheel) := ⟨rfl, rfl, rfl, by decide +kernel, rfl, by decide +kernel, by decide +kernel⟩
abbrev ts_Scene_wheel (K : PySem.W.Frag) (C_House : Addr) (C_Scene : Addr) : TSp := methK C_Scene fun M fs Rs q => ∃ s T Rg, fs = sceneF K C_House s (iLst (rowsR K s T)) Rg ∧ Rs = [] ∧ q (iInt (T : Nat))
theorem ok_Scene_wheel (B : Bt mg) {C_House : Addr} (T_House : Txt_House K mg C_House) {C_Scene : Addr} (T_Scene : Txt_Scene K mg C_Scene) {f : Addr} {fd : FuncData} (d : Fun K "wheel" "Scene.wheel" s_Scene_wheel f fd) (hm : Meth K C_Scene "wheel" f) : ClM P w K mg base CX0 1 C_Scene "wheel" (ts_Scene_wheel K C_House C_Scene) [] := by
  refine bx_of ?_
  simp (disch := with_unfolding_all (
    refine ⟨T_Scene.cl, f, fd, ["self"], [], ?_, hm, d.binds fun _ _ _ _ _ _ us hl => match us, hl with | [_], _ => rfl, .nil⟩
    refine (okT (kk := 0) d sc_Scene_wheel (fun Rs M k X h => by obtain ⟨_, _, _, rfl, _, _, _, _, _, rfl, _⟩ := h; rfl) fun cdv A outer s H E hr => ⟨_,
      (pss_one (ps_ret (pe_callB call_len (by rfl) B.len (by decide +kernel) (pa_cons (pe_fld (pv 0) (by rfl)) pa_nil)))), ?_⟩)
    try dsimp only [L3.cxK, L3.cxKX]
    rintro Rs M k X ⟨R, _, _, rfl, ho, s, T, Rg, rfl, rfl, q⟩
    (repeat' decreasing_trivial_pre_omega)
    rw [show (rowsR K s T).length = T by simp [rowsR]]
    exact q
    )) only [↓bx_true]

abbrev s_cells_behind : Stmt := top 25
theorem sc_cells_behind : FnScope ["scene", "cell", "room", "rest", "other"] ["scene", "cell"] (defScope s_cells_behind) := ⟨rfl, rfl, rfl, by decide +kernel, rfl, by decide +kernel, by decide +kernel⟩
abbrev ts_cells_behind (K : PySem.W.Frag) (C_House : Addr) (C_Scene : Addr) : TSp := pureK fun Rs q => ∃ s T, ∃ c : Cell, Rs = [iObj C_Scene (sceneF K C_House s (iLst (rowsR K s T)) (iLst (glowR s T))), cellR c] ∧ ScOk s ∧ Per s T ∧ c.1 ∈ s.ns ∧ q (iLst ((succW s T c).map cellR))
theorem ok_cells_behind (B : Bt mg) {C_House : Addr} (T_House : Txt_House K mg C_House) {C_Scene : Addr} (T_Scene : Txt_Scene K mg C_Scene) (cm_Scene_onward : ClM P w K mg base CX0 4 C_Scene "onward" (ts_Scene_onward K C_House C_Scene) []) (cm_Scene_wheel : ClM P w K mg base CX0 1 C_Scene "wheel" (ts_Scene_wheel K C_House C_Scene) []) {f : Addr} {fd : FuncData} (d : Df K mg "cells_behind" s_cells_behind ["scene", "cell"] f fd) : Cl P w K mg base CX0 5 "cells_behind" (ts_cells_behind K C_House C_Scene) [] := by
  refine bx_of ?_
  simp (disch := with_unfolding_all (
    refine cl_of d (okT (kk := 4) d.fn sc_cells_behind (fun Rs M k X h => by obtain ⟨_, _, _, _, rfl, _⟩ := h; rfl) fun cdv A outer s H E hr => ⟨_,
      (pss_cons (ps_asg (pv 1) (pg_tup rfl (pgs_cons (pg_name (i := 2) sc_cells_behind.nd rfl (Or.inl rfl)) (pgs_cons (pg_name (i := 3) sc_cells_behind.nd rfl (Or.inr rfl)) pgs_nil))))
        (pss_one (ps_ret (pe_lc (own := [("other", 4)]) rfl sc_cells_behind.nd (pi_list (pe_clM cm_Scene_onward hr (by decide) pass0 (pv 0) (pa_cons (pv 2) (pa_cons (pv 3) pa_nil)))) (blkOk_by (own := [("other", 4)]) (N := ["scene", "cell", "room", "rest", "other"]) (sc := defScope s_cells_behind) (by decide +kernel)) (fun _ _ _ _ _ => (pg_name (i := 4) sc_cells_behind.nd rfl (by first | exact Or.inl rfl | exact Or.inr rfl))) (fun _ _ _ _ _ => pts_nil) (fun _ _ _ _ _ => (pe_tupK (pe_tup (pa_cons (pv 4) (pa_cons (pe_op op_mod (pe_op op_add (pv 3) pe_int) (pe_clM0 cm_Scene_wheel hr (by decide) pass0 (pv 0))) pa_nil))))))))), ?_⟩)
    try dsimp only [L3.cxK, L3.cxKX]
    rintro Rs M k X ⟨rfl, s, T, c, rfl, ok, per, hc, q⟩
    have n8 := ok.nl
    have T0 := per.pos
    have ol := onward_len s T c.1 c.2
    (repeat' decreasing_trivial_pre_omega)
    refine Ep.to (R := iLst ((onwardOf s T c.1 c.2).map fun y => cellR (y, (c.2 + 1) % (T : Int)))) (ep_lcM (l := onwardOf s T c.1 c.2) (e := aStr) (e' := fun y => cellR (y, (c.2 + 1) % (T : Int))) ?_ (by omega) (by decide) (fun y hy => ?_)) ?_ _ _ q
    · (repeat' decreasing_trivial_pre_omega)
      refine ⟨_, leS_rfl, s, T, _, c.1, c.2, rfl, rfl, ok, per, hc, ?_⟩
      (repeat' decreasing_trivial_pre_omega)
    · (repeat' decreasing_trivial_pre_omega)
      refine ⟨_, leS_rfl, s, T, _, rfl, rfl, ?_⟩
      (repeat' decreasing_trivial_pre_omega)
    · unfold succW
      rw [List.map_map]
      rfl
    )) only [↓bx_true]

abbrev s_gone_through : Stmt := top 27
theorem sc_gone_through : FnScope ["scene", "firsts", "goals", "ahead", "cell", "waiting", "at", "later"] ["scene", "firsts", "goals"] (defScope s_gone_through) := ⟨rfl, rfl, rfl, by decide +kernel, rfl, by decide +kernel, by decide +kernel⟩
abbrev ts_gone_through (K : PySem.W.Frag) (C_House : Addr) (C_Scene : Addr) : TSp := pureK fun Rs q => ∃ s T, ∃ fs : List Cell, ∃ gs : List Str, Rs = [iObj C_Scene (sceneF K C_House s (iLst (rowsR K s T)) (iLst (glowR s T))), iLst (fs.map cellR), iLst (gs.map aStr)] ∧ ScOk s ∧ Per s T ∧ (∀ c ∈ fs, c ∈ univW s T) ∧ fs.length ≤ 900000 ∧
  (∀ E n c p d, BInv (succW s T) fs (fun c => decide (c.1 ∈ gs)) E n → E = runE (succW s T) fs n → Calm (succW s T) fs (fun c => decide (c.1 ∈ gs)) n → E[n]? = some (c, p, d) → c.1 ∈ gs → q (aTup K [iDT (entR E), cellR c])) ∧ (∀ E n, BInv (succW s T) fs (fun c => decide (c.1 ∈ gs)) E n → E = runE (succW s T) fs n → Calm (succW s T) fs (fun c => decide (c.1 ∈ gs)) n → E.length ≤ n → q (aTup K [iDT (entR E), iNon]))
theorem ok_gone_through (B : Bt mg) {C_House : Addr} (T_House : Txt_House K mg C_House) {C_Scene : Addr} (T_Scene : Txt_Scene K mg C_Scene) (c_cells_behind : Cl P w K mg base CX0 5 "cells_behind" (ts_cells_behind K C_House C_Scene) []) {f : Addr} {fd : FuncData} (d : Df K mg "gone_through" s_gone_through ["scene", "firsts", "goals"] f fd) : Cl P w K mg base CX0 6 "gone_through" (ts_gone_through K C_House C_Scene) [] := by
  refine bx_of ?_
  simp (disch := with_unfolding_all (
    refine cl_of d (okT (kk := 5) d.fn sc_gone_through (fun Rs M k X h => by obtain ⟨_, _, _, _, _, rfl, _⟩ := h; rfl) fun cdv A outer s H E hr => ⟨_,
      (pss_cons (ps_setDcA (i := 3) (own := [("cell", 4)]) (o0 := .dT []) (.inr rfl) (by exact hu1_of hr) rfl sc_gone_through.nd rfl rfl (sw_dict rfl rfl rfl (by decide +kernel)) (pi_list (pv 1)) (blkOk_by (own := [("cell", 4)]) (N := ["scene", "firsts", "goals", "ahead", "cell", "waiting", "at", "later"]) (sc := defScope s_gone_through) (by decide +kernel)) (fun _ _ _ _ _ => (pg_name (i := 4) sc_gone_through.nd rfl (by first | exact Or.inl rfl | exact Or.inr rfl))) (fun _ _ _ _ _ => pts_nil) (fun _ _ _ _ _ => (pv 4)) (fun _ _ _ _ _ => pe_non))
        (pss_cons (ps_set (i := 5) sc_gone_through.nd rfl (Or.inl rfl) (pe_callTy (call_listKT rfl) (by rfl) B.list (by decide +kernel) (pa_cons (pv 3) pa_nil)))
        (pss_cons (ps_set (i := 6) sc_gone_through.nd rfl (Or.inl rfl) pe_int)
        (pss_cons (ps_while PassesOwn.never (pt_cmpR op_lt (pv 6) (pe_callB call_len (by rfl) B.len (by decide +kernel) (pa_cons (pv 5) pa_nil)) (nomark _)) (pss_cons (ps_set (i := 4) sc_gone_through.nd rfl (Or.inl rfl) (pe_ix ix_list (pv 5) (pv 6) (fun _ _ => rfl)))
        (pss_cons (ps_if (pt_cmpR op_in_seq (pe_ix ix_tup (pv 4) pe_int (fun _ _ => rfl)) (pv 2) (by rfl)) (pss_one (ps_fz (ps_ret (pe_tup (pa_cons (pv 3) (pa_cons (pv 4) pa_nil)))))) pss_nil)
        (pss_cons (ps_for PassesOwn.never rfl (pi_list (pe_cl c_cells_behind hr (by decide) pass0 rfl (pa_cons (pv 0) (pa_cons (pv 4) pa_nil)))) (pg_name (i := 7) sc_gone_through.nd rfl (Or.inl rfl)) (pss_one (ps_if (pt_cmp (pc_ninT (pc_dnotin (by exact hu_of hr) (pv 7) (pv 3)))) (pss_cons (ps_asg (pv 4) (pg_subT (pg_sub (pv 3) (pv 7) (set_dict (by exact hu_of hr)))))
        (pss_one (ps_expr (pe_bm PySem.F.plainAttrs_list PySem.F.slot_list_append PySem.F.type_list_append mt_append (pv 5) (pa_cons (pv 7) pa_nil))))) pss_nil)))
        (pss_one (ps_aug (i := 6) sc_gone_through.nd rfl (Or.inl rfl) pe_int ip_add))))))
        (pss_one (ps_fz (ps_ret (pe_tup (pa_cons (pv 3) (pa_cons pe_non pa_nil)))))))))), ?_⟩)
    try dsimp only [L3.cxK, L3.cxKX]
    rintro Rs M k X ⟨rfl, s, T, fs, gs, rfl, ok, per, hf, fl, q1, q2⟩
    have T0 := per.pos
    have T9 := per_small ok per
    have n8 := ok.nl
    have ul : (univW s T).length ≤ 57600 := by rw [univ_len]; have : T * s.ns.length ≤ 7200 * 8 := Nat.mul_le_mul T9 n8; omega
    have cap : ∀ E : List (Ent Cell), (cellsE E).Nodup → (∀ c q d, (c, q, d) ∈ E → (q = none ∧ d = 0 ∧ c ∈ fs) ∨ ∃ p q' d', q = some p ∧ d = d' + 1 ∧ (p, q', d') ∈ E ∧ c ∈ succW s T p) → E.length ≤ 57600 ∧ ∀ c ∈ cellsE E, c ∈ univW s T := fun E nd par => by
      have hin := bfs_in par hf (fun c _ x hx => succ_univ T0 hx)
      have := nd_le nd hin
      have e : (cellsE E).length = E.length := by simp [cellsE]
      exact ⟨by omega, hin⟩
    (repeat' decreasing_trivial_pre_omega)
    refine ev_dcG (fun E => mDT (entR E)) ([] : List (Ent Cell)) (fun S => ⟨[], rfl, rfl, True.intro⟩) (by decide) (tip_list (ep_var rfl) _ _ ⟨fun i E M => E = firstE (fs.take i) ∧ M = [], ⟨rfl, rfl⟩, fun i r E M2 hi hr he => ?_, fun E M2 he a1 => ?_⟩)
    · obtain ⟨rfl, rfl⟩ := he
      have hi' : i < fs.length := by simpa using hi
      have hr : (fs.map cellR)[i]? = some r := hr
      rw [List.getElem?_map, List.getElem?_eq_getElem hi'] at hr
      cases hr
      refine tg_name (et_yes ?_) (.inr (by decide))
      rw [if_pos rfl]
      refine ev_var rfl (ev_non ?_)
      have fi := first_inv (fs.take i)
      have el : (firstE (fs.take i)).length ≤ 57600 := (cap _ fi.1 fun c q d h => .inl ⟨(fi.2.2 _ h).1, (fi.2.2 _ h).2.1, List.mem_of_mem_take (fi.2.2 _ h).2.2⟩).1
      refine ⟨firstE (fs.take (i + 1)), ?_, rfl, rfl⟩
      have pk := putOk_T (kvs := entR (firstE (fs.take i))) (q := keyC fs[i]) (R := iNon) (by unfold entR; rw [List.length_map]; omega)
      have e : putT (entR (firstE (fs.take i))) (keyC fs[i]) iNon = entR (firstE (fs.take (i + 1))) := by
        rw [List.take_succ, List.getElem?_eq_getElem hi']
        show _ = entR (firstE (fs.take i ++ [fs[i]]))
        rw [first_snoc]
        split
        · rename_i hc
          exact put_old hc fun e he => (fi.2.2 e he).1
        · rename_i hc
          exact put_new hc none 0
      rw [e] at pk
      exact pk
    obtain ⟨rfl, rfl⟩ := he
    rw [List.length_map, List.take_length]
    have b0 : BInv (succW s T) fs (fun c => decide (c.1 ∈ gs)) (firstE fs) 0 := binv_first
    (repeat' decreasing_trivial_pre_omega)
    refine ol_listT (ht_m (i := 0) rfl) (.inr fun a2 => ?_)
    rw [ent_keys]
    rw [show [] ++ [(a1, mDT (entR (firstE fs)))] ++ [(a2, mLst ((cellsE (firstE fs)).map cellR))] = [(a1, mDT (entR (firstE fs))), (a2, mLst ((cellsE (firstE fs)).map cellR))] from rfl]
    (repeat' decreasing_trivial_pre_omega)
    refine st_whileG (List (Ent Cell) × Nat) (fun m x => BInv (succW s T) fs (fun c => decide (c.1 ∈ gs)) x.1 x.2 ∧ m = 57601 - x.2 ∧ x.1 = runE (succW s T) fs x.2 ∧ Calm (succW s T) fs (fun c => decide (c.1 ∈ gs)) x.2) (fun x => [some (iObj C_Scene (sceneF K C_House s (iLst (rowsR K s T)) (iLst (glowR s T)))), some (iLst (fs.map cellR)), some (iLst (gs.map aStr)), some (iRef a1), none, some (iRef a2), some (iInt (x.2 : Nat)), none]) (fun x => [(a1, mDT (entR x.1)), (a2, mLst ((cellsE x.1).map cellR))]) 57601 (lj (firstE fs, 0) ⟨b0, by rfl, rfl, calm_0⟩ (by (repeat' decreasing_trivial_pre_omega)) rfl) ?_
    rintro m ⟨F, n⟩ ⟨I, hm, hF, hC⟩
    obtain ⟨fl, fin⟩ := cap F I.nd I.par
    have cl : (cellsE F).length = F.length := by simp [cellsE]
    try dsimp only at *
    (repeat' decreasing_trivial_pre_omega)
    refine ite_b (fun c => ?_) (fun c => ?_)
    · have hn : n < F.length := by
        have := of_decide_eq_true c
        rw [List.length_map, cl] at this
        omega
      obtain ⟨⟨c0, q0, d0⟩, hq⟩ : ∃ e, F[n]? = some e := ⟨_, List.getElem?_eq_getElem hn⟩
      have hc : (cellsE F)[n]'(by rw [cl]; exact hn) = c0 := by
        have := (List.getElem?_eq_some_iff.mp hq).2
        unfold cellsE
        rw [List.getElem_map, this]
      have cu : c0 ∈ univW s T := fin c0 (mem_cells.mpr ⟨q0, d0, List.mem_of_getElem? hq⟩)
      have cn := (mem_univ.mp cu).1
      (repeat' decreasing_trivial_pre_omega)
      refine o_ixMN (l := cellsE F) (g := cellR) 1 n rfl rfl (by rw [cl]; exact hn) _ ?_
      rw [hc]
      (repeat' decreasing_trivial_pre_omega)
      refine ite_b (fun g => ?_) (fun g => ?_)
      · refine st_tFzT (i := 0) (j := 3) rfl rfl ?_
        refine st_ret (ev_fgt ?_)
        (repeat' decreasing_trivial_pre_omega)
        refine ⟨0, a2, _, rfl, ?_⟩
        exact q1 F n c0 q0 d0 I hF hC hq (of_decide_eq_true g)
      · (repeat' decreasing_trivial_pre_omega)
        refine st_forG (List (Ent Cell)) ?_
        (repeat' decreasing_trivial_pre_omega)
        refine ⟨_, leS_rfl, s, T, c0, rfl, ok, per, cn, ?_⟩
        (repeat' decreasing_trivial_pre_omega)
        rw [List.length_map]
        refine ⟨fun i F' => BMid (succW s T) fs (fun c => decide (c.1 ∈ gs)) F' n c0 d0 ((succW s T c0).take i) ∧ F' = pushL F c0 d0 ((succW s T c0).take i), fun _ => [some (iObj C_Scene (sceneF K C_House s (iLst (rowsR K s T)) (iLst (glowR s T)))), some (iLst (fs.map cellR)), some (iLst (gs.map aStr)), some (iRef a1), some (cellR c0), some (iRef a2), some (iInt (n : Nat)), none], fun F' => [(a1, mDT (entR F')), (a2, mLst ((cellsE F').map cellR))], lj F ⟨by simpa using bmid_of I hq g, rfl⟩ (by (repeat' decreasing_trivial_pre_omega)) rfl, ?_, ?_⟩
        · rintro i rr F' hi hr ⟨mid, hP⟩
          have hr : ((succW s T c0).map cellR)[i]? = some rr := hr
          rw [List.getElem?_map, List.getElem?_eq_getElem hi] at hr
          cases hr
          have hcs : (succW s T c0)[i] ∈ succW s T c0 := List.getElem_mem hi
          have mid2 := bmid_step mid hcs
          have hP2 : push1 F' c0 d0 (succW s T c0)[i] = pushL F c0 d0 ((succW s T c0).take i ++ [(succW s T c0)[i]]) := by rw [push_snoc, ← hP]
          rw [show (succW s T c0).take i ++ [(succW s T c0)[i]] = (succW s T c0).take (i + 1) by rw [List.take_succ, List.getElem?_eq_getElem hi]; rfl] at mid2 hP2
          generalize (succW s T c0)[i] = x at hcs mid2 hP2
          obtain ⟨fl2, _⟩ := cap F' mid.nd mid.par
          have cl2 : (cellsE F').length = F'.length := by simp [cellsE]
          have el2 : (entR F').length = F'.length := by simp [entR]
          try dsimp only
          (repeat' decreasing_trivial_pre_omega)
          rw [look_ent]
          refine ite_b (fun c => ?_) (fun c => ?_)
          · have hx : x ∉ cellsE F' := of_decide_eq_false (by simpa using c)
            (repeat' decreasing_trivial_pre_omega)
            rw [show putT (entR F') (keyC x) (cellR c0) = entR (F' ++ [(x, some c0, d0 + 1)]) from put_new hx (some c0) (d0 + 1)]
            (repeat' decreasing_trivial_pre_omega)
            rw [push1, if_neg hx] at mid2 hP2
            exact lj _ ⟨mid2, hP2⟩ (by (repeat' decreasing_trivial_pre_omega)) (by simp [cellsE])
          · have hx : x ∈ cellsE F' := of_decide_eq_true (by simpa using c)
            (repeat' decreasing_trivial_pre_omega)
            refine lj F' ?_ (by (repeat' decreasing_trivial_pre_omega)) rfl
            rw [push1, if_pos hx] at mid2 hP2
            exact ⟨mid2, hP2⟩
        · rintro F' Γ1 ⟨mid, hP⟩ w
          rw [List.take_length] at mid hP
          refine st_wk w ?_
          try dsimp only
          (repeat' decreasing_trivial_pre_omega)
          refine ⟨57601 - (n + 1), by omega, lj (F', n + 1) ⟨binv_of mid, rfl, by rw [hF] at hq hP; rw [run_next hq]; exact hP, by rw [hF] at hq; exact calm_next hC hq g⟩ (by (repeat' decreasing_trivial_pre_omega)) rfl⟩
    · intro Γ1 w
      refine st_wk w ?_
      try dsimp only
      refine st_tFzT (i := 0) (j := 3) rfl rfl ?_
      refine st_ret (ev_fgt ?_)
      (repeat' decreasing_trivial_pre_omega)
      refine ⟨0, a2, _, rfl, ?_⟩
      refine q2 F n I hF hC ?_
      have := of_decide_eq_false c
      rw [List.length_map, cl] at this
      omega
    )) only [↓bx_true]

abbrev s_beginnings : Stmt := top 26
theorem sc_beginnings : FnScope ["scene", "starts", "begin", "rests", "rest", "room"] ["scene", "starts", "begin"] (defScope s_beginnings) := ⟨rfl, rfl, rfl, by decide +kernel, rfl, by decide +kernel, by decide +kernel⟩
abbrev ts_beginnings (K : PySem.W.Frag) (C_House : Addr) (C_Scene : Addr) : TSp := pureK fun Rs q => ∃ s T, ∃ zs : List Str, ∃ b : Option Int, Rs = [iObj C_Scene (sceneF K C_House s (iLst (rowsR K s T)) (iLst (glowR s T))), aSeq K (zs.map aStr), iOpt b] ∧ ScOk s ∧ Per s T ∧ (∀ z ∈ zs, z ∈ s.ns) ∧ zs.length ≤ 8 ∧ q (iLst ((beginW s T zs b).map cellR))
theorem ok_beginnings (B : Bt mg) {C_House : Addr} (T_House : Txt_House K mg C_House) {C_Scene : Addr} (T_Scene : Txt_Scene K mg C_Scene) (cm_Scene_wheel : ClM P w K mg base CX0 1 C_Scene "wheel" (ts_Scene_wheel K C_House C_Scene) []) (cm_Scene_dark : ClM P w K mg base CX0 1 C_Scene "dark" (ts_Scene_dark K C_House C_Scene) []) {f : Addr} {fd : FuncData} (d : Df K mg "beginnings" s_beginnings ["scene", "starts", "begin"] f fd) : Cl P w K mg base CX0 2 "beginnings" (ts_beginnings K C_House C_Scene) [] := by
  refine bx_of ?_
  simp (disch := with_unfolding_all (
    refine cl_of d (okT (kk := 1) d.fn sc_beginnings (fun Rs M k X h => by obtain ⟨_, _, _, _, _, rfl, _⟩ := h; rfl) fun cdv A outer s H E hr => ⟨_,
      (pss_cons (ps_set (i := 3) sc_beginnings.nd rfl (Or.inl rfl) (pe_ifExp (pt_cmpR op_isN (pv 2) pe_non (nomark _)) (pe_listRg rfl (by rfl) B.list (prg_1 (by rfl) B.range (pe_clM0 cm_Scene_wheel hr (by decide) pass0 (pv 0)))) (pe_lst (pa_cons (pe_op op_mod (pv 2) (pe_clM0 cm_Scene_wheel hr (by decide) pass0 (pv 0))) pa_nil))))
        (pss_one (ps_ret (pe_lc2 (own := [("rest", 4), ("room", 5)]) (vs1 := [5]) rfl sc_beginnings.nd (pi_list (pv 3)) (blkOk_by (own := [("rest", 4), ("room", 5)]) (N := ["scene", "starts", "begin", "rests", "rest", "room"]) (sc := defScope s_beginnings) (by decide +kernel)) (by decide) (fun _ _ _ _ _ => (pg_name (i := 4) sc_beginnings.nd rfl (by first | exact Or.inl rfl | exact Or.inr rfl))) (fun _ _ _ _ _ => pts_nil) (fun _ _ _ _ _ => (castPI (K := K) (r := fun K => iSeq K _) rfl (pi_seq (pv 1)))) (fun _ _ _ _ _ => (pg_name (i := 5) sc_beginnings.nd rfl (by first | exact Or.inl rfl | exact Or.inr rfl))) (fun _ _ _ _ _ => (pts_one (pt_val (pe_clM cm_Scene_dark hr (by decide) pass0 (pv 0) (pa_cons (pv 5) (pa_cons (pv 4) pa_nil)))))) (fun _ _ _ _ _ => (pe_tupK (pe_tup (pa_cons (pv 5) (pa_cons (pv 4) pa_nil))))))))), ?_⟩)
    try dsimp only [L3.cxK, L3.cxKX]
    rintro Rs M k X ⟨rfl, s, T, zs, b, rfl, ok, per, hz, z8, q⟩
    have T0 := per.pos
    have T9 := per_small ok per
    have bl := begin_len T0 zs b (s := s)
    have bl2 : T * zs.length ≤ T * 8 := Nat.mul_le_mul_left _ z8
    refine st_join (P := fun _ : Unit => True) (G := fun _ => [some (iObj C_Scene (sceneF K C_House s (iLst (rowsR K s T)) (iLst (glowR s T)))), some (aSeq K (zs.map aStr)), some (iOpt b), some (iLst ((restsW T b).map iInt)), none, none]) (N := fun _ => []) ?_ ?_
    · (repeat' decreasing_trivial_pre_omega)
      cases b with
      | none =>
        refine o_isN true (fun S v h => by cases h; rfl) _ ?_
        (repeat' decreasing_trivial_pre_omega)
        refine ⟨_, leS_rfl, s, T, _, rfl, rfl, ?_⟩
        (repeat' decreasing_trivial_pre_omega)
        refine ⟨T, rfl, by omega, ?_⟩
        refine lj (P := fun _ : Unit => True) () True.intro ?_ rfl
        unfold restsW
        rw [List.map_map]
        (repeat' decreasing_trivial_pre_omega)
      | some b =>
        refine o_isN false (fun S v h => by cases h; rfl) _ ?_
        (repeat' decreasing_trivial_pre_omega)
        refine ⟨_, leS_rfl, s, T, _, rfl, rfl, ?_⟩
        (repeat' decreasing_trivial_pre_omega)
        exact lj (P := fun _ : Unit => True) () True.intro (by (repeat' decreasing_trivial_pre_omega)) rfl
    · rintro _ _
      (repeat' decreasing_trivial_pre_omega)
      refine ep_lc2S (l := restsW T b) (ea := iInt) (m := zs) (eb := aStr) (p := fun t z => darkW s T z t) (q := fun t z => (z, t)) (e := cellR) (by (repeat' decreasing_trivial_pre_omega)) (by show (beginW s T zs b).length < 1000000; omega) (by decide) (by decide) (fun t ht => ep_var rfl) (fun t ht z hz2 => ?_) (fun t ht z hz2 hp => ?_) _ _ q
      · (repeat' decreasing_trivial_pre_omega)
        refine ⟨_, leS_rfl, s, T, _, z, t, rfl, rfl, T0, ?_⟩
        (repeat' decreasing_trivial_pre_omega)
      · (repeat' decreasing_trivial_pre_omega)
    )) only [↓bx_true]

abbrev s_traced : Stmt := top 28
theorem sc_traced : FnScope ["ahead", "last", "found", "cell"] ["ahead", "last"] (defScope s_traced) := ⟨rfl, rfl, rfl, by decide +kernel, rfl, by decide +kernel, by decide +kernel⟩
abbrev ts_traced (K : PySem.W.Frag) : TSp := pureK fun Rs q => ∃ sc fs gl, ∃ E : List (Ent Cell), ∃ n c p d, Rs = [iDT (entR E), cellR c] ∧ BInv sc fs gl E n ∧ (c, p, d) ∈ E ∧ E.length ≤ 57600 ∧ ∀ L : List Cell, L.length = d + 1 → Chn sc L → (∀ a, L[0]? = some a → a ∈ fs) → (∀ a, L[d]? = some a → a = c) → TraceOf E c d L → q (iLst (L.map cellR))
theorem ok_traced (B : Bt mg) {f : Addr} {fd : FuncData} (d : Df K mg "traced" s_traced ["ahead", "last"] f fd) : Cl P w K mg base CX0 1 "traced" (ts_traced K) [] := by
  refine bx_of ?_
  simp (disch := with_unfolding_all (
    refine cl_of d (okT (kk := 0) d.fn sc_traced (fun Rs M k X h => by obtain ⟨_, _, _, _, _, _, _, _, _, rfl, _⟩ := h; rfl) fun cdv A outer s H E hr => ⟨_,
      (pss_cons (ps_set (i := 2) sc_traced.nd rfl (Or.inl rfl) (pe_lst pa_nil))
        (pss_cons (ps_set (i := 3) sc_traced.nd rfl (Or.inl rfl) (pv 1))
        (pss_cons (ps_while PassesOwn.never (pt_cmpR op_notN (pv 3) pe_non (nomark _)) (pss_cons (ps_expr (pe_bm PySem.F.plainAttrs_list PySem.F.slot_list_append PySem.F.type_list_append mt_append (pv 2) (pa_cons (pv 3) pa_nil)))
        (pss_one (ps_set (i := 3) sc_traced.nd rfl (Or.inl rfl) (pe_dgetT (pe_dget (by exact hu_of hr) (pv 0) (pv 3) (fun _ _ => rfl)))))))
        (pss_one (ps_ret (pe_revL (pv 2))))))), ?_⟩)
    try dsimp only [L3.cxK, L3.cxKX]
    rintro Rs M k X ⟨rfl, sc, fs, gl, F, n, c, p, d, rfl, I, hc, fl, q⟩
    have dl := depth_lt I.par _ _ _ hc
    (repeat' decreasing_trivial_pre_omega)
    intro a
    (repeat' decreasing_trivial_pre_omega)
    refine st_whileG (List Cell × Option Cell) (fun m x => (Back sc fs F c d x.1 x.2 ∧ PredOk F c x.1 x.2) ∧ m = d + 2 - x.1.length ∧ x.1.length ≤ d + 1) (fun x => [some (iDT (entR F)), some (cellR c), some (iRef a), some (kOpt (x.2.map keyC))]) (fun x => [(a, mLst (x.1.map cellR))]) (d + 2) (lj ([], some c) ⟨⟨back_0 hc, pred_0⟩, rfl, Nat.zero_le _⟩ (by (repeat' decreasing_trivial_pre_omega)) rfl) ?_
    rintro m ⟨G, cur⟩ ⟨⟨bk, pk⟩, hm, gl2⟩
    try dsimp only at *
    (repeat' decreasing_trivial_pre_omega)
    cases cur with
    | none =>
      refine o_notN true (fun S v h => by cases h; rfl) _ ?_
      (repeat' decreasing_trivial_pre_omega)
      intro Γ1 w
      refine st_wk w ?_
      try dsimp only
      refine st_told (i := 0) (j := 2) (a := a) rfl rfl ?_
      (repeat' decreasing_trivial_pre_omega)
      obtain ⟨b1, b2, b3, b4⟩ := bk
      rw [← List.map_reverse]
      refine q G.reverse (by simpa using b3) b1 b4 (fun x hx => ?_) (trace_of pk b3 b2)
      rw [List.getElem?_reverse (by omega)] at hx
      rw [show G.length - 1 - d = 0 by omega] at hx
      exact b2 x hx
    | some x =>
      obtain ⟨q0, j, h1, h2, h3⟩ := back_1 I bk
      refine o_notN false (fun S v h => by obtain ⟨b, rfl, _⟩ := h; rfl) _ ?_
      (repeat' decreasing_trivial_pre_omega)
      refine ⟨keyC x, entR F, rfl, .inl rfl, _, look_at I.nd h1, ?_⟩
      refine ⟨m - 1, ?_, lj (G ++ [x], q0) ⟨⟨h3, pred_1 pk h1⟩, ?_, ?_⟩ (by (repeat' decreasing_trivial_pre_omega)) (by simp; rfl)⟩
      · rw [hm]; omega
      · rw [hm]; simp; omega
      · simp; omega
    )) only [↓bx_true]

abbrev s_way : Stmt := top 29
theorem sc_way : FnScope ["scene", "starts", "goals", "begin", "ahead", "last", "cells", "beat", "room", "rest"] ["scene", "starts", "goals", "begin"] (defScope s_way) := ⟨rfl, rfl, rfl, by decide +kernel, rfl, by decide +kernel, by decide +kernel⟩
abbrev ts_way (K : PySem.W.Frag) (C_House : Addr) (C_Scene : Addr) : TSp := pureK fun Rs q => ∃ s T, ∃ zs ys : List Str, ∃ b : Option Int, Rs = [iObj C_Scene (sceneF K C_House s (iLst (rowsR K s T)) (iLst (glowR s T))), aSeq K (zs.map aStr), aSeq K (ys.map aStr), iOpt b] ∧ ScOk s ∧ Per s T ∧ (∀ z ∈ zs, z ∈ s.ns) ∧ zs.length ≤ 8 ∧ (∀ z ∈ ys, z ∈ s.ns) ∧ (∀ i, b = some i → -1000000000 ≤ i ∧ i ≤ 1000000000) ∧
  (∀ R, IsTold K s T zs ys b R → q R)
theorem ok_way (B : Bt mg) {C_House : Addr} (T_House : Txt_House K mg C_House) {C_Scene : Addr} (T_Scene : Txt_Scene K mg C_Scene) (c_need_ways : Cl P w K mg base CX0 3 "need_ways" (ts_need_ways K C_House C_Scene) []) (c_gone_through : Cl P w K mg base CX0 6 "gone_through" (ts_gone_through K C_House C_Scene) []) (c_beginnings : Cl P w K mg base CX0 2 "beginnings" (ts_beginnings K C_House C_Scene) []) (c_traced : Cl P w K mg base CX0 1 "traced" (ts_traced K) []) {f : Addr} {fd : FuncData} (d : Fun K "way" "way" s_way f fd) : FnOk P w K mg base CX0 7 f fd ["scene", "starts", "goals", "begin"] (spT (ts_way K C_House C_Scene)) := by
  refine bx_of ?_
  simp (disch := with_unfolding_all (
    refine (okT (kk := 6) d sc_way (fun Rs M k X h => by obtain ⟨_, _, _, _, _, _, rfl, _⟩ := h; rfl) fun cdv A outer s H E hr => ⟨_,
      (pss_cons (ps_expr (pe_cl c_need_ways hr (by decide) pass0 rfl (pa_cons (pv 0) (pa_cons (pv 1) (pa_cons (pv 2) (pa_cons (pv 3) pa_nil))))))
        (pss_cons (ps_asg (pe_cl c_gone_through hr (by decide) pass0 rfl (pa_cons (pv 0) (pa_cons (pe_cl c_beginnings hr (by decide) pass0 rfl (pa_cons (pv 0) (pa_cons (pv 1) (pa_cons (pv 3) pa_nil)))) (pa_cons (pe_callTy call_list_of (by rfl) B.list (by decide +kernel) (pa_cons (pv 2) pa_nil)) pa_nil)))) (pg_tup rfl (pgs_cons (pg_name (i := 4) sc_way.nd rfl (Or.inl rfl)) (pgs_cons (pg_name (i := 5) sc_way.nd rfl (Or.inl rfl)) pgs_nil))))
        (pss_cons (ps_if (pt_cmpR op_isN (pv 5) pe_non (nomark _)) (pss_one (ps_ret (pe_tup (pa_cons pe_str (pa_cons (pe_callTy (call_listKT rfl) (by rfl) B.list (by decide +kernel) (pa_cons (pv 4) pa_nil)) pa_nil))))) pss_nil)
        (pss_cons (ps_set (i := 6) sc_way.nd rfl (Or.inl rfl) (pe_cl c_traced hr (by decide) pass0 rfl (pa_cons (pv 4) (pa_cons (pv 5) pa_nil))))
        (pss_cons (ps_set (i := 7) sc_way.nd rfl (Or.inl rfl) (pe_ifExp (pt_cmpR op_isN (pv 3) pe_non (nomark _)) (pe_ix ix_tup (pe_ix ix_list (pv 6) pe_int (fun _ _ => rfl)) pe_int (fun _ _ => rfl)) (pv 3)))
        (pss_one (ps_ret (pe_tup (pa_cons pe_str (pa_cons (pv 7) (pa_cons (pe_callTy call_tuple_of (by rfl) B.tuple (by decide +kernel) (pa_cons (pe_lc (own := [("room", 8), ("rest", 9)]) rfl sc_way.nd (pi_list (pv 6)) (blkOk_by (own := [("room", 8), ("rest", 9)]) (N := ["scene", "starts", "goals", "begin", "ahead", "last", "cells", "beat", "room", "rest"]) (sc := defScope s_way) (by decide +kernel)) (fun s0 H0 C0 cl0 fp0 => blk_tup2 (i := 8) (j := 9) sc_way.nd (s := s0) (H := H0) (C := C0) (cl := cl0) (fp := fp0)) (fun _ _ _ _ _ => pts_nil) (fun _ _ _ _ _ => (pv 8))) pa_nil)) pa_nil))))))))))), ?_⟩)
    try dsimp only [L3.cxK, L3.cxKX]
    rintro Rs M k X ⟨rfl, s, T, zs, ys, b, rfl, ok, per, hz, z8, hy, hb, q0⟩
    have q1 := fun beat L w => q0 _ (.inl ⟨beat, L, w, rfl⟩)
    have q2 := fun C l u c => q0 _ (.inr ⟨C, l, u, c, rfl⟩)
    have T0 := per.pos
    have T9 := per_small ok per
    have n8 := ok.nl
    have ul : ∀ E : List (Ent Cell), ∀ n, BInv (succW s T) (beginW s T zs b) (goalW ys) E n → E.length ≤ 57600 ∧ (∀ c ∈ cellsE E, c ∈ univW s T) ∧ E.length ≤ T * s.ns.length := fun E n I => by
      have hin := bfs_in I.par (fun c hc => begin_univ T0 hz hc) (fun c _ x hx => succ_univ T0 hx)
      have := nd_le I.nd hin
      have e : (cellsE E).length = E.length := by simp [cellsE]
      have e2 : (univW s T).length ≤ 57600 := by rw [univ_len]; have : T * s.ns.length ≤ 7200 * 8 := Nat.mul_le_mul T9 n8; omega
      have e3 := univ_len s T
      exact ⟨by omega, hin, by omega⟩
    have bl := begin_len T0 zs b (s := s)
    have bl2 : T * zs.length ≤ 7200 * 8 := Nat.mul_le_mul T9 z8
    (repeat' decreasing_trivial_pre_omega)
    refine ⟨_, leS_rfl, s, _, _, zs, ys, b, rfl, hz, hy, hb, ?_⟩
    (repeat' decreasing_trivial_pre_omega)
    refine ⟨_, leS_rfl, s, T, zs, b, rfl, ok, per, hz, z8, ?_⟩
    (repeat' decreasing_trivial_pre_omega)
    refine ⟨_, leS_rfl, s, T, beginW s T zs b, ys, rfl, ok, per, fun c hc => begin_univ T0 hz hc, by omega, fun E n c p d I _ _ he hg => ?_, fun E n I _ _ hE => ?_⟩
    · (repeat' decreasing_trivial_pre_omega)
      refine o_isN false (fun S v h => by obtain ⟨_, rfl, _⟩ := h; rfl) _ ?_
      (repeat' decreasing_trivial_pre_omega)
      refine ⟨_, leS_rfl, succW s T, beginW s T zs b, goalW ys, E, n, c, p, d, rfl, I, List.mem_of_getElem? he, (ul E n I).1, fun L l1 l2 l3 l4 _ => ?_⟩
      have dl := depth_lt I.par _ _ _ (List.mem_of_getElem? he)
      have ll := (ul E n I).1
      have wk : WalkG (succW s T) (beginW s T zs b) (goalW ys) L := ⟨fun z => by rw [z] at l1; simp at l1, l3, l2, fun a ha => by rw [l1] at ha; have := l4 a ha; subst this; exact decide_eq_true hg⟩
      have least : ∀ L', WalkG (succW s T) (beginW s T zs b) (goalW ys) L' → L.length ≤ L'.length := fun L' w => by
        have := bfs_least I (.inl he) w.ne w.fs w.ch w.gl
        omega
      have L0 : 0 < L.length := by omega
      have hw : ∀ beat, ((b = none → ∀ c, L[0]? = some c → c.2 = beat) ∧ ∀ i, b = some i → beat = i) → WayOk s T zs ys b beat L := fun beat h => ⟨wk, least, h, by omega, by have := (ul E n I).2.2; omega⟩
      (repeat' decreasing_trivial_pre_omega)
      cases b with
      | none =>
        refine o_isN true (fun S v h => by cases h; rfl) _ ?_
        (repeat' decreasing_trivial_pre_omega)
        refine o_ixN (l := L) (g := cellR) 0 rfl L0 _ ?_
        (repeat' decreasing_trivial_pre_omega)
        refine Ep.ev (ep_lcG (l := L) (e := cellR) (e' := fun c => aStr c.1) (by (repeat' decreasing_trivial_pre_omega)) (by omega) (by decide) (fun c hc => ?_)) ?_
        · (repeat' decreasing_trivial_pre_omega)
          exact ⟨rfl, by (repeat' decreasing_trivial_pre_omega)⟩
        (repeat' decreasing_trivial_pre_omega)
        refine q1 _ L (hw _ ⟨fun _ c h => ?_, fun i h => (nomatch h)⟩)
        rw [List.getElem?_eq_getElem L0] at h
        cases h
        rfl
      | some i =>
        refine o_isN false (fun S v h => by cases h; rfl) _ ?_
        (repeat' decreasing_trivial_pre_omega)
        refine Ep.ev (ep_lcG (l := L) (e := cellR) (e' := fun c => aStr c.1) (by (repeat' decreasing_trivial_pre_omega)) (by omega) (by decide) (fun c hc => ?_)) ?_
        · (repeat' decreasing_trivial_pre_omega)
          exact ⟨rfl, by (repeat' decreasing_trivial_pre_omega)⟩
        (repeat' decreasing_trivial_pre_omega)
        exact q1 i L (hw _ ⟨fun h => (nomatch h), fun j h => Option.some.inj h⟩)
    · (repeat' decreasing_trivial_pre_omega)
      refine o_isN true (fun S v h => by cases h; rfl) _ ?_
      (repeat' decreasing_trivial_pre_omega)
      refine ol_listT (.inl rfl) (.inl ?_)
      rw [ent_keys]
      (repeat' decreasing_trivial_pre_omega)
      exact q2 (cellsE E) (lot_of I hE) (ul E n I).2.1 (by have := (ul E n I).1; simpa [cellsE] using this)
    )) only [↓bx_true]

theorem bd_way {f : Addr} {fd : FuncData} (F : FunD K "way" "way" (defArgs s_way) (defBody s_way) (defScope s_way) [] [("begin", .non)] f fd) : ∃ ds, Vals [V.non] ds ∧ Binds K fd ["scene", "starts", "goals", "begin"] ds := by
  refine FunD.binds0 F 3 (by simp) rfl fun D doc pm an cdv ct us ks h1 h2 => ?_
  match us, ks, h1, h2 with
  | [a, b, c], [e], _, _ => exact ⟨_, _, _, _, _, _, rfl, rfl, rfl⟩
theorem kb_way {f : Addr} {fd : FuncData} (F : FunD K "way" "way" (defArgs s_way) (defBody s_way) (defScope s_way) [] [("begin", .non)] f fd) : ∃ g, KBn K fd ["scene", "starts", "goals", "begin"] 3 ["begin"] g (fun vs zs => vs ++ zs) := by
  obtain ⟨oc, od, dV, kV, doc, pm, an, cdv, ct, osl, rfl, lk, hcd, hD, hK⟩ := F.ex
  rcases hD with ⟨_, rfl⟩ | ⟨e, _⟩
  · refine ⟨fun us ws => us ++ ws, ⟨fun s us ws X h1 h2 => ?_, fun r1 r2 => r1.append r2⟩⟩
    match us, ws, h1, h2 with
    | [a, b, c], [e], _, _ => exact .of_eq rfl
  · exact absurd rfl e
abbrev s_Scene_lit : Stmt := inClass (top 45) 17
theorem sc_Scene_lit : FnScope ["self", "beat"] ["self", "beat"] (defScope s_Scene_lit) := ⟨rfl, rfl, rfl, by decide +kernel, rfl, by decide +kernel, by decide +kernel⟩
abbrev ts_Scene_lit (K : PySem.W.Frag) (C_House : Addr) (C_Scene : Addr) : TSp := fun Rs M k _ => ∃ R s T Rr b, Rs = [R, iInt b] ∧ HasO M R C_Scene (sceneF K C_House s Rr (iLst (glowR s T))) ∧ ScOk s ∧ Per s T ∧ -1000000000 ≤ b ∧ b ≤ 1000000000 ∧ (k (iLst ((litOf s (rowZ s T b) (b % (T : Int))).map aStr)) M ∨ ∀ a, k (iRef a) (M ++ [(a, mLst ((litOf s (rowZ s T b) (b % (T : Int))).map aStr))]))
theorem ok_Scene_lit (B : Bt mg) {C_House : Addr} (T_House : Txt_House K mg C_House) {C_Scene : Addr} (T_Scene : Txt_Scene K mg C_Scene) (c_need_beat : Cl P w K mg base CX0 1 "need_beat" (ts_need_beat K) []) {f : Addr} {fd : FuncData} (d : Fun K "lit" "Scene.lit" s_Scene_lit f fd) (hm : Meth K C_Scene "lit" f) : ClM P w K mg base CX0 2 C_Scene "lit" (ts_Scene_lit K C_House C_Scene) [] := by
  refine bx_of ?_
  simp (disch := with_unfolding_all (
    refine ⟨T_Scene.cl, f, fd, ["self", "beat"], [], ?_, hm, d.binds fun _ _ _ _ _ _ us hl => match us, hl with | [_, _], _ => rfl, .nil⟩
    refine (okT (kk := 1) d sc_Scene_lit (fun Rs M k X h => by obtain ⟨_, _, _, _, _, rfl, _⟩ := h; rfl) fun cdv A outer s H E hr => ⟨_,
      (pss_cons (ps_expr (pe_cl c_need_beat hr (by decide) pass0 rfl (pa_cons (pv 1) pa_nil)))
        (pss_one (ps_ret (pe_callTy call_list_of (by rfl) B.list (by decide +kernel) (pa_cons (pe_ix ix_list (pe_fld (pv 0) (by rfl)) (pe_op op_mod (pv 1) (pe_callB call_len (by rfl) B.len (by decide +kernel) (pa_cons (pe_fld (pv 0) (by rfl)) pa_nil))) (fun _ _ => rfl)) pa_nil))))), ?_⟩)
    try dsimp only [L3.cxK, L3.cxKX]
    rintro Rs M k X ⟨R, s, T, Rr, b, rfl, ho, ok, per, h1, h2, q⟩
    (repeat' decreasing_trivial_pre_omega)
    refine ⟨b, leS_rfl, ⟨h1, h2⟩, ?_⟩
    rcases q with q | q
    · (repeat' decreasing_trivial_pre_omega)
      · exact len_pos per.pos
      refine glow_ix b per.pos _ ?_
      (repeat' decreasing_trivial_pre_omega)
    · refine st_ret (ev_listM (rs := (litOf s (rowZ s T b) (b % (T : Int))).map aStr) ?_)
      (repeat' decreasing_trivial_pre_omega)
      · exact len_pos per.pos
      refine glow_ix b per.pos _ ?_
      exact ⟨.inl rfl, q⟩
    )) only [↓bx_true]

abbrev s__law_like : Stmt := top 61
theorem sc__law_like : FnScope ["_law_found", "_law_due", "_law_one", "_law_other"] ["_law_found", "_law_due"] (defScope s__law_like) := ⟨rfl, rfl, rfl, by decide +kernel, rfl, by decide +kernel, by decide +kernel⟩
abbrev ts__law_like (K : PySem.W.Frag) : TSp := tsLike K 7
theorem ok__law_like_n (B : Bt mg) {f : Addr} {fd : FuncData} (d : Df K mg "_law_like" s__law_like ["_law_found", "_law_due"] f fd) : ∀ n, Cl P w K mg base CX0 n "_law_like" (tsLike K n) []
  | 0 => cl_false d fun Rs M k X ⟨d, _, h, _⟩ => by cases h
  | n + 1 => by
    have c__law_like : Cl P w K mg base CX0 n "_law_like" (tsLike K n) [] := ok__law_like_n B d n
    refine cl_of d (okT (kk := n) d.fn sc__law_like (fun Rs M k X h => by obtain ⟨_, rfl, _⟩ := h; rfl) fun cdv A outer s H E hr => ⟨_,
      (pss_cons (ps_if (pt_val (pe_callB call_isiT (by rfl) B.isinstance (by decide +kernel) (pa_cons (pv 1) (pa_cons (pe_tup (pa_cons (pe_bltn (v := .ty "list") (by rfl) B.list (by decide +kernel) rfl) (pa_cons (pe_bltn (v := .ty "tuple") (by rfl) B.tuple (by decide +kernel) rfl) pa_nil))) pa_nil)))) (pss_cons (ps_if (PW.pt (pw_or (pt_cmpR op_ne (pe_callB call_isi (by rfl) B.isinstance (by decide +kernel) (pa_cons (pv 0) (pa_cons (pe_bltn (v := .ty "list") (by rfl) B.list (by decide +kernel) rfl) pa_nil))) (pe_callB call_isi (by rfl) B.isinstance (by decide +kernel) (pa_cons (pv 1) (pa_cons (pe_bltn (v := .ty "list") (by rfl) B.list (by decide +kernel) rfl) pa_nil))) (nomark _)) (pw_or1 (pt_cmpR op_ne (pe_callB call_isi (by rfl) B.isinstance (by decide +kernel) (pa_cons (pv 0) (pa_cons (pe_bltn (v := .ty "tuple") (by rfl) B.tuple (by decide +kernel) rfl) pa_nil))) (pe_callB call_isi (by rfl) B.isinstance (by decide +kernel) (pa_cons (pv 1) (pa_cons (pe_bltn (v := .ty "tuple") (by rfl) B.tuple (by decide +kernel) rfl) pa_nil))) (nomark _))))) (pss_one (ps_ret pe_bl)) pss_nil)
      (pss_one (ps_ret (pe_and (pe_cmpR op_eq (pe_callB call_len (by rfl) B.len (by decide +kernel) (pa_cons (pv 0) pa_nil)) (pe_callB call_len (by rfl) B.len (by decide +kernel) (pa_cons (pv 1) pa_nil)) (nomark _)) (pe_one (pe_callB (cr_all rfl) (by rfl) B.all (by decide +kernel) (pa_cons (pe_lc (own := [("_law_one", 2), ("_law_other", 3)]) rfl sc__law_like.nd (pi_zipA (by rfl) B.zip (pa_cons (pv 0) (pa_cons (pv 1) pa_nil))) (blkOk_by (own := [("_law_one", 2), ("_law_other", 3)]) (N := ["_law_found", "_law_due", "_law_one", "_law_other"]) (sc := defScope s__law_like) (by decide +kernel)) (fun s0 H0 C0 cl0 fp0 => blk_tup2 (i := 2) (j := 3) sc__law_like.nd (s := s0) (H := H0) (C := C0) (cl := cl0) (fp := fp0)) (fun _ _ _ _ _ => pts_nil) (fun _ _ _ _ _ => (pe_cl c__law_like hr (Nat.le_refl _) pass0 rfl (pa_cons (pv 2) (pa_cons (pv 3) pa_nil))))) pa_nil))))))) pss_nil)
      (pss_cons (ps_if (PW.pt (pw_or (pt_cmpR op_isN (pv 0) pe_non (nomark _)) (pw_or1 (pt_cmpR op_isN (pv 1) pe_non (nomark _))))) (pss_one (ps_ret (pe_and (pe_cmpR op_isN (pv 0) pe_non (nomark _)) (pe_one (pe_cmpR op_isN (pv 1) pe_non (nomark _)))))) pss_nil)
      (pss_cons (ps_if (PW.pt (pw_or (pt_cmpR op_ne (pe_callB call_isi (by rfl) B.isinstance (by decide +kernel) (pa_cons (pv 0) (pa_cons (pe_bltn (v := .ty "bool") (by rfl) B.bool (by decide +kernel) rfl) pa_nil))) (pe_callB call_isi (by rfl) B.isinstance (by decide +kernel) (pa_cons (pv 1) (pa_cons (pe_bltn (v := .ty "bool") (by rfl) B.bool (by decide +kernel) rfl) pa_nil))) (nomark _)) (pw_or1 (pt_cmpR op_ne (pe_callB call_isi (by rfl) B.isinstance (by decide +kernel) (pa_cons (pv 0) (pa_cons (pe_bltn (v := .ty "int") (by rfl) B.int (by decide +kernel) rfl) pa_nil))) (pe_callB call_isi (by rfl) B.isinstance (by decide +kernel) (pa_cons (pv 1) (pa_cons (pe_bltn (v := .ty "int") (by rfl) B.int (by decide +kernel) rfl) pa_nil))) (nomark _))))) (pss_one (ps_ret pe_bl)) pss_nil)
      (pss_one (ps_ret (pe_and (pe_cmpR op_eq (pe_callB call_isi (by rfl) B.isinstance (by decide +kernel) (pa_cons (pv 0) (pa_cons (pe_bltn (v := .ty "str") (by rfl) B.str (by decide +kernel) rfl) pa_nil))) (pe_callB call_isi (by rfl) B.isinstance (by decide +kernel) (pa_cons (pv 1) (pa_cons (pe_bltn (v := .ty "str") (by rfl) B.str (by decide +kernel) rfl) pa_nil))) (nomark _)) (pe_one (pe_cmpR op_eq (pv 0) (pv 1) (nomark _))))))))), ?_⟩)
    rintro Rs M k X ⟨d, rfl, hd, rfl, q⟩
    show St E _ [some (iDat K d), some (iDat K d), none, none] [] _
    cases hd with
    | list hl hf =>
      rename_i ds
      rw [iDat]
      refine st_seq (st_ifp (etp_tB (ep_cb (eap_cons (ep_var rfl) (eap_cons (ep_tupS (eap_cons ep_ty (eap_cons ep_ty eap_nil)) (by simp)) eap_nil)) (c_isi2 isT_lst (b1 := true) (b2 := false) (by decide +kernel) (by decide +kernel)))) (fun _ => ?_) (fun h => nomatch h))
      refine st_seq (st_ifp (b := false) (etp_or (a := false) (b := false) (etp_test (ep_op (ep_cb (eap_cons (ep_var rfl) (eap_cons ep_ty eap_nil)) (c_isi isT_lst (b := true) (by decide +kernel))) (ep_cb (eap_cons (ep_var rfl) (eap_cons ep_ty eap_nil)) (c_isi isT_lst (b := true) (by decide +kernel))) o_neB)) (fun _ => etp_test (ep_op (ep_cb (eap_cons (ep_var rfl) (eap_cons ep_ty eap_nil)) (c_isi isT_lst (b := false) (by decide +kernel))) (ep_cb (eap_cons (ep_var rfl) (eap_cons ep_ty eap_nil)) (c_isi isT_lst (b := false) (by decide +kernel))) o_neB))) (fun h => nomatch h) (fun _ => st_next ?_))
      refine st_ret (Ep.to (ep_andV (b := true) (ep_op (ep_cb (eap_cons (ep_var rfl) eap_nil) c_lenL) (ep_cb (eap_cons (ep_var rfl) eap_nil) c_lenL) o_eqI) (fun _ => Ep.to (ep_cb (eap_cons (Ep.to (ep_lc (by decide) (tip_zipL (ep_var rfl) (ep_var rfl) (n := ds.length) (by simp [iDats_len])) hl (fun _ => true) (fun _ => iBl true) fun i r hi hr => ?_) (congrArg iLst (given_true _))) eap_nil) c_all) (congrArg iBl (all_true _)))) (by simp) _ _ q)
      obtain ⟨q1, q2, e1, e2, rfl⟩ := hr
      rw [e1] at e2
      cases e2
      obtain ⟨d', hd', rfl⟩ := iDats_get K e1
      exact tg_tup rfl (tgs_cons (tg_name (tgs_cons (tg_name (tgs_nil ⟨rfl, etp_yes, fun _ => ep_callP d' (eap_cons (ep_var rfl) (eap_cons (ep_var rfl) eap_nil)) rfl (hf d' hd')⟩)))))
    | tup hl hf =>
      rename_i ds
      rw [iDat]
      refine st_seq (st_ifp (etp_tB (ep_cb (eap_cons (ep_var rfl) (eap_cons (ep_tupS (eap_cons ep_ty (eap_cons ep_ty eap_nil)) (by simp)) eap_nil)) (c_isi2 isT_tup (b1 := false) (b2 := true) (by decide +kernel) (by decide +kernel)))) (fun _ => ?_) (fun h => nomatch h))
      refine st_seq (st_ifp (b := false) (etp_or (a := false) (b := false) (etp_test (ep_op (ep_cb (eap_cons (ep_var rfl) (eap_cons ep_ty eap_nil)) (c_isi isT_tup (b := false) (by decide +kernel))) (ep_cb (eap_cons (ep_var rfl) (eap_cons ep_ty eap_nil)) (c_isi isT_tup (b := false) (by decide +kernel))) o_neB)) (fun _ => etp_test (ep_op (ep_cb (eap_cons (ep_var rfl) (eap_cons ep_ty eap_nil)) (c_isi isT_tup (b := true) (by decide +kernel))) (ep_cb (eap_cons (ep_var rfl) (eap_cons ep_ty eap_nil)) (c_isi isT_tup (b := true) (by decide +kernel))) o_neB))) (fun h => nomatch h) (fun _ => st_next ?_))
      refine st_ret (Ep.to (ep_andV (b := true) (ep_op (ep_cb (eap_cons (ep_var rfl) eap_nil) c_lenT) (ep_cb (eap_cons (ep_var rfl) eap_nil) c_lenT) o_eqI) (fun _ => Ep.to (ep_cb (eap_cons (Ep.to (ep_lc (by decide) (tip_zipT (ep_var rfl) (ep_var rfl) (n := ds.length) (by simp [iDats_len])) hl (fun _ => true) (fun _ => iBl true) fun i r hi hr => ?_) (congrArg iLst (given_true _))) eap_nil) c_all) (congrArg iBl (all_true _)))) (by simp) _ _ q)
      obtain ⟨q1, q2, e1, e2, rfl⟩ := hr
      rw [e1] at e2
      cases e2
      obtain ⟨d', hd', rfl⟩ := iDats_get K e1
      exact tg_tup rfl (tgs_cons (tg_name (tgs_cons (tg_name (tgs_nil ⟨rfl, etp_yes, fun _ => ep_callP d' (eap_cons (ep_var rfl) (eap_cons (ep_var rfl) eap_nil)) rfl (hf d' hd')⟩)))))
    | non =>
      rw [iDat]
      refine st_seq (st_ifp (etp_tB (ep_cb (eap_cons (ep_var rfl) (eap_cons (ep_tupS (eap_cons ep_ty (eap_cons ep_ty eap_nil)) (by simp)) eap_nil)) (c_isi2 isT_non (b1 := false) (b2 := false) (by decide +kernel) (by decide +kernel)))) (fun h => nomatch h) (fun _ => st_next ?_))
      refine st_seq (st_ifp (b := true) (etp_or (a := true) (b := true) (etp_test (ep_op (ep_var rfl) ep_non (o_isN true (fun S v p => by cases p; rfl)))) (fun h => nomatch h)) (fun _ => ?_) (fun h => nomatch h))
      exact st_ret (ep_andV (ep_op (ep_var rfl) ep_non (o_isN true (fun S v p => by cases p; rfl))) (fun _ => ep_op (ep_var rfl) ep_non (o_isN true (fun S v p => by cases p; rfl))) _ _ q)
    | bl b =>
      rw [iDat]
      refine st_seq (st_ifp (etp_tB (ep_cb (eap_cons (ep_var rfl) (eap_cons (ep_tupS (eap_cons ep_ty (eap_cons ep_ty eap_nil)) (by simp)) eap_nil)) (c_isi2 isT_bl (b1 := false) (b2 := false) (by decide +kernel) (by decide +kernel)))) (fun h => nomatch h) (fun _ => st_next ?_))
      refine st_seq (st_ifp (b := false) (etp_or (a := false) (b := false) (etp_test (ep_op (ep_var rfl) ep_non (o_isN false (fun S v p => by cases p; rfl)))) (fun _ => etp_test (ep_op (ep_var rfl) ep_non (o_isN false (fun S v p => by cases p; rfl))))) (fun h => nomatch h) (fun _ => st_next ?_))
      refine st_seq (st_ifp (b := false) (etp_or (a := false) (b := false) (etp_test (ep_op (ep_cb (eap_cons (ep_var rfl) (eap_cons ep_ty eap_nil)) (c_isi isT_bl (b := true) (by decide +kernel))) (ep_cb (eap_cons (ep_var rfl) (eap_cons ep_ty eap_nil)) (c_isi isT_bl (b := true) (by decide +kernel))) o_neB)) (fun _ => etp_test (ep_op (ep_cb (eap_cons (ep_var rfl) (eap_cons ep_ty eap_nil)) (c_isi isT_bl (b := true) (by decide +kernel))) (ep_cb (eap_cons (ep_var rfl) (eap_cons ep_ty eap_nil)) (c_isi isT_bl (b := true) (by decide +kernel))) o_neB))) (fun h => nomatch h) (fun _ => st_next ?_))
      exact st_ret (Ep.to (ep_andV (a := true) (b := true) (ep_op (ep_cb (eap_cons (ep_var rfl) (eap_cons ep_ty eap_nil)) (c_isi isT_bl (b := false) (by decide +kernel))) (ep_cb (eap_cons (ep_var rfl) (eap_cons ep_ty eap_nil)) (c_isi isT_bl (b := false) (by decide +kernel))) o_eqB) (fun _ => Ep.to (ep_op (ep_var rfl) (ep_var rfl) o_eqB) (congrArg iBl (by simp)))) rfl _ _ q)
    | int i =>
      rw [iDat]
      refine st_seq (st_ifp (etp_tB (ep_cb (eap_cons (ep_var rfl) (eap_cons (ep_tupS (eap_cons ep_ty (eap_cons ep_ty eap_nil)) (by simp)) eap_nil)) (c_isi2 isT_int (b1 := false) (b2 := false) (by decide +kernel) (by decide +kernel)))) (fun h => nomatch h) (fun _ => st_next ?_))
      refine st_seq (st_ifp (b := false) (etp_or (a := false) (b := false) (etp_test (ep_op (ep_var rfl) ep_non (o_isN false (fun S v p => by cases p; rfl)))) (fun _ => etp_test (ep_op (ep_var rfl) ep_non (o_isN false (fun S v p => by cases p; rfl))))) (fun h => nomatch h) (fun _ => st_next ?_))
      refine st_seq (st_ifp (b := false) (etp_or (a := false) (b := false) (etp_test (ep_op (ep_cb (eap_cons (ep_var rfl) (eap_cons ep_ty eap_nil)) (c_isi isT_int (b := false) (by decide +kernel))) (ep_cb (eap_cons (ep_var rfl) (eap_cons ep_ty eap_nil)) (c_isi isT_int (b := false) (by decide +kernel))) o_neB)) (fun _ => etp_test (ep_op (ep_cb (eap_cons (ep_var rfl) (eap_cons ep_ty eap_nil)) (c_isi isT_int (b := true) (by decide +kernel))) (ep_cb (eap_cons (ep_var rfl) (eap_cons ep_ty eap_nil)) (c_isi isT_int (b := true) (by decide +kernel))) o_neB))) (fun h => nomatch h) (fun _ => st_next ?_))
      exact st_ret (Ep.to (ep_andV (a := true) (b := true) (ep_op (ep_cb (eap_cons (ep_var rfl) (eap_cons ep_ty eap_nil)) (c_isi isT_int (b := false) (by decide +kernel))) (ep_cb (eap_cons (ep_var rfl) (eap_cons ep_ty eap_nil)) (c_isi isT_int (b := false) (by decide +kernel))) o_eqB) (fun _ => Ep.to (ep_op (ep_var rfl) (ep_var rfl) o_eqI) (congrArg iBl (by simp)))) rfl _ _ q)
    | str x =>
      rw [iDat]
      refine st_seq (st_ifp (etp_tB (ep_cb (eap_cons (ep_var rfl) (eap_cons (ep_tupS (eap_cons ep_ty (eap_cons ep_ty eap_nil)) (by simp)) eap_nil)) (c_isi2 isT_str (b1 := false) (b2 := false) (by decide +kernel) (by decide +kernel)))) (fun h => nomatch h) (fun _ => st_next ?_))
      refine st_seq (st_ifp (b := false) (etp_or (a := false) (b := false) (etp_test (ep_op (ep_var rfl) ep_non (o_isN false (fun S v p => by cases p; rfl)))) (fun _ => etp_test (ep_op (ep_var rfl) ep_non (o_isN false (fun S v p => by cases p; rfl))))) (fun h => nomatch h) (fun _ => st_next ?_))
      refine st_seq (st_ifp (b := false) (etp_or (a := false) (b := false) (etp_test (ep_op (ep_cb (eap_cons (ep_var rfl) (eap_cons ep_ty eap_nil)) (c_isi isT_str (b := false) (by decide +kernel))) (ep_cb (eap_cons (ep_var rfl) (eap_cons ep_ty eap_nil)) (c_isi isT_str (b := false) (by decide +kernel))) o_neB)) (fun _ => etp_test (ep_op (ep_cb (eap_cons (ep_var rfl) (eap_cons ep_ty eap_nil)) (c_isi isT_str (b := false) (by decide +kernel))) (ep_cb (eap_cons (ep_var rfl) (eap_cons ep_ty eap_nil)) (c_isi isT_str (b := false) (by decide +kernel))) o_neB))) (fun h => nomatch h) (fun _ => st_next ?_))
      exact st_ret (Ep.to (ep_andV (a := true) (b := true) (ep_op (ep_cb (eap_cons (ep_var rfl) (eap_cons ep_ty eap_nil)) (c_isi isT_str (b := true) (by decide +kernel))) (ep_cb (eap_cons (ep_var rfl) (eap_cons ep_ty eap_nil)) (c_isi isT_str (b := true) (by decide +kernel))) o_eqB) (fun _ => Ep.to (ep_op (ep_var rfl) (ep_var rfl) o_eqS) (congrArg iBl (by simp)))) rfl _ _ q)
theorem ok__law_like (B : Bt mg) {f : Addr} {fd : FuncData} (d : Df K mg "_law_like" s__law_like ["_law_found", "_law_due"] f fd) : Cl P w K mg base CX0 7 "_law_like" (ts__law_like K) [] := ok__law_like_n B d 7
abbrev s_law : Stmt := top 63
theorem sc_law : FnScope ["_law_script", "_law_box_here", "_law_m", "_law_moved_here", "_law_fresh", "_law_scene_here", "_law_other", "_law_rooms", "_law_turn", "_law_starts", "_law_goals", "_law_first", "_law_due", "_law_found", "_law_room", "_law_beat", "_law_lit"] ["_law_script"] (defScope s_law) := ⟨rfl, rfl, rfl, by decide +kernel, rfl, by decide +kernel, by decide +kernel⟩
abbrev ts_law (K : PySem.W.Frag) : TSp := fun Rs M k _ => ∃ ns, Rs = [iScr K ns] ∧ ns.length ≤ 63 ∧ M = [] ∧ ∀ M', k (iBl true) M'
theorem ok_law (B : Bt mg) {C_House : Addr} (T_House : Txt_House K mg C_House) {C_Scene : Addr} (T_Scene : Txt_Scene K mg C_Scene) (c__law_box : Cl P w K mg base CX0 1 "_law_box" (ts__law_box K) []) (c__law_scene : Cl P w K mg base CX0 5 "_law_scene" (ts__law_scene K) []) (c__law_moved : Cl P w K mg base CX0 4 "_law_moved" (ts__law_moved K) []) (c__law_built : Cl P w K mg base CX0 7 "_law_built" (ts__law_built K C_House C_Scene) []) (c__law_begin : Cl P w K mg base CX0 3 "_law_begin" (ts__law_begin K) []) (c__law_some : Cl P w K mg base CX0 3 "_law_some" (ts__law_some K) []) (c__law_beats : Cl P w K mg base CX0 1 "_law_beats" (ts__law_beats K) []) (c_way : Cl P w K mg base CX0 7 "way" (ts_way K C_House C_Scene) [V.non]) (cN_way : ClN P w K mg base CX0 7 "way" (ts_way K C_House C_Scene) 3 ["begin"] (fun vs zs => vs ++ zs)) (cm_Scene_lit : ClM P w K mg base CX0 2 C_Scene "lit" (ts_Scene_lit K C_House C_Scene) []) (c__law_like : Cl P w K mg base CX0 7 "_law_like" (ts__law_like K) []) {f : Addr} {fd : FuncData} (d : Df K mg "law" s_law ["_law_script"] f fd) : FnOk P w K mg base CX0 8 f fd ["_law_script"] (spT (ts_law K)) := by
  refine bx_of ?_
  simp (disch := with_unfolding_all (
    refine (okT (kk := 7) d.fn sc_law (fun Rs M k X h => by obtain ⟨ns, rfl, _⟩ := h; rfl) fun cdv A outer s H E hr => ⟨_,
      (pss_cons (ps_set (i := 1) sc_law.nd rfl (Or.inl rfl) (pe_cl c__law_box hr (by decide) pass0 rfl (pa_cons (pv 0) pa_nil)))
        (pss_cons (ps_set (i := 2) sc_law.nd rfl (Or.inl rfl) (pe_cl c__law_scene hr (by decide) pass0 rfl (pa_cons (pv 1) (pa_cons pe_int (pa_cons pe_int (pa_cons pe_int pa_nil))))))
        (pss_cons (ps_asg (pe_cl c__law_moved hr (by decide) pass0 rfl (pa_cons (pv 1) (pa_cons (pv 2) pa_nil))) (pg_tup rfl (pgs_cons (pg_name (i := 3) sc_law.nd rfl (Or.inl rfl)) (pgs_cons (pg_name (i := 4) sc_law.nd rfl (Or.inr rfl)) pgs_nil))))
        (pss_cons (ps_par3 (i := 5) (j := 6) (l := 7) rfl sc_law.nd rfl rfl rfl (by decide) (by decide) (by decide) rfl rfl rfl (pa_cons (pe_cl c__law_built hr (by decide) pass0 rfl (pa_cons (pv 2) pa_nil)) (pa_cons (pe_cl c__law_built hr (by decide) pass0 rfl (pa_cons (pv 3) pa_nil)) (pa_cons (pe_ix ix_tup (pe_dget (by exact hu_of hr) (pv 2) pe_str (fun _ _ => rfl)) pe_int (fun _ _ => rfl)) pa_nil))) (by rfl))
        (pss_cons (ps_for PassesOwn.never rfl (pi_range1 (by rfl) B.range (pa_cons pe_int pa_nil)) (pg_name (i := 8) sc_law.nd rfl (Or.inl rfl)) (pss_cons (ps_par3 (i := 9) (j := 10) (l := 11) rfl sc_law.nd rfl rfl rfl (by decide) (by decide) (by decide) rfl rfl rfl (pa_cons (pe_cl c__law_some hr (by decide) pass0 rfl (pa_cons (pv 1) (pa_cons (pv 7) (pa_cons pe_int pa_nil)))) (pa_cons (pe_cl c__law_some hr (by decide) pass0 rfl (pa_cons (pv 1) (pa_cons (pv 7) (pa_cons pe_int pa_nil)))) (pa_cons (pe_cl c__law_begin hr (by decide) pass0 rfl (pa_cons (pv 1) pa_nil)) pa_nil))) (by rfl))
        (pss_cons (ps_set (i := 12) sc_law.nd rfl (Or.inl rfl) (pe_cl c__law_beats hr (by decide) pass0 rfl (pa_cons (pe_clN cN_way hr (by decide) pass0 rfl (pa_cons (pv 5) (pa_cons (pv 9) (pa_cons (pv 10) pa_nil))) (pk_cons (pv 11) pk_nil)) pa_nil)))
        (pss_cons (ps_set (i := 13) sc_law.nd rfl (Or.inl rfl) (pe_clN cN_way hr (by decide) pass0 rfl (pa_cons (pv 6) (pa_cons (pe_lc (own := [("_law_room", 14)]) rfl sc_law.nd (pi_list (pv 9)) (blkOk_by (own := [("_law_room", 14)]) (N := ["_law_script", "_law_box_here", "_law_m", "_law_moved_here", "_law_fresh", "_law_scene_here", "_law_other", "_law_rooms", "_law_turn", "_law_starts", "_law_goals", "_law_first", "_law_due", "_law_found", "_law_room", "_law_beat", "_law_lit"]) (sc := defScope s_law) (by decide +kernel)) (fun _ _ _ _ _ => (pg_name (i := 14) sc_law.nd rfl (by first | exact Or.inl rfl | exact Or.inr rfl))) (fun _ _ _ _ _ => pts_nil) (fun _ _ _ _ _ => (pe_dget (by exact hu_of hr) (pv 4) (pv 14) (fun _ _ => rfl)))) (pa_cons (pe_lc (own := [("_law_room", 14)]) rfl sc_law.nd (pi_list (pv 10)) (blkOk_by (own := [("_law_room", 14)]) (N := ["_law_script", "_law_box_here", "_law_m", "_law_moved_here", "_law_fresh", "_law_scene_here", "_law_other", "_law_rooms", "_law_turn", "_law_starts", "_law_goals", "_law_first", "_law_due", "_law_found", "_law_room", "_law_beat", "_law_lit"]) (sc := defScope s_law) (by decide +kernel)) (fun _ _ _ _ _ => (pg_name (i := 14) sc_law.nd rfl (by first | exact Or.inl rfl | exact Or.inr rfl))) (fun _ _ _ _ _ => pts_nil) (fun _ _ _ _ _ => (pe_dget (by exact hu_of hr) (pv 4) (pv 14) (fun _ _ => rfl)))) pa_nil))) (pk_cons (pv 11) pk_nil)))
        (pss_cons (ps_set (i := 15) sc_law.nd rfl (Or.inl rfl) (pe_ifExp (pt_cmpR op_isN (pv 11) pe_non (nomark _)) pe_int (pv 11)))
        (pss_cons (ps_set (i := 16) sc_law.nd rfl (Or.inl rfl) (pe_callB cr_sortedS (by rfl) B.sorted (by decide +kernel) (pa_cons (pe_lc (own := [("_law_room", 14)]) rfl sc_law.nd (pi_list (pe_clM cm_Scene_lit hr (by decide) pass0 (pv 5) (pa_cons (pv 15) pa_nil))) (blkOk_by (own := [("_law_room", 14)]) (N := ["_law_script", "_law_box_here", "_law_m", "_law_moved_here", "_law_fresh", "_law_scene_here", "_law_other", "_law_rooms", "_law_turn", "_law_starts", "_law_goals", "_law_first", "_law_due", "_law_found", "_law_room", "_law_beat", "_law_lit"]) (sc := defScope s_law) (by decide +kernel)) (fun _ _ _ _ _ => (pg_name (i := 14) sc_law.nd rfl (by first | exact Or.inl rfl | exact Or.inr rfl))) (fun _ _ _ _ _ => pts_nil) (fun _ _ _ _ _ => (pe_dget (by exact hu_of hr) (pv 4) (pv 14) (fun _ _ => rfl)))) pa_nil)))
        (pss_one (ps_if (PW.pt (pw_or (pt_not (pt_val (pe_cl c__law_like hr (by decide) pass0 rfl (pa_cons (pe_cl c__law_beats hr (by decide) pass0 rfl (pa_cons (pv 13) pa_nil)) (pa_cons (pv 12) pa_nil))))) (pw_or1 (pt_cmpR (op_neD hr.units) (pe_callB cr_sortedS (by rfl) B.sorted (by decide +kernel) (pa_cons (pe_clM cm_Scene_lit hr (by decide) pass0 (pv 6) (pa_cons (pv 15) pa_nil)) pa_nil)) (pv 16) (nomark _))))) (pss_one (ps_ret pe_bl)) pss_nil))))))))
        (pss_one (ps_ret pe_bl))))))), ?_⟩)
    try dsimp only [L3.cxK, L3.cxKX]
    rintro Rs M k X ⟨ns, rfl, hl, rfl, q⟩
    (repeat' decreasing_trivial_pre_omega)
    refine ⟨[], [], rfl, ns, rfl, hl, rfl, fun b => ?_⟩
    (repeat' decreasing_trivial_pre_omega)
    refine ⟨_, leS_rfl, 5, 3, 4, rfl, by decide, by decide, by decide, by decide, by decide, fun r dr => ?_⟩
    have ok := built_ok dr (by decide) (by decide) (by decide)
    have n8 : r.ns.length ≤ 8 := ok.nl
    have n0 : 0 < r.ns.length := dr.ho.n0
    (repeat' decreasing_trivial_pre_omega)
    refine ⟨_, leS_rfl, r, rfl, n8, dr.ho.nd, Nat.le_trans dr.pl (by decide), Nat.le_trans dr.ho.dl (by decide), Nat.le_trans dr.ho.sl (by decide), fun p hp => ⟨(dr.ho.dm p hp).1, (dr.ho.dm p hp).2.1⟩, fun p hp => ⟨(dr.ho.sm p hp).1, (dr.ho.sm p hp).2.1⟩, fun p hp => ⟨Nat.le_trans (dr.pr p hp).1.l6 (by decide), (dr.pr p hp).1.ln⟩, fun nm od nl nn hnm pm => ?_⟩
    have dr2 := mov_drok dr (by omega) nn hnm pm
    have mv := mov_moved dr.ho (by omega) nn pm
    have ok2 := built_ok dr2 (by decide) (by decide) (by decide)
    (repeat' decreasing_trivial_pre_omega)
    refine ⟨_, leS_rfl, 5, 3, 4, r, rfl, dr, by decide, by decide, by decide, fun T per => ?_⟩
    (repeat' decreasing_trivial_pre_omega)
    refine ⟨_, leS_rfl, 5, 3, 4, movS r nm od, rfl, dr2, by decide, by decide, by decide, fun T2 per2 => ?_⟩
    cases per_oneM per2 (moved_per ok mv per)
    (repeat' decreasing_trivial_pre_omega)
    have look : ∀ z ∈ r.ns, (r.ns.zip (nm.map aStr)).lookup z = some (aStr (frF r.ns nm z)) := fun z hz => fr_look hz (by omega)
    refine st_seq (st_forG Unit ?_)
    (repeat' decreasing_trivial_pre_omega)
    refine ⟨3, rfl, by decide, fun _ _ => True, fun _ => [some (iScr K ns), some (iRef b), some (iDF (madeF K r)), some (iDF (madeF K (movS r nm od))), some (iDF (r.ns.zip (nm.map aStr))), some (iObj C_Scene (sceneF K C_House (builtOf r) (iLst (rowsR K (builtOf r) T)) (iLst (glowR (builtOf r) T)))), some (iObj C_Scene (sceneF K C_House (builtOf (movS r nm od)) (iLst (rowsR K (builtOf (movS r nm od)) T)) (iLst (glowR (builtOf (movS r nm od)) T)))), some (iLst (r.ns.map aStr)), none, none, none, none, none, none, none, none, none], fun _ => [(b, mBox)], lj () True.intro (by (repeat' decreasing_trivial_pre_omega)) rfl, ?_, ?_⟩
    · rintro i rr _ hi rfl _
      try dsimp only
      (repeat' decreasing_trivial_pre_omega)
      refine ⟨_, leS_rfl, r.ns, 3, rfl, n0, n8, by decide, fun zs hz lz => ?_⟩
      (repeat' decreasing_trivial_pre_omega)
      refine ⟨_, leS_rfl, r.ns, 2, rfl, n0, n8, by decide, fun ys hy ly => ?_⟩
      (repeat' decreasing_trivial_pre_omega)
      refine ⟨_, leS_rfl, rfl, fun fo hfo => ?_⟩
      (repeat' decreasing_trivial_pre_omega)
      refine ⟨_, leS_cons (fun _ _ h => h) (leS_cons seq_l (leS_cons seq_l leS_rfl)), builtOf r, T, zs, ys, fo, rfl, ok, per, hz, by omega, hy, hfo, fun R1 hR1 => ?_⟩
      (repeat' decreasing_trivial_pre_omega)
      refine ⟨_, leS_rfl, R1, _, rfl, told_beats hR1, ?_⟩
      (repeat' decreasing_trivial_pre_omega)
      refine Ep.ev (ep_lcM (l := zs) (e := aStr) (e' := fun z => aStr (frF r.ns nm z)) (ep_var rfl) (by omega) (by decide) fun z hzz => ?_) ?_
      · (repeat' decreasing_trivial_pre_omega)
        refine ⟨z, _, rfl, .inl rfl, _, look _ (hz z hzz), ?_⟩
        (repeat' decreasing_trivial_pre_omega)
      (repeat' decreasing_trivial_pre_omega)
      refine Ep.ev (ep_lcM (l := ys) (e := aStr) (e' := fun z => aStr (frF r.ns nm z)) (ep_var rfl) (by omega) (by decide) fun z hzz => ?_) ?_
      · (repeat' decreasing_trivial_pre_omega)
        refine ⟨z, _, rfl, .inl rfl, _, look _ (hy z hzz), ?_⟩
        (repeat' decreasing_trivial_pre_omega)
      (repeat' decreasing_trivial_pre_omega)
      rw [show (zs.map fun z => aStr (frF r.ns nm z)) = (zs.map (frF r.ns nm)).map aStr from by rw [List.map_map]; rfl, show (ys.map fun z => aStr (frF r.ns nm z)) = (ys.map (frF r.ns nm)).map aStr from by rw [List.map_map]; rfl]
      have mf : ∀ l : List Str, (∀ z ∈ l, z ∈ r.ns) → ∀ z ∈ l.map (frF r.ns nm), z ∈ (builtOf (movS r nm od)).ns := fun l hl z hz => by
        obtain ⟨x, hx, rfl⟩ := List.mem_map.mp hz
        exact mv.mf (hl x hx)
      refine ⟨_, leS_cons (fun _ _ h => h) (leS_cons seq_l (leS_cons seq_l leS_rfl)), builtOf (movS r nm od), T, zs.map (frF r.ns nm), ys.map (frF r.ns nm), fo, rfl, ok2, per2, mf zs hz, by rw [List.length_map]; omega, mf ys hy, hfo, fun R2 hR2 => ?_⟩
      have same := moved_way ok ok2 mv per per2 hz hy fo
      try dsimp only
      refine st_join (α := Int) (P := fun be => -1000000000 ≤ be ∧ be ≤ 1000000000) (G := fun be => [some (iScr K ns), some (iRef b), some (iDF (madeF K r)), some (iDF (madeF K (movS r nm od))), some (iDF (r.ns.zip (nm.map aStr))), some (iObj C_Scene (sceneF K C_House (builtOf r) (iLst (rowsR K (builtOf r) T)) (iLst (glowR (builtOf r) T)))), some (iObj C_Scene (sceneF K C_House (builtOf (movS r nm od)) (iLst (rowsR K (builtOf (movS r nm od)) T)) (iLst (glowR (builtOf (movS r nm od)) T)))), some (iLst (r.ns.map aStr)), none, some (iLst (zs.map aStr)), some (iLst (ys.map aStr)), none, some (iOpt (wayN (builtOf r) T zs ys fo)), some R2, none, some (iInt be), none]) (N := fun _ => [(b, mBox)]) ?_ (fun be hbe => ?_)
      · cases fo with
        | none =>
          (repeat' decreasing_trivial_pre_omega)
          refine o_isN true (fun S v h => by cases h; rfl) _ ?_
          (repeat' decreasing_trivial_pre_omega)
          exact lj (P := fun be : Int => -1000000000 ≤ be ∧ be ≤ 1000000000) (0 : Int) ⟨by decide, by decide⟩ (by (repeat' decreasing_trivial_pre_omega)) rfl
        | some x =>
          (repeat' decreasing_trivial_pre_omega)
          refine o_isN false (fun S v h => by cases h; rfl) _ ?_
          (repeat' decreasing_trivial_pre_omega)
          exact lj (P := fun be : Int => -1000000000 ≤ be ∧ be ≤ 1000000000) x (hfo x rfl) (by (repeat' decreasing_trivial_pre_omega)) rfl
      try dsimp only
      have lm := lit_mod ok per (rowZ (builtOf r) T be) be
      have lm2 := lit_mod ok2 per2 (rowZ (builtOf (movS r nm od)) T be) be
      have pm2 := moved_lit ok mv be (rowZ (builtOf r) T be)
      rw [moved_rowZ ok mv] at lm2
      have lls : ∀ z ∈ litOf (builtOf r) (rowZ (builtOf r) T be) be, z ∈ r.ns := fun z hz => (List.mem_filter.mp hz).1
      have ll : (litOf (builtOf r) (rowZ (builtOf r) T be) be).length ≤ r.ns.length := List.length_filter_le _ _
      generalize litOf (builtOf r) (rowZ (builtOf r) T be) be = L at lm lls ll pm2
      generalize litOf (builtOf (movS r nm od)) (rowZ (builtOf r) T be) be = L2 at lm2 pm2
      (repeat' decreasing_trivial_pre_omega)
      refine Ep.ev (ep_lcM (l := L) (e := aStr) (e' := fun z => aStr (frF r.ns nm z)) (fun k1 X1 q1 => ?_) (by omega) (by decide) fun z hzz => ?_) ?_
      · (repeat' decreasing_trivial_pre_omega)
        refine ⟨_, leS_rfl, _, builtOf r, T, _, be, rfl, .inl rfl, ok, per, hbe.1, hbe.2, .inl ?_⟩
        rw [lm]
        exact q1
      · (repeat' decreasing_trivial_pre_omega)
        refine ⟨z, _, rfl, .inl rfl, _, look _ (lls z hzz), ?_⟩
        (repeat' decreasing_trivial_pre_omega)
      (repeat' decreasing_trivial_pre_omega)
      rw [show (L.map fun z => aStr (frF r.ns nm z)) = (L.map (frF r.ns nm)).map aStr from by rw [List.map_map]; rfl]
      refine c_sortS (by rw [List.length_map]; omega) fun ys1 py1 so1 => ?_
      (repeat' decreasing_trivial_pre_omega)
      refine ⟨_, leS_rfl, R2, _, rfl, told_beats hR2, ?_⟩
      (repeat' decreasing_trivial_pre_omega)
      rw [same]
      apply k_like (d := optD (wayN (builtOf r) T zs ys fo))
      · exact optD_rep K _
      · exact optD_rep K _
      · exact optD_fit _
      (repeat' decreasing_trivial_pre_omega)
      refine ⟨_, leS_rfl, _, builtOf (movS r nm od), T, _, be, rfl, .inl rfl, ok2, per2, hbe.1, hbe.2, .inl ?_⟩
      rw [moved_rowZ ok mv, lm2]
      (repeat' decreasing_trivial_pre_omega)
      refine c_sortS (by rw [pm2.length_eq, List.length_map]; omega) fun ys2 py2 so2 => ?_
      have es : ys2 = ys1 := sorted_one ((py2.trans pm2).trans py1.symm) so2 so1
      subst es
      have oks : ∀ z ∈ ys2, StrOk z := fun z hz => by
        obtain ⟨x, hx, rfl⟩ := List.mem_map.mp (py1.mem_iff.mp hz)
        exact fun c hc => by have := (hnm _ (fr_mem (lls x hx) (by omega))).2.2 c hc; omega
      (repeat' decreasing_trivial_pre_omega)
      refine o_neL (g := PyData.str) (dat_str K) eqv_str (fun z hz => shp_str (oks z hz)) (fun z hz => shp_str (oks z hz)) _ ?_
      rw [show (!decide (ys2 = ys2)) = false by simp]
      (repeat' decreasing_trivial_pre_omega)
      exact lj () True.intro (by (repeat' decreasing_trivial_pre_omega)) rfl
    · rintro _ Γ1 _ w
      refine st_wk w ?_
      try dsimp only
      (repeat' decreasing_trivial_pre_omega)
      exact q _
    )) only [↓bx_true]

end
theorem all_mk {l : PySem.W.OpenLaw} {w : World} {K : PySem.W.Frag} {h : Heap} {mg : Str → Option Value} {fa C_House C_Scene f1 f2 f3 f4 f5 f6 f7 f8 f9 f10 f11 f12 f13 f14 f15 f16 f17 f18 f19 f20 f21 f22 f23 f24 f25 f26 f27 f28 f29 f30 f31 f32 f33 f34 f35 f36 f37 f38 f39 f40 f41 f42 f43 f44 f45 f46 f47 f48 f49 f50 f51 f52 f53 f54 : Addr} (X : K.In h) (G : h.Ns mainGlobals mg) (hfa : mg "law" = some (.ref fa))
    (a_House : PySem.W.nsIn K mainGlobals "House" = some (some (.ref C_House)))
    (a_Scene : PySem.W.nsIn K mainGlobals "Scene" = some (some (.ref C_Scene)))
    {kV1 : Value} {od1 an1 : Option Addr} {sl1 : Array (Option Value)} {oc1 dc1 pm1 cd1 ct1 : Value} (a1 : PySem.W.nsIn K mainGlobals "_law_box" = some (some (.ref f1))) (l1 : K.lookup f1 = some ⟨oc1, od1, .func (PySem.W.fnOf "_law_box" "_law_box" (defArgs s__law_box) (defBody s__law_box) (defScope s__law_box) .none kV1 dc1 pm1 an1 cd1 ct1), sl1⟩) (c1 : PySem.W.codeIn K cd1 "_law_box" = true) (k1 : PySem.W.keepIn K (.ref f1) = true)
    {kV2 : Value} {od2 an2 : Option Addr} {sl2 : Array (Option Value)} {oc2 dc2 pm2 cd2 ct2 : Value} (a2 : PySem.W.nsIn K mainGlobals "_law_draw" = some (some (.ref f2))) (l2 : K.lookup f2 = some ⟨oc2, od2, .func (PySem.W.fnOf "_law_draw" "_law_draw" (defArgs s__law_draw) (defBody s__law_draw) (defScope s__law_draw) .none kV2 dc2 pm2 an2 cd2 ct2), sl2⟩) (c2 : PySem.W.codeIn K cd2 "_law_draw" = true) (k2 : PySem.W.keepIn K (.ref f2) = true)
    {kV3 : Value} {od3 an3 : Option Addr} {sl3 : Array (Option Value)} {oc3 dc3 pm3 cd3 ct3 : Value} (a3 : PySem.W.nsIn K mainGlobals "_law_of" = some (some (.ref f3))) (l3 : K.lookup f3 = some ⟨oc3, od3, .func (PySem.W.fnOf "_law_of" "_law_of" (defArgs s__law_of) (defBody s__law_of) (defScope s__law_of) .none kV3 dc3 pm3 an3 cd3 ct3), sl3⟩) (c3 : PySem.W.codeIn K cd3 "_law_of" = true) (k3 : PySem.W.keepIn K (.ref f3) = true)
    {kV4 : Value} {od4 an4 : Option Addr} {sl4 : Array (Option Value)} {oc4 dc4 pm4 cd4 ct4 : Value} (a4 : PySem.W.nsIn K mainGlobals "_law_names" = some (some (.ref f4))) (l4 : K.lookup f4 = some ⟨oc4, od4, .func (PySem.W.fnOf "_law_names" "_law_names" (defArgs s__law_names) (defBody s__law_names) (defScope s__law_names) .none kV4 dc4 pm4 an4 cd4 ct4), sl4⟩) (c4 : PySem.W.codeIn K cd4 "_law_names" = true) (k4 : PySem.W.keepIn K (.ref f4) = true)
    {kV5 : Value} {od5 an5 : Option Addr} {sl5 : Array (Option Value)} {oc5 dc5 pm5 cd5 ct5 : Value} (a5 : PySem.W.nsIn K mainGlobals "_law_house" = some (some (.ref f5))) (l5 : K.lookup f5 = some ⟨oc5, od5, .func (PySem.W.fnOf "_law_house" "_law_house" (defArgs s__law_house) (defBody s__law_house) (defScope s__law_house) .none kV5 dc5 pm5 an5 cd5 ct5), sl5⟩) (c5 : PySem.W.codeIn K cd5 "_law_house" = true) (k5 : PySem.W.keepIn K (.ref f5) = true)
    {kV6 : Value} {od6 an6 : Option Addr} {sl6 : Array (Option Value)} {oc6 dc6 pm6 cd6 ct6 : Value} (a6 : PySem.W.nsIn K mainGlobals "_law_near" = some (some (.ref f6))) (l6 : K.lookup f6 = some ⟨oc6, od6, .func (PySem.W.fnOf "_law_near" "_law_near" (defArgs s__law_near) (defBody s__law_near) (defScope s__law_near) .none kV6 dc6 pm6 an6 cd6 ct6), sl6⟩) (c6 : PySem.W.codeIn K cd6 "_law_near" = true) (k6 : PySem.W.keepIn K (.ref f6) = true)
    {kV7 : Value} {od7 an7 : Option Addr} {sl7 : Array (Option Value)} {oc7 dc7 pm7 cd7 ct7 : Value} (a7 : PySem.W.nsIn K mainGlobals "_law_hand" = some (some (.ref f7))) (l7 : K.lookup f7 = some ⟨oc7, od7, .func (PySem.W.fnOf "_law_hand" "_law_hand" (defArgs s__law_hand) (defBody s__law_hand) (defScope s__law_hand) .none kV7 dc7 pm7 an7 cd7 ct7), sl7⟩) (c7 : PySem.W.codeIn K cd7 "_law_hand" = true) (k7 : PySem.W.keepIn K (.ref f7) = true)
    {kV8 : Value} {od8 an8 : Option Addr} {sl8 : Array (Option Value)} {oc8 dc8 pm8 cd8 ct8 : Value} (a8 : PySem.W.nsIn K mainGlobals "_law_round" = some (some (.ref f8))) (l8 : K.lookup f8 = some ⟨oc8, od8, .func (PySem.W.fnOf "_law_round" "_law_round" (defArgs s__law_round) (defBody s__law_round) (defScope s__law_round) .none kV8 dc8 pm8 an8 cd8 ct8), sl8⟩) (c8 : PySem.W.codeIn K cd8 "_law_round" = true) (k8 : PySem.W.keepIn K (.ref f8) = true)
    {kV9 : Value} {od9 an9 : Option Addr} {sl9 : Array (Option Value)} {oc9 dc9 pm9 cd9 ct9 : Value} (a9 : PySem.W.nsIn K mainGlobals "_law_scene" = some (some (.ref f9))) (l9 : K.lookup f9 = some ⟨oc9, od9, .func (PySem.W.fnOf "_law_scene" "_law_scene" (defArgs s__law_scene) (defBody s__law_scene) (defScope s__law_scene) .none kV9 dc9 pm9 an9 cd9 ct9), sl9⟩) (c9 : PySem.W.codeIn K cd9 "_law_scene" = true) (k9 : PySem.W.keepIn K (.ref f9) = true)
    {kV10 : Value} {od10 an10 : Option Addr} {sl10 : Array (Option Value)} {oc10 dc10 pm10 cd10 ct10 : Value} (a10 : PySem.W.nsIn K mainGlobals "_law_moved" = some (some (.ref f10))) (l10 : K.lookup f10 = some ⟨oc10, od10, .func (PySem.W.fnOf "_law_moved" "_law_moved" (defArgs s__law_moved) (defBody s__law_moved) (defScope s__law_moved) .none kV10 dc10 pm10 an10 cd10 ct10), sl10⟩) (c10 : PySem.W.codeIn K cd10 "_law_moved" = true) (k10 : PySem.W.keepIn K (.ref f10) = true)
    {kV11 : Value} {od11 an11 : Option Addr} {sl11 : Array (Option Value)} {oc11 dc11 pm11 cd11 ct11 : Value} (a11 : PySem.W.nsIn K mainGlobals "is_name" = some (some (.ref f11))) (l11 : K.lookup f11 = some ⟨oc11, od11, .func (PySem.W.fnOf "is_name" "is_name" (defArgs s_is_name) (defBody s_is_name) (defScope s_is_name) .none kV11 dc11 pm11 an11 cd11 ct11), sl11⟩) (c11 : PySem.W.codeIn K cd11 "is_name" = true) (k11 : PySem.W.keepIn K (.ref f11) = true)
    {kV12 : Value} {od12 an12 : Option Addr} {sl12 : Array (Option Value)} {oc12 dc12 pm12 cd12 ct12 : Value} (a12 : PySem.W.nsIn K mainGlobals "need_fresh" = some (some (.ref f12))) (l12 : K.lookup f12 = some ⟨oc12, od12, .func (PySem.W.fnOf "need_fresh" "need_fresh" (defArgs s_need_fresh) (defBody s_need_fresh) (defScope s_need_fresh) .none kV12 dc12 pm12 an12 cd12 ct12), sl12⟩) (c12 : PySem.W.codeIn K cd12 "need_fresh" = true) (k12 : PySem.W.keepIn K (.ref f12) = true)
    {kV13 : Value} {od13 an13 : Option Addr} {sl13 : Array (Option Value)} {oc13 dc13 pm13 cd13 ct13 : Value} (a13 : PySem.W.findIn K (.ref C_House) "need_room" = some (some (.ref f13))) (i13 : PySem.W.isFn K (.ref f13) = true) (l13 : K.lookup f13 = some ⟨oc13, od13, .func (PySem.W.fnOf "need_room" "House.need_room" (defArgs s_House_need_room) (defBody s_House_need_room) (defScope s_House_need_room) .none kV13 dc13 pm13 an13 cd13 ct13), sl13⟩) (c13 : PySem.W.codeIn K cd13 "House.need_room" = true) (k13 : PySem.W.keepIn K (.ref f13) = true)
    {kV14 : Value} {od14 an14 : Option Addr} {sl14 : Array (Option Value)} {oc14 dc14 pm14 cd14 ct14 : Value} (a14 : PySem.W.findIn K (.ref C_House) "need_pair" = some (some (.ref f14))) (i14 : PySem.W.isFn K (.ref f14) = true) (l14 : K.lookup f14 = some ⟨oc14, od14, .func (PySem.W.fnOf "need_pair" "House.need_pair" (defArgs s_House_need_pair) (defBody s_House_need_pair) (defScope s_House_need_pair) .none kV14 dc14 pm14 an14 cd14 ct14), sl14⟩) (c14 : PySem.W.codeIn K cd14 "House.need_pair" = true) (k14 : PySem.W.keepIn K (.ref f14) = true)
    {T15 : Addr} {kV15 : Value} {od15 an15 : Option Addr} {sl15 : Array (Option Value)} {oc15 dc15 pm15 cd15 ct15 : Value} (a15 : PySem.W.findIn K (.ref C_House) "__init__" = some (some (.ref f15))) (i15 : PySem.W.isFn K (.ref f15) = true) (l15 : K.lookup f15 = some ⟨oc15, od15, .func (PySem.W.fnOf "__init__" "House.__init__" (defArgs s_House___init__) (defBody s_House___init__) (defScope s_House___init__) (.ref T15) kV15 dc15 pm15 an15 cd15 ct15), sl15⟩) (c15 : PySem.W.codeIn K cd15 "House.__init__" = true) (k15 : PySem.W.keepIn K (.ref f15) = true)
    {e15_0 e15_1 e15_2 : Addr} {ocT15 : Value} {odT15 : Option Addr} {nT15 : Nat} {slT15 : Array (Option Value)} (lT15 : K.lookup T15 = some ⟨ocT15, odT15, .seq #[.ref e15_0, .ref e15_1, .ref e15_2] nT15, slT15⟩)
    {kV16 : Value} {od16 an16 : Option Addr} {sl16 : Array (Option Value)} {oc16 dc16 pm16 cd16 ct16 : Value} (a16 : PySem.W.nsIn K mainGlobals "_law_made" = some (some (.ref f16))) (l16 : K.lookup f16 = some ⟨oc16, od16, .func (PySem.W.fnOf "_law_made" "_law_made" (defArgs s__law_made) (defBody s__law_made) (defScope s__law_made) .none kV16 dc16 pm16 an16 cd16 ct16), sl16⟩) (c16 : PySem.W.codeIn K cd16 "_law_made" = true) (k16 : PySem.W.keepIn K (.ref f16) = true)
    {kV17 : Value} {od17 an17 : Option Addr} {sl17 : Array (Option Value)} {oc17 dc17 pm17 cd17 ct17 : Value} (a17 : PySem.W.findIn K (.ref C_House) "has_room" = some (some (.ref f17))) (i17 : PySem.W.isFn K (.ref f17) = true) (l17 : K.lookup f17 = some ⟨oc17, od17, .func (PySem.W.fnOf "has_room" "House.has_room" (defArgs s_House_has_room) (defBody s_House_has_room) (defScope s_House_has_room) .none kV17 dc17 pm17 an17 cd17 ct17), sl17⟩) (c17 : PySem.W.codeIn K cd17 "House.has_room" = true) (k17 : PySem.W.keepIn K (.ref f17) = true)
    {kV18 : Value} {od18 an18 : Option Addr} {sl18 : Array (Option Value)} {oc18 dc18 pm18 cd18 ct18 : Value} (a18 : PySem.W.findIn K (.ref C_House) "has_door" = some (some (.ref f18))) (i18 : PySem.W.isFn K (.ref f18) = true) (l18 : K.lookup f18 = some ⟨oc18, od18, .func (PySem.W.fnOf "has_door" "House.has_door" (defArgs s_House_has_door) (defBody s_House_has_door) (defScope s_House_has_door) .none kV18 dc18 pm18 an18 cd18 ct18), sl18⟩) (c18 : PySem.W.codeIn K cd18 "House.has_door" = true) (k18 : PySem.W.keepIn K (.ref f18) = true)
    {kV19 : Value} {od19 an19 : Option Addr} {sl19 : Array (Option Value)} {oc19 dc19 pm19 cd19 ct19 : Value} (a19 : PySem.W.findIn K (.ref C_House) "at_hand" = some (some (.ref f19))) (i19 : PySem.W.isFn K (.ref f19) = true) (l19 : K.lookup f19 = some ⟨oc19, od19, .func (PySem.W.fnOf "at_hand" "House.at_hand" (defArgs s_House_at_hand) (defBody s_House_at_hand) (defScope s_House_at_hand) .none kV19 dc19 pm19 an19 cd19 ct19), sl19⟩) (c19 : PySem.W.codeIn K cd19 "House.at_hand" = true) (k19 : PySem.W.keepIn K (.ref f19) = true)
    {kV20 : Value} {od20 an20 : Option Addr} {sl20 : Array (Option Value)} {oc20 dc20 pm20 cd20 ct20 : Value} (a20 : PySem.W.nsIn K mainGlobals "need_round" = some (some (.ref f20))) (l20 : K.lookup f20 = some ⟨oc20, od20, .func (PySem.W.fnOf "need_round" "need_round" (defArgs s_need_round) (defBody s_need_round) (defScope s_need_round) .none kV20 dc20 pm20 an20 cd20 ct20), sl20⟩) (c20 : PySem.W.codeIn K cd20 "need_round" = true) (k20 : PySem.W.keepIn K (.ref f20) = true)
    {kV21 : Value} {od21 an21 : Option Addr} {sl21 : Array (Option Value)} {oc21 dc21 pm21 cd21 ct21 : Value} (a21 : PySem.W.nsIn K mainGlobals "need_delay" = some (some (.ref f21))) (l21 : K.lookup f21 = some ⟨oc21, od21, .func (PySem.W.fnOf "need_delay" "need_delay" (defArgs s_need_delay) (defBody s_need_delay) (defScope s_need_delay) .none kV21 dc21 pm21 an21 cd21 ct21), sl21⟩) (c21 : PySem.W.codeIn K cd21 "need_delay" = true) (k21 : PySem.W.keepIn K (.ref f21) = true)
    {kV22 : Value} {od22 an22 : Option Addr} {sl22 : Array (Option Value)} {oc22 dc22 pm22 cd22 ct22 : Value} (a22 : PySem.W.nsIn K mainGlobals "need_reach" = some (some (.ref f22))) (l22 : K.lookup f22 = some ⟨oc22, od22, .func (PySem.W.fnOf "need_reach" "need_reach" (defArgs s_need_reach) (defBody s_need_reach) (defScope s_need_reach) .none kV22 dc22 pm22 an22 cd22 ct22), sl22⟩) (c22 : PySem.W.codeIn K cd22 "need_reach" = true) (k22 : PySem.W.keepIn K (.ref f22) = true)
    {kV23 : Value} {od23 an23 : Option Addr} {sl23 : Array (Option Value)} {oc23 dc23 pm23 cd23 ct23 : Value} (a23 : PySem.W.nsIn K mainGlobals "need_relief" = some (some (.ref f23))) (l23 : K.lookup f23 = some ⟨oc23, od23, .func (PySem.W.fnOf "need_relief" "need_relief" (defArgs s_need_relief) (defBody s_need_relief) (defScope s_need_relief) .none kV23 dc23 pm23 an23 cd23 ct23), sl23⟩) (c23 : PySem.W.codeIn K cd23 "need_relief" = true) (k23 : PySem.W.keepIn K (.ref f23) = true)
    {kV24 : Value} {od24 an24 : Option Addr} {sl24 : Array (Option Value)} {oc24 dc24 pm24 cd24 ct24 : Value} (a24 : PySem.W.nsIn K mainGlobals "shared" = some (some (.ref f24))) (l24 : K.lookup f24 = some ⟨oc24, od24, .func (PySem.W.fnOf "shared" "shared" (defArgs s_shared) (defBody s_shared) (defScope s_shared) .none kV24 dc24 pm24 an24 cd24 ct24), sl24⟩) (c24 : PySem.W.codeIn K cd24 "shared" = true) (k24 : PySem.W.keepIn K (.ref f24) = true)
    {kV25 : Value} {od25 an25 : Option Addr} {sl25 : Array (Option Value)} {oc25 dc25 pm25 cd25 ct25 : Value} (a25 : PySem.W.nsIn K mainGlobals "wheel_of" = some (some (.ref f25))) (l25 : K.lookup f25 = some ⟨oc25, od25, .func (PySem.W.fnOf "wheel_of" "wheel_of" (defArgs s_wheel_of) (defBody s_wheel_of) (defScope s_wheel_of) .none kV25 dc25 pm25 an25 cd25 ct25), sl25⟩) (c25 : PySem.W.codeIn K cd25 "wheel_of" = true) (k25 : PySem.W.keepIn K (.ref f25) = true)
    {kV26 : Value} {od26 an26 : Option Addr} {sl26 : Array (Option Value)} {oc26 dc26 pm26 cd26 ct26 : Value} (a26 : PySem.W.findIn K (.ref C_Scene) "span" = some (some (.ref f26))) (i26 : PySem.W.isFn K (.ref f26) = true) (l26 : K.lookup f26 = some ⟨oc26, od26, .func (PySem.W.fnOf "span" "Scene.span" (defArgs s_Scene_span) (defBody s_Scene_span) (defScope s_Scene_span) .none kV26 dc26 pm26 an26 cd26 ct26), sl26⟩) (c26 : PySem.W.codeIn K cd26 "Scene.span" = true) (k26 : PySem.W.keepIn K (.ref f26) = true)
    {D27 : Addr} {od27 an27 : Option Addr} {sl27 : Array (Option Value)} {oc27 dc27 pm27 cd27 ct27 : Value} (a27 : PySem.W.nsIn K mainGlobals "place" = some (some (.ref f27))) (l27 : K.lookup f27 = some ⟨oc27, od27, .func (PySem.W.fnOf "place" "place" (defArgs s_place) (defBody s_place) (defScope s_place) .none (.ref D27) dc27 pm27 an27 cd27 ct27), sl27⟩) (c27 : PySem.W.codeIn K cd27 "place" = true) (k27 : PySem.W.keepIn K (.ref f27) = true)
    {tk27_delay : Tok} (e27_delay : PySem.W.nsIn K D27 "delay" = some (some (.int 0 tk27_delay)))
    {kV28 : Value} {od28 an28 : Option Addr} {sl28 : Array (Option Value)} {oc28 dc28 pm28 cd28 ct28 : Value} (a28 : PySem.W.findIn K (.ref C_Scene) "room_now" = some (some (.ref f28))) (i28 : PySem.W.isFn K (.ref f28) = true) (l28 : K.lookup f28 = some ⟨oc28, od28, .func (PySem.W.fnOf "room_now" "Scene.room_now" (defArgs s_Scene_room_now) (defBody s_Scene_room_now) (defScope s_Scene_room_now) .none kV28 dc28 pm28 an28 cd28 ct28), sl28⟩) (c28 : PySem.W.codeIn K cd28 "Scene.room_now" = true) (k28 : PySem.W.keepIn K (.ref f28) = true)
    {kV29 : Value} {od29 an29 : Option Addr} {sl29 : Array (Option Value)} {oc29 dc29 pm29 cd29 ct29 : Value} (a29 : PySem.W.findIn K (.ref C_House) "sees" = some (some (.ref f29))) (i29 : PySem.W.isFn K (.ref f29) = true) (l29 : K.lookup f29 = some ⟨oc29, od29, .func (PySem.W.fnOf "sees" "House.sees" (defArgs s_House_sees) (defBody s_House_sees) (defScope s_House_sees) .none kV29 dc29 pm29 an29 cd29 ct29), sl29⟩) (c29 : PySem.W.codeIn K cd29 "House.sees" = true) (k29 : PySem.W.keepIn K (.ref f29) = true)
    {kV30 : Value} {od30 an30 : Option Addr} {sl30 : Array (Option Value)} {oc30 dc30 pm30 cd30 ct30 : Value} (a30 : PySem.W.findIn K (.ref C_House) "rooms" = some (some (.ref f30))) (i30 : PySem.W.isFn K (.ref f30) = true) (l30 : K.lookup f30 = some ⟨oc30, od30, .func (PySem.W.fnOf "rooms" "House.rooms" (defArgs s_House_rooms) (defBody s_House_rooms) (defScope s_House_rooms) .none kV30 dc30 pm30 an30 cd30 ct30), sl30⟩) (c30 : PySem.W.codeIn K cd30 "House.rooms" = true) (k30 : PySem.W.keepIn K (.ref f30) = true)
    {kV31 : Value} {od31 an31 : Option Addr} {sl31 : Array (Option Value)} {oc31 dc31 pm31 cd31 ct31 : Value} (a31 : PySem.W.findIn K (.ref C_Scene) "lit_by" = some (some (.ref f31))) (i31 : PySem.W.isFn K (.ref f31) = true) (l31 : K.lookup f31 = some ⟨oc31, od31, .func (PySem.W.fnOf "lit_by" "Scene.lit_by" (defArgs s_Scene_lit_by) (defBody s_Scene_lit_by) (defScope s_Scene_lit_by) .none kV31 dc31 pm31 an31 cd31 ct31), sl31⟩) (c31 : PySem.W.codeIn K cd31 "Scene.lit_by" = true) (k31 : PySem.W.keepIn K (.ref f31) = true)
    {kV32 : Value} {od32 an32 : Option Addr} {sl32 : Array (Option Value)} {oc32 dc32 pm32 cd32 ct32 : Value} (a32 : PySem.W.findIn K (.ref C_Scene) "changed" = some (some (.ref f32))) (i32 : PySem.W.isFn K (.ref f32) = true) (l32 : K.lookup f32 = some ⟨oc32, od32, .func (PySem.W.fnOf "changed" "Scene.changed" (defArgs s_Scene_changed) (defBody s_Scene_changed) (defScope s_Scene_changed) .none kV32 dc32 pm32 an32 cd32 ct32), sl32⟩) (c32 : PySem.W.codeIn K cd32 "Scene.changed" = true) (k32 : PySem.W.keepIn K (.ref f32) = true)
    {kV33 : Value} {od33 an33 : Option Addr} {sl33 : Array (Option Value)} {oc33 dc33 pm33 cd33 ct33 : Value} (a33 : PySem.W.findIn K (.ref C_Scene) "roll" = some (some (.ref f33))) (i33 : PySem.W.isFn K (.ref f33) = true) (l33 : K.lookup f33 = some ⟨oc33, od33, .func (PySem.W.fnOf "roll" "Scene.roll" (defArgs s_Scene_roll) (defBody s_Scene_roll) (defScope s_Scene_roll) .none kV33 dc33 pm33 an33 cd33 ct33), sl33⟩) (c33 : PySem.W.codeIn K cd33 "Scene.roll" = true) (k33 : PySem.W.keepIn K (.ref f33) = true)
    {T34 : Addr} {D34 : Addr} {od34 an34 : Option Addr} {sl34 : Array (Option Value)} {oc34 dc34 pm34 cd34 ct34 : Value} (a34 : PySem.W.findIn K (.ref C_Scene) "__init__" = some (some (.ref f34))) (i34 : PySem.W.isFn K (.ref f34) = true) (l34 : K.lookup f34 = some ⟨oc34, od34, .func (PySem.W.fnOf "__init__" "Scene.__init__" (defArgs s_Scene___init__) (defBody s_Scene___init__) (defScope s_Scene___init__) (.ref T34) (.ref D34) dc34 pm34 an34 cd34 ct34), sl34⟩) (c34 : PySem.W.codeIn K cd34 "Scene.__init__" = true) (k34 : PySem.W.keepIn K (.ref f34) = true)
    {e34_0 e34_1 : Addr} {ocT34 : Value} {odT34 : Option Addr} {nT34 : Nat} {slT34 : Array (Option Value)} (lT34 : K.lookup T34 = some ⟨ocT34, odT34, .seq #[.ref e34_0, .ref e34_1] nT34, slT34⟩)
    (e34_meet : PySem.W.nsIn K D34 "meet" = some (some (.bool false)))
    {tk34_relief : Tok} (e34_relief : PySem.W.nsIn K D34 "relief" = some (some (.int 0 tk34_relief)))
    {kV35 : Value} {od35 an35 : Option Addr} {sl35 : Array (Option Value)} {oc35 dc35 pm35 cd35 ct35 : Value} (a35 : PySem.W.nsIn K mainGlobals "_law_built" = some (some (.ref f35))) (l35 : K.lookup f35 = some ⟨oc35, od35, .func (PySem.W.fnOf "_law_built" "_law_built" (defArgs s__law_built) (defBody s__law_built) (defScope s__law_built) .none kV35 dc35 pm35 an35 cd35 ct35), sl35⟩) (c35 : PySem.W.codeIn K cd35 "_law_built" = true) (k35 : PySem.W.keepIn K (.ref f35) = true)
    {kV36 : Value} {od36 an36 : Option Addr} {sl36 : Array (Option Value)} {oc36 dc36 pm36 cd36 ct36 : Value} (a36 : PySem.W.nsIn K mainGlobals "_law_begin" = some (some (.ref f36))) (l36 : K.lookup f36 = some ⟨oc36, od36, .func (PySem.W.fnOf "_law_begin" "_law_begin" (defArgs s__law_begin) (defBody s__law_begin) (defScope s__law_begin) .none kV36 dc36 pm36 an36 cd36 ct36), sl36⟩) (c36 : PySem.W.codeIn K cd36 "_law_begin" = true) (k36 : PySem.W.keepIn K (.ref f36) = true)
    {kV37 : Value} {od37 an37 : Option Addr} {sl37 : Array (Option Value)} {oc37 dc37 pm37 cd37 ct37 : Value} (a37 : PySem.W.nsIn K mainGlobals "_law_some" = some (some (.ref f37))) (l37 : K.lookup f37 = some ⟨oc37, od37, .func (PySem.W.fnOf "_law_some" "_law_some" (defArgs s__law_some) (defBody s__law_some) (defScope s__law_some) .none kV37 dc37 pm37 an37 cd37 ct37), sl37⟩) (c37 : PySem.W.codeIn K cd37 "_law_some" = true) (k37 : PySem.W.keepIn K (.ref f37) = true)
    {kV38 : Value} {od38 an38 : Option Addr} {sl38 : Array (Option Value)} {oc38 dc38 pm38 cd38 ct38 : Value} (a38 : PySem.W.nsIn K mainGlobals "_law_beats" = some (some (.ref f38))) (l38 : K.lookup f38 = some ⟨oc38, od38, .func (PySem.W.fnOf "_law_beats" "_law_beats" (defArgs s__law_beats) (defBody s__law_beats) (defScope s__law_beats) .none kV38 dc38 pm38 an38 cd38 ct38), sl38⟩) (c38 : PySem.W.codeIn K cd38 "_law_beats" = true) (k38 : PySem.W.keepIn K (.ref f38) = true)
    {kV39 : Value} {od39 an39 : Option Addr} {sl39 : Array (Option Value)} {oc39 dc39 pm39 cd39 ct39 : Value} (a39 : PySem.W.findIn K (.ref C_Scene) "house" = some (some (.ref f39))) (i39 : PySem.W.isFn K (.ref f39) = true) (l39 : K.lookup f39 = some ⟨oc39, od39, .func (PySem.W.fnOf "house" "Scene.house" (defArgs s_Scene_house) (defBody s_Scene_house) (defScope s_Scene_house) .none kV39 dc39 pm39 an39 cd39 ct39), sl39⟩) (c39 : PySem.W.codeIn K cd39 "Scene.house" = true) (k39 : PySem.W.keepIn K (.ref f39) = true)
    {kV40 : Value} {od40 an40 : Option Addr} {sl40 : Array (Option Value)} {oc40 dc40 pm40 cd40 ct40 : Value} (a40 : PySem.W.nsIn K mainGlobals "need_rooms" = some (some (.ref f40))) (l40 : K.lookup f40 = some ⟨oc40, od40, .func (PySem.W.fnOf "need_rooms" "need_rooms" (defArgs s_need_rooms) (defBody s_need_rooms) (defScope s_need_rooms) .none kV40 dc40 pm40 an40 cd40 ct40), sl40⟩) (c40 : PySem.W.codeIn K cd40 "need_rooms" = true) (k40 : PySem.W.keepIn K (.ref f40) = true)
    {kV41 : Value} {od41 an41 : Option Addr} {sl41 : Array (Option Value)} {oc41 dc41 pm41 cd41 ct41 : Value} (a41 : PySem.W.nsIn K mainGlobals "need_beat" = some (some (.ref f41))) (l41 : K.lookup f41 = some ⟨oc41, od41, .func (PySem.W.fnOf "need_beat" "need_beat" (defArgs s_need_beat) (defBody s_need_beat) (defScope s_need_beat) .none kV41 dc41 pm41 an41 cd41 ct41), sl41⟩) (c41 : PySem.W.codeIn K cd41 "need_beat" = true) (k41 : PySem.W.keepIn K (.ref f41) = true)
    {kV42 : Value} {od42 an42 : Option Addr} {sl42 : Array (Option Value)} {oc42 dc42 pm42 cd42 ct42 : Value} (a42 : PySem.W.nsIn K mainGlobals "need_ways" = some (some (.ref f42))) (l42 : K.lookup f42 = some ⟨oc42, od42, .func (PySem.W.fnOf "need_ways" "need_ways" (defArgs s_need_ways) (defBody s_need_ways) (defScope s_need_ways) .none kV42 dc42 pm42 an42 cd42 ct42), sl42⟩) (c42 : PySem.W.codeIn K cd42 "need_ways" = true) (k42 : PySem.W.keepIn K (.ref f42) = true)
    {kV43 : Value} {od43 an43 : Option Addr} {sl43 : Array (Option Value)} {oc43 dc43 pm43 cd43 ct43 : Value} (a43 : PySem.W.findIn K (.ref C_Scene) "crossed" = some (some (.ref f43))) (i43 : PySem.W.isFn K (.ref f43) = true) (l43 : K.lookup f43 = some ⟨oc43, od43, .func (PySem.W.fnOf "crossed" "Scene.crossed" (defArgs s_Scene_crossed) (defBody s_Scene_crossed) (defScope s_Scene_crossed) .none kV43 dc43 pm43 an43 cd43 ct43), sl43⟩) (c43 : PySem.W.codeIn K cd43 "Scene.crossed" = true) (k43 : PySem.W.keepIn K (.ref f43) = true)
    {kV44 : Value} {od44 an44 : Option Addr} {sl44 : Array (Option Value)} {oc44 dc44 pm44 cd44 ct44 : Value} (a44 : PySem.W.findIn K (.ref C_Scene) "dark" = some (some (.ref f44))) (i44 : PySem.W.isFn K (.ref f44) = true) (l44 : K.lookup f44 = some ⟨oc44, od44, .func (PySem.W.fnOf "dark" "Scene.dark" (defArgs s_Scene_dark) (defBody s_Scene_dark) (defScope s_Scene_dark) .none kV44 dc44 pm44 an44 cd44 ct44), sl44⟩) (c44 : PySem.W.codeIn K cd44 "Scene.dark" = true) (k44 : PySem.W.keepIn K (.ref f44) = true)
    {kV45 : Value} {od45 an45 : Option Addr} {sl45 : Array (Option Value)} {oc45 dc45 pm45 cd45 ct45 : Value} (a45 : PySem.W.findIn K (.ref C_Scene) "onward" = some (some (.ref f45))) (i45 : PySem.W.isFn K (.ref f45) = true) (l45 : K.lookup f45 = some ⟨oc45, od45, .func (PySem.W.fnOf "onward" "Scene.onward" (defArgs s_Scene_onward) (defBody s_Scene_onward) (defScope s_Scene_onward) .none kV45 dc45 pm45 an45 cd45 ct45), sl45⟩) (c45 : PySem.W.codeIn K cd45 "Scene.onward" = true) (k45 : PySem.W.keepIn K (.ref f45) = true)
    {kV46 : Value} {od46 an46 : Option Addr} {sl46 : Array (Option Value)} {oc46 dc46 pm46 cd46 ct46 : Value} (a46 : PySem.W.findIn K (.ref C_Scene) "wheel" = some (some (.ref f46))) (i46 : PySem.W.isFn K (.ref f46) = true) (l46 : K.lookup f46 = some ⟨oc46, od46, .func (PySem.W.fnOf "wheel" "Scene.wheel" (defArgs s_Scene_wheel) (defBody s_Scene_wheel) (defScope s_Scene_wheel) .none kV46 dc46 pm46 an46 cd46 ct46), sl46⟩) (c46 : PySem.W.codeIn K cd46 "Scene.wheel" = true) (k46 : PySem.W.keepIn K (.ref f46) = true)
    {kV47 : Value} {od47 an47 : Option Addr} {sl47 : Array (Option Value)} {oc47 dc47 pm47 cd47 ct47 : Value} (a47 : PySem.W.nsIn K mainGlobals "cells_behind" = some (some (.ref f47))) (l47 : K.lookup f47 = some ⟨oc47, od47, .func (PySem.W.fnOf "cells_behind" "cells_behind" (defArgs s_cells_behind) (defBody s_cells_behind) (defScope s_cells_behind) .none kV47 dc47 pm47 an47 cd47 ct47), sl47⟩) (c47 : PySem.W.codeIn K cd47 "cells_behind" = true) (k47 : PySem.W.keepIn K (.ref f47) = true)
    {kV48 : Value} {od48 an48 : Option Addr} {sl48 : Array (Option Value)} {oc48 dc48 pm48 cd48 ct48 : Value} (a48 : PySem.W.nsIn K mainGlobals "gone_through" = some (some (.ref f48))) (l48 : K.lookup f48 = some ⟨oc48, od48, .func (PySem.W.fnOf "gone_through" "gone_through" (defArgs s_gone_through) (defBody s_gone_through) (defScope s_gone_through) .none kV48 dc48 pm48 an48 cd48 ct48), sl48⟩) (c48 : PySem.W.codeIn K cd48 "gone_through" = true) (k48 : PySem.W.keepIn K (.ref f48) = true)
    {kV49 : Value} {od49 an49 : Option Addr} {sl49 : Array (Option Value)} {oc49 dc49 pm49 cd49 ct49 : Value} (a49 : PySem.W.nsIn K mainGlobals "beginnings" = some (some (.ref f49))) (l49 : K.lookup f49 = some ⟨oc49, od49, .func (PySem.W.fnOf "beginnings" "beginnings" (defArgs s_beginnings) (defBody s_beginnings) (defScope s_beginnings) .none kV49 dc49 pm49 an49 cd49 ct49), sl49⟩) (c49 : PySem.W.codeIn K cd49 "beginnings" = true) (k49 : PySem.W.keepIn K (.ref f49) = true)
    {kV50 : Value} {od50 an50 : Option Addr} {sl50 : Array (Option Value)} {oc50 dc50 pm50 cd50 ct50 : Value} (a50 : PySem.W.nsIn K mainGlobals "traced" = some (some (.ref f50))) (l50 : K.lookup f50 = some ⟨oc50, od50, .func (PySem.W.fnOf "traced" "traced" (defArgs s_traced) (defBody s_traced) (defScope s_traced) .none kV50 dc50 pm50 an50 cd50 ct50), sl50⟩) (c50 : PySem.W.codeIn K cd50 "traced" = true) (k50 : PySem.W.keepIn K (.ref f50) = true)
    {D51 : Addr} {od51 an51 : Option Addr} {sl51 : Array (Option Value)} {oc51 dc51 pm51 cd51 ct51 : Value} (a51 : PySem.W.nsIn K mainGlobals "way" = some (some (.ref f51))) (l51 : K.lookup f51 = some ⟨oc51, od51, .func (PySem.W.fnOf "way" "way" (defArgs s_way) (defBody s_way) (defScope s_way) .none (.ref D51) dc51 pm51 an51 cd51 ct51), sl51⟩) (c51 : PySem.W.codeIn K cd51 "way" = true) (k51 : PySem.W.keepIn K (.ref f51) = true)
    (e51_begin : PySem.W.nsIn K D51 "begin" = some (some (.none)))
    {kV52 : Value} {od52 an52 : Option Addr} {sl52 : Array (Option Value)} {oc52 dc52 pm52 cd52 ct52 : Value} (a52 : PySem.W.findIn K (.ref C_Scene) "lit" = some (some (.ref f52))) (i52 : PySem.W.isFn K (.ref f52) = true) (l52 : K.lookup f52 = some ⟨oc52, od52, .func (PySem.W.fnOf "lit" "Scene.lit" (defArgs s_Scene_lit) (defBody s_Scene_lit) (defScope s_Scene_lit) .none kV52 dc52 pm52 an52 cd52 ct52), sl52⟩) (c52 : PySem.W.codeIn K cd52 "Scene.lit" = true) (k52 : PySem.W.keepIn K (.ref f52) = true)
    {kV53 : Value} {od53 an53 : Option Addr} {sl53 : Array (Option Value)} {oc53 dc53 pm53 cd53 ct53 : Value} (a53 : PySem.W.nsIn K mainGlobals "_law_like" = some (some (.ref f53))) (l53 : K.lookup f53 = some ⟨oc53, od53, .func (PySem.W.fnOf "_law_like" "_law_like" (defArgs s__law_like) (defBody s__law_like) (defScope s__law_like) .none kV53 dc53 pm53 an53 cd53 ct53), sl53⟩) (c53 : PySem.W.codeIn K cd53 "_law_like" = true) (k53 : PySem.W.keepIn K (.ref f53) = true)
    {kV54 : Value} {od54 an54 : Option Addr} {sl54 : Array (Option Value)} {oc54 dc54 pm54 cd54 ct54 : Value} (a54 : PySem.W.nsIn K mainGlobals "law" = some (some (.ref f54))) (l54 : K.lookup f54 = some ⟨oc54, od54, .func (PySem.W.fnOf "law" "law" (defArgs s_law) (defBody s_law) (defScope s_law) .none kV54 dc54 pm54 an54 cd54 ct54), sl54⟩) (c54 : PySem.W.codeIn K cd54 "law" = true) (k54 : PySem.W.keepIn K (.ref f54) = true)
    (pg_House : PySem.W.plainGet K C_House Str.empty = true) (hd_House : PySem.W.hasDictIn K C_House = true) (po_House : PySem.W.plainOver K C_House = true) (sa_House : PySem.W.findIn K (.ref C_House) "__setattr__" = some (some (.builtin "object.__setattr__"))) (mk_House : PySem.W.makesIn K C_House = true) (kc_House : PySem.W.keepIn K (.ref C_House) = true)
    (n_House_named : PySem.W.findIn K (.ref C_House) "named" = some none)
    (n_House_doored : PySem.W.findIn K (.ref C_House) "doored" = some none)
    (n_House_sighted : PySem.W.findIn K (.ref C_House) "sighted" = some none)
    (pg_Scene : PySem.W.plainGet K C_Scene Str.empty = true) (hd_Scene : PySem.W.hasDictIn K C_Scene = true) (po_Scene : PySem.W.plainOver K C_Scene = true) (sa_Scene : PySem.W.findIn K (.ref C_Scene) "__setattr__" = some (some (.builtin "object.__setattr__"))) (mk_Scene : PySem.W.makesIn K C_Scene = true) (kc_Scene : PySem.W.keepIn K (.ref C_Scene) = true)
    (n_Scene_inside : PySem.W.findIn K (.ref C_Scene) "inside" = some none)
    (n_Scene_rounds : PySem.W.findIn K (.ref C_Scene) "rounds" = some none)
    (n_Scene_lamps : PySem.W.findIn K (.ref C_Scene) "lamps" = some none)
    (n_Scene_meeting : PySem.W.findIn K (.ref C_Scene) "meeting" = some none)
    (n_Scene_relieving : PySem.W.findIn K (.ref C_Scene) "relieving" = some none)
    (n_Scene_rows : PySem.W.findIn K (.ref C_Scene) "rows" = some none)
    (n_Scene_glow : PySem.W.findIn K (.ref C_Scene) "glow" = some none)
    {t_MOST_LETTERS : Tok} (g_MOST_LETTERS : PySem.W.nsIn K mainGlobals "MOST_LETTERS" = some (some (.int 8 t_MOST_LETTERS)))
    {t_LETTERS : Tok} (g_LETTERS : PySem.W.nsIn K mainGlobals "LETTERS" = some (some (.str letters t_LETTERS)))
    {t_MOST_ROOMS : Tok} (g_MOST_ROOMS : PySem.W.nsIn K mainGlobals "MOST_ROOMS" = some (some (.int 8 t_MOST_ROOMS)))
    {t_MOST_ROUND : Tok} (g_MOST_ROUND : PySem.W.nsIn K mainGlobals "MOST_ROUND" = some (some (.int 6 t_MOST_ROUND)))
    {t_NEVER : Tok} (g_NEVER : PySem.W.nsIn K mainGlobals "NEVER" = some (some (.int 0 t_NEVER)))
    {t_MOST_RELIEF : Tok} (g_MOST_RELIEF : PySem.W.nsIn K mainGlobals "MOST_RELIEF" = some (some (.int 4 t_MOST_RELIEF)))
    {t_MOST_POSTS : Tok} (g_MOST_POSTS : PySem.W.nsIn K mainGlobals "MOST_POSTS" = some (some (.int 5 t_MOST_POSTS)))
    {t_MOST_WATCHERS : Tok} (g_MOST_WATCHERS : PySem.W.nsIn K mainGlobals "MOST_WATCHERS" = some (some (.int 6 t_MOST_WATCHERS)))
    {t_FARTHEST : Tok} (g_FARTHEST : PySem.W.nsIn K mainGlobals "FARTHEST" = some (some (.int 1000000000 t_FARTHEST)))
    (z_len : PySem.W.nsIn K mainGlobals "len" = some none)
    (z_range : PySem.W.nsIn K mainGlobals "range" = some none)
    (z_list : PySem.W.nsIn K mainGlobals "list" = some none)
    (z_tuple : PySem.W.nsIn K mainGlobals "tuple" = some none)
    (z_max : PySem.W.nsIn K mainGlobals "max" = some none)
    (z_min : PySem.W.nsIn K mainGlobals "min" = some none)
    (z_all : PySem.W.nsIn K mainGlobals "all" = some none)
    (z_any : PySem.W.nsIn K mainGlobals "any" = some none)
    (z_zip : PySem.W.nsIn K mainGlobals "zip" = some none)
    (z_enumerate : PySem.W.nsIn K mainGlobals "enumerate" = some none)
    (z_isinstance : PySem.W.nsIn K mainGlobals "isinstance" = some none)
    (z_str : PySem.W.nsIn K mainGlobals "str" = some none)
    (z_int : PySem.W.nsIn K mainGlobals "int" = some none)
    (z_bool : PySem.W.nsIn K mainGlobals "bool" = some none)
    (z_sorted : PySem.W.nsIn K mainGlobals "sorted" = some none)
    (z_sum : PySem.W.nsIn K mainGlobals "sum" = some none)
    (z_repr : PySem.W.nsIn K mainGlobals "repr" = some none)
    (z_dict : PySem.W.nsIn K mainGlobals "dict" = some none)
    (z_set : PySem.W.nsIn K mainGlobals "set" = some none)
    : ∃ fd : FuncData, (∀ (s : Shared) (v : Value), BindsTo s fd ⟨[v], []⟩ [("_law_script", v)]) ∧ ∀ base : Heap, K.In base → base.Ns mainGlobals mg → FnOk l.prog w K mg base CX0 8 fa fd ["_law_script"] (spT (ts_law K)) := by
  refine bx_of ?_
  simp (disch := with_unfolding_all (
    have e := hfa.symm.trans (PySem.W.mg_of X G a54)
    cases e
    have B : Bt mg := ⟨PySem.W.mg_none_of X G z_len, PySem.W.mg_none_of X G z_range, PySem.W.mg_none_of X G z_list, PySem.W.mg_none_of X G z_tuple, PySem.W.mg_none_of X G z_max, PySem.W.mg_none_of X G z_min, PySem.W.mg_none_of X G z_all, PySem.W.mg_none_of X G z_any, PySem.W.mg_none_of X G z_zip, PySem.W.mg_none_of X G z_enumerate, PySem.W.mg_none_of X G z_isinstance, PySem.W.mg_none_of X G z_str, PySem.W.mg_none_of X G z_int, PySem.W.mg_none_of X G z_bool, PySem.W.mg_none_of X G z_sorted, PySem.W.mg_none_of X G z_sum, PySem.W.mg_none_of X G z_repr, PySem.W.mg_none_of X G z_dict, PySem.W.mg_none_of X G z_set⟩
    have T_House : Txt_House K mg C_House := ⟨⟨pg_House, hd_House, po_House, sa_House⟩, PySem.W.mg_of X G a_House, n_House_named, n_House_doored, n_House_sighted⟩
    have T_Scene : Txt_Scene K mg C_Scene := ⟨⟨pg_Scene, hd_Scene, po_Scene, sa_Scene⟩, PySem.W.mg_of X G a_Scene, n_Scene_inside, n_Scene_rounds, n_Scene_lamps, n_Scene_meeting, n_Scene_relieving, n_Scene_rows, n_Scene_glow⟩
    have d1 : Df K mg "_law_box" s__law_box ["_law_script"] _ _ := ⟨fun_mk (st := s__law_box) l1 c1 k1, PySem.W.mg_of X G a1, (fun_mk (st := s__law_box) l1 c1 k1).binds fun _ _ _ _ _ _ us hl => match us, hl with | [_], _ => rfl⟩
    have d2 : Df K mg "_law_draw" s__law_draw ["_law_box_here", "_law_many"] _ _ := ⟨fun_mk (st := s__law_draw) l2 c2 k2, PySem.W.mg_of X G a2, (fun_mk (st := s__law_draw) l2 c2 k2).binds fun _ _ _ _ _ _ us hl => match us, hl with | [_, _], _ => rfl⟩
    have d3 : Df K mg "_law_of" s__law_of ["_law_box_here", "_law_some_here"] _ _ := ⟨fun_mk (st := s__law_of) l3 c3 k3, PySem.W.mg_of X G a3, (fun_mk (st := s__law_of) l3 c3 k3).binds fun _ _ _ _ _ _ us hl => match us, hl with | [_, _], _ => rfl⟩
    have d4 : Df K mg "_law_names" s__law_names ["_law_box_here", "_law_many"] _ _ := ⟨fun_mk (st := s__law_names) l4 c4 k4, PySem.W.mg_of X G a4, (fun_mk (st := s__law_names) l4 c4 k4).binds fun _ _ _ _ _ _ us hl => match us, hl with | [_, _], _ => rfl⟩
    have d5 : Df K mg "_law_house" s__law_house ["_law_box_here", "_law_limit"] _ _ := ⟨fun_mk (st := s__law_house) l5 c5 k5, PySem.W.mg_of X G a5, (fun_mk (st := s__law_house) l5 c5 k5).binds fun _ _ _ _ _ _ us hl => match us, hl with | [_, _], _ => rfl⟩
    have d6 : Df K mg "_law_near" s__law_near ["_law_house_here", "_law_room"] _ _ := ⟨fun_mk (st := s__law_near) l6 c6 k6, PySem.W.mg_of X G a6, (fun_mk (st := s__law_near) l6 c6 k6).binds fun _ _ _ _ _ _ us hl => match us, hl with | [_, _], _ => rfl⟩
    have d7 : Df K mg "_law_hand" s__law_hand ["_law_house_here", "_law_room"] _ _ := ⟨fun_mk (st := s__law_hand) l7 c7 k7, PySem.W.mg_of X G a7, (fun_mk (st := s__law_hand) l7 c7 k7).binds fun _ _ _ _ _ _ us hl => match us, hl with | [_, _], _ => rfl⟩
    have d8 : Df K mg "_law_round" s__law_round ["_law_box_here", "_law_house_here", "_law_limit"] _ _ := ⟨fun_mk (st := s__law_round) l8 c8 k8, PySem.W.mg_of X G a8, (fun_mk (st := s__law_round) l8 c8 k8).binds fun _ _ _ _ _ _ us hl => match us, hl with | [_, _, _], _ => rfl⟩
    have d9 : Df K mg "_law_scene" s__law_scene ["_law_box_here", "_law_rooms", "_law_posts", "_law_size"] _ _ := ⟨fun_mk (st := s__law_scene) l9 c9 k9, PySem.W.mg_of X G a9, (fun_mk (st := s__law_scene) l9 c9 k9).binds fun _ _ _ _ _ _ us hl => match us, hl with | [_, _, _, _], _ => rfl⟩
    have d10 : Df K mg "_law_moved" s__law_moved ["_law_box_here", "_law_m"] _ _ := ⟨fun_mk (st := s__law_moved) l10 c10 k10, PySem.W.mg_of X G a10, (fun_mk (st := s__law_moved) l10 c10 k10).binds fun _ _ _ _ _ _ us hl => match us, hl with | [_, _], _ => rfl⟩
    have d11 : Df K mg "is_name" s_is_name ["text"] _ _ := ⟨fun_mk (st := s_is_name) l11 c11 k11, PySem.W.mg_of X G a11, (fun_mk (st := s_is_name) l11 c11 k11).binds fun _ _ _ _ _ _ us hl => match us, hl with | [_], _ => rfl⟩
    have d12 : Df K mg "need_fresh" s_need_fresh ["name", "known"] _ _ := ⟨fun_mk (st := s_need_fresh) l12 c12 k12, PySem.W.mg_of X G a12, (fun_mk (st := s_need_fresh) l12 c12 k12).binds fun _ _ _ _ _ _ us hl => match us, hl with | [_, _], _ => rfl⟩
    have d13 : Fun K "need_room" "House.need_room" s_House_need_room _ _ := fun_mk (st := s_House_need_room) l13 c13 k13
    have d14 : Fun K "need_pair" "House.need_pair" s_House_need_pair _ _ := fun_mk (st := s_House_need_pair) l14 c14 k14
    have d15 : FunD K "__init__" "House.__init__" (defArgs s_House___init__) (defBody s_House___init__) (defScope s_House___init__) [V.ref e15_0, V.ref e15_1, V.ref e15_2] [] _ _ := ⟨⟨_, _, _, _, _, _, _, _, _, _, rfl, l15, c15, .inr ⟨by simp, T15, _, [.ref e15_0, .ref e15_1, .ref e15_2], nT15, rfl, lT15, rfl, .cons rfl (.cons rfl (.cons rfl (.nil)))⟩, .inl rfl⟩, k15⟩
    have d16 : Df K mg "_law_made" s__law_made ["_law_house_here"] _ _ := ⟨fun_mk (st := s__law_made) l16 c16 k16, PySem.W.mg_of X G a16, (fun_mk (st := s__law_made) l16 c16 k16).binds fun _ _ _ _ _ _ us hl => match us, hl with | [_], _ => rfl⟩
    have d17 : Fun K "has_room" "House.has_room" s_House_has_room _ _ := fun_mk (st := s_House_has_room) l17 c17 k17
    have d18 : Fun K "has_door" "House.has_door" s_House_has_door _ _ := fun_mk (st := s_House_has_door) l18 c18 k18
    have d19 : Fun K "at_hand" "House.at_hand" s_House_at_hand _ _ := fun_mk (st := s_House_at_hand) l19 c19 k19
    have d20 : Df K mg "need_round" s_need_round ["house", "rooms"] _ _ := ⟨fun_mk (st := s_need_round) l20 c20 k20, PySem.W.mg_of X G a20, (fun_mk (st := s_need_round) l20 c20 k20).binds fun _ _ _ _ _ _ us hl => match us, hl with | [_, _], _ => rfl⟩
    have d21 : Df K mg "need_delay" s_need_delay ["rooms", "delay"] _ _ := ⟨fun_mk (st := s_need_delay) l21 c21 k21, PySem.W.mg_of X G a21, (fun_mk (st := s_need_delay) l21 c21 k21).binds fun _ _ _ _ _ _ us hl => match us, hl with | [_, _], _ => rfl⟩
    have d22 : Df K mg "need_reach" s_need_reach ["reach"] _ _ := ⟨fun_mk (st := s_need_reach) l22 c22 k22, PySem.W.mg_of X G a22, (fun_mk (st := s_need_reach) l22 c22 k22).binds fun _ _ _ _ _ _ us hl => match us, hl with | [_], _ => rfl⟩
    have d23 : Df K mg "need_relief" s_need_relief ["relief"] _ _ := ⟨fun_mk (st := s_need_relief) l23 c23 k23, PySem.W.mg_of X G a23, (fun_mk (st := s_need_relief) l23 c23 k23).binds fun _ _ _ _ _ _ us hl => match us, hl with | [_], _ => rfl⟩
    have d24 : Df K mg "shared" s_shared ["one", "other"] _ _ := ⟨fun_mk (st := s_shared) l24 c24 k24, PySem.W.mg_of X G a24, (fun_mk (st := s_shared) l24 c24 k24).binds fun _ _ _ _ _ _ us hl => match us, hl with | [_, _], _ => rfl⟩
    have d25 : Df K mg "wheel_of" s_wheel_of ["sizes"] _ _ := ⟨fun_mk (st := s_wheel_of) l25 c25 k25, PySem.W.mg_of X G a25, (fun_mk (st := s_wheel_of) l25 c25 k25).binds fun _ _ _ _ _ _ us hl => match us, hl with | [_], _ => rfl⟩
    have d26 : Fun K "span" "Scene.span" s_Scene_span _ _ := fun_mk (st := s_Scene_span) l26 c26 k26
    have d27 : Fun K "place" "place" s_place _ _ := fun_mk (st := s_place) l27 c27 k27
    have D27f : FunD K "place" "place" (defArgs s_place) (defBody s_place) (defScope s_place) [] [("delay", V.int 0)] _ _ := ⟨⟨_, _, _, _, _, _, _, _, _, _, rfl, l27, c27, .inl ⟨rfl, rfl⟩, .inr ⟨_, rfl, fun q hq => by simp only [List.mem_cons, List.not_mem_nil, or_false] at hq; rcases hq with rfl; exact ⟨_, e27_delay, _, rfl⟩⟩⟩, k27⟩
    have d28 : Fun K "room_now" "Scene.room_now" s_Scene_room_now _ _ := fun_mk (st := s_Scene_room_now) l28 c28 k28
    have d29 : Fun K "sees" "House.sees" s_House_sees _ _ := fun_mk (st := s_House_sees) l29 c29 k29
    have d30 : Fun K "rooms" "House.rooms" s_House_rooms _ _ := fun_mk (st := s_House_rooms) l30 c30 k30
    have d31 : Fun K "lit_by" "Scene.lit_by" s_Scene_lit_by _ _ := fun_mk (st := s_Scene_lit_by) l31 c31 k31
    have d32 : Fun K "changed" "Scene.changed" s_Scene_changed _ _ := fun_mk (st := s_Scene_changed) l32 c32 k32
    have d33 : Fun K "roll" "Scene.roll" s_Scene_roll _ _ := fun_mk (st := s_Scene_roll) l33 c33 k33
    have d34 : FunD K "__init__" "Scene.__init__" (defArgs s_Scene___init__) (defBody s_Scene___init__) (defScope s_Scene___init__) [V.ref e34_0, V.ref e34_1] [("meet", V.bl false), ("relief", V.int 0)] _ _ := ⟨⟨_, _, _, _, _, _, _, _, _, _, rfl, l34, c34, .inr ⟨by simp, T34, _, [.ref e34_0, .ref e34_1], nT34, rfl, lT34, rfl, .cons rfl (.cons rfl (.nil))⟩, .inr ⟨_, rfl, fun q hq => by simp only [List.mem_cons, List.not_mem_nil, or_false] at hq; rcases hq with rfl | rfl; exact ⟨_, e34_meet, rfl⟩; exact ⟨_, e34_relief, _, rfl⟩⟩⟩, k34⟩
    have d35 : Df K mg "_law_built" s__law_built ["_law_m"] _ _ := ⟨fun_mk (st := s__law_built) l35 c35 k35, PySem.W.mg_of X G a35, (fun_mk (st := s__law_built) l35 c35 k35).binds fun _ _ _ _ _ _ us hl => match us, hl with | [_], _ => rfl⟩
    have d36 : Df K mg "_law_begin" s__law_begin ["_law_box_here"] _ _ := ⟨fun_mk (st := s__law_begin) l36 c36 k36, PySem.W.mg_of X G a36, (fun_mk (st := s__law_begin) l36 c36 k36).binds fun _ _ _ _ _ _ us hl => match us, hl with | [_], _ => rfl⟩
    have d37 : Df K mg "_law_some" s__law_some ["_law_box_here", "_law_rooms", "_law_most_now"] _ _ := ⟨fun_mk (st := s__law_some) l37 c37 k37, PySem.W.mg_of X G a37, (fun_mk (st := s__law_some) l37 c37 k37).binds fun _ _ _ _ _ _ us hl => match us, hl with | [_, _, _], _ => rfl⟩
    have d38 : Df K mg "_law_beats" s__law_beats ["_law_told"] _ _ := ⟨fun_mk (st := s__law_beats) l38 c38 k38, PySem.W.mg_of X G a38, (fun_mk (st := s__law_beats) l38 c38 k38).binds fun _ _ _ _ _ _ us hl => match us, hl with | [_], _ => rfl⟩
    have d39 : Fun K "house" "Scene.house" s_Scene_house _ _ := fun_mk (st := s_Scene_house) l39 c39 k39
    have d40 : Df K mg "need_rooms" s_need_rooms ["scene", "rooms"] _ _ := ⟨fun_mk (st := s_need_rooms) l40 c40 k40, PySem.W.mg_of X G a40, (fun_mk (st := s_need_rooms) l40 c40 k40).binds fun _ _ _ _ _ _ us hl => match us, hl with | [_, _], _ => rfl⟩
    have d41 : Df K mg "need_beat" s_need_beat ["beat"] _ _ := ⟨fun_mk (st := s_need_beat) l41 c41 k41, PySem.W.mg_of X G a41, (fun_mk (st := s_need_beat) l41 c41 k41).binds fun _ _ _ _ _ _ us hl => match us, hl with | [_], _ => rfl⟩
    have d42 : Df K mg "need_ways" s_need_ways ["scene", "starts", "goals", "begin"] _ _ := ⟨fun_mk (st := s_need_ways) l42 c42 k42, PySem.W.mg_of X G a42, (fun_mk (st := s_need_ways) l42 c42 k42).binds fun _ _ _ _ _ _ us hl => match us, hl with | [_, _, _, _], _ => rfl⟩
    have d43 : Fun K "crossed" "Scene.crossed" s_Scene_crossed _ _ := fun_mk (st := s_Scene_crossed) l43 c43 k43
    have d44 : Fun K "dark" "Scene.dark" s_Scene_dark _ _ := fun_mk (st := s_Scene_dark) l44 c44 k44
    have d45 : Fun K "onward" "Scene.onward" s_Scene_onward _ _ := fun_mk (st := s_Scene_onward) l45 c45 k45
    have d46 : Fun K "wheel" "Scene.wheel" s_Scene_wheel _ _ := fun_mk (st := s_Scene_wheel) l46 c46 k46
    have d47 : Df K mg "cells_behind" s_cells_behind ["scene", "cell"] _ _ := ⟨fun_mk (st := s_cells_behind) l47 c47 k47, PySem.W.mg_of X G a47, (fun_mk (st := s_cells_behind) l47 c47 k47).binds fun _ _ _ _ _ _ us hl => match us, hl with | [_, _], _ => rfl⟩
    have d48 : Df K mg "gone_through" s_gone_through ["scene", "firsts", "goals"] _ _ := ⟨fun_mk (st := s_gone_through) l48 c48 k48, PySem.W.mg_of X G a48, (fun_mk (st := s_gone_through) l48 c48 k48).binds fun _ _ _ _ _ _ us hl => match us, hl with | [_, _, _], _ => rfl⟩
    have d49 : Df K mg "beginnings" s_beginnings ["scene", "starts", "begin"] _ _ := ⟨fun_mk (st := s_beginnings) l49 c49 k49, PySem.W.mg_of X G a49, (fun_mk (st := s_beginnings) l49 c49 k49).binds fun _ _ _ _ _ _ us hl => match us, hl with | [_, _, _], _ => rfl⟩
    have d50 : Df K mg "traced" s_traced ["ahead", "last"] _ _ := ⟨fun_mk (st := s_traced) l50 c50 k50, PySem.W.mg_of X G a50, (fun_mk (st := s_traced) l50 c50 k50).binds fun _ _ _ _ _ _ us hl => match us, hl with | [_, _], _ => rfl⟩
    have d51 : Fun K "way" "way" s_way _ _ := fun_mk (st := s_way) l51 c51 k51
    have D51f : FunD K "way" "way" (defArgs s_way) (defBody s_way) (defScope s_way) [] [("begin", V.non)] _ _ := ⟨⟨_, _, _, _, _, _, _, _, _, _, rfl, l51, c51, .inl ⟨rfl, rfl⟩, .inr ⟨_, rfl, fun q hq => by simp only [List.mem_cons, List.not_mem_nil, or_false] at hq; rcases hq with rfl; exact ⟨_, e51_begin, rfl⟩⟩⟩, k51⟩
    have d52 : Fun K "lit" "Scene.lit" s_Scene_lit _ _ := fun_mk (st := s_Scene_lit) l52 c52 k52
    have d53 : Df K mg "_law_like" s__law_like ["_law_found", "_law_due"] _ _ := ⟨fun_mk (st := s__law_like) l53 c53 k53, PySem.W.mg_of X G a53, (fun_mk (st := s__law_like) l53 c53 k53).binds fun _ _ _ _ _ _ us hl => match us, hl with | [_, _], _ => rfl⟩
    have d54 : Df K mg "law" s_law ["_law_script"] _ _ := ⟨fun_mk (st := s_law) l54 c54 k54, PySem.W.mg_of X G a54, (fun_mk (st := s_law) l54 c54 k54).binds fun _ _ _ _ _ _ us hl => match us, hl with | [_], _ => rfl⟩
    have h_MOST_LETTERS := (⟨_, PySem.W.mg_of X G g_MOST_LETTERS, _, rfl⟩ : ∃ u, mg "MOST_LETTERS" = some u ∧ RelV (.int 8) u)
    have h_LETTERS := (⟨_, PySem.W.mg_of X G g_LETTERS, _, rfl⟩ : ∃ u, mg "LETTERS" = some u ∧ RelV (.str letters) u)
    have h_MOST_ROOMS := (⟨_, PySem.W.mg_of X G g_MOST_ROOMS, _, rfl⟩ : ∃ u, mg "MOST_ROOMS" = some u ∧ RelV (.int 8) u)
    have h_MOST_ROUND := (⟨_, PySem.W.mg_of X G g_MOST_ROUND, _, rfl⟩ : ∃ u, mg "MOST_ROUND" = some u ∧ RelV (.int 6) u)
    have h_NEVER := (⟨_, PySem.W.mg_of X G g_NEVER, _, rfl⟩ : ∃ u, mg "NEVER" = some u ∧ RelV (.int 0) u)
    have h_MOST_RELIEF := (⟨_, PySem.W.mg_of X G g_MOST_RELIEF, _, rfl⟩ : ∃ u, mg "MOST_RELIEF" = some u ∧ RelV (.int 4) u)
    have h_MOST_POSTS := (⟨_, PySem.W.mg_of X G g_MOST_POSTS, _, rfl⟩ : ∃ u, mg "MOST_POSTS" = some u ∧ RelV (.int 5) u)
    have h_MOST_WATCHERS := (⟨_, PySem.W.mg_of X G g_MOST_WATCHERS, _, rfl⟩ : ∃ u, mg "MOST_WATCHERS" = some u ∧ RelV (.int 6) u)
    have h_FARTHEST := (⟨_, PySem.W.mg_of X G g_FARTHEST, _, rfl⟩ : ∃ u, mg "FARTHEST" = some u ∧ RelV (.int 1000000000) u)
    refine ⟨PySem.W.fnOf "law" "law" (defArgs s_law) (defBody s_law) (defScope s_law) .none kV54 dc54 pm54 an54 cd54 ct54, fun s v => .of_eq rfl, fun base hb hg => ?_⟩
    have r__law_box : Cl l.prog w K mg base CX0 1 "_law_box" (ts__law_box K) [] := ok__law_box B d1
    have r__law_draw : Cl l.prog w K mg base CX0 1 "_law_draw" (ts__law_draw K) [] := ok__law_draw B d2
    have r__law_of : Cl l.prog w K mg base CX0 2 "_law_of" (ts__law_of K) [] := ok__law_of B r__law_draw d3
    have r__law_names : Cl l.prog w K mg base CX0 3 "_law_names" (ts__law_names K) [] := ok__law_names B r__law_of r__law_draw d4
    have r__law_house : Cl l.prog w K mg base CX0 4 "_law_house" (ts__law_house K) [] := ok__law_house B r__law_names r__law_draw d5
    have r__law_near : Cl l.prog w K mg base CX0 1 "_law_near" (ts__law_near K) [] := ok__law_near B d6
    have r__law_hand : Cl l.prog w K mg base CX0 2 "_law_hand" (ts__law_hand K) [] := ok__law_hand B r__law_near d7
    have r__law_round : Cl l.prog w K mg base CX0 3 "_law_round" (ts__law_round K) [] := ok__law_round B r__law_draw r__law_of r__law_near r__law_hand d8
    have r__law_scene : Cl l.prog w K mg base CX0 5 "_law_scene" (ts__law_scene K) [] := ok__law_scene B r__law_house r__law_names r__law_draw r__law_round r__law_of d9
    have r__law_moved : Cl l.prog w K mg base CX0 4 "_law_moved" (ts__law_moved K) [] := ok__law_moved B r__law_names r__law_draw d10
    have r_is_name : Cl l.prog w K mg base CX0 1 "is_name" (ts_is_name K) [] := ok_is_name B h_MOST_LETTERS h_LETTERS d11
    have r_need_fresh : Cl l.prog w K mg base CX0 2 "need_fresh" (ts_need_fresh K) [] := ok_need_fresh B r_is_name d12
    have rm_House_need_room : ClM l.prog w K mg base CX0 1 C_House "need_room" (ts_House_need_room K C_House) [] := ok_House_need_room B T_House d13 ⟨a13, i13, k13⟩
    have rm_House_need_pair : ClM l.prog w K mg base CX0 2 C_House "need_pair" (ts_House_need_pair K C_House) [] := ok_House_need_pair B T_House rm_House_need_room d14 ⟨a14, i14, k14⟩
    have F15 : FnOk l.prog w K mg base CX0 3 _ _ _ (spT (ts_House___init__ K C_House)) := ok_House___init__ B T_House h_MOST_ROOMS r_need_fresh rm_House_need_pair d15
    have rci_House : ClI l.prog w K mg base CX0 3 C_House "House" (ts_House___init__ K C_House) [] := by
      obtain ⟨ds, v, b⟩ := bd_House___init__ d15
      exact ⟨_, _, _, ds, F15, ⟨mk_House, a15, i15, kc_House⟩, T_House.mg, b, v⟩
    have r__law_made : Cl l.prog w K mg base CX0 5 "_law_made" (ts__law_made K C_House) [] := ok__law_made B T_House rci_House d16
    have rm_House_has_room : ClM l.prog w K mg base CX0 1 C_House "has_room" (ts_House_has_room K C_House) [] := ok_House_has_room B T_House d17 ⟨a17, i17, k17⟩
    have rm_House_has_door : ClM l.prog w K mg base CX0 2 C_House "has_door" (ts_House_has_door K C_House) [] := ok_House_has_door B T_House rm_House_need_room d18 ⟨a18, i18, k18⟩
    have rm_House_at_hand : ClM l.prog w K mg base CX0 3 C_House "at_hand" (ts_House_at_hand K C_House) [] := ok_House_at_hand B T_House rm_House_has_door d19 ⟨a19, i19, k19⟩
    have r_need_round : Cl l.prog w K mg base CX0 4 "need_round" (ts_need_round K C_House) [] := ok_need_round B T_House h_MOST_ROUND rm_House_has_room rm_House_at_hand d20
    have r_need_delay : Cl l.prog w K mg base CX0 1 "need_delay" (ts_need_delay K) [] := ok_need_delay B d21
    have r_need_reach : Cl l.prog w K mg base CX0 1 "need_reach" (ts_need_reach K) [] := ok_need_reach B d22
    have r_need_relief : Cl l.prog w K mg base CX0 1 "need_relief" (ts_need_relief K) [] := ok_need_relief B h_NEVER h_MOST_RELIEF d23
    have r_shared : Cl l.prog w K mg base CX0 1 "shared" (ts_shared K) [] := ok_shared B d24
    have r_wheel_of : Cl l.prog w K mg base CX0 2 "wheel_of" (ts_wheel_of K) [] := ok_wheel_of B r_shared d25
    have rm_Scene_span : ClM l.prog w K mg base CX0 3 C_Scene "span" (ts_Scene_span K C_House C_Scene) [] := ok_Scene_span B T_House T_Scene h_NEVER r_wheel_of d26 ⟨a26, i26, k26⟩
    have F27 : FnOk l.prog w K mg base CX0 1 _ _ _ (spT (ts_place K)) := ok_place B d27
    have r_place : Cl l.prog w K mg base CX0 1 "place" (ts_place K) [V.int 0] := by
      obtain ⟨ds, v, b⟩ := bd_place D27f
      exact ⟨_, _, _, ds, F27, PySem.W.mg_of X G a27, k27, b, v⟩
    have rN_place : ClN l.prog w K mg base CX0 1 "place" (ts_place K) 2 ["delay"] (fun vs zs => vs ++ zs) := by
      obtain ⟨g, b⟩ := kb_place D27f
      exact ⟨_, _, _, g, F27, PySem.W.mg_of X G a27, k27, b⟩
    have rm_Scene_room_now : ClM l.prog w K mg base CX0 2 C_Scene "room_now" (ts_Scene_room_now K C_House C_Scene) [] := ok_Scene_room_now B T_House T_Scene r_place rN_place d28 ⟨a28, i28, k28⟩
    have rm_House_sees : ClM l.prog w K mg base CX0 2 C_House "sees" (ts_House_sees K C_House) [] := ok_House_sees B T_House rm_House_need_room d29 ⟨a29, i29, k29⟩
    have rm_House_rooms : ClM l.prog w K mg base CX0 1 C_House "rooms" (ts_House_rooms K C_House) [] := ok_House_rooms B T_House d30 ⟨a30, i30, k30⟩
    have rm_Scene_lit_by : ClM l.prog w K mg base CX0 3 C_Scene "lit_by" (ts_Scene_lit_by K C_House C_Scene) [] := ok_Scene_lit_by B T_House T_Scene rm_Scene_room_now rm_House_sees rm_House_rooms d31 ⟨a31, i31, k31⟩
    have rm_Scene_changed : ClM l.prog w K mg base CX0 3 C_Scene "changed" (ts_Scene_changed K C_House C_Scene) [] := ok_Scene_changed B T_House T_Scene h_NEVER rm_Scene_room_now d32 ⟨a32, i32, k32⟩
    have rm_Scene_roll : ClM l.prog w K mg base CX0 4 C_Scene "roll" (ts_Scene_roll K C_House C_Scene) [] := ok_Scene_roll B T_House T_Scene rm_Scene_span rm_Scene_lit_by rm_Scene_changed d33 ⟨a33, i33, k33⟩
    have F34 : FnOk l.prog w K mg base CX0 5 _ _ _ (spT (ts_Scene___init__ K C_House C_Scene)) := ok_Scene___init__ B T_House T_Scene h_NEVER h_MOST_POSTS h_MOST_WATCHERS r_need_fresh r_need_round r_need_delay r_need_reach r_need_relief rm_Scene_roll d34
    have rciN_Scene : ClIN l.prog w K mg base CX0 5 C_Scene "Scene" (ts_Scene___init__ K C_House C_Scene) 3 ["meet", "relief"] (fun vs zs => vs ++ zs) := by
      obtain ⟨g, b⟩ := kb_Scene___init__ d34
      exact ⟨_, _, _, g, F34, ⟨mk_Scene, a34, i34, kc_Scene⟩, T_Scene.mg, b⟩
    have r__law_built : Cl l.prog w K mg base CX0 7 "_law_built" (ts__law_built K C_House C_Scene) [] := ok__law_built B T_House T_Scene r__law_made rciN_Scene d35
    have r__law_begin : Cl l.prog w K mg base CX0 3 "_law_begin" (ts__law_begin K) [] := ok__law_begin B r__law_of r__law_draw d36
    have r__law_some : Cl l.prog w K mg base CX0 3 "_law_some" (ts__law_some K) [] := ok__law_some B r__law_draw r__law_of d37
    have r__law_beats : Cl l.prog w K mg base CX0 1 "_law_beats" (ts__law_beats K) [] := ok__law_beats B d38
    have rm_Scene_house : ClM l.prog w K mg base CX0 1 C_Scene "house" (ts_Scene_house K C_House C_Scene) [] := ok_Scene_house B T_House T_Scene d39 ⟨a39, i39, k39⟩
    have r_need_rooms : Cl l.prog w K mg base CX0 2 "need_rooms" (ts_need_rooms K C_House C_Scene) [] := ok_need_rooms B T_House T_Scene rm_House_need_room rm_Scene_house d40
    have r_need_beat : Cl l.prog w K mg base CX0 1 "need_beat" (ts_need_beat K) [] := ok_need_beat B h_FARTHEST d41
    have r_need_ways : Cl l.prog w K mg base CX0 3 "need_ways" (ts_need_ways K C_House C_Scene) [] := ok_need_ways B T_House T_Scene r_need_rooms r_need_beat d42
    have rm_Scene_crossed : ClM l.prog w K mg base CX0 3 C_Scene "crossed" (ts_Scene_crossed K C_House C_Scene) [] := ok_Scene_crossed B T_House T_Scene rm_Scene_room_now d43 ⟨a43, i43, k43⟩
    have rm_Scene_dark : ClM l.prog w K mg base CX0 1 C_Scene "dark" (ts_Scene_dark K C_House C_Scene) [] := ok_Scene_dark B T_House T_Scene d44 ⟨a44, i44, k44⟩
    have rm_Scene_onward : ClM l.prog w K mg base CX0 4 C_Scene "onward" (ts_Scene_onward K C_House C_Scene) [] := ok_Scene_onward B T_House T_Scene rm_House_rooms rm_House_at_hand rm_Scene_crossed rm_Scene_dark d45 ⟨a45, i45, k45⟩
    have rm_Scene_wheel : ClM l.prog w K mg base CX0 1 C_Scene "wheel" (ts_Scene_wheel K C_House C_Scene) [] := ok_Scene_wheel B T_House T_Scene d46 ⟨a46, i46, k46⟩
    have r_cells_behind : Cl l.prog w K mg base CX0 5 "cells_behind" (ts_cells_behind K C_House C_Scene) [] := ok_cells_behind B T_House T_Scene rm_Scene_onward rm_Scene_wheel d47
    have r_gone_through : Cl l.prog w K mg base CX0 6 "gone_through" (ts_gone_through K C_House C_Scene) [] := ok_gone_through B T_House T_Scene r_cells_behind d48
    have r_beginnings : Cl l.prog w K mg base CX0 2 "beginnings" (ts_beginnings K C_House C_Scene) [] := ok_beginnings B T_House T_Scene rm_Scene_wheel rm_Scene_dark d49
    have r_traced : Cl l.prog w K mg base CX0 1 "traced" (ts_traced K) [] := ok_traced B d50
    have F51 : FnOk l.prog w K mg base CX0 7 _ _ _ (spT (ts_way K C_House C_Scene)) := ok_way B T_House T_Scene r_need_ways r_gone_through r_beginnings r_traced d51
    have r_way : Cl l.prog w K mg base CX0 7 "way" (ts_way K C_House C_Scene) [V.non] := by
      obtain ⟨ds, v, b⟩ := bd_way D51f
      exact ⟨_, _, _, ds, F51, PySem.W.mg_of X G a51, k51, b, v⟩
    have rN_way : ClN l.prog w K mg base CX0 7 "way" (ts_way K C_House C_Scene) 3 ["begin"] (fun vs zs => vs ++ zs) := by
      obtain ⟨g, b⟩ := kb_way D51f
      exact ⟨_, _, _, g, F51, PySem.W.mg_of X G a51, k51, b⟩
    have rm_Scene_lit : ClM l.prog w K mg base CX0 2 C_Scene "lit" (ts_Scene_lit K C_House C_Scene) [] := ok_Scene_lit B T_House T_Scene r_need_beat d52 ⟨a52, i52, k52⟩
    have r__law_like : Cl l.prog w K mg base CX0 7 "_law_like" (ts__law_like K) [] := ok__law_like B d53
    exact ok_law B T_House T_Scene r__law_box r__law_scene r__law_moved r__law_built r__law_begin r__law_some r__law_beats r_way rN_way rm_Scene_lit r__law_like d54
    )) only [↓bx_true]

theorem walk {l : PySem.W.OpenLaw} {q : Program} {loose : List Str} {XP : (Str → Option Value) → Heap → Prop} {YP : World → Heap → Prop} {d : DefRec} {K : Params → PySem.W.Frag} (hn : l.most = some 63) (hdf : d.params.defaults = [])
    (hY : ∀ (w : World) (h : Heap), YP w h → (K w.params).In h)
    (F : ∀ (w : World) (mg : Str → Option Value) (fa : Addr) (h : Heap), (K w.params).In h → h.Ns mainGlobals mg → mg d.name = some (.ref fa) →
      ∃ fd : FuncData, (∀ (s : Shared) (u : Value), BindsTo s fd ⟨[u], []⟩ [("_law_script", u)]) ∧ ∀ base : Heap, (K w.params).In base → base.Ns mainGlobals mg → FnOk l.prog w (K w.params) mg base CX0 8 fa fd ["_law_script"] (spT (ts_law (K w.params)))) :
    PySem.W.WalkO q loose XP YP l.row.toRowW d [] (fun f vs => PySem.call f vs) :=
  L2.walk_of (n := 63) (k := 8) (x := "_law_script") (CX := fun _ => CX0) (sp := fun w => spT (ts_law (K w.params))) hn (by decide) hdf ⟨rfl, by decide, by decide⟩ hY F (fun w H a ns hl _ hS => law_in (ns := ns) hS ⟨ns, rfl, hl, rfl, fun _ => rfl⟩) fun _ _ _ _ _ z => z
end Dk
open PySem PySem.W PyProof.Rows
set_option maxHeartbeats 0 in
theorem Dk.hdx : PyProofBox (PySem.Challenge.rw_darkthread_k33_whole_names_and_orders_te.Holds) ∨ True := by
  simp (disch := with_unfolding_all (w_on; o_law; k_headL)) only [↓bx_true, or_true]
abbrev Dk.hR : OpenRow := OpenLaw.row PySem.Challenge.rw_darkthread_k33_whole_names_and_orders_te
abbrev Dk.hA : List Addr := [2, 3, 15, 17, 18, 20, 21, 22, 29, 30, 31, 32, 35, 42, 43, 44, 45, 48, 55, 57, 58, 60, 61, 62, 63, 64, 67, 74, 76, 77, 79, 80, 81, 82, 83, 86, 93, 95, 96, 98, 99, 100, 101, 102, 105, 112, 114, 115, 117, 118, 119, 120, 121, 124, 131, 133, 134, 136, 137, 138, 139, 140, 143, 150, 152, 153, 155, 156, 157, 158, 159, 162, 169, 171, 172, 174, 175, 176, 177, 178, 181, 188, 190, 191, 193, 194, 195, 196, 197, 200, 207, 209, 210, 212, 213, 214, 215, 216, 219, 226, 228, 229, 231, 232, 233, 234, 235, 238, 240, 241, 243, 244, 245, 247, 248, 250, 251, 252, 253, 255, 256, 258, 259, 260, 262, 263, 265, 266, 267, 269, 270, 272, 273, 274, 276, 277, 279, 280, 281, 283, 284, 286, 287, 288, 291, 292, 293, 296, 297, 298, 301, 302, 303, 305, 306, 308, 309, 310, 311, 314, 315, 316, 319, 320, 321, 323, 324, 326, 327, 335, 336, 337, 338, 339, 341, 342, 344, 345, 346, 348, 349, 351, 352, 353, 355, 356, 358, 359, 360, 362, 363, 365, 366, 367, 370, 371, 372, 375, 376, 377, 379, 380, 382, 383, 384, 386, 387, 389, 390, 391, 394, 395, 396, 398, 399, 401, 402, 403, 405, 406, 408, 409, 410, 412, 413, 415, 416, 417, 419, 420, 422, 423, 424, 426, 427, 429, 430, 431, 434, 435, 436, 438, 439, 441, 442, 443, 444, 445, 446, 447, 450, 452, 453, 455, 456, 457, 459, 460, 462, 463, 464, 466, 467, 469, 470, 478, 479, 480, 481, 482, 484, 485, 487, 488, 489, 492, 493, 494, 496, 497, 499, 500, 501, 504, 505, 506, 508, 509, 511, 512, 513, 516, 517, 518, 520, 521, 523, 524, 525, 527, 528, 530, 531, 532, 534, 535, 537, 538, 539, 541, 542, 544, 545, 546, 548, 549, 551, 552, 553, 555, 556, 558, 559, 560, 562, 563, 565, 566, 567, 569, 570, 572, 573, 574, 576, 577, 579, 580, 581, 583, 584, 586, 587, 588, 590, 591, 593, 594, 595, 597, 598, 600, 601, 602, 604, 605, 607, 608, 609, 611, 612, 614, 615, 616, 619, 620, 621, 623, 624, 626, 627, 628, 631, 632, 633, 635, 636, 638, 639, 640, 642, 643, 645, 646, 647, 649, 650, 652, 653, 654, 656, 657, 659, 660, 661, 663, 664, 666, 667, 668, 670, 671, 673, 674, 675, 676, 677, 678, 679, 682, 684, 685, 687, 688, 689, 691, 692, 694, 695, 696, 698, 699, 701, 702, 703, 705, 706, 708, 709, 710, 713, 714, 715, 718, 719, 720, 723, 724, 725, 727, 728, 730, 731, 732, 735, 736, 737, 739, 740, 742, 743, 744, 746, 747, 749, 750, 751, 754, 755, 756, 758, 759, 761, 762, 763, 765, 766, 768, 769, 770, 773, 774, 775, 778, 779, 780, 783, 784]
theorem Dk.hE : ∀ P, Dk.hA = (Dk.hdx.heap_39 P).map (·.1) := fun _ => by kernel_rfl
noncomputable abbrev Dk.hq : Program := view Dk.hR.prog [63]
noncomputable abbrev Dk.hK : Hook := kHook Dk.hdx.heap_39 Dk.hA Dk.hE
abbrev Dk.hL0 : List PySem.Str := ["_wall", "DarkError", "Missing", "BadName", "Taken", "BadNumber", "NotAWalk", "Full", "Loop", "BadRound", "Bare", "NoRoom", "NoPost", "MOST_ROUND", "FARTHEST", "need_beat"]
abbrev Dk.hL1 : List PySem.Str := ["need_round", "place", "shared", "wheel_of", "need_rooms", "need_ways", "cells_behind", "beginnings", "gone_through", "traced", "way", "MOST_ROOMS", "MOST_LETTERS", "LETTERS", "is_name", "need_fresh"]
abbrev Dk.hL2 : List PySem.Str := ["House", "MOST_POSTS", "MOST_WATCHERS", "MOST_RELIEF", "NEVER", "need_delay", "need_reach", "need_relief", "Scene", "_law_draw", "_law_of", "_law_names", "_law_box", "_law_house", "_law_near", "_law_hand"]
abbrev Dk.hL3 : List PySem.Str := ["_law_round", "_law_scene", "_law_made", "_law_built", "_law_some", "_law_begin", "_law_beats", "_law_like", "_law_moved"]
abbrev Dk.hLoose : List PySem.Str := List.flatten [Dk.hL0, Dk.hL1, Dk.hL2, Dk.hL3]
noncomputable def Dk.hOb (s : SharedT) : List (Option Obj) := Dk.hA.map (HeadRun.getT s)
theorem Dk.hObE (s : SharedT) : Dk.hOb s = Dk.hK.obs s.abs := List.map_congr_left fun a _ => HeadRun.getT_eq s a
set_option maxHeartbeats 0 in
theorem Dk.hrun (w : World) : HeadRun.RunEq Dk.hR Dk.hq Dk.hK Dk.hOb 11808 Dk.hLoose w := by
  intro os
  kernel_rfl
noncomputable abbrev Dk.hD : DefRec := HeadRun.topDef Dk.hR.prog 63
theorem Dk.hN : Dk.hD.name = ("law" : PySem.Str) := by kernel_rfl
set_option maxRecDepth 100000 in
set_option maxHeartbeats 0 in
theorem PySem.Challenge.cw_darkthread_k33_whole_names_and_orders_te_holds : PySem.Challenge.rw_darkthread_k33_whole_names_and_orders_te.Holds := by
  w_on; o_law
  refine HeadRun.head_any (r := Dk.hR) (q := Dk.hq) (H := Dk.hK) (ob := Dk.hOb) (M := 11808) (loose := Dk.hLoose) (d := Dk.hD) (kwd := []) Dk.hObE (by kernel_rfl) (fun s => by kernel_rfl) Dk.hrun (by kernel_rfl) (by kernel_rfl) (by kernel_rfl) (by rfl) (by first | assumption | decide +kernel) (by decide +kernel) ⟨rfl, rfl, rfl, rfl, rfl, by decide +kernel⟩ ?hw ?hc
  case hw => w_witness2
  k_fill
  refine Dk.walk (l := PySem.Challenge.rw_darkthread_k33_whole_names_and_orders_te) rfl (by kernel_rfl) (fun w h Y => PySem.W.kIn_of Y) ?F
  case F =>
    intro w mg fa h KX G hmg
    rw [Dk.hN] at hmg
    refine' Dk.all_mk KX G hmg ?a_House ?a_Scene ?a1 ?l1 ?c1 ?k1 ?a2 ?l2 ?c2 ?k2 ?a3 ?l3 ?c3 ?k3 ?a4 ?l4 ?c4 ?k4 ?a5 ?l5 ?c5 ?k5 ?a6 ?l6 ?c6 ?k6 ?a7 ?l7 ?c7 ?k7 ?a8 ?l8 ?c8 ?k8 ?a9 ?l9 ?c9 ?k9 ?a10 ?l10 ?c10 ?k10 ?a11 ?l11 ?c11 ?k11 ?a12 ?l12 ?c12 ?k12 ?a13 ?i13 ?l13 ?c13 ?k13 ?a14 ?i14 ?l14 ?c14 ?k14 ?a15 ?i15 ?l15 ?c15 ?k15 ?lT15 ?a16 ?l16 ?c16 ?k16 ?a17 ?i17 ?l17 ?c17 ?k17 ?a18 ?i18 ?l18 ?c18 ?k18 ?a19 ?i19 ?l19 ?c19 ?k19 ?a20 ?l20 ?c20 ?k20 ?a21 ?l21 ?c21 ?k21 ?a22 ?l22 ?c22 ?k22 ?a23 ?l23 ?c23 ?k23 ?a24 ?l24 ?c24 ?k24 ?a25 ?l25 ?c25 ?k25 ?a26 ?i26 ?l26 ?c26 ?k26 ?a27 ?l27 ?c27 ?k27 ?e27_delay ?a28 ?i28 ?l28 ?c28 ?k28 ?a29 ?i29 ?l29 ?c29 ?k29 ?a30 ?i30 ?l30 ?c30 ?k30 ?a31 ?i31 ?l31 ?c31 ?k31 ?a32 ?i32 ?l32 ?c32 ?k32 ?a33 ?i33 ?l33 ?c33 ?k33 ?a34 ?i34 ?l34 ?c34 ?k34 ?lT34 ?e34_meet ?e34_relief ?a35 ?l35 ?c35 ?k35 ?a36 ?l36 ?c36 ?k36 ?a37 ?l37 ?c37 ?k37 ?a38 ?l38 ?c38 ?k38 ?a39 ?i39 ?l39 ?c39 ?k39 ?a40 ?l40 ?c40 ?k40 ?a41 ?l41 ?c41 ?k41 ?a42 ?l42 ?c42 ?k42 ?a43 ?i43 ?l43 ?c43 ?k43 ?a44 ?i44 ?l44 ?c44 ?k44 ?a45 ?i45 ?l45 ?c45 ?k45 ?a46 ?i46 ?l46 ?c46 ?k46 ?a47 ?l47 ?c47 ?k47 ?a48 ?l48 ?c48 ?k48 ?a49 ?l49 ?c49 ?k49 ?a50 ?l50 ?c50 ?k50 ?a51 ?l51 ?c51 ?k51 ?e51_begin ?a52 ?i52 ?l52 ?c52 ?k52 ?a53 ?l53 ?c53 ?k53 ?a54 ?l54 ?c54 ?k54 ?pg_House ?hd_House ?po_House ?sa_House ?mk_House ?kc_House ?n_House_named ?n_House_doored ?n_House_sighted ?pg_Scene ?hd_Scene ?po_Scene ?sa_Scene ?mk_Scene ?kc_Scene ?n_Scene_inside ?n_Scene_rounds ?n_Scene_lamps ?n_Scene_meeting ?n_Scene_relieving ?n_Scene_rows ?n_Scene_glow ?g_MOST_LETTERS ?g_LETTERS ?g_MOST_ROOMS ?g_MOST_ROUND ?g_NEVER ?g_MOST_RELIEF ?g_MOST_POSTS ?g_MOST_WATCHERS ?g_FARTHEST ?z_len ?z_range ?z_list ?z_tuple ?z_max ?z_min ?z_all ?z_any ?z_zip ?z_enumerate ?z_isinstance ?z_str ?z_int ?z_bool ?z_sorted ?z_sum ?z_repr ?z_dict ?z_set
    (case a_House => k_is)
    (case a_Scene => k_is)
    (case a1 => k_is)
    (case l1 => k_is)
    (case c1 => k_is)
    (case k1 => k_is)
    (case a2 => k_is)
    (case l2 => k_is)
    (case c2 => k_is)
    (case k2 => k_is)
    (case a3 => k_is)
    (case l3 => k_is)
    (case c3 => k_is)
    (case k3 => k_is)
    (case a4 => k_is)
    (case l4 => k_is)
    (case c4 => k_is)
    (case k4 => k_is)
    (case a5 => k_is)
    (case l5 => k_is)
    (case c5 => k_is)
    (case k5 => k_is)
    (case a6 => k_is)
    (case l6 => k_is)
    (case c6 => k_is)
    (case k6 => k_is)
    (case a7 => k_is)
    (case l7 => k_is)
    (case c7 => k_is)
    (case k7 => k_is)
    (case a8 => k_is)
    (case l8 => k_is)
    (case c8 => k_is)
    (case k8 => k_is)
    (case a9 => k_is)
    (case l9 => k_is)
    (case c9 => k_is)
    (case k9 => k_is)
    (case a10 => k_is)
    (case l10 => k_is)
    (case c10 => k_is)
    (case k10 => k_is)
    (case a11 => k_is)
    (case l11 => k_is)
    (case c11 => k_is)
    (case k11 => k_is)
    (case a12 => k_is)
    (case l12 => k_is)
    (case c12 => k_is)
    (case k12 => k_is)
    (case a13 => k_is)
    (case i13 => k_is)
    (case l13 => k_is)
    (case c13 => k_is)
    (case k13 => k_is)
    (case a14 => k_is)
    (case i14 => k_is)
    (case l14 => k_is)
    (case c14 => k_is)
    (case k14 => k_is)
    (case a15 => k_is)
    (case i15 => k_is)
    (case l15 => k_is)
    (case c15 => k_is)
    (case k15 => k_is)
    (case lT15 => k_is)
    (case a16 => k_is)
    (case l16 => k_is)
    (case c16 => k_is)
    (case k16 => k_is)
    (case a17 => k_is)
    (case i17 => k_is)
    (case l17 => k_is)
    (case c17 => k_is)
    (case k17 => k_is)
    (case a18 => k_is)
    (case i18 => k_is)
    (case l18 => k_is)
    (case c18 => k_is)
    (case k18 => k_is)
    (case a19 => k_is)
    (case i19 => k_is)
    (case l19 => k_is)
    (case c19 => k_is)
    (case k19 => k_is)
    (case a20 => k_is)
    (case l20 => k_is)
    (case c20 => k_is)
    (case k20 => k_is)
    (case a21 => k_is)
    (case l21 => k_is)
    (case c21 => k_is)
    (case k21 => k_is)
    (case a22 => k_is)
    (case l22 => k_is)
    (case c22 => k_is)
    (case k22 => k_is)
    (case a23 => k_is)
    (case l23 => k_is)
    (case c23 => k_is)
    (case k23 => k_is)
    (case a24 => k_is)
    (case l24 => k_is)
    (case c24 => k_is)
    (case k24 => k_is)
    (case a25 => k_is)
    (case l25 => k_is)
    (case c25 => k_is)
    (case k25 => k_is)
    (case a26 => k_is)
    (case i26 => k_is)
    (case l26 => k_is)
    (case c26 => k_is)
    (case k26 => k_is)
    (case a27 => k_is)
    (case l27 => k_is)
    (case c27 => k_is)
    (case k27 => k_is)
    (case e27_delay => k_is)
    (case a28 => k_is)
    (case i28 => k_is)
    (case l28 => k_is)
    (case c28 => k_is)
    (case k28 => k_is)
    (case a29 => k_is)
    (case i29 => k_is)
    (case l29 => k_is)
    (case c29 => k_is)
    (case k29 => k_is)
    (case a30 => k_is)
    (case i30 => k_is)
    (case l30 => k_is)
    (case c30 => k_is)
    (case k30 => k_is)
    (case a31 => k_is)
    (case i31 => k_is)
    (case l31 => k_is)
    (case c31 => k_is)
    (case k31 => k_is)
    (case a32 => k_is)
    (case i32 => k_is)
    (case l32 => k_is)
    (case c32 => k_is)
    (case k32 => k_is)
    (case a33 => k_is)
    (case i33 => k_is)
    (case l33 => k_is)
    (case c33 => k_is)
    (case k33 => k_is)
    (case a34 => k_is)
    (case i34 => k_is)
    (case l34 => k_is)
    (case c34 => k_is)
    (case k34 => k_is)
    (case lT34 => k_is)
    (case e34_meet => k_is)
    (case e34_relief => k_is)
    (case a35 => k_is)
    (case l35 => k_is)
    (case c35 => k_is)
    (case k35 => k_is)
    (case a36 => k_is)
    (case l36 => k_is)
    (case c36 => k_is)
    (case k36 => k_is)
    (case a37 => k_is)
    (case l37 => k_is)
    (case c37 => k_is)
    (case k37 => k_is)
    (case a38 => k_is)
    (case l38 => k_is)
    (case c38 => k_is)
    (case k38 => k_is)
    (case a39 => k_is)
    (case i39 => k_is)
    (case l39 => k_is)
    (case c39 => k_is)
    (case k39 => k_is)
    (case a40 => k_is)
    (case l40 => k_is)
    (case c40 => k_is)
    (case k40 => k_is)
    (case a41 => k_is)
    (case l41 => k_is)
    (case c41 => k_is)
    (case k41 => k_is)
    (case a42 => k_is)
    (case l42 => k_is)
    (case c42 => k_is)
    (case k42 => k_is)
    (case a43 => k_is)
    (case i43 => k_is)
    (case l43 => k_is)
    (case c43 => k_is)
    (case k43 => k_is)
    (case a44 => k_is)
    (case i44 => k_is)
    (case l44 => k_is)
    (case c44 => k_is)
    (case k44 => k_is)
    (case a45 => k_is)
    (case i45 => k_is)
    (case l45 => k_is)
    (case c45 => k_is)
    (case k45 => k_is)
    (case a46 => k_is)
    (case i46 => k_is)
    (case l46 => k_is)
    (case c46 => k_is)
    (case k46 => k_is)
    (case a47 => k_is)
    (case l47 => k_is)
    (case c47 => k_is)
    (case k47 => k_is)
    (case a48 => k_is)
    (case l48 => k_is)
    (case c48 => k_is)
    (case k48 => k_is)
    (case a49 => k_is)
    (case l49 => k_is)
    (case c49 => k_is)
    (case k49 => k_is)
    (case a50 => k_is)
    (case l50 => k_is)
    (case c50 => k_is)
    (case k50 => k_is)
    (case a51 => k_is)
    (case l51 => k_is)
    (case c51 => k_is)
    (case k51 => k_is)
    (case e51_begin => k_is)
    (case a52 => k_is)
    (case i52 => k_is)
    (case l52 => k_is)
    (case c52 => k_is)
    (case k52 => k_is)
    (case a53 => k_is)
    (case l53 => k_is)
    (case c53 => k_is)
    (case k53 => k_is)
    (case a54 => k_is)
    (case l54 => k_is)
    (case c54 => k_is)
    (case k54 => k_is)
    (case pg_House => k_is)
    (case hd_House => k_is)
    (case po_House => k_is)
    (case sa_House => k_is)
    (case mk_House => k_is)
    (case kc_House => k_is)
    (case n_House_named => k_is)
    (case n_House_doored => k_is)
    (case n_House_sighted => k_is)
    (case pg_Scene => k_is)
    (case hd_Scene => k_is)
    (case po_Scene => k_is)
    (case sa_Scene => k_is)
    (case mk_Scene => k_is)
    (case kc_Scene => k_is)
    (case n_Scene_inside => k_is)
    (case n_Scene_rounds => k_is)
    (case n_Scene_lamps => k_is)
    (case n_Scene_meeting => k_is)
    (case n_Scene_relieving => k_is)
    (case n_Scene_rows => k_is)
    (case n_Scene_glow => k_is)
    (case g_MOST_LETTERS => k_is)
    (case g_LETTERS => k_is)
    (case g_MOST_ROOMS => k_is)
    (case g_MOST_ROUND => k_is)
    (case g_NEVER => k_is)
    (case g_MOST_RELIEF => k_is)
    (case g_MOST_POSTS => k_is)
    (case g_MOST_WATCHERS => k_is)
    (case g_FARTHEST => k_is)
    (case z_len => k_is)
    (case z_range => k_is)
    (case z_list => k_is)
    (case z_tuple => k_is)
    (case z_max => k_is)
    (case z_min => k_is)
    (case z_all => k_is)
    (case z_any => k_is)
    (case z_zip => k_is)
    (case z_enumerate => k_is)
    (case z_isinstance => k_is)
    (case z_str => k_is)
    (case z_int => k_is)
    (case z_bool => k_is)
    (case z_sorted => k_is)
    (case z_sum => k_is)
    (case z_repr => k_is)
    (case z_dict => k_is)
    (case z_set => k_is)



