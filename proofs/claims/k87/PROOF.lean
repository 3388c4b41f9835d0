import PyProof.Rows.All
import Wide.All
import OpenK.AllK
import Wide.FinOn
import HandS.ForMost
import HandS.ForExc
import HandS.Deep
import HandS.IsInst
import HandS.Zip
import HandS.Strs
import HandS.FStr
import HandS.StrMore
import HandS.SortInts
import HandS.More
import PyProof.StrOps2
import HandS.Codes
import HandS.Text
import HandS.Dict
import PyProof.Rows.StrOr
import KE.IntTextLaws
import KE.KIntText
import HandS.EndBits
import HandS.ForDict
import PySem.Challenge.RW_nearlands_k87_fractions_and_points_shown
set_option Elab.async false
set_option linter.all false
set_option autoImplicit false
set_option maxRecDepth 100000
set_option maxHeartbeats 4000000
/-! The engine, part A: plain values, the evaluator's own heap, how both stand for the model's. -/
namespace Eng
open PySem L2 PySem.Spec PyProof.Rows

/-- plain values: lists and dicts that never change again stand in them whole; ref i is an object of the evaluator's heap -/
inductive Val where
  | non | bl (b : Bool) | int (i : Int) | str (s : Str)
  | tup (xs : List Val) | lst (xs : List Val) | dct (ks : List Key) (vs : List Val)
  | ref (i : Nat)
  | exc (c : Nat) (fs : List Val)
inductive Ob where
  | lst (xs : List Val) | dct (ks : List Key) (vs : List Val) | ldc (ks : List Key) (vs : List Val)
  | ins (c : Nat) (ns : List Str) (vs : List Val)
  | dead
abbrev Hv := List Ob
abbrev Ev := List (Option Val)
structure Ex where
  c : Nat
  fs : List Val
inductive R (α : Type) where
  | ok (a : α) (h : Hv)
  | err (e : Ex) (h : Hv)
  | bad
def R.bind {α β : Type} : R α → (α → Hv → R β) → R β
  | .ok a h, k => k a h
  | .err e h, _ => .err e h
  | .bad, _ => .bad
def PR {α : Type} (r : R α) (P : α → Hv → Prop) (E : Ex → Hv → Prop) : Prop := match r with
  | .ok a h => P a h
  | .err e h => E e h
  | .bad => False
theorem PR.bind {α β : Type} {r : R α} {k : α → Hv → R β} {P : β → Hv → Prop} {E : Ex → Hv → Prop} : PR (r.bind k) P E ↔ PR r (fun a h => PR (k a h) P E) E := by
  cases r <;> exact Iff.rfl
theorem PR.mono {α : Type} {r : R α} {P P' : α → Hv → Prop} {E E' : Ex → Hv → Prop} (h : PR r P E) (hp : ∀ a g, P a g → P' a g) (he : ∀ e g, E e g → E' e g) : PR r P' E' := by
  cases r with
  | ok a g => exact hp a g h
  | err e g => exact he e g h
  | bad => exact h

/-- what an own class (of the program) is: its place, and whether instances of it are exceptions with fields -/
structure G where
  K : PySem.W.Frag
  cls : Nat → Option Addr
  xfs : Nat → List Str

abbrev Mp := List (Option Addr)
/-- a caught exception, kept: its class and its own dict -/
def XcO (C : Addr) (d : Option Addr) (a : Addr) : HO := .ext fun h => ∃ (oe : Obj) (vs : Array Value), h.get? a = some oe ∧ Zc (.ref C) d oe ∧ oe.data = .fields vs
def TupAt (Γ : G) (L : Addr → Prop) (φ : Mp) (H : Hp) (a : Addr) (xs : List V) : Prop := (Rd H a (.tup xs) ∧ ¬ L a ∧ some a ∉ φ) ∨ ∀ H', SqT Γ.K H' a xs
/-- a list of the written part, whole -/
def KLst (K : PySem.W.Frag) (a : Addr) (xs : List V) : Prop := ∃ its : List Value, K.lookup a = some { cls := .type "list", data := .seq its.toArray } ∧ Vals xs its ∧ its.length ≤ sizeLine
def RdK (K : PySem.W.Frag) (H : Hp) (a : Addr) (xs : List V) : Prop := Rd H a (.lst xs) ∨ KLst K a xs
theorem KLst.sq {K : PySem.W.Frag} {a : Addr} {xs : List V} (h : KLst K a xs) (H : Hp) : SqL K H a xs := by
  obtain ⟨its, k, r, z⟩ := h
  exact .inr ⟨_, its.toArray, 0, k, rfl, rfl, rfl, by simpa using z, by simpa using r⟩
theorem RdK.sq {K : PySem.W.Frag} {H : Hp} {a : Addr} {xs : List V} (h : RdK K H a xs) : SqL K H a xs := by
  rcases h with h | h
  · exact .inl h
  · exact h.sq H
def LstAt (Γ : G) (L : Addr → Prop) (φ : Mp) (H : Hp) (a : Addr) (xs : List V) : Prop := (Rd H a (.lst xs) ∧ ¬ L a ∧ some a ∉ φ) ∨ KLst Γ.K a xs
def DctAt (L : Addr → Prop) (φ : Mp) (H : Hp) (a : Addr) (kvs : List (Key × V)) : Prop := H a = some (.dK kvs) ∧ ¬ L a ∧ some a ∉ φ
mutual
def Rv (Γ : G) (L : Addr → Prop) (φ : Mp) (H : Hp) : Val → V → Prop
  | .non, x => x = .non
  | .bl b, x => x = .bl b
  | .int i, x => x = .int i
  | .str s, x => x = .str s
  | .tup vs, x => ∃ a xs, x = .ref a ∧ TupAt Γ L φ H a xs ∧ RvL Γ L φ H vs xs
  | .lst vs, x => ∃ a xs, x = .ref a ∧ LstAt Γ L φ H a xs ∧ RvL Γ L φ H vs xs
  | .dct ks vs, x => ∃ a kvs, x = .ref a ∧ DctAt L φ H a kvs ∧ kvs.map (·.1) = ks ∧ RvL Γ L φ H vs (kvs.map (·.2))
  | .ref i, x => ∃ o, φ[i]? = some o ∧ ∀ a, o = some a → x = .ref a
  | .exc c fs, x => ∃ a C d gs, x = .ref a ∧ Γ.cls c = some C ∧ H a = some (XcO C d a) ∧ (¬ L a ∧ some a ∉ φ) ∧ RvL Γ L φ H fs gs ∧
      (match d with | none => Γ.xfs c = [] ∧ gs = [] | some d => H d = some (.xd ((Γ.xfs c).zip gs)) ∧ (¬ L d ∧ some d ∉ φ) ∧ (Γ.xfs c).length = gs.length)
def RvL (Γ : G) (L : Addr → Prop) (φ : Mp) (H : Hp) : List Val → List V → Prop
  | [], xs => xs = []
  | v :: vs, xs => ∃ y ys, xs = y :: ys ∧ Rv Γ L φ H v y ∧ RvL Γ L φ H vs ys
end
/-- from one place to a later one -/
structure Le (φ : Mp) (H : Hp) (φ' : Mp) (H' : Hp) : Prop where
  len : φ.length ≤ φ'.length
  ref : ∀ (i : Nat), i < φ.length → φ'[i]? = φ[i]? ∨ φ'[i]? = some none
  keep : ∀ a o, H a = some o → some a ∉ φ → H' a = some o
  new : ∀ a, some a ∈ φ' → some a ∈ φ ∨ H a = none
  dom : ∀ a, H a ≠ none → H' a ≠ none
theorem Le.refl (φ : Mp) (H : Hp) : Le φ H φ H := ⟨Nat.le_refl _, fun _ _ => .inl rfl, fun _ _ h _ => h, fun _ h => .inl h, fun _ h => h⟩
theorem Le.nin {φ φ' : Mp} {H H' : Hp} (e : Le φ H φ' H') {a : Addr} {o : HO} (h : H a = some o) (n : some a ∉ φ) : some a ∉ φ' := fun m => by
  rcases e.new a m with q | q
  · exact n q
  · rw [h] at q; cases q
theorem Le.trans {φ φ1 φ2 : Mp} {H H1 H2 : Hp} (a : Le φ H φ1 H1) (b : Le φ1 H1 φ2 H2) : Le φ H φ2 H2 where
  len := Nat.le_trans a.len b.len
  ref := fun i h => by
    rcases b.ref i (Nat.lt_of_lt_of_le h a.len) with q | q
    · rcases a.ref i h with p | p
      · exact .inl (q.trans p)
      · exact .inr (q.trans p)
    · exact .inr q
  keep := fun c o h n => b.keep c o (a.keep c o h n) (a.nin h n)
  new := fun c m => by
    rcases b.new c m with q | q
    · exact a.new c q
    · exact .inr (by
        cases e : H c with
        | none => rfl
        | some o => exact absurd q (a.dom c (by rw [e]; exact fun z => nomatch z)))
  dom := fun c h => b.dom c (a.dom c h)
section
variable {Γ : G} {L : Addr → Prop} {φ φ' : Mp} {H H' : Hp}
theorem Le.rd (e : Le φ H φ' H') {a : Addr} {u : HO} (h : Rd H a u) (n : some a ∉ φ) : Rd H' a u ∧ some a ∉ φ' := by
  rcases h with h | ⟨o, h⟩
  · exact ⟨.inl (e.keep a _ h n), e.nin h n⟩
  · exact ⟨.inr ⟨o, e.keep a _ h n⟩, e.nin h n⟩
theorem TupAt.mono (e : Le φ H φ' H') {a : Addr} {xs : List V} (h : TupAt Γ L φ H a xs) : TupAt Γ L φ' H' a xs := by
  rcases h with ⟨h, l, n⟩ | h
  · exact .inl ⟨(e.rd h n).1, l, (e.rd h n).2⟩
  · exact .inr h
theorem LstAt.mono (e : Le φ H φ' H') {a : Addr} {xs : List V} (h : LstAt Γ L φ H a xs) : LstAt Γ L φ' H' a xs := by
  rcases h with ⟨h, l, n⟩ | h
  · exact .inl ⟨(e.rd h n).1, l, (e.rd h n).2⟩
  · exact .inr h
theorem DctAt.mono (e : Le φ H φ' H') {a : Addr} {kvs : List (Key × V)} (h : DctAt L φ H a kvs) : DctAt L φ' H' a kvs :=
  ⟨e.keep a _ h.1 h.2.2, h.2.1, e.nin h.1 h.2.2⟩
mutual
theorem Rv.mono (e : Le φ H φ' H') : ∀ {v : Val} {x : V}, Rv Γ L φ H v x → Rv Γ L φ' H' v x
  | .non, _, h => h
  | .bl _, _, h => h
  | .int _, _, h => h
  | .str _, _, h => h
  | .tup vs, x, h => by
    unfold Rv at h ⊢
    obtain ⟨a, xs, h1, h2, h3⟩ := h
    exact ⟨a, xs, h1, h2.mono e, RvL.mono e h3⟩
  | .lst vs, x, h => by
    unfold Rv at h ⊢
    obtain ⟨a, xs, h1, h2, h3⟩ := h
    exact ⟨a, xs, h1, h2.mono e, RvL.mono e h3⟩
  | .dct ks vs, x, h => by
    unfold Rv at h ⊢
    obtain ⟨a, kvs, h1, h2, h3, h4⟩ := h
    exact ⟨a, kvs, h1, h2.mono e, h3, RvL.mono e h4⟩
  | .ref i, x, h => by
    unfold Rv at h ⊢
    obtain ⟨o, h1, h2⟩ := h
    have hi : i < φ.length := (List.getElem?_eq_some_iff.mp h1).1
    rcases e.ref i hi with q | q
    · exact ⟨o, q.trans h1, h2⟩
    · exact ⟨none, q, fun _ z => nomatch z⟩
  | .exc c fs, x, h => by
    unfold Rv at h ⊢
    obtain ⟨a, C, d, gs, h1, h2, h3, h4, h5, h6⟩ := h
    refine ⟨a, C, d, gs, h1, h2, e.keep a _ h3 h4.2, ⟨h4.1, e.nin h3 h4.2⟩, RvL.mono e h5, ?_⟩
    cases d with
    | none => exact h6
    | some d => exact ⟨e.keep d _ h6.1 h6.2.1.2, ⟨h6.2.1.1, e.nin h6.1 h6.2.1.2⟩, h6.2.2⟩
theorem RvL.mono (e : Le φ H φ' H') : ∀ {vs : List Val} {xs : List V}, RvL Γ L φ H vs xs → RvL Γ L φ' H' vs xs
  | [], _, h => h
  | v :: vs, xs, h => by
    unfold RvL at h ⊢
    obtain ⟨y, ys, h1, h2, h3⟩ := h
    exact ⟨y, ys, h1, Rv.mono e h2, RvL.mono e h3⟩
end
end
def ObR (Γ : G) (L : Addr → Prop) (φ : Mp) (H : Hp) (a : Addr) : Ob → Prop
  | .lst vs => ∃ xs, H a = some (.lst xs) ∧ RvL Γ L φ H vs xs
  | .dct ks vs => ∃ kvs, H a = some (.dK kvs) ∧ kvs.map (·.1) = ks ∧ RvL Γ L φ H vs (kvs.map (·.2))
  | .ldc ks vs => ∃ o kvs, H a = some (.frz o (.dK kvs)) ∧ kvs.map (·.1) = ks ∧ RvL Γ L φ H vs (kvs.map (·.2))
  | .ins c ns vs => ∃ C dx fs, Γ.cls c = some C ∧ H a = some (.ins C dx fs) ∧ fs.map (·.1) = ns ∧ RvL Γ L φ H vs (fs.map (·.2))
  | .dead => True
structure Sim (Γ : G) (L : Addr → Prop) (φ : Mp) (h : Hv) (H : Hp) : Prop where
  len : h.length = φ.length
  live : ∀ (i : Nat) (o : Ob), h[i]? = some o → o = .dead ∨ ∃ a, φ[i]? = some (some a) ∧ ObR Γ L φ H a o
  inj : ∀ (i j : Nat) (a : Addr), φ[i]? = some (some a) → φ[j]? = some (some a) → i = j
  apart : ∀ a, some a ∈ φ → ¬ L a ∧ H a ≠ none
  ldom : ∀ a, L a → H a ≠ none
structure SimE (Γ : G) (L : Addr → Prop) (φ : Mp) (ρ : Ev) (σ : L2.St) (H : Hp) : Prop where
  len : ρ.length = σ.length
  get : ∀ (i : Nat) (v : Val), ρ[i]? = some (some v) → ∃ x, σ[i]? = some (some x) ∧ Rv Γ L φ H v x
section
variable {Γ : G} {L : Addr → Prop} {φ φ' : Mp} {H H' : Hp} {h : Hv} {ρ : Ev} {σ : L2.St}
theorem SimE.mono (e : Le φ H φ' H') (s : SimE Γ L φ ρ σ H) : SimE Γ L φ' ρ σ H' := ⟨s.len, fun i v q => by
  obtain ⟨x, e1, e2⟩ := s.get i v q
  exact ⟨x, e1, e2.mono e⟩⟩
theorem SimE.set (s : SimE Γ L φ ρ σ H) (i : Nat) {v : Val} {x : V} (r : Rv Γ L φ H v x) : SimE Γ L φ (ρ.set i (some v)) (σ.set i (some x)) H := ⟨by rw [List.length_set, List.length_set]; exact s.len, fun j u q => by
  by_cases e : i = j
  · subst e
    have hi : i < ρ.length := by
      have := (List.getElem?_eq_some_iff.mp q).1
      simpa using this
    rw [List.getElem?_set_self hi] at q
    cases q
    exact ⟨x, List.getElem?_set_self (s.len ▸ hi), r⟩
  · rw [List.getElem?_set_ne e] at q ⊢
    exact s.get j u q⟩
theorem SimE.unset (s : SimE Γ L φ ρ σ H) (i : Nat) (o : Option V) : SimE Γ L φ (ρ.set i none) (σ.set i o) H := ⟨by rw [List.length_set, List.length_set]; exact s.len, fun j u q => by
  by_cases e : i = j
  · subst e
    have hi : i < ρ.length := by
      have := (List.getElem?_eq_some_iff.mp q).1
      simpa using this
    rw [List.getElem?_set_self hi] at q
    cases q
  · rw [List.getElem?_set_ne e] at q ⊢
    exact s.get j u q⟩
theorem ObR.at {a : Addr} {o : Ob} (hne : o ≠ .dead) (h : ObR Γ L φ H a o) : H a ≠ none := by
  cases o with
  | lst vs => obtain ⟨_, e, _⟩ := h; rw [e]; exact fun z => nomatch z
  | dct ks vs => obtain ⟨_, e, _⟩ := h; rw [e]; exact fun z => nomatch z
  | ldc ks vs => obtain ⟨_, _, e, _⟩ := h; rw [e]; exact fun z => nomatch z
  | ins c ns vs => obtain ⟨_, _, _, _, e, _⟩ := h; rw [e]; exact fun z => nomatch z
  | dead => exact absurd rfl hne
/-- an object stays as it is -/
theorem ObR.mono (e : Le φ H φ' H') {a : Addr} {o : Ob} (hk : ∀ u, H a = some u → H' a = some u) (h : ObR Γ L φ H a o) : ObR Γ L φ' H' a o := by
  cases o with
  | lst vs => obtain ⟨xs, e1, e2⟩ := h; exact ⟨xs, hk _ e1, e2.mono e⟩
  | dct ks vs => obtain ⟨xs, e1, e2, e3⟩ := h; exact ⟨xs, hk _ e1, e2, e3.mono e⟩
  | ldc ks vs => obtain ⟨o, xs, e1, e2, e3⟩ := h; exact ⟨o, xs, hk _ e1, e2, e3.mono e⟩
  | ins c ns vs => obtain ⟨C, dx, fs, e0, e1, e2, e3⟩ := h; exact ⟨C, dx, fs, e0, hk _ e1, e2, e3.mono e⟩
  | dead => exact h
/-- a new object that the evaluator's heap does not know -/
theorem Le.tmp (s : Sim Γ L φ h H) {p : Addr} {u : HO} (hp : H p = none) : Le φ H φ (upd H p u) where
  len := Nat.le_refl _
  ref := fun _ _ => .inl rfl
  keep := fun a o e n => by rw [upd_ne (ne_of_none e hp)]; exact e
  new := fun _ m => .inl m
  dom := fun a e => by
    by_cases q : a = p
    · rw [q, upd_same]; exact fun z => nomatch z
    · rw [upd_ne q]; exact e
theorem Sim.free (s : Sim Γ L φ h H) {p : Addr} (hp : H p = none) : some p ∉ φ ∧ ¬ L p := ⟨fun m => (s.apart p m).2 hp, fun l => s.ldom p l hp⟩
/-- the heap changes only where the evaluator does not look -/
theorem Sim.past (s : Sim Γ L φ h H) (e : Le φ H φ H') (hk : ∀ a u, some a ∈ φ → H a = some u → H' a = some u) : Sim Γ L φ h H' where
  len := s.len
  live := fun i o q => by
    rcases s.live i o q with r | ⟨a, r1, r2⟩
    · exact .inl r
    · exact .inr ⟨a, r1, r2.mono e fun u z => hk a u (List.mem_of_getElem? r1) z⟩
  inj := s.inj
  apart := fun a m => ⟨(s.apart a m).1, e.dom a (s.apart a m).2⟩
  ldom := fun a l => e.dom a (s.ldom a l)
theorem Sim.tmp (s : Sim Γ L φ h H) {p : Addr} {u : HO} (hp : H p = none) : Sim Γ L φ h (upd H p u) :=
  s.past (Le.tmp s hp) fun a u m z => by rw [upd_ne (ne_of_none z hp)]; exact z
/-- a new object of the evaluator's heap -/
theorem Le.alloc {p : Addr} {u : HO} (hp : H p = none) : Le φ H (φ ++ [some p]) (upd H p u) where
  len := by simp
  ref := fun i hi => .inl (List.getElem?_append_left hi)
  keep := fun a o e n => by rw [upd_ne (ne_of_none e hp)]; exact e
  new := fun a m => by
    rcases List.mem_append.mp m with q | q
    · exact .inl q
    · have : a = p := by simpa using q
      exact .inr (this ▸ hp)
  dom := fun a e => by
    by_cases q : a = p
    · rw [q, upd_same]; exact fun z => nomatch z
    · rw [upd_ne q]; exact e
theorem getElem?_snoc {α : Type} {l : List α} {x y : α} {i : Nat} (h : (l ++ [x])[i]? = some y) : (i < l.length ∧ l[i]? = some y) ∨ (i = l.length ∧ y = x) := by
  rcases Nat.lt_or_ge i l.length with q | q
  · rw [List.getElem?_append_left q] at h
    exact .inl ⟨q, h⟩
  · rw [List.getElem?_append_right q] at h
    have : i - l.length = 0 := by
      have := (List.getElem?_eq_some_iff.mp h).1
      simp at this
      omega
    rw [this] at h
    simp at h
    exact .inr ⟨by omega, h.symm⟩
theorem Sim.alloc (s : Sim Γ L φ h H) {p : Addr} {u : HO} {o : Ob} (hp : H p = none) (new : ObR Γ L (φ ++ [some p]) (upd H p u) p o) : Sim Γ L (φ ++ [some p]) (h ++ [o]) (upd H p u) where
  len := by simp [s.len]
  live := fun i o' q => by
    rcases getElem?_snoc q with ⟨hi, q⟩ | ⟨hi, q⟩
    · rcases s.live i o' q with r | ⟨a, r1, r2⟩
      · exact .inl r
      · refine .inr ⟨a, by rw [List.getElem?_append_left (s.len ▸ hi)]; exact r1, r2.mono (Le.alloc hp) fun u z => by rw [upd_ne (ne_of_none z hp)]; exact z⟩
    · subst q
      refine .inr ⟨p, ?_, new⟩
      rw [hi, s.len, List.getElem?_append_right (Nat.le_refl _), Nat.sub_self]
      rfl
  inj := fun i j a e1 e2 => by
    have np : some p ∉ φ := (s.free hp).1
    rcases getElem?_snoc e1 with ⟨hi, q1⟩ | ⟨hi, q1⟩
    · rcases getElem?_snoc e2 with ⟨hj, q2⟩ | ⟨hj, q2⟩
      · exact s.inj i j a q1 q2
      · exact absurd (q2 ▸ List.mem_of_getElem? q1) np
    · rcases getElem?_snoc e2 with ⟨hj, q2⟩ | ⟨hj, q2⟩
      · exact absurd (q1 ▸ List.mem_of_getElem? q2) np
      · exact hi.trans hj.symm
  apart := fun a m => by
    rcases List.mem_append.mp m with q | q
    · exact ⟨(s.apart a q).1, (Le.alloc hp (φ := φ) (u := u)).dom a (s.apart a q).2⟩
    · have : a = p := by simpa using q
      subst this
      exact ⟨(s.free hp).2, by rw [upd_same]; exact fun z => nomatch z⟩
  ldom := fun a l => (Le.alloc hp (φ := φ) (u := u)).dom a (s.ldom a l)
/-- an object is written -/
theorem Le.write {a : Addr} {u : HO} (m : some a ∈ φ) : Le φ H φ (upd H a u) where
  len := Nat.le_refl _
  ref := fun _ _ => .inl rfl
  keep := fun b o e n => by
    have hb : b ≠ a := fun z => by subst z; exact n m
    rw [upd_ne hb]; exact e
  new := fun _ m => .inl m
  dom := fun b e => by
    by_cases q : b = a
    · rw [q, upd_same]; exact fun z => nomatch z
    · rw [upd_ne q]; exact e
theorem Sim.write (s : Sim Γ L φ h H) {a : Addr} {u : HO} {o : Ob} {i : Nat} (hi : φ[i]? = some (some a)) (new : ObR Γ L φ (upd H a u) a o) : Sim Γ L φ (h.set i o) (upd H a u) where
  len := by simp [s.len]
  live := fun j o' q => by
    by_cases e : i = j
    · subst e
      have hl : i < h.length := by rw [s.len]; exact (List.getElem?_eq_some_iff.mp hi).1
      rw [List.getElem?_set_self hl] at q
      cases q
      exact .inr ⟨a, hi, new⟩
    · rw [List.getElem?_set_ne e] at q
      rcases s.live j o' q with r | ⟨b, r1, r2⟩
      · exact .inl r
      · refine .inr ⟨b, r1, r2.mono (Le.write (List.mem_of_getElem? hi)) fun v z => ?_⟩
        have hb : b ≠ a := fun c => by subst c; exact e (s.inj i j b hi r1)
        rw [upd_ne hb]
        exact z
  inj := s.inj
  apart := fun b m => ⟨(s.apart b m).1, (Le.write (List.mem_of_getElem? hi) (u := u)).dom b (s.apart b m).2⟩
  ldom := fun b l => (Le.write (List.mem_of_getElem? hi) (u := u)).dom b (s.ldom b l)
/-- an object is given up: from now on it never changes -/
theorem Le.kill {i : Nat} : Le φ H (φ.set i none) H where
  len := by simp
  ref := fun j hj => by
    by_cases e : i = j
    · subst e
      exact .inr (List.getElem?_set_self hj)
    · exact .inl (List.getElem?_set_ne e)
  keep := fun _ _ e _ => e
  new := fun a m => .inl (by
    rcases List.mem_or_eq_of_mem_set m with q | q
    · exact q
    · cases q)
  dom := fun _ e => e
theorem Sim.kill (s : Sim Γ L φ h H) (i : Nat) : Sim Γ L (φ.set i none) (h.set i .dead) H where
  len := by simp [s.len]
  live := fun j o' q => by
    by_cases e : i = j
    · subst e
      have hl : i < h.length := by
        have := (List.getElem?_eq_some_iff.mp q).1
        simpa using this
      rw [List.getElem?_set_self hl] at q
      cases q
      exact .inl rfl
    · rw [List.getElem?_set_ne e] at q
      rcases s.live j o' q with r | ⟨b, r1, r2⟩
      · exact .inl r
      · exact .inr ⟨b, by rw [List.getElem?_set_ne e]; exact r1, r2.mono Le.kill fun _ z => z⟩
  inj := fun j k a e1 e2 => by
    have f : ∀ j, (φ.set i none)[j]? = some (some a) → φ[j]? = some (some a) := fun j e => by
      by_cases q : i = j
      · subst q
        by_cases hl : i < φ.length
        · rw [List.getElem?_set_self hl] at e; cases e
        · rw [List.getElem?_eq_none (by simpa using hl)] at e; cases e
      · rw [List.getElem?_set_ne q] at e; exact e
    exact s.inj j k a (f j e1) (f k e2)
  apart := fun a m => s.apart a (by
    rcases List.mem_or_eq_of_mem_set m with q | q
    · exact q
    · cases q)
  ldom := s.ldom
theorem kill_nin (s : Sim Γ L φ h H) {i : Nat} {a : Addr} (hi : φ[i]? = some (some a)) : some a ∉ φ.set i none := fun m => by
  obtain ⟨j, hj⟩ := List.getElem?_of_mem m
  by_cases q : i = j
  · subst q
    have hl : i < φ.length := (List.getElem?_eq_some_iff.mp hi).1
    rw [List.getElem?_set_self hl] at hj
    cases hj
  · rw [List.getElem?_set_ne q] at hj
    exact q (s.inj i j a hi hj)
theorem RvL.length : ∀ {vs : List Val} {xs : List V}, RvL Γ L φ H vs xs → vs.length = xs.length
  | [], xs, h => by unfold RvL at h; subst h; rfl
  | v :: vs, xs, h => by
    unfold RvL at h
    obtain ⟨y, ys, rfl, _, h⟩ := h
    simp [RvL.length h]
theorem RvL.get : ∀ {vs : List Val} {xs : List V} {i : Nat} {v : Val}, RvL Γ L φ H vs xs → vs[i]? = some v → ∃ x, xs[i]? = some x ∧ Rv Γ L φ H v x
  | [], xs, i, v, h, e => by simp at e
  | u :: vs, xs, 0, v, h, e => by
    unfold RvL at h
    obtain ⟨y, ys, rfl, h1, h2⟩ := h
    simp at e; subst e
    exact ⟨y, rfl, h1⟩
  | u :: vs, xs, i + 1, v, h, e => by
    unfold RvL at h
    obtain ⟨y, ys, rfl, h1, h2⟩ := h
    obtain ⟨x, e1, e2⟩ := RvL.get (i := i) h2 (by simpa using e)
    exact ⟨x, by simpa using e1, e2⟩
theorem RvL.nil : RvL Γ L φ H [] [] := by unfold RvL; rfl
theorem RvL.cons {v : Val} {vs : List Val} {x : V} {xs : List V} (h1 : Rv Γ L φ H v x) (h2 : RvL Γ L φ H vs xs) : RvL Γ L φ H (v :: vs) (x :: xs) := by
  unfold RvL; exact ⟨x, xs, rfl, h1, h2⟩
theorem RvL.append : ∀ {vs ws : List Val} {xs ys : List V}, RvL Γ L φ H vs xs → RvL Γ L φ H ws ys → RvL Γ L φ H (vs ++ ws) (xs ++ ys)
  | [], _, xs, _, h, k => by unfold RvL at h; subst h; exact k
  | v :: vs, _, xs, _, h, k => by
    unfold RvL at h
    obtain ⟨y, zs, rfl, h1, h2⟩ := h
    exact .cons h1 (RvL.append h2 k)
theorem RvL.take : ∀ {vs : List Val} {xs : List V} (n : Nat), RvL Γ L φ H vs xs → RvL Γ L φ H (vs.take n) (xs.take n)
  | _, _, 0, _ => by simp [RvL.nil]
  | [], xs, _ + 1, h => by unfold RvL at h; subst h; simpa using RvL.nil
  | v :: vs, xs, n + 1, h => by
    unfold RvL at h
    obtain ⟨y, zs, rfl, h1, h2⟩ := h
    simpa using RvL.cons h1 (RvL.take n h2)
theorem RvL.drop : ∀ {vs : List Val} {xs : List V} (n : Nat), RvL Γ L φ H vs xs → RvL Γ L φ H (vs.drop n) (xs.drop n)
  | _, _, 0, h => by simpa using h
  | [], xs, _ + 1, h => by unfold RvL at h; subst h; simpa using RvL.nil
  | v :: vs, xs, n + 1, h => by
    unfold RvL at h
    obtain ⟨y, zs, rfl, h1, h2⟩ := h
    simpa using RvL.drop n h2
theorem RvL.set : ∀ {vs : List Val} {xs : List V} {v : Val} {x : V} (i : Nat), Rv Γ L φ H v x → RvL Γ L φ H vs xs → RvL Γ L φ H (vs.set i v) (xs.set i x)
  | [], xs, _, _, i, _, h => by unfold RvL at h; subst h; simpa using RvL.nil
  | u :: vs, xs, v, x, 0, hv, h => by
    unfold RvL at h
    obtain ⟨y, zs, rfl, h1, h2⟩ := h
    simpa using RvL.cons hv h2
  | u :: vs, xs, v, x, i + 1, hv, h => by
    unfold RvL at h
    obtain ⟨y, zs, rfl, h1, h2⟩ := h
    simpa using RvL.cons h1 (RvL.set i hv h2)
theorem RvL.map_inv {α : Type} {f : α → V} {g : α → Val} (hv : ∀ b x, Rv Γ L φ H (g b) x → x = f b) : ∀ {bs : List α} {xs : List V}, RvL Γ L φ H (bs.map g) xs → xs = bs.map f
  | [], xs, h => by unfold RvL at h; exact h
  | b :: bs, xs, h => by
    rw [List.map_cons] at h
    unfold RvL at h
    obtain ⟨y, ys, rfl, h1, h2⟩ := h
    rw [List.map_cons, hv b y h1, RvL.map_inv hv h2]
end

/-- what the callers may change meanwhile: addresses of theirs, or new ones -/
def LTo (L L1 : Addr → Prop) (H : Hp) : Prop := ∀ a, L1 a → L a ∨ H a = none
section
variable {Γ : G} {L L1 : Addr → Prop} {φ : Mp} {H : Hp}
theorem rd_ne {a : Addr} {u : HO} (h : Rd H a u) : H a ≠ none := by
  rcases h with h | ⟨o, h⟩ <;> (rw [h]; exact fun z => nomatch z)
mutual
theorem Rv.toL (e : LTo L L1 H) : ∀ {v : Val} {x : V}, Rv Γ L φ H v x → Rv Γ L1 φ H v x
  | .non, _, h => by unfold Rv at h ⊢; exact h
  | .bl _, _, h => by unfold Rv at h ⊢; exact h
  | .int _, _, h => by unfold Rv at h ⊢; exact h
  | .str _, _, h => by unfold Rv at h ⊢; exact h
  | .tup vs, x, h => by
    unfold Rv at h ⊢
    obtain ⟨a, xs, h1, h2, h3⟩ := h
    refine ⟨a, xs, h1, ?_, RvL.toL e h3⟩
    rcases h2 with ⟨q1, q2, q3⟩ | q
    · refine .inl ⟨q1, fun z => ?_, q3⟩
      rcases e a z with q | q
      · exact q2 q
      · exact rd_ne q1 q
    · exact .inr q
  | .lst vs, x, h => by
    unfold Rv at h ⊢
    obtain ⟨a, xs, h1, h2, h3⟩ := h
    refine ⟨a, xs, h1, ?_, RvL.toL e h3⟩
    rcases h2 with ⟨q1, q2, q3⟩ | q
    · refine .inl ⟨q1, fun z => ?_, q3⟩
      rcases e a z with q | q
      · exact q2 q
      · exact rd_ne q1 q
    · exact .inr q
  | .dct ks vs, x, h => by
    unfold Rv at h ⊢
    obtain ⟨a, kvs, h1, h2, h3, h4⟩ := h
    refine ⟨a, kvs, h1, ⟨h2.1, fun z => ?_, h2.2.2⟩, h3, RvL.toL e h4⟩
    rcases e a z with q | q
    · exact h2.2.1 q
    · rw [h2.1] at q; cases q
  | .ref i, x, h => by unfold Rv at h ⊢; exact h
  | .exc c fs, x, h => by
    unfold Rv at h ⊢
    obtain ⟨a, C, d, gs, h1, h2, h3, h4, h5, h6⟩ := h
    refine ⟨a, C, d, gs, h1, h2, h3, ⟨fun z => ?_, h4.2⟩, RvL.toL e h5, ?_⟩
    · rcases e a z with q | q
      · exact h4.1 q
      · rw [h3] at q; cases q
    · cases d with
      | none => exact h6
      | some d =>
        refine ⟨h6.1, ⟨fun z => ?_, h6.2.1.2⟩, h6.2.2⟩
        rcases e d z with q | q
        · exact h6.2.1.1 q
        · have w := h6.1
          rw [q] at w; cases w
theorem RvL.toL (e : LTo L L1 H) : ∀ {vs : List Val} {xs : List V}, RvL Γ L φ H vs xs → RvL Γ L1 φ H vs xs
  | [], _, h => by unfold RvL at h ⊢; exact h
  | v :: vs, xs, h => by
    unfold RvL at h ⊢
    obtain ⟨y, ys, h1, h2, h3⟩ := h
    exact ⟨y, ys, h1, Rv.toL e h2, RvL.toL e h3⟩
end
theorem ObR.toL (e : LTo L L1 H) {a : Addr} {o : Ob} (h : ObR Γ L φ H a o) : ObR Γ L1 φ H a o := by
  cases o with
  | lst vs => obtain ⟨xs, e1, e2⟩ := h; exact ⟨xs, e1, e2.toL e⟩
  | dct ks vs => obtain ⟨xs, e1, e2, e3⟩ := h; exact ⟨xs, e1, e2, e3.toL e⟩
  | ldc ks vs => obtain ⟨o, xs, e1, e2, e3⟩ := h; exact ⟨o, xs, e1, e2, e3.toL e⟩
  | ins c ns vs => obtain ⟨C, dx, fs, e0, e1, e2, e3⟩ := h; exact ⟨C, dx, fs, e0, e1, e2, e3.toL e⟩
  | dead => exact h
mutual
/-- a callers' object changes -/
theorem Rv.wrL {a : Addr} {w : HO} (la : L a) : ∀ {v : Val} {x : V}, Rv Γ L φ H v x → Rv Γ L φ (upd H a w) v x
  | .non, _, h => by unfold Rv at h ⊢; exact h
  | .bl _, _, h => by unfold Rv at h ⊢; exact h
  | .int _, _, h => by unfold Rv at h ⊢; exact h
  | .str _, _, h => by unfold Rv at h ⊢; exact h
  | .tup vs, x, h => by
    unfold Rv at h ⊢
    obtain ⟨b, xs, h1, h2, h3⟩ := h
    refine ⟨b, xs, h1, ?_, RvL.wrL la h3⟩
    rcases h2 with ⟨h2, nl, n⟩ | h2
    · refine .inl ⟨?_, nl, n⟩
      have hb : b ≠ a := fun e => by subst e; exact nl la
      rcases h2 with q | ⟨o, q⟩
      · exact .inl (by rw [upd_ne hb]; exact q)
      · exact .inr ⟨o, by rw [upd_ne hb]; exact q⟩
    · exact .inr h2
  | .lst vs, x, h => by
    unfold Rv at h ⊢
    obtain ⟨b, xs, h1, h2, h3⟩ := h
    refine ⟨b, xs, h1, ?_, RvL.wrL la h3⟩
    rcases h2 with ⟨h2, nl, n⟩ | h2
    · refine .inl ⟨?_, nl, n⟩
      have hb : b ≠ a := fun e => by subst e; exact nl la
      rcases h2 with q | ⟨o, q⟩
      · exact .inl (by rw [upd_ne hb]; exact q)
      · exact .inr ⟨o, by rw [upd_ne hb]; exact q⟩
    · exact .inr h2
  | .dct ks vs, x, h => by
    unfold Rv at h ⊢
    obtain ⟨b, kvs, h1, h2, h3, h4⟩ := h
    have hb : b ≠ a := fun e => by subst e; exact h2.2.1 la
    exact ⟨b, kvs, h1, ⟨by rw [upd_ne hb]; exact h2.1, h2.2⟩, h3, RvL.wrL la h4⟩
  | .ref i, x, h => by unfold Rv at h ⊢; exact h
  | .exc c fs, x, h => by
    unfold Rv at h ⊢
    obtain ⟨b, C, d, gs, h1, h2, h3, h4, h5, h6⟩ := h
    have hb : b ≠ a := fun e => by subst e; exact h4.1 la
    refine ⟨b, C, d, gs, h1, h2, by rw [upd_ne hb]; exact h3, h4, RvL.wrL la h5, ?_⟩
    cases d with
    | none => exact h6
    | some d =>
      have hd : d ≠ a := fun e => by subst e; exact h6.2.1.1 la
      exact ⟨by rw [upd_ne hd]; exact h6.1, h6.2⟩
theorem RvL.wrL {a : Addr} {w : HO} (la : L a) : ∀ {vs : List Val} {xs : List V}, RvL Γ L φ H vs xs → RvL Γ L φ (upd H a w) vs xs
  | [], _, h => by unfold RvL at h ⊢; exact h
  | v :: vs, xs, h => by
    unfold RvL at h ⊢
    obtain ⟨y, ys, h1, h2, h3⟩ := h
    exact ⟨y, ys, h1, Rv.wrL la h2, RvL.wrL la h3⟩
end
theorem Sim.toL {h : Hv} (s : Sim Γ L φ h H) (e : LTo L L1 H) (hd : ∀ a, L1 a → H a ≠ none) : Sim Γ L1 φ h H where
  len := s.len
  live := fun i o q => by
    rcases s.live i o q with r | ⟨a, r1, r2⟩
    · exact .inl r
    · exact .inr ⟨a, r1, r2.toL e⟩
  inj := s.inj
  apart := fun a m => ⟨fun l => by
    rcases e a l with q | q
    · exact (s.apart a m).1 q
    · exact (s.apart a m).2 q, (s.apart a m).2⟩
  ldom := hd
/-- a list of the callers' is written -/
theorem Sim.wrL {h : Hv} (s : Sim Γ L φ h H) {a : Addr} {u : HO} (la : L a) : Sim Γ L φ h (upd H a u) where
  len := s.len
  live := fun i o q => by
    rcases s.live i o q with r | ⟨b, r1, r2⟩
    · exact .inl r
    · have hb : b ≠ a := fun e => by subst e; exact (s.apart b (List.mem_of_getElem? r1)).1 la
      have w : ∀ {vs : List Val} {zs : List V}, RvL Γ L φ H vs zs → RvL Γ L φ (upd H a u) vs zs := fun r => RvL.wrL la r
      refine .inr ⟨b, r1, ?_⟩
      cases o with
      | lst vs => obtain ⟨xs, e1, e2⟩ := r2; exact ⟨xs, by rw [upd_ne hb]; exact e1, w e2⟩
      | dct ks vs => obtain ⟨xs, e1, e2, e3⟩ := r2; exact ⟨xs, by rw [upd_ne hb]; exact e1, e2, w e3⟩
      | ldc ks vs => obtain ⟨o, xs, e1, e2, e3⟩ := r2; exact ⟨o, xs, by rw [upd_ne hb]; exact e1, e2, w e3⟩
      | ins c ns vs => obtain ⟨C, dx, fs, e0, e1, e2, e3⟩ := r2; exact ⟨C, dx, fs, e0, by rw [upd_ne hb]; exact e1, e2, w e3⟩
      | dead => exact trivial
  inj := s.inj
  apart := fun b m => ⟨(s.apart b m).1, by
    by_cases e : b = a
    · rw [e, upd_same]; exact fun z => nomatch z
    · rw [upd_ne e]; exact (s.apart b m).2⟩
  ldom := fun b l => by
    by_cases e : b = a
    · rw [e, upd_same]; exact fun z => nomatch z
    · rw [upd_ne e]; exact s.ldom b l
end

section
variable {Γ : G} {L : Addr → Prop} {φ : Mp} {H : Hp} {D : Addr} {zs : List V}
theorem snoc_nin {a b : Addr} (h : some a ∉ φ) (ne : a ≠ b) : some a ∉ φ ++ [some b] := fun m => by
  rcases List.mem_append.mp m with q | q
  · exact h q
  · have : a = b := by simpa using q
    exact ne this
mutual
theorem Rv.moveIn (hD : H D = some (.lst zs)) : ∀ {v : Val} {x : V}, Rv Γ (fun a => L a ∨ a = D) φ H v x → Rv Γ L (φ ++ [some D]) H v x
  | .non, _, h => by unfold Rv at h ⊢; exact h
  | .bl _, _, h => by unfold Rv at h ⊢; exact h
  | .int _, _, h => by unfold Rv at h ⊢; exact h
  | .str _, _, h => by unfold Rv at h ⊢; exact h
  | .tup vs, x, h => by
    unfold Rv at h ⊢
    obtain ⟨a, xs, h1, h2, h3⟩ := h
    refine ⟨a, xs, h1, ?_, RvL.moveIn hD h3⟩
    rcases h2 with ⟨q, l, n⟩ | q
    · exact .inl ⟨q, fun z => l (.inl z), snoc_nin n fun e => l (.inr e)⟩
    · exact .inr q
  | .lst vs, x, h => by
    unfold Rv at h ⊢
    obtain ⟨a, xs, h1, h2, h3⟩ := h
    refine ⟨a, xs, h1, ?_, RvL.moveIn hD h3⟩
    rcases h2 with ⟨q, l, n⟩ | q
    · exact .inl ⟨q, fun z => l (.inl z), snoc_nin n fun e => l (.inr e)⟩
    · exact .inr q
  | .dct ks vs, x, h => by
    unfold Rv at h ⊢
    obtain ⟨a, kvs, h1, h2, h3, h4⟩ := h
    exact ⟨a, kvs, h1, ⟨h2.1, fun z => h2.2.1 (.inl z), snoc_nin h2.2.2 fun e => h2.2.1 (.inr e)⟩, h3, RvL.moveIn hD h4⟩
  | .ref i, x, h => by
    unfold Rv at h ⊢
    obtain ⟨o, h1, h2⟩ := h
    exact ⟨o, by rw [List.getElem?_append_left (List.getElem?_eq_some_iff.mp h1).1]; exact h1, h2⟩
  | .exc c fs, x, h => by
    unfold Rv at h ⊢
    obtain ⟨a, C, d, gs, h1, h2, h3, h4, h5, h6⟩ := h
    refine ⟨a, C, d, gs, h1, h2, h3, ⟨fun z => h4.1 (.inl z), snoc_nin h4.2 fun e => h4.1 (.inr e)⟩, RvL.moveIn hD h5, ?_⟩
    cases d with
    | none => exact h6
    | some d => exact ⟨h6.1, ⟨fun z => h6.2.1.1 (.inl z), snoc_nin h6.2.1.2 fun e => h6.2.1.1 (.inr e)⟩, h6.2.2⟩
theorem RvL.moveIn (hD : H D = some (.lst zs)) : ∀ {vs : List Val} {xs : List V}, RvL Γ (fun a => L a ∨ a = D) φ H vs xs → RvL Γ L (φ ++ [some D]) H vs xs
  | [], _, h => by unfold RvL at h ⊢; exact h
  | v :: vs, xs, h => by
    unfold RvL at h ⊢
    obtain ⟨y, ys, h1, h2, h3⟩ := h
    exact ⟨y, ys, h1, Rv.moveIn hD h2, RvL.moveIn hD h3⟩
end
theorem Sim.moveIn {h : Hv} {ys : List Val} (s : Sim Γ (fun a => L a ∨ a = D) φ h H) (nL : ¬ L D) (hD : H D = some (.lst zs)) (r : RvL Γ (fun a => L a ∨ a = D) φ H ys zs) : Sim Γ L (φ ++ [some D]) (h ++ [.lst ys]) H where
  len := by simp [s.len]
  live := fun i o q => by
    rcases getElem?_snoc q with ⟨hi, q⟩ | ⟨hi, q⟩
    · rcases s.live i o q with z | ⟨a, r1, r2⟩
      · exact .inl z
      · refine .inr ⟨a, by rw [List.getElem?_append_left (s.len ▸ hi)]; exact r1, ?_⟩
        cases o with
        | lst vs => obtain ⟨xs, e1, e2⟩ := r2; exact ⟨xs, e1, e2.moveIn hD⟩
        | dct ks vs => obtain ⟨xs, e1, e2, e3⟩ := r2; exact ⟨xs, e1, e2, e3.moveIn hD⟩
        | ldc ks vs => obtain ⟨o, xs, e1, e2, e3⟩ := r2; exact ⟨o, xs, e1, e2, e3.moveIn hD⟩
        | ins c ns vs => obtain ⟨C, dx, fs, e0, e1, e2, e3⟩ := r2; exact ⟨C, dx, fs, e0, e1, e2, e3.moveIn hD⟩
        | dead => exact trivial
    · subst q
      refine .inr ⟨D, ?_, zs, hD, r.moveIn hD⟩
      rw [hi, s.len, List.getElem?_append_right (Nat.le_refl _), Nat.sub_self]
      rfl
  inj := fun i j a e1 e2 => by
    have np : some D ∉ φ := fun m => (s.apart D m).1 (.inr rfl)
    rcases getElem?_snoc e1 with ⟨hi, q1⟩ | ⟨hi, q1⟩
    · rcases getElem?_snoc e2 with ⟨hj, q2⟩ | ⟨hj, q2⟩
      · exact s.inj i j a q1 q2
      · exact absurd (q2 ▸ List.mem_of_getElem? q1) np
    · rcases getElem?_snoc e2 with ⟨hj, q2⟩ | ⟨hj, q2⟩
      · exact absurd (q1 ▸ List.mem_of_getElem? q2) np
      · exact hi.trans hj.symm
  apart := fun a m => by
    rcases List.mem_append.mp m with q | q
    · exact ⟨fun z => (s.apart a q).1 (.inl z), (s.apart a q).2⟩
    · have : a = D := by simpa using q
      subst this
      exact ⟨nL, by rw [hD]; exact fun z => nomatch z⟩
  ldom := fun a l => s.ldom a (.inl l)
end

/-! ### readings -/
/-- an exception of the evaluator stands for one of the model -/
def ExR (Γ : G) (L : Addr → Prop) (φ : Mp) (H : Hp) (e : Ex) (cls : Value) (d : Option Addr) : Prop :=
  ∃ C gs, Γ.cls e.c = some C ∧ cls = .ref C ∧ RvL Γ L φ H e.fs gs ∧
    (match d with | none => Γ.xfs e.c = [] ∧ gs = [] | some d => H d = some (.xd ((Γ.xfs e.c).zip gs)) ∧ (¬ L d ∧ some d ∉ φ) ∧ (Γ.xfs e.c).length = gs.length)
abbrev EX := Ev → Hv → R Val
abbrev EA := Ev → Hv → R (List Val)
abbrev EB := Ev → Hv → R Bool
inductive SR where
  | nx (ρ : Ev) (h : Hv)
  | rt (v : Val) (h : Hv)
  | bk (ρ : Ev) (h : Hv)
  | ct (ρ : Ev) (h : Hv)
  | er (e : Ex) (ρ : Ev) (h : Hv)
  | bad
abbrev ST := Ev → Hv → SR

/-- what follows a value v in the heap h, in the model -/
def OkV (Γ : G) (L : Addr → Prop) (φ : Mp) (H : Hp) (Q : VK) (v : Val) (h : Hv) : Prop := ∀ φ' H' x, Le φ H φ' H' → Sim Γ L φ' h H' → Rv Γ L φ' H' v x → Q x H'
def OkL (Γ : G) (L : Addr → Prop) (φ : Mp) (H : Hp) (Q : List V → Hp → Prop) (vs : List Val) (h : Hv) : Prop := ∀ φ' H' xs, Le φ H φ' H' → Sim Γ L φ' h H' → RvL Γ L φ' H' vs xs → Q xs H'
def OkB (Γ : G) (L : Addr → Prop) (φ : Mp) (H : Hp) (Q : Bool → Hp → Prop) (b : Bool) (h : Hv) : Prop := ∀ φ' H', Le φ H φ' H' → Sim Γ L φ' h H' → Q b H'
def OkX (Γ : G) (L : Addr → Prop) (φ : Mp) (H : Hp) (E : XK) (e : Ex) (h : Hv) : Prop := ∀ φ' H' cls d, Le φ H φ' H' → Sim Γ L φ' h H' → ExR Γ L φ' H' e cls d → E cls d H'
def OkS (Γ : G) (L : Addr → Prop) (φ : Mp) (H : Hp) (Q : L2.St → Hp → Prop) (ρ : Ev) (h : Hv) : Prop := ∀ φ' H' σ', Le φ H φ' H' → Sim Γ L φ' h H' → SimE Γ L φ' ρ σ' H' → Q σ' H'
theorem OkV.mono {Γ : G} {L : Addr → Prop} {φ φ1 : Mp} {H H1 : Hp} {Q : VK} {v : Val} {h : Hv} (e : Le φ H φ1 H1) (k : OkV Γ L φ H Q v h) : OkV Γ L φ1 H1 Q v h := fun φ' H' x l => k φ' H' x (e.trans l)
theorem OkL.mono {Γ : G} {L : Addr → Prop} {φ φ1 : Mp} {H H1 : Hp} {Q : List V → Hp → Prop} {v : List Val} {h : Hv} (e : Le φ H φ1 H1) (k : OkL Γ L φ H Q v h) : OkL Γ L φ1 H1 Q v h := fun φ' H' x l => k φ' H' x (e.trans l)
theorem OkB.mono {Γ : G} {L : Addr → Prop} {φ φ1 : Mp} {H H1 : Hp} {Q : Bool → Hp → Prop} {v : Bool} {h : Hv} (e : Le φ H φ1 H1) (k : OkB Γ L φ H Q v h) : OkB Γ L φ1 H1 Q v h := fun φ' H' l => k φ' H' (e.trans l)
theorem OkX.mono {Γ : G} {L : Addr → Prop} {φ φ1 : Mp} {H H1 : Hp} {E : XK} {v : Ex} {h : Hv} (e : Le φ H φ1 H1) (k : OkX Γ L φ H E v h) : OkX Γ L φ1 H1 E v h := fun φ' H' c d l => k φ' H' c d (e.trans l)
theorem OkS.mono {Γ : G} {L : Addr → Prop} {φ φ1 : Mp} {H H1 : Hp} {Q : L2.St → Hp → Prop} {v : Ev} {h : Hv} (e : Le φ H φ1 H1) (k : OkS Γ L φ H Q v h) : OkS Γ L φ1 H1 Q v h := fun φ' H' s l => k φ' H' s (e.trans l)

def tE (Γ : G) (W : WX) (f : EX) : TE := fun σ H Q => ∃ L φ ρ h, SimE Γ L φ ρ σ H ∧ Sim Γ L φ h H ∧ PR (f ρ h) (OkV Γ L φ H Q) (OkX Γ L φ H (WE W σ))
def tA (Γ : G) (W : WX) (f : EA) : TA := fun σ H Q => ∃ L φ ρ h, SimE Γ L φ ρ σ H ∧ Sim Γ L φ h H ∧ PR (f ρ h) (OkL Γ L φ H Q) (OkX Γ L φ H (WE W σ))
def tT (Γ : G) (W : WX) (f : EB) : TT := fun σ H Q => ∃ L φ ρ h, SimE Γ L φ ρ σ H ∧ Sim Γ L φ h H ∧ PR (f ρ h) (OkB Γ L φ H Q) (OkX Γ L φ H (WE W σ))
def PS_ (r : SR) (nx : Ev → Hv → Prop) (rt : Val → Hv → Prop) (bk ct : Ev → Hv → Prop) (er : Ex → Ev → Hv → Prop) : Prop := match r with
  | .nx ρ h => nx ρ h
  | .rt v h => rt v h
  | .bk ρ h => bk ρ h
  | .ct ρ h => ct ρ h
  | .er e ρ h => er e ρ h
  | .bad => False
theorem PS_.mono {r : SR} {nx nx' : Ev → Hv → Prop} {rt rt' : Val → Hv → Prop} {bk bk' ct ct' : Ev → Hv → Prop} {er er' : Ex → Ev → Hv → Prop} (h : PS_ r nx rt bk ct er)
    (h1 : ∀ ρ h, nx ρ h → nx' ρ h) (h2 : ∀ v h, rt v h → rt' v h) (h3 : ∀ ρ h, bk ρ h → bk' ρ h) (h4 : ∀ ρ h, ct ρ h → ct' ρ h) (h5 : ∀ e ρ h, er e ρ h → er' e ρ h) : PS_ r nx' rt' bk' ct' er' := by
  cases r with
  | nx ρ g => exact h1 _ _ h
  | rt v g => exact h2 _ _ h
  | bk ρ g => exact h3 _ _ h
  | ct ρ g => exact h4 _ _ h
  | er e ρ g => exact h5 _ _ _ h
  | bad => exact h
/-- an exception with the slots of the frame -/
def OkW (Γ : G) (L : Addr → Prop) (φ : Mp) (H : Hp) (W : WX) (e : Ex) (ρ : Ev) (h : Hv) : Prop := ∀ φ' H' σ' cls d, Le φ H φ' H' → Sim Γ L φ' h H' → SimE Γ L φ' ρ σ' H' → ExR Γ L φ' H' e cls d → W cls d σ' H'
theorem OkW.mono {Γ : G} {L : Addr → Prop} {φ φ1 : Mp} {H H1 : Hp} {W : WX} {e : Ex} {v : Ev} {h : Hv} (l : Le φ H φ1 H1) (k : OkW Γ L φ H W e v h) : OkW Γ L φ1 H1 W e v h := fun φ' H' s c d l' => k φ' H' s c d (l.trans l')
def OkD (Γ : G) (L : Addr → Prop) (φ : Mp) (H : Hp) (W : WX) (D : Ends) (r : SR) : Prop :=
  PS_ r (OkS Γ L φ H D.nx) (OkV Γ L φ H D.rt) (OkS Γ L φ H D.bk) (OkS Γ L φ H D.ct) (OkW Γ L φ H W)
theorem OkD.mono {Γ : G} {L : Addr → Prop} {φ φ1 : Mp} {H H1 : Hp} {W : WX} {D : Ends} {r : SR} (e : Le φ H φ1 H1) (k : OkD Γ L φ H W D r) : OkD Γ L φ1 H1 W D r :=
  PS_.mono k (fun _ _ q => q.mono e) (fun _ _ q => q.mono e) (fun _ _ q => q.mono e) (fun _ _ q => q.mono e) (fun _ _ _ q => q.mono e)
def tS (Γ : G) (W : WX) (s : ST) : TS := fun D σ H => ∃ L φ ρ h, SimE Γ L φ ρ σ H ∧ Sim Γ L φ h H ∧ OkD Γ L φ H W D (s ρ h)

theorem PEw {X : Cx} {e : Expr} {t t' : TE} (p : PE X e t) (h : ∀ σ H Q, t' σ H Q → t σ H Q) : PE X e t' := ⟨fun pins s σ H Q I q => p.run pins s σ H Q I (h σ H Q q)⟩
theorem PTw {X : Cx} {e : Expr} {t t' : TT} (p : PT X e t) (h : ∀ σ H Q, t' σ H Q → t σ H Q) : PT X e t' := ⟨fun pins s σ H Q I q => p.run pins s σ H Q I (h σ H Q q)⟩
theorem PWw {X : Cx} {e : Expr} {t t' : TT} (p : PW X e t) (h : ∀ σ H Q, t' σ H Q → t σ H Q) : PW X e t' := ⟨fun wh pins s σ H Q I q => p.run wh pins s σ H Q I (h σ H Q q)⟩
theorem PAw {X : Cx} {e : List Expr} {t t' : TA} (p : PA X e t) (h : ∀ σ H Q, t' σ H Q → t σ H Q) : PA X e t' := ⟨fun pos pins s σ H Q I q => p.run pos pins s σ H Q I (h σ H Q q)⟩
theorem PSw {X : Cx} {e : Stmt} {t t' : TS} (p : PS X e t) (h : ∀ D σ H, t' D σ H → t D σ H) : PS X e t' := ⟨fun pins s σ H D I q => p.run pins s σ H D I (h D σ H q)⟩
theorem PSsw {X : Cx} {e : List Stmt} {t t' : TS} (p : PSs X e t) (h : ∀ D σ H, t' D σ H → t D σ H) : PSs X e t' := ⟨fun pins s σ H D I q => p.run pins s σ H D I (h D σ H q)⟩
end Eng

set_option Elab.async false
set_option linter.all false
set_option autoImplicit false
set_option maxRecDepth 100000
set_option maxHeartbeats 4000000
/-! The engine, part B: expressions. -/
namespace Eng
open PySem L2 PySem.Spec PyProof.Rows

/-! ### looking at values -/
def asL (h : Hv) : Val → Option (List Val)
  | .lst xs => some xs
  | .ref i => match h[i]? with
    | some (.lst xs) => some xs
    | _ => none
  | _ => none
def asT : Val → Option (List Val)
  | .tup xs => some xs
  | _ => none
def asD (h : Hv) : Val → Option (List Key × List Val)
  | .dct ks vs => some (ks, vs)
  | .ref i => match h[i]? with
    | some (.dct ks vs) => some (ks, vs)
    | some (.ldc ks vs) => some (ks, vs)
    | _ => none
  | _ => none
section
variable {Γ : G} {L : Addr → Prop} {φ : Mp} {H : Hp} {h : Hv} {v : Val} {x : V}
theorem asL_ok (s : Sim Γ L φ h H) (r : Rv Γ L φ H v x) {vs : List Val} (e : asL h v = some vs) : ∃ a xs, x = .ref a ∧ RdK Γ.K H a xs ∧ RvL Γ L φ H vs xs ∧
    ((v = .lst vs) ∨ ∃ i : Nat, v = .ref i ∧ h[i]? = some (.lst vs) ∧ φ[i]? = some (some a) ∧ H a = some (.lst xs)) := by
  unfold asL at e
  split at e
  · cases e
    unfold Rv at r
    obtain ⟨a, xs, e1, e2, e3⟩ := r
    refine ⟨a, xs, e1, ?_, e3, .inl rfl⟩
    rcases e2 with e2 | e2
    · exact .inl e2.1
    · exact .inr e2
  · rename_i i
    split at e
    · rename_i ys q
      cases e
      rcases s.live i _ q with z | ⟨a, z1, z2⟩
      · cases z
      · obtain ⟨xs, e1, e2⟩ := z2
        unfold Rv at r
        obtain ⟨o, o1, o2⟩ := r
        rw [z1] at o1
        cases o1
        exact ⟨a, xs, o2 a rfl, .inl (.inl e1), e2, .inr ⟨i, rfl, q, z1, e1⟩⟩
    · cases e
  · cases e
theorem asT_ok (r : Rv Γ L φ H v x) {vs : List Val} (e : asT v = some vs) : ∃ a xs, x = .ref a ∧ TupAt Γ L φ H a xs ∧ SqT Γ.K H a xs ∧ RvL Γ L φ H vs xs := by
  unfold asT at e
  split at e
  · cases e
    unfold Rv at r
    obtain ⟨a, xs, e1, e2, e3⟩ := r
    refine ⟨a, xs, e1, e2, ?_, e3⟩
    rcases e2 with q | q
    · exact .inl q.1
    · exact q H
  · cases e
theorem asD_ok (s : Sim Γ L φ h H) (r : Rv Γ L φ H v x) {ks : List Key} {vs : List Val} (e : asD h v = some (ks, vs)) : ∃ a kvs, x = .ref a ∧ Rd H a (.dK kvs) ∧ kvs.map (·.1) = ks ∧ RvL Γ L φ H vs (kvs.map (·.2)) := by
  unfold asD at e
  split at e
  · cases e
    unfold Rv at r
    obtain ⟨a, xs, e1, e2, e3, e4⟩ := r
    exact ⟨a, xs, e1, .inl e2.1, e3, e4⟩
  · rename_i i
    split at e
    · rename_i ks' vs' q
      cases e
      rcases s.live i _ q with z | ⟨a, z1, z2⟩
      · cases z
      · obtain ⟨xs, e1, e2, e3⟩ := z2
        unfold Rv at r
        obtain ⟨o, o1, o2⟩ := r
        rw [z1] at o1
        cases o1
        exact ⟨a, xs, o2 a rfl, .inl e1, e2, e3⟩
    · rename_i ks' vs' q
      cases e
      rcases s.live i _ q with z | ⟨a, z1, z2⟩
      · cases z
      · obtain ⟨ob, xs, e1, e2, e3⟩ := z2
        unfold Rv at r
        obtain ⟨o, o1, o2⟩ := r
        rw [z1] at o1
        cases o1
        exact ⟨a, xs, o2 a rfl, .inr ⟨ob, e1⟩, e2, e3⟩
    · cases e
  · cases e
theorem rv_non (r : Rv Γ L φ H .non x) : x = .non := by unfold Rv at r; exact r
theorem rv_bl {b : Bool} (r : Rv Γ L φ H (.bl b) x) : x = .bl b := by unfold Rv at r; exact r
theorem rv_int {i : Int} (r : Rv Γ L φ H (.int i) x) : x = .int i := by unfold Rv at r; exact r
theorem rv_str {z : Str} (r : Rv Γ L φ H (.str z) x) : x = .str z := by unfold Rv at r; exact r
theorem mk_non : Rv Γ L φ H .non .non := by unfold Rv; rfl
theorem mk_bl {b : Bool} : Rv Γ L φ H (.bl b) (.bl b) := by unfold Rv; rfl
theorem mk_int {i : Int} : Rv Γ L φ H (.int i) (.int i) := by unfold Rv; rfl
theorem mk_str {z : Str} : Rv Γ L φ H (.str z) (.str z) := by unfold Rv; rfl
/-- a value that is told as it stands -/
theorem OkV.here {Q : VK} {v : Val} {x : V} (k : OkV Γ L φ H Q v h) (s : Sim Γ L φ h H) (r : Rv Γ L φ H v x) : Q x H := k φ H x (Le.refl _ _) s r
theorem OkB.here {Q : Bool → Hp → Prop} {b : Bool} (k : OkB Γ L φ H Q b h) (s : Sim Γ L φ h H) : Q b H := k φ H (Le.refl _ _) s
/-- a new tuple, a new list that never changes -/
theorem OkV.tup {Q : VK} {vs : List Val} {xs : List V} (k : OkV Γ L φ H Q (.tup vs) h) (s : Sim Γ L φ h H) (r : RvL Γ L φ H vs xs) {p : Addr} (hp : H p = none) : Q (.ref p) (upd H p (.tup xs)) := by
  refine k φ _ _ (Le.tmp s hp) (s.tmp hp) ?_
  unfold Rv
  exact ⟨p, xs, rfl, .inl ⟨.inl upd_same, (s.free hp).2, (s.free hp).1⟩, r.mono (Le.tmp s hp)⟩
theorem OkV.lst {Q : VK} {vs : List Val} {xs : List V} (k : OkV Γ L φ H Q (.lst vs) h) (s : Sim Γ L φ h H) (r : RvL Γ L φ H vs xs) {p : Addr} (hp : H p = none) : Q (.ref p) (upd H p (.lst xs)) := by
  refine k φ _ _ (Le.tmp s hp) (s.tmp hp) ?_
  unfold Rv
  exact ⟨p, xs, rfl, .inl ⟨.inl upd_same, (s.free hp).2, (s.free hp).1⟩, r.mono (Le.tmp s hp)⟩
theorem OkV.dct {Q : VK} {ks : List Key} {vs : List Val} {kvs : List (Key × V)} (k : OkV Γ L φ H Q (.dct ks vs) h) (s : Sim Γ L φ h H) (e : kvs.map (·.1) = ks) (r : RvL Γ L φ H vs (kvs.map (·.2))) {p : Addr} (hp : H p = none) : Q (.ref p) (upd H p (.dK kvs)) := by
  refine k φ _ _ (Le.tmp s hp) (s.tmp hp) ?_
  unfold Rv
  exact ⟨p, kvs, rfl, ⟨upd_same, (s.free hp).2, (s.free hp).1⟩, e, r.mono (Le.tmp s hp)⟩
/-- a new list of the evaluator's heap -/
theorem OkV.lstA {Q : VK} {vs : List Val} {xs : List V} (k : OkV Γ L φ H Q (.ref h.length) (h ++ [.lst vs])) (s : Sim Γ L φ h H) (r : RvL Γ L φ H vs xs) {p : Addr} (hp : H p = none) : Q (.ref p) (upd H p (.lst xs)) := by
  refine k _ _ _ (Le.alloc hp) (s.alloc hp ⟨xs, upd_same, r.mono (Le.alloc hp)⟩) ?_
  unfold Rv
  refine ⟨some p, ?_, fun a e => by cases e; rfl⟩
  rw [s.len, List.getElem?_append_right (Nat.le_refl _), Nat.sub_self]
  rfl
theorem OkV.dctA {Q : VK} {ks : List Key} {vs : List Val} {kvs : List (Key × V)} (k : OkV Γ L φ H Q (.ref h.length) (h ++ [.dct ks vs])) (s : Sim Γ L φ h H) (e : kvs.map (·.1) = ks) (r : RvL Γ L φ H vs (kvs.map (·.2))) {p : Addr} (hp : H p = none) : Q (.ref p) (upd H p (.dK kvs)) := by
  refine k _ _ _ (Le.alloc hp) (s.alloc hp ⟨kvs, upd_same, e, r.mono (Le.alloc hp)⟩) ?_
  unfold Rv
  refine ⟨some p, ?_, fun a e => by cases e; rfl⟩
  rw [s.len, List.getElem?_append_right (Nat.le_refl _), Nat.sub_self]
  rfl
end

/-! ### operators by values -/
abbrev O2 := Val → Val → Hv → R Val
/-- an operator of the evaluator is one of the model -/
def Op2 (Γ : G) (op : O2) (r : R2) : Prop := ∀ (L : Addr → Prop) (φ : Mp) (h : Hv) (H : Hp) (a b : Val) (x y : V) (Q : VK), Sim Γ L φ h H → Rv Γ L φ H a x → Rv Γ L φ H b y → PR (op a b h) (OkV Γ L φ H Q) (fun _ _ => False) → r x y H Q
def eBin (op : O2) (f g : EX) : EX := fun ρ h => (f ρ h).bind fun a h => (g ρ h).bind fun b h => op a b h
def ve (r : R Val) : R Val := match r with
  | .ok a h => .ok a h
  | _ => .bad
section
variable {Γ : G} {X : Cx} {W : WX} {a b c : Expr} {f g k : EX} {pos : Pos}
theorem PR.noE {α : Type} {r : R α} {P : α → Hv → Prop} {E : Ex → Hv → Prop} (h : PR r P (fun _ _ => False)) : PR r P E := h.mono (fun _ _ z => z) (fun _ _ z => z.elim)
theorem PR.noE' {α : Type} {r : R α} {P : α → Hv → Prop} {E : Ex → Hv → Prop} (h : PR r P E) (ne : ∀ e g, r ≠ .err e g) : PR r P (fun _ _ => False) := by
  cases r with
  | ok a g => exact h
  | err e g => exact absurd rfl (ne e g)
  | bad => exact h
/-- an operator that raises nothing -/
def NoErr (op : O2) : Prop := ∀ a b h e g, op a b h ≠ .err e g
theorem rd_bin {op : O2} {r : R2} (ho : Op2 Γ op r) (ne : NoErr op) : ∀ σ H Q, tE Γ W (eBin op f g) σ H Q → tOp r (tE Γ W f) (tE Γ W g) σ H Q := by
  rintro σ H Q ⟨L, φ, ρ, h, se, s, p⟩
  refine ⟨L, φ, ρ, h, se, s, ?_⟩
  unfold eBin at p
  rw [PR.bind] at p
  refine p.mono (fun v h1 q => ?_) (fun _ _ q => q)
  intro φ1 H1 x l1 s1 r1
  refine ⟨L, φ1, ρ, h1, se.mono l1, s1, ?_⟩
  rw [PR.bind] at q
  refine q.mono (fun u h2 q2 => ?_) (fun e _ q2 => OkX.mono l1 q2)
  intro φ2 H2 y l2 s2 r2
  refine ho L φ2 h2 H2 v u x y Q s2 (r1.mono l2) r2 ?_
  exact (q2.noE' (ne v u h2)).mono (fun w h3 q3 => q3.mono (l1.trans l2)) (fun _ _ z => z)
theorem s_bin {o : Operator} {op : O2} {r : R2} (hr : OpR X (binaryOp o) r) (ho : Op2 Γ op r) (ne : NoErr op) (ha : PE X a (tE Γ W f)) (hb : PE X b (tE Γ W g)) : PE X (.BinOp a o b pos) (tE Γ W (eBin op f g)) :=
  PEw (pe_op hr ha hb) (rd_bin ho ne)
theorem s_cmp {o : CmpOp} {op : O2} {r : R2} (hr : OpR X (compareOp o) r) (ho : Op2 Γ op r) (ne : NoErr op) (ha : PE X a (tE Γ W f)) (hb : PE X b (tE Γ W g)) (hm : behindInMarks o b = false) : PE X (.Compare a [o] [b] pos) (tE Γ W (eBin op f g)) :=
  PEw (pe_cmpR hr ha hb hm) (rd_bin ho ne)
/-- a value that must be True or False -/
def toB (f : EX) : EB := fun ρ h => (f ρ h).bind fun v h => match v with
  | .bl b => .ok b h
  | _ => .bad
theorem rd_toB : ∀ σ H Q, tT Γ W (toB f) σ H Q → tTest (tE Γ W f) σ H Q := by
  rintro σ H Q ⟨L, φ, ρ, h, se, s, p⟩
  refine ⟨L, φ, ρ, h, se, s, ?_⟩
  unfold toB at p
  rw [PR.bind] at p
  refine p.mono (fun v h1 q => ?_) (fun _ _ q => q)
  intro φ1 H1 x l1 s1 r1
  cases v with
  | bl b => exact ⟨b, rv_bl r1, q φ1 H1 l1 s1⟩
  | _ => exact q.elim
theorem s_tcmp {o : CmpOp} {op : O2} {r : R2} (hr : OpR X (compareOp o) r) (ho : Op2 Γ op r) (ne : NoErr op) (ha : PE X a (tE Γ W f)) (hb : PE X b (tE Γ W g)) (hm : behindInMarks o b = false) : PT X (.Compare a [o] [b] pos) (tT Γ W (toB (eBin op f g))) :=
  PTw (pt_cmpR hr ha hb hm) fun σ H Q q => by
    have z := rd_toB (f := eBin op f g) σ H Q q
    exact rd_bin ho ne σ H _ z
/-- any other expression as a test -/
theorem s_tval {e : Expr} (he : PE X e (tE Γ W f)) (hw : ∀ whole, isTrue e X.env whole = (do let v ← whole; standAt e.pos; holding [v] (truthy v))) : PT X e (tT Γ W (toB f)) :=
  PTw (pt_val he hw) fun σ H Q q => rd_toB σ H Q q

/-! ### names, constants -/
def eVal (v : Val) : EX := fun _ h => .ok v h
def eVar (i : Nat) : EX := fun ρ h => match ρ[i]? with
  | some (some v) => .ok v h
  | _ => .bad
theorem s_var {x : Str} (i : Nat) (p : PE X (.Name x pos) (tVar i)) : PE X (.Name x pos) (tE Γ W (eVar i)) := PEw p <| by
  rintro σ H Q ⟨L, φ, ρ, h, se, s, p⟩
  unfold eVar at p
  split at p
  · rename_i v e
    obtain ⟨x, e1, e2⟩ := se.get i v e
    exact ⟨x, e1, p.here s e2⟩
  · exact p.elim
theorem s_const {e : Expr} {v : Val} {x : V} (p : PE X e (tC x)) (r : ∀ L φ H, Rv Γ L φ H v x) : PE X e (tE Γ W (eVal v)) := PEw p <| by
  rintro σ H Q ⟨L, φ, ρ, h, se, s, p⟩
  exact OkV.here p s (r L φ H)
theorem s_int {i : Int} {j} : PE X (.Constant (.int i) j pos) (tE Γ W (eVal (.int i))) := s_const pe_int fun _ _ _ => mk_int
theorem s_bl {i : Bool} {j} : PE X (.Constant (.bool i) j pos) (tE Γ W (eVal (.bl i))) := s_const pe_bl fun _ _ _ => mk_bl
theorem s_non {j} : PE X (.Constant .none j pos) (tE Γ W (eVal .non)) := s_const pe_non fun _ _ _ => mk_non
theorem s_str {i : Str} {j} : PE X (.Constant (.str i) j pos) (tE Γ W (eVal (.str i))) := s_const pe_str fun _ _ _ => mk_str

/-! ### and, or, not, if -/
def bAnd (f g : EB) : EB := fun ρ h => (f ρ h).bind fun b h => if b then g ρ h else .ok false h
def bOr (f g : EB) : EB := fun ρ h => (f ρ h).bind fun b h => if b then .ok true h else g ρ h
def bNot (f : EB) : EB := fun ρ h => (f ρ h).bind fun b h => .ok (!b) h
variable {fb gb : EB} {rest : List Expr}
theorem s_and1 (h : PT X a (tT Γ W fb)) : PW X (.BoolOp .And [a] pos) (tT Γ W fb) := pw_and1 h
theorem s_or1 (h : PT X a (tT Γ W fb)) : PW X (.BoolOp .Or [a] pos) (tT Γ W fb) := pw_or1 h
theorem s_and (ha : PT X a (tT Γ W fb)) (hb : PW X (.BoolOp .And (b :: rest) pos) (tT Γ W gb)) : PW X (.BoolOp .And (a :: b :: rest) pos) (tT Γ W (bAnd fb gb)) := PWw (pw_and ha hb) <| by
  rintro σ H Q ⟨L, φ, ρ, h, se, s, p⟩
  refine ⟨L, φ, ρ, h, se, s, ?_⟩
  unfold bAnd at p
  rw [PR.bind] at p
  refine p.mono (fun b h1 q => ?_) (fun _ _ q => q)
  intro φ1 H1 l1 s1
  cases b with
  | true =>
    rw [if_pos rfl] at q ⊢
    exact ⟨L, φ1, ρ, h1, se.mono l1, s1, q.mono (fun _ _ z => z.mono l1) (fun _ _ z => OkX.mono l1 z)⟩
  | false =>
    rw [if_neg Bool.false_ne_true] at q ⊢
    exact q φ1 H1 l1 s1
theorem s_or (ha : PT X a (tT Γ W fb)) (hb : PW X (.BoolOp .Or (b :: rest) pos) (tT Γ W gb)) : PW X (.BoolOp .Or (a :: b :: rest) pos) (tT Γ W (bOr fb gb)) := PWw (pw_or ha hb) <| by
  rintro σ H Q ⟨L, φ, ρ, h, se, s, p⟩
  refine ⟨L, φ, ρ, h, se, s, ?_⟩
  unfold bOr at p
  rw [PR.bind] at p
  refine p.mono (fun b h1 q => ?_) (fun _ _ q => q)
  intro φ1 H1 l1 s1
  cases b with
  | false =>
    rw [if_neg Bool.false_ne_true] at q ⊢
    exact ⟨L, φ1, ρ, h1, se.mono l1, s1, q.mono (fun _ _ z => z.mono l1) (fun _ _ z => OkX.mono l1 z)⟩
  | true =>
    rw [if_pos rfl] at q ⊢
    exact q φ1 H1 l1 s1
theorem s_not (ha : PT X a (tT Γ W fb)) : PT X (.UnaryOp .Not a pos) (tT Γ W (bNot fb)) := PTw (pt_not ha) <| by
  rintro σ H Q ⟨L, φ, ρ, h, se, s, p⟩
  refine ⟨L, φ, ρ, h, se, s, ?_⟩
  unfold bNot at p
  rw [PR.bind] at p
  exact p.mono (fun b h1 q => q) (fun _ _ q => q)
/-- .. as values: every part True or False -/
def eAnd (f g : EX) : EX := fun ρ h => (f ρ h).bind fun v h => match v with
  | .bl true => g ρ h
  | .bl false => .ok (.bl false) h
  | _ => .bad
def eOr (f g : EX) : EX := fun ρ h => (f ρ h).bind fun v h => match v with
  | .bl true => .ok (.bl true) h
  | .bl false => g ρ h
  | _ => .bad
def eNot (f : EX) : EX := fun ρ h => (f ρ h).bind fun v h => match v with
  | .bl b => .ok (.bl (!b)) h
  | _ => .bad
theorem s_one {op} (h : PE X a (tE Γ W f)) : PE X (.BoolOp op [a] pos) (tE Γ W f) := pe_one h
theorem s_andV (ha : PE X a (tE Γ W f)) (hb : PE X (.BoolOp .And (b :: rest) pos) (tE Γ W g)) : PE X (.BoolOp .And (a :: b :: rest) pos) (tE Γ W (eAnd f g)) := PEw (pe_and ha hb) <| by
  rintro σ H Q ⟨L, φ, ρ, h, se, s, p⟩
  refine ⟨L, φ, ρ, h, se, s, ?_⟩
  unfold eAnd at p
  rw [PR.bind] at p
  refine p.mono (fun v h1 q => ?_) (fun _ _ q => q)
  intro φ1 H1 x l1 s1 r1
  match v, q, r1 with
  | .bl true, q, r1 =>
    exact ⟨true, rv_bl r1, by rw [if_pos rfl]; exact ⟨L, φ1, ρ, h1, se.mono l1, s1, q.mono (fun _ _ z => z.mono l1) (fun _ _ z => OkX.mono l1 z)⟩⟩
  | .bl false, q, r1 => exact ⟨false, rv_bl r1, by rw [if_neg Bool.false_ne_true]; exact OkV.here (OkV.mono l1 q) s1 mk_bl⟩
theorem s_orV (ha : PE X a (tE Γ W f)) (hb : PE X (.BoolOp .Or (b :: rest) pos) (tE Γ W g)) : PE X (.BoolOp .Or (a :: b :: rest) pos) (tE Γ W (eOr f g)) := PEw (pe_or ha hb) <| by
  rintro σ H Q ⟨L, φ, ρ, h, se, s, p⟩
  refine ⟨L, φ, ρ, h, se, s, ?_⟩
  unfold eOr at p
  rw [PR.bind] at p
  refine p.mono (fun v h1 q => ?_) (fun _ _ q => q)
  intro φ1 H1 x l1 s1 r1
  match v, q, r1 with
  | .bl false, q, r1 =>
    exact ⟨false, rv_bl r1, by rw [if_neg Bool.false_ne_true]; exact ⟨L, φ1, ρ, h1, se.mono l1, s1, q.mono (fun _ _ z => z.mono l1) (fun _ _ z => OkX.mono l1 z)⟩⟩
  | .bl true, q, r1 => exact ⟨true, rv_bl r1, by rw [if_pos rfl]; exact OkV.here (OkV.mono l1 q) s1 mk_bl⟩
theorem s_notV (ha : PE X a (tE Γ W f)) : PE X (.UnaryOp .Not a pos) (tE Γ W (eNot f)) := PEw (pe_not ha) <| by
  rintro σ H Q ⟨L, φ, ρ, h, se, s, p⟩
  refine ⟨L, φ, ρ, h, se, s, ?_⟩
  unfold eNot at p
  rw [PR.bind] at p
  refine p.mono (fun v h1 q => ?_) (fun _ _ q => q)
  intro φ1 H1 x l1 s1 r1
  match v, q, r1 with
  | .bl b, q, r1 => exact ⟨b, rv_bl r1, OkV.here (OkV.mono l1 q) s1 mk_bl⟩
def eIf (c : EB) (f g : EX) : EX := fun ρ h => (c ρ h).bind fun b h => if b then f ρ h else g ρ h
theorem s_if (hc : PT X c (tT Γ W fb)) (ha : PE X a (tE Γ W f)) (hb : PE X b (tE Γ W g)) : PE X (.IfExp c a b pos) (tE Γ W (eIf fb f g)) := PEw (pe_ifExp hc ha hb) <| by
  rintro σ H Q ⟨L, φ, ρ, h, se, s, p⟩
  refine ⟨L, φ, ρ, h, se, s, ?_⟩
  unfold eIf at p
  rw [PR.bind] at p
  refine p.mono (fun b h1 q => ?_) (fun _ _ q => q)
  intro φ1 H1 l1 s1
  have fin : ∀ {k : EX}, PR (k ρ h1) (OkV Γ L φ H Q) (OkX Γ L φ H (WE W σ)) → tE Γ W k σ H1 Q := fun q => ⟨L, φ1, ρ, h1, se.mono l1, s1, q.mono (fun _ _ z => z.mono l1) (fun _ _ z => OkX.mono l1 z)⟩
  cases b with
  | true => rw [if_pos rfl] at q ⊢; exact fin q
  | false => rw [if_neg Bool.false_ne_true] at q ⊢; exact fin q

/-! ### lists of expressions; displays -/
def aNil : EA := fun _ h => .ok [] h
def aCons (f : EX) (g : EA) : EA := fun ρ h => (f ρ h).bind fun v h => (g ρ h).bind fun vs h => .ok (v :: vs) h
variable {es : List Expr} {fa : EA}
theorem s_nil : PA X [] (tA Γ W aNil) := PAw pa_nil <| by
  rintro σ H Q ⟨L, φ, ρ, h, se, s, p⟩
  exact p φ H [] (Le.refl _ _) s RvL.nil
theorem rd_cons : ∀ σ H Q, tA Γ W (aCons f fa) σ H Q → tCons (tE Γ W f) (tA Γ W fa) σ H Q := by
  rintro σ H Q ⟨L, φ, ρ, h, se, s, p⟩
  refine ⟨L, φ, ρ, h, se, s, ?_⟩
  unfold aCons at p
  rw [PR.bind] at p
  refine p.mono (fun v h1 q => ?_) (fun _ _ q => q)
  intro φ1 H1 x l1 s1 r1
  refine ⟨L, φ1, ρ, h1, se.mono l1, s1, ?_⟩
  rw [PR.bind] at q
  refine q.mono (fun vs h2 q2 => ?_) (fun e _ q2 => OkX.mono l1 q2)
  intro φ2 H2 xs l2 s2 r2
  exact q2 φ2 H2 (x :: xs) (l1.trans l2) s2 (.cons (r1.mono l2) r2)
theorem s_cons (ha : PE X a (tE Γ W f)) (hr : PA X es (tA Γ W fa)) (hs : starEach (a :: es) X.env = (false, eval a X.env) :: starEach es X.env := by rfl) : PA X (a :: es) (tA Γ W (aCons f fa)) :=
  PAw (pa_cons ha hr hs) rd_cons
def eTup (g : EA) : EX := fun ρ h => (g ρ h).bind fun vs h => if vs.length ≤ 1000000 then .ok (.tup vs) h else .bad
/-- a list that never changes again -/
def eLst (g : EA) : EX := fun ρ h => (g ρ h).bind fun vs h => if vs.length ≤ 1000000 then .ok (.lst vs) h else .bad
/-- a list of the evaluator's heap -/
def eLstA (g : EA) : EX := fun ρ h => (g ρ h).bind fun vs h => if vs.length ≤ 1000000 then .ok (.ref h.length) (h ++ [.lst vs]) else .bad
theorem big {n : Nat} (h : n ≤ 1000000) : n ≤ sizeLine := by rw [sizeLine_eq]; omega
theorem s_tup {x1} (h : PA X es (tA Γ W fa)) : PE X (.Tuple es x1 pos) (tE Γ W (eTup fa)) := PEw (pe_tup h) <| by
  rintro σ H Q ⟨L, φ, ρ, h, se, s, p⟩
  refine ⟨L, φ, ρ, h, se, s, ?_⟩
  unfold eTup at p
  rw [PR.bind] at p
  refine p.mono (fun vs h1 q => ?_) (fun _ _ q => q)
  intro φ1 H1 xs l1 s1 r1
  split at q
  · rename_i hz
    exact ⟨by rw [← r1.length]; exact big hz, fun p hp => OkV.tup (OkV.mono l1 q) s1 r1 hp⟩
  · exact q.elim
theorem s_lst (h : PA X es (tA Γ W fa)) : PE X (.List es pos) (tE Γ W (eLst fa)) := PEw (pe_lst h) <| by
  rintro σ H Q ⟨L, φ, ρ, h, se, s, p⟩
  refine ⟨L, φ, ρ, h, se, s, ?_⟩
  unfold eLst at p
  rw [PR.bind] at p
  refine p.mono (fun vs h1 q => ?_) (fun _ _ q => q)
  intro φ1 H1 xs l1 s1 r1
  split at q
  · rename_i hz
    exact ⟨by rw [← r1.length]; exact big hz, fun p hp => OkV.lst (OkV.mono l1 q) s1 r1 hp⟩
  · exact q.elim
theorem s_lstA (h : PA X es (tA Γ W fa)) : PE X (.List es pos) (tE Γ W (eLstA fa)) := PEw (pe_lst h) <| by
  rintro σ H Q ⟨L, φ, ρ, h, se, s, p⟩
  refine ⟨L, φ, ρ, h, se, s, ?_⟩
  unfold eLstA at p
  rw [PR.bind] at p
  refine p.mono (fun vs h1 q => ?_) (fun _ _ q => q)
  intro φ1 H1 xs l1 s1 r1
  split at q
  · rename_i hz
    exact ⟨by rw [← r1.length]; exact big hz, fun p hp => OkV.lstA (OkV.mono l1 q) s1 r1 hp⟩
  · exact q.elim
end

/-! ### calls of what is built in, by values -/
abbrev OC := List Val → Hv → R Val
def OpC (Γ : G) (op : OC) (r : List V → Hp → VK → Prop) : Prop := ∀ (L : Addr → Prop) (φ : Mp) (h : Hv) (H : Hp) (vs : List Val) (xs : List V) (Q : VK), Sim Γ L φ h H → RvL Γ L φ H vs xs → PR (op vs h) (OkV Γ L φ H Q) (fun _ _ => False) → r xs H Q
def NoErrC (op : OC) : Prop := ∀ vs h e g, op vs h ≠ .err e g
def eCB (op : OC) (g : EA) : EX := fun ρ h => (g ρ h).bind fun vs h => op vs h
section
variable {Γ : G} {X : Cx} {W : WX} {fa : EA} {e : Expr} {es : List Expr} {x : Str} {p pos : Pos} {id T : String}
theorem rd_cb {op : OC} {r : List V → Hp → VK → Prop} (ho : OpC Γ op r) (ne : NoErrC op) : ∀ σ H Q, tE Γ W (eCB op fa) σ H Q → tCB r (tA Γ W fa) σ H Q := by
  rintro σ H Q ⟨L, φ, ρ, h, se, s, p⟩
  refine ⟨L, φ, ρ, h, se, s, ?_⟩
  unfold eCB at p
  rw [PR.bind] at p
  refine p.mono (fun vs h1 q => ?_) (fun _ _ q => q)
  intro φ1 H1 xs l1 s1 r1
  exact ho L φ1 h1 H1 vs xs Q s1 r1 ((q.noE' (ne vs h1)).mono (fun w h3 q3 => q3.mono l1) (fun _ _ z => z))
theorem s_callB {op : OC} {r : List V → Hp → VK → Prop} (hc : CallR X (.builtin id) r) (ho : OpC Γ op r) (ne : NoErrC op) (hg : Gl X x) (hm : X.mg x = none) (hv : bootBuiltins x = some (.builtin id)) (ha : PA X (e :: es) (tA Γ W fa)) (hn : x ≠ "__name__" := by decide) (hdb : (x == ("__debug__" : Str)) = false := by decide)
    (he : starEach (e :: es) X.env = (false, eval e X.env) :: starEach es X.env := by rfl) (hpl : (backTo pos (starEach es X.env)).any (·.1) = false := by rfl) : PE X (.Call (.Name x p) (e :: es) [] pos) (tE Γ W (eCB op fa)) :=
  PEw (pe_callB hc hg hm hv ha hn hdb he hpl) (rd_cb ho ne)
theorem s_callTy {op : OC} {r : List V → Hp → VK → Prop} (hc : CallR X (.type T) r) (ho : OpC Γ op r) (ne : NoErrC op) (hg : Gl X x) (hm : X.mg x = none) (hv : bootBuiltins x = some (.type T)) (ha : PA X (e :: es) (tA Γ W fa)) (hn : x ≠ "__name__" := by decide) (hdb : (x == ("__debug__" : Str)) = false := by decide)
    (he : starEach (e :: es) X.env = (false, eval e X.env) :: starEach es X.env := by rfl) (hpl : (backTo pos (starEach es X.env)).any (·.1) = false := by rfl) : PE X (.Call (.Name x p) (e :: es) [] pos) (tE Γ W (eCB op fa)) :=
  PEw (pe_callTy hc hg hm hv ha hn hdb he hpl) (rd_cb ho ne)
end
end Eng

set_option Elab.async false
set_option linter.all false
set_option autoImplicit false
set_option maxRecDepth 100000
set_option maxHeartbeats 4000000
/-! The engine, part C: what is built in. -/
namespace Eng
open PySem L2 PySem.Spec PyProof.Rows

/-- what the engine wants of the place where code runs -/
structure Ok (Γ : G) (X : Cx) (W : WX) : Prop where
  hK : X.K = Γ.K
  un : X.A.units + 300 < cLine
  dp : X.A.depth + 180 < recursionLimit
  tk : Takes X W
  po : PassesOwn (model X.prog X.w) X.A X.env X.xe
  tree : X.prog.given.tree = none
  seer : X.base.NoSeer
  digits : ∃ mc, X.base.Ns cStatics mc ∧ mc "sys.int_max_str_digits" = none
  stk : ∃ e l, X.stack = e :: l ∧ e.scope.isGenerator = false ∧ e.scope.isCoroutine = false ∧ e.builtins = builtinsNs ∧ e.globals = mainGlobals
def rOr (r s : R2) : R2 := fun x y H Q => r x y H Q ∨ s x y H Q
theorem orR {X : Cx} {f : Value → Value → Sem Value} {r s : R2} (h : OpR X f r) (h' : OpR X f s) : OpR X f (rOr r s) := OpR.or h h'

/-! ### + - * // % ** -/
def intFits (i j : Int) : Bool := decide (i.natAbs.log2 + j.natAbs.log2 < 100000000)
def oAdd : O2 := fun a b h => match a, b with
  | .int i, .int j => .ok (.int (i + j)) h
  | .str s, .str t => if s.length + t.length ≤ 1000000 then .ok (.str (s ++ t)) h else .bad
  | a, b => match asL h a, asL h b with
    | some xs, some ys => if xs.length + ys.length ≤ 1000000 then .ok (.lst (xs ++ ys)) h else .bad
    | _, _ => .bad
def oSub : O2 := fun a b h => match a, b with
  | .int i, .int j => .ok (.int (i - j)) h
  | _, _ => .bad
def oMul : O2 := fun a b h => match a, b with
  | .int i, .int j => if intFits i j then .ok (.int (i * j)) h else .bad
  | _, _ => .bad
/-- a text so often -/
def strRep (s : Str) (n : Nat) : Str := ⟨(List.replicate n s.cps).foldl (· ++ ·) #[]⟩
def oMulS : O2 := fun a b h => match a, b with
  | .str s, .int n => if 0 ≤ n ∧ n ≤ 1000000 ∧ s.length * n.toNat ≤ 1000000 then .ok (.str (strRep s n.toNat)) h else .bad
  | _, _ => .bad
def oFdiv : O2 := fun a b h => match a, b with
  | .int i, .int j => if j = 0 then .bad else .ok (.int (i.fdiv j)) h
  | _, _ => .bad
def oMod : O2 := fun a b h => match a, b with
  | .int i, .int j => if j = 0 then .bad else .ok (.int (i.fmod j)) h
  | _, _ => .bad
def oPow : O2 := fun a b h => match a, b with
  | .int i, .int j => if 0 ≤ j ∧ j ≤ 1000 ∧ i.natAbs < 2 ^ 64 then .ok (.int (i ^ j.toNat)) h else .bad
  | _, _ => .bad
def CMulE (i j : Int) : Prop := intFits i j = true
theorem CMulE.ok {i j : Int} (h : CMulE i j) : IntMulOk i j := by
  have b : ∀ x : Int, Builtin.Int.intBits x ≤ x.natAbs.log2 + 1 := fun x => by
    unfold Builtin.Int.intBits
    split <;> omega
  have h1 := b i
  have h2 := b j
  have h3 : i.natAbs.log2 + j.natAbs.log2 < 100000000 := of_decide_eq_true h
  have e : bitsLine = 134217728 := by decide
  unfold IntMulOk
  intro z
  rw [Bool.and_eq_true] at z
  have z2 := z.2
  unfold Builtin.Int.intTooBig at z2
  have z3 := of_decide_eq_true z2
  rw [e] at z3
  omega
def rCatR (K : PySem.W.Frag) : R2 := fun x y H Q => ∃ l b xs zs, x = .ref l ∧ y = .ref b ∧ RdK K H l xs ∧ RdK K H b zs ∧ xs.length + zs.length ≤ sizeLine ∧ ∀ p, H p = none → Q (.ref p) (upd H p (.lst (xs ++ zs)))
section
variable {Γ : G} {X : Cx} {W : WX}
theorem Inv.rdL {pins : List (Addr × Obj)} {σ : L2.St} {H : Hp} {s : Shared} {l : Addr} {xs : List V} (I : Inv X pins σ H s) (hH : RdK X.K H l xs) :
    xs.length ≤ sizeLine ∧ ∃ (its : List Value) (n : Nat), Vals xs its ∧ xs.length = its.length ∧ s.heap.get? l = some { cls := .type "list", data := .seq its.toArray n } := by
  rcases hH with hH | ⟨its, k, r, z⟩
  · obtain ⟨z, its, n, r, e⟩ := hH.ok I.hok
    exact ⟨z, its, n, r, r.length, e⟩
  · exact ⟨by rw [r.length]; exact z, its, 0, r, r.length, I.kIn _ _ k⟩
theorem or_cat : OpR X (binaryOp .Add) (rCatR X.K) := by
  intro pins s σ H x y v u Q I rx ry hh
  obtain ⟨l, b, xs, zs, e1, e2, hH, hB, hz, q⟩ := hh
  subst e1; subst e2
  cases rx
  cases ry
  obtain ⟨z, its, n, r, hl, e⟩ := Inv.rdL I hH
  obtain ⟨z2, its2, n2, r2, hl2, e2⟩ := Inv.rdL I hB
  have hs : its.toArray.size + its2.toArray.size ≤ sizeLine := by rw [List.size_toArray, List.size_toArray]; omega
  refine PySem.P.add_list e e2 ?_ hs
  rw [show its.toArray ++ its2.toArray = (its ++ its2).toArray from by simp]
  refine ⟨.ref _, _, I.lnew (t' := s.toks) (r.append r2) ?_, rfl, q _ I.fresh⟩
  rw [List.length_append]; omega
theorem x_add (ok : Ok Γ X W) : OpR X (binaryOp .Add) (rOr (rI0 fun i j => .int (i + j)) (rOr (fun x y H Q => ∃ i j, x = .str i ∧ y = .str j ∧ i.length + j.length ≤ sizeLine ∧ Q (.str (i ++ j)) H) (rCatR Γ.K))) := ok.hK ▸ orR op_add (orR op_add_str or_cat)
theorem p_add : Op2 Γ oAdd (rOr (rI0 fun i j => .int (i + j)) (rOr (fun x y H Q => ∃ i j, x = .str i ∧ y = .str j ∧ i.length + j.length ≤ sizeLine ∧ Q (.str (i ++ j)) H) (rCatR Γ.K))) := by
  intro L φ h H a b x y Q s ra rb p
  unfold oAdd at p
  split at p
  · exact .inl ⟨_, _, rv_int ra, rv_int rb, OkV.here p s mk_int⟩
  · split at p
    · rename_i hz
      exact .inr (.inl ⟨_, _, rv_str ra, rv_str rb, big hz, OkV.here p s mk_str⟩)
    · exact p.elim
  · split at p
    · rename_i xs ys e1 e2
      split at p
      · rename_i hz
        obtain ⟨l1, zs1, q1, q2, q3, _⟩ := asL_ok s ra e1
        obtain ⟨l2, zs2, p1, p2, p3, _⟩ := asL_ok s rb e2
        exact .inr (.inr ⟨l1, l2, zs1, zs2, q1, p1, q2, p2, by rw [← q3.length, ← p3.length]; exact big hz, fun p' hp => OkV.lst p s (q3.append p3) hp⟩)
      · exact p.elim
    · exact p.elim
theorem n_add : NoErr oAdd := by
  intro a b h e g q
  unfold oAdd at q
  split at q
  · cases q
  · split at q <;> cases q
  · split at q
    · split at q <;> cases q
    · cases q
theorem x_sub : OpR X (binaryOp .Sub) (rI0 fun i j => .int (i - j)) := op_sub
theorem p_sub : Op2 Γ oSub (rI0 fun i j => .int (i - j)) := by
  intro L φ h H a b x y Q s ra rb p
  unfold oSub at p
  split at p
  · exact ⟨_, _, rv_int ra, rv_int rb, OkV.here p s mk_int⟩
  · exact p.elim
theorem n_sub : NoErr oSub := by
  intro a b h e g q
  unfold oSub at q
  split at q <;> cases q
theorem x_mul : OpR X (binaryOp .Mult) (rI CMulE fun i j => .int (i * j)) := opI fun _ _ _ _ _ _ _ hc q => mul_int q (CMulE.ok hc)
theorem p_mul : Op2 Γ oMul (rI CMulE fun i j => .int (i * j)) := by
  intro L φ h H a b x y Q s ra rb p
  unfold oMul at p
  split at p
  · split at p
    · rename_i hz
      exact ⟨_, _, rv_int ra, rv_int rb, hz, OkV.here p s mk_int⟩
    · exact p.elim
  · exact p.elim
theorem n_mul : NoErr oMul := by
  intro a b h e g q
  unfold oMul at q
  split at q
  · split at q <;> cases q
  · cases q
def rMulS : R2 := fun x y H Q => ∃ (z : Str) (n : Int), x = .str z ∧ y = .int n ∧ 0 ≤ n ∧ n ≤ 1000000 ∧ z.length * n.toNat ≤ 1000000 ∧ Q (.str (strRep z n.toNat)) H
theorem strRep0 (z : Str) : strRep z 0 = Str.empty := rfl
theorem strRep1 (z : Str) : strRep z 1 = z := by
  unfold strRep
  obtain ⟨c⟩ := z
  simp
theorem strRepE {z : Str} (h : z.length = 0) (n : Nat) : strRep z n = z := by
  obtain ⟨c⟩ := z
  have hc : c = #[] := Array.eq_empty_of_size_eq_zero h
  subst hc
  unfold strRep
  congr 1
  induction n with
  | zero => rfl
  | succ m ih => rw [List.replicate_succ, List.foldl_cons]; exact ih
theorem strRep_len (z : Str) (n : Nat) : (strRep z n).length = n * z.length := by
  have f : ∀ (m : Nat) (acc : Array Nat), ((List.replicate m z.cps).foldl (· ++ ·) acc).size = acc.size + m * z.cps.size := by
    intro m
    induction m with
    | zero => intro acc; simp
    | succ k ih =>
      intro acc
      rw [List.replicate_succ, List.foldl_cons, ih, Array.size_append, Nat.succ_mul]
      omega
  have := f n #[]
  simpa [strRep, Str.length] using this
theorem x_mulS : OpR X (binaryOp .Mult) rMulS := by
  intro pins s σ H x y v u Q I rx ry hh
  obtain ⟨z, n, e1, e2, h0, h1, h2, q⟩ := hh
  subst e1; subst e2
  obtain ⟨t, rfl⟩ := rx
  obtain ⟨t', rfl⟩ := ry
  have hfit : (decide (n < -(2 ^ 63 : Int)) || decide (n ≥ 2 ^ 63)) = false := by
    rw [decide_eq_false (by omega), decide_eq_false (by omega)]; rfl
  refine PySem.P.mul_str hfit (fun hn _ => ?_) (fun hn _ => ?_) ?_
  · intro hgt
    have hl : z.length ≤ 1000000 := by
      have : 1 ≤ n.toNat := by omega
      exact Nat.le_trans (Nat.le_mul_of_pos_right _ this) h2
    have : (2 ^ 63 - 1) / n ≥ 1000001 := by
      refine Int.le_ediv_of_mul_le (by omega) ?_
      omega
    omega
  · unfold Builtin.Str.tooLong
    rw [decide_eq_false]
    have := sizeLine_eq
    omega
  · by_cases hn : n < 1
    · rw [if_pos hn]
      have : n = 0 := by omega
      subst this
      refine ⟨?_, .str _, H, I.tok _, ⟨_, rfl⟩, q⟩
      exact Nat.zero_le _
    · rw [if_neg hn]
      by_cases hc : (n == 1 || z.length == 0) = true
      · rw [if_pos hc]
        refine ⟨.str z, H, I, ⟨_, rfl⟩, ?_⟩
        have e : strRep z n.toNat = z := by
          rcases Bool.or_eq_true_iff.mp hc with c | c
          · have : n = 1 := by simpa using c
            subst this
            exact strRep1 z
          · exact strRepE (by simpa using c) _
        rw [← e]; exact q
      · rw [if_neg hc]
        refine ⟨?_, .str _, H, I.tok _, ⟨_, rfl⟩, q⟩
        show (strRep z n.toNat).length ≤ sizeLine
        rw [strRep_len]
        have := sizeLine_eq
        rw [Nat.mul_comm] at h2
        omega
theorem p_mulS : Op2 Γ oMulS rMulS := by
  intro L φ h H a b x y Q s ra rb p
  unfold oMulS at p
  split at p
  · split at p
    · rename_i hz
      exact ⟨_, _, rv_str ra, rv_int rb, hz.1, hz.2.1, hz.2.2, OkV.here p s mk_str⟩
    · exact p.elim
  · exact p.elim
theorem n_mulS : NoErr oMulS := by
  intro a b h e g q
  unfold oMulS at q
  split at q
  · split at q <;> cases q
  · cases q
theorem pylong (ok : Ok Γ X W) {pins : List (Addr × Obj)} {σ : L2.St} {H : Hp} {s : Shared} (I : Inv X pins σ H s) : PySem.PylongRoom (model X.prog X.w) X.A s := by
  obtain ⟨e, l, hs, g1, g2, g3, g4⟩ := ok.stk
  refine PySem.PylongRoom.of I.nolimit (by have := ok.dp; unfold Builtin.pylongFrames; omega) ?_
  exact PySem.SeerAt.of (ok.seer.keeps I.bk) ok.tree (by rw [I.ok.frames, hs]) g1 g2 g3 g4
def rFdiv : R2 := rI (fun _ j => j ≠ 0) fun i j => .int (i.fdiv j)
theorem x_fdiv (ok : Ok Γ X W) : OpR X (binaryOp .FloorDiv) rFdiv := by
  intro pins s σ H x y v u Q I rx ry hh
  obtain ⟨i, j, e1, e2, hc, q⟩ := hh
  subst e1; subst e2
  obtain ⟨t, rfl⟩ := rx
  obtain ⟨t', rfl⟩ := ry
  exact floordiv_int hc ⟨.int (i.fdiv j), H, I.tok _, ⟨_, rfl⟩, q⟩ (.inr (pylong ok I))
theorem p_fdiv : Op2 Γ oFdiv rFdiv := by
  intro L φ h H a b x y Q s ra rb p
  unfold oFdiv at p
  split at p
  · split at p
    · exact p.elim
    · rename_i hz
      exact ⟨_, _, rv_int ra, rv_int rb, hz, OkV.here p s mk_int⟩
  · exact p.elim
theorem n_fdiv : NoErr oFdiv := by
  intro a b h e g q
  unfold oFdiv at q
  split at q
  · split at q <;> cases q
  · cases q
theorem x_mod : OpR X (binaryOp .Mod) (rI (fun _ j => j ≠ 0) fun i j => .int (i.fmod j)) := op_modN
theorem p_mod : Op2 Γ oMod (rI (fun _ j => j ≠ 0) fun i j => .int (i.fmod j)) := by
  intro L φ h H a b x y Q s ra rb p
  unfold oMod at p
  split at p
  · split at p
    · exact p.elim
    · rename_i hz
      exact ⟨_, _, rv_int ra, rv_int rb, hz, OkV.here p s mk_int⟩
  · exact p.elim
theorem n_mod : NoErr oMod := by
  intro a b h e g q
  unfold oMod at q
  split at q
  · split at q <;> cases q
  · cases q
theorem x_pow : OpR X (binaryOp .Pow) (rI CPow fun i j => .int (i ^ j.toNat)) := op_pow
theorem p_pow : Op2 Γ oPow (rI CPow fun i j => .int (i ^ j.toNat)) := by
  intro L φ h H a b x y Q s ra rb p
  unfold oPow at p
  split at p
  · split at p
    · rename_i hz
      exact ⟨_, _, rv_int ra, rv_int rb, ⟨hz.1, by omega, hz.2.2⟩, OkV.here p s mk_int⟩
    · exact p.elim
  · exact p.elim
theorem n_pow : NoErr oPow := by
  intro a b h e g q
  unfold oPow at q
  split at q
  · split at q <;> cases q
  · cases q

/-! ### comparisons -/
def oLt : O2 := fun a b h => match a, b with
  | .int i, .int j => .ok (.bl (decide (i < j))) h
  | _, _ => .bad
def oLe : O2 := fun a b h => match a, b with
  | .int i, .int j => .ok (.bl (decide (i ≤ j))) h
  | _, _ => .bad
def oGt : O2 := fun a b h => match a, b with
  | .int i, .int j => .ok (.bl (decide (j < i))) h
  | _, _ => .bad
def oGe : O2 := fun a b h => match a, b with
  | .int i, .int j => .ok (.bl (decide (j ≤ i))) h
  | _, _ => .bad
theorem x_lt : OpR X (compareOp .Lt) (rI0 fun i j => .bl (decide (i < j))) := op_lt
theorem x_le : OpR X (compareOp .LtE) (rI0 fun i j => .bl (decide (i ≤ j))) := op_le
theorem x_gt : OpR X (compareOp .Gt) (rI0 fun i j => .bl (decide (j < i))) := op_gt
theorem x_ge : OpR X (compareOp .GtE) (rI0 fun i j => .bl (decide (j ≤ i))) := op_ge
theorem p_lt : Op2 Γ oLt (rI0 fun i j => .bl (decide (i < j))) := by
  intro L φ h H a b x y Q s ra rb p
  unfold oLt at p
  split at p
  · exact ⟨_, _, rv_int ra, rv_int rb, OkV.here p s mk_bl⟩
  · exact p.elim
theorem p_le : Op2 Γ oLe (rI0 fun i j => .bl (decide (i ≤ j))) := by
  intro L φ h H a b x y Q s ra rb p
  unfold oLe at p
  split at p
  · exact ⟨_, _, rv_int ra, rv_int rb, OkV.here p s mk_bl⟩
  · exact p.elim
theorem p_gt : Op2 Γ oGt (rI0 fun i j => .bl (decide (j < i))) := by
  intro L φ h H a b x y Q s ra rb p
  unfold oGt at p
  split at p
  · exact ⟨_, _, rv_int ra, rv_int rb, OkV.here p s mk_bl⟩
  · exact p.elim
theorem p_ge : Op2 Γ oGe (rI0 fun i j => .bl (decide (j ≤ i))) := by
  intro L φ h H a b x y Q s ra rb p
  unfold oGe at p
  split at p
  · exact ⟨_, _, rv_int ra, rv_int rb, OkV.here p s mk_bl⟩
  · exact p.elim
theorem n_lt : NoErr oLt := by
  intro a b h e g q
  unfold oLt at q
  split at q <;> cases q
theorem n_le : NoErr oLe := by
  intro a b h e g q
  unfold oLe at q
  split at q <;> cases q
theorem n_gt : NoErr oGt := by
  intro a b h e g q
  unfold oGt at q
  split at q <;> cases q
theorem n_ge : NoErr oGe := by
  intro a b h e g q
  unfold oGe at q
  split at q <;> cases q

/-! ### data: what == and in see -/
mutual
def dat (rf : Nat → Option PyData) : Val → Option PyData
  | .non => some .none
  | .bl b => some (.bool b)
  | .int i => some (.int i)
  | .str s => some (.str s)
  | .tup xs => (dats rf xs).map .tuple
  | .lst xs => (dats rf xs).map .list
  | .ref i => rf i
  | .dct _ _ => none
  | .exc _ _ => none
def dats (rf : Nat → Option PyData) : List Val → Option (List PyData)
  | [] => some []
  | v :: vs => match dat rf v, dats rf vs with
    | some d, some ds => some (d :: ds)
    | _, _ => none
end
def rf1 (rf : Nat → Option PyData) (h : Hv) (i : Nat) : Option PyData := match h[i]? with
  | some (.lst xs) => (dats rf xs).map .list
  | _ => none
/-- what a value is as data: lists of the heap are looked up, twice at most -/
def toD (h : Hv) (v : Val) : Option PyData := dat (rf1 (rf1 (fun _ => none) h) h) v
mutual
theorem dat_ok {Γ : G} {L : Addr → Prop} {φ : Mp} {H : Hp} {h : Hv} (s : Sim Γ L φ h H) {rf : Nat → Option PyData} (hr : ∀ i x d, Rv Γ L φ H (.ref i) x → rf i = some d → Dp Γ.K H x d) : ∀ (v : Val) (x : V) (d : PyData), Rv Γ L φ H v x → dat rf v = some d → Dp Γ.K H x d
  | .non, x, d, r, e => by unfold dat at e; cases e; rw [rv_non r]; exact .non
  | .bl b, x, d, r, e => by unfold dat at e; cases e; rw [rv_bl r]; exact .bl _
  | .int b, x, d, r, e => by unfold dat at e; cases e; rw [rv_int r]; exact .int _
  | .str b, x, d, r, e => by unfold dat at e; cases e; rw [rv_str r]; exact .str _
  | .tup vs, x, d, r, e => by
    unfold dat at e
    obtain ⟨ds, e1, rfl⟩ := Option.map_eq_some_iff.mp e
    obtain ⟨a, xs, rfl, _, q1, q2⟩ := asT_ok r rfl
    exact .tup q1 (dats_ok s hr vs xs ds q2 e1)
  | .lst vs, x, d, r, e => by
    unfold dat at e
    obtain ⟨ds, e1, rfl⟩ := Option.map_eq_some_iff.mp e
    obtain ⟨a, xs, rfl, q1, q2, _⟩ := asL_ok s r rfl
    exact .lst q1.sq (dats_ok s hr vs xs ds q2 e1)
  | .ref i, x, d, r, e => by
    unfold dat at e
    exact hr i x d r e
  | .dct _ _, x, d, r, e => by unfold dat at e; cases e
  | .exc _ _, x, d, r, e => by unfold dat at e; cases e
theorem dats_ok {Γ : G} {L : Addr → Prop} {φ : Mp} {H : Hp} {h : Hv} (s : Sim Γ L φ h H) {rf : Nat → Option PyData} (hr : ∀ i x d, Rv Γ L φ H (.ref i) x → rf i = some d → Dp Γ.K H x d) : ∀ (vs : List Val) (xs : List V) (ds : List PyData), RvL Γ L φ H vs xs → dats rf vs = some ds → DpAll Γ.K H xs ds
  | [], xs, ds, r, e => by
    unfold dats at e
    cases e
    unfold RvL at r
    subst r
    exact .nil
  | v :: vs, xs, ds, r, e => by
    unfold dats at e
    unfold RvL at r
    obtain ⟨y, ys, rfl, r1, r2⟩ := r
    split at e
    · rename_i d ds e1 e2
      cases e
      exact .cons (dat_ok s hr v y d r1 e1) (dats_ok s hr vs ys ds r2 e2)
    · cases e
end
theorem rf1_ok {Γ : G} {L : Addr → Prop} {φ : Mp} {H : Hp} {h : Hv} (s : Sim Γ L φ h H) {rf : Nat → Option PyData} (hr : ∀ i x d, Rv Γ L φ H (.ref i) x → rf i = some d → Dp Γ.K H x d) : ∀ i x d, Rv Γ L φ H (.ref i) x → rf1 rf h i = some d → Dp Γ.K H x d := by
  intro i x d r e
  unfold rf1 at e
  split at e
  · rename_i vs hi
    obtain ⟨ds, e1, rfl⟩ := Option.map_eq_some_iff.mp e
    have ea : asL h (.ref i) = some vs := by simp only [asL, hi]
    obtain ⟨a, xs, rfl, q1, q2, _⟩ := asL_ok s r ea
    exact .lst q1.sq (dats_ok s hr vs xs ds q2 e1)
  · cases e
theorem toD_ok {Γ : G} {L : Addr → Prop} {φ : Mp} {H : Hp} {h : Hv} (s : Sim Γ L φ h H) (v : Val) (x : V) (d : PyData) (r : Rv Γ L φ H v x) (e : toD h v = some d) : Dp Γ.K H x d :=
  dat_ok s (rf1_ok s (rf1_ok s fun _ _ _ _ z => by simp at z)) v x d r e
def eqE (h : Hv) (a b : Val) : Option Bool := match toD h a, toD h b with
  | some d, some e => if SeqAt.shaped d && SeqAt.shaped e then some (PyData.eqv d e) else none
  | _, _ => none
def oEq : O2 := fun a b h => match eqE h a b with
  | some k => .ok (.bl k) h
  | none => .bad
def oNe : O2 := fun a b h => match eqE h a b with
  | some k => .ok (.bl (!k)) h
  | none => .bad
theorem eqE_ok {L : Addr → Prop} {φ : Mp} {H : Hp} {h : Hv} (s : Sim Γ L φ h H) {a b : Val} {x y : V} {k : Bool} (ra : Rv Γ L φ H a x) (rb : Rv Γ L φ H b y) (e : eqE h a b = some k) :
    ∃ d d', Dp Γ.K H x d ∧ Dp Γ.K H y d' ∧ SeqAt.shaped d = true ∧ SeqAt.shaped d' = true ∧ k = PyData.eqv d d' := by
  unfold eqE at e
  split at e
  · rename_i d d' e1 e2
    split at e
    · rename_i hs
      obtain ⟨h1, h2⟩ := Bool.and_eq_true_iff.mp hs
      cases e
      exact ⟨d, d', toD_ok s _ _ _ ra e1, toD_ok s _ _ _ rb e2, h1, h2, rfl⟩
    · cases e
  · cases e
theorem x_eq (ok : Ok Γ X W) : OpR X (compareOp .Eq) (rEqD Γ.K) := ok.hK ▸ op_eqD (by have := ok.un; omega)
theorem x_ne (ok : Ok Γ X W) : OpR X (compareOp .NotEq) (rNeD Γ.K) := ok.hK ▸ op_neD (by have := ok.un; omega)
theorem p_eq : Op2 Γ oEq (rEqD Γ.K) := by
  intro L φ h H a b x y Q s ra rb p
  unfold oEq at p
  split at p
  · rename_i k e
    obtain ⟨d, d', h1, h2, h3, h4, rfl⟩ := eqE_ok s ra rb e
    exact ⟨d, d', h1, h2, h3, h4, OkV.here p s mk_bl⟩
  · exact p.elim
theorem p_ne : Op2 Γ oNe (rNeD Γ.K) := by
  intro L φ h H a b x y Q s ra rb p
  unfold oNe at p
  split at p
  · rename_i k e
    obtain ⟨d, d', h1, h2, h3, h4, rfl⟩ := eqE_ok s ra rb e
    exact ⟨d, d', h1, h2, h3, h4, OkV.here p s mk_bl⟩
  · exact p.elim
theorem n_eq : NoErr oEq := by
  intro a b h e g q
  unfold oEq at q
  split at q <;> cases q
theorem n_ne : NoErr oNe := by
  intro a b h e g q
  unfold oNe at q
  split at q <;> cases q
/-- is None -/
def isNon : Val → Option Bool
  | .non => some true
  | .bl _ | .int _ | .str _ | .tup _ | .lst _ | .dct _ _ | .exc _ _ => some false
  | .ref _ => none
theorem isNon_ok {L : Addr → Prop} {φ : Mp} {H : Hp} {v : Val} {x : V} {k : Bool} (r : Rv Γ L φ H v x) (e : isNon v = some k) : decide (x = .non) = k := by
  cases v with
  | non => cases e; rw [rv_non r]; rfl
  | bl b => cases e; rw [rv_bl r]; rfl
  | int b => cases e; rw [rv_int r]; rfl
  | str b => cases e; rw [rv_str r]; rfl
  | tup b => cases e; unfold Rv at r; obtain ⟨_, _, rfl, _⟩ := r; rfl
  | lst b => cases e; unfold Rv at r; obtain ⟨_, _, rfl, _⟩ := r; rfl
  | dct b c => cases e; unfold Rv at r; obtain ⟨_, _, rfl, _⟩ := r; rfl
  | exc b c => cases e; unfold Rv at r; obtain ⟨_, _, _, _, rfl, _⟩ := r; rfl
  | ref b => cases e
def oIsN : O2 := fun a b h => match b with
  | .non => match isNon a with
    | some k => .ok (.bl k) h
    | none => .bad
  | _ => .bad
def oNotN : O2 := fun a b h => match b with
  | .non => match isNon a with
    | some k => .ok (.bl (!k)) h
    | none => .bad
  | _ => .bad
theorem x_isN : OpR X (compareOp .Is) (fun x y H Q => y = .non ∧ Q (.bl (decide (x = .non))) H) := op_isN
theorem x_notN : OpR X (compareOp .IsNot) (fun x y H Q => y = .non ∧ Q (.bl (!decide (x = .non))) H) := op_notN
theorem p_isN : Op2 Γ oIsN (fun x y H Q => y = .non ∧ Q (.bl (decide (x = .non))) H) := by
  intro L φ h H a b x y Q s ra rb p
  unfold oIsN at p
  split at p
  · split at p
    · rename_i k e
      refine ⟨rv_non rb, ?_⟩
      rw [isNon_ok ra e]
      exact OkV.here p s mk_bl
    · exact p.elim
  · exact p.elim
theorem p_notN : Op2 Γ oNotN (fun x y H Q => y = .non ∧ Q (.bl (!decide (x = .non))) H) := by
  intro L φ h H a b x y Q s ra rb p
  unfold oNotN at p
  split at p
  · split at p
    · rename_i k e
      refine ⟨rv_non rb, ?_⟩
      rw [isNon_ok ra e]
      exact OkV.here p s mk_bl
    · exact p.elim
  · exact p.elim
theorem n_isN : NoErr oIsN := by
  intro a b h e g q
  unfold oIsN at q
  split at q
  · split at q <;> cases q
  · cases q
theorem n_notN : NoErr oNotN := by
  intro a b h e g q
  unfold oNotN at q
  split at q
  · split at q <;> cases q
  · cases q
/-- x in a text of one sign; x in a list; not in -/
def inE (a b : Val) (h : Hv) : Option Bool := match a, b with
  | .str s, .str z => match s.cps.toList with
    | [c] => some (decide (c ∈ z.cps.toList))
    | _ => none
  | a, b => match toD h a, toD h b with
    | some d, some (.list ds) => if SeqAt.shaped d && SeqAt.shaped (.list ds) then some (ds.any fun z => PyData.eqv z d) else none
    | _, _ => none
def oIn : O2 := fun a b h => match inE a b h with
  | some k => .ok (.bl k) h
  | none => .bad
def oNotIn : O2 := fun a b h => match inE a b h with
  | some k => .ok (.bl (!k)) h
  | none => .bad
theorem str_one {z : Str} {c : Nat} (h : z.cps.toList = [c]) : z = ⟨#[c]⟩ := by
  obtain ⟨l⟩ := z
  obtain ⟨l⟩ := l
  simp at h
  subst h
  rfl
theorem x_in (ok : Ok Γ X W) : OpR X (compareOp .In) (rOr (fun x y H Q => ∃ (c : Nat) (z : Str), x = .str ⟨#[c]⟩ ∧ y = .str z ∧ Q (.bl (decide (c ∈ z.cps.toList))) H) (rInD Γ.K)) :=
  orR op_in_sign (ok.hK ▸ op_inD (by have := ok.un; omega))
theorem x_notIn (ok : Ok Γ X W) : OpR X (compareOp .NotIn) (rOr (fun x y H Q => ∃ (c : Nat) (z : Str), x = .str ⟨#[c]⟩ ∧ y = .str z ∧ Q (.bl (!decide (c ∈ z.cps.toList))) H) (rNotInD Γ.K)) :=
  orR op_notIn_sign (ok.hK ▸ op_notInD (by have := ok.un; omega))
theorem inE_ok {L : Addr → Prop} {φ : Mp} {H : Hp} {h : Hv} (s : Sim Γ L φ h H) {a b : Val} {x y : V} {k : Bool} (ra : Rv Γ L φ H a x) (rb : Rv Γ L φ H b y) (e : inE a b h = some k) :
    (∃ (c : Nat) (z : Str), x = .str ⟨#[c]⟩ ∧ y = .str z ∧ k = decide (c ∈ z.cps.toList)) ∨ ∃ d ds, Dp Γ.K H x d ∧ Dp Γ.K H y (.list ds) ∧ SeqAt.shaped d = true ∧ SeqAt.shaped (.list ds) = true ∧ k = ds.any fun z => PyData.eqv z d := by
  unfold inE at e
  split at e
  · split at e
    · rename_i c hc
      cases e
      exact .inl ⟨c, _, by rw [rv_str ra, str_one hc], rv_str rb, rfl⟩
    · cases e
  · split at e
    · rename_i d ds e1 e2
      split at e
      · rename_i hs
        obtain ⟨h1, h2⟩ := Bool.and_eq_true_iff.mp hs
        cases e
        exact .inr ⟨d, ds, toD_ok s _ _ _ ra e1, toD_ok s _ _ _ rb e2, h1, h2, rfl⟩
      · cases e
    · cases e
theorem p_in : Op2 Γ oIn (rOr (fun x y H Q => ∃ (c : Nat) (z : Str), x = .str ⟨#[c]⟩ ∧ y = .str z ∧ Q (.bl (decide (c ∈ z.cps.toList))) H) (rInD Γ.K)) := by
  intro L φ h H a b x y Q s ra rb p
  unfold oIn at p
  split at p
  · rename_i k e
    rcases inE_ok s ra rb e with ⟨c, z, h1, h2, rfl⟩ | ⟨d, ds, h1, h2, h3, h4, rfl⟩
    · exact .inl ⟨c, z, h1, h2, OkV.here p s mk_bl⟩
    · exact .inr ⟨d, ds, h1, h2, h3, h4, OkV.here p s mk_bl⟩
  · exact p.elim
theorem p_notIn : Op2 Γ oNotIn (rOr (fun x y H Q => ∃ (c : Nat) (z : Str), x = .str ⟨#[c]⟩ ∧ y = .str z ∧ Q (.bl (!decide (c ∈ z.cps.toList))) H) (rNotInD Γ.K)) := by
  intro L φ h H a b x y Q s ra rb p
  unfold oNotIn at p
  split at p
  · rename_i k e
    rcases inE_ok s ra rb e with ⟨c, z, h1, h2, rfl⟩ | ⟨d, ds, h1, h2, h3, h4, rfl⟩
    · exact .inl ⟨c, z, h1, h2, OkV.here p s mk_bl⟩
    · exact .inr ⟨d, ds, h1, h2, h3, h4, OkV.here p s mk_bl⟩
  · exact p.elim
theorem n_in : NoErr oIn := by
  intro a b h e g q
  unfold oIn at q
  split at q <;> cases q
theorem n_notIn : NoErr oNotIn := by
  intro a b h e g q
  unfold oNotIn at q
  split at q <;> cases q
end
end Eng

set_option Elab.async false
set_option linter.all false
set_option autoImplicit false
set_option maxRecDepth 100000
set_option maxHeartbeats 4000000
/-! The engine, part D: subscripts, slices, dicts, built-in functions by values. -/
namespace Eng
open PySem L2 PySem.Spec PyProof.Rows

/-! ### a[i] -/
def oIx : O2 := fun a b h => match b with
  | .int i => match a with
    | .str z => if z.length ≤ 1000000 then (match atI z.cps.toList i with
      | some c => .ok (.str ⟨#[c]⟩) h
      | none => .bad) else .bad
    | .tup vs => (match atI vs i with
      | some v => .ok v h
      | none => .bad)
    | a => match asL h a with
      | some vs => (match atI vs i with
        | some v => .ok v h
        | none => .bad)
      | none => .bad
  | _ => .bad
section
variable {Γ : G} {X : Cx} {W : WX} {a b c : Expr} {f g k : EX} {pos : Pos}
theorem RvL.atI {L : Addr → Prop} {φ : Mp} {H : Hp} {vs : List Val} {xs : List V} {i : Int} {v : Val} (r : RvL Γ L φ H vs xs) (e : L2.atI vs i = some v) : ∃ x, L2.atI xs i = some x ∧ Rv Γ L φ H v x := by
  unfold L2.atI at e ⊢
  rw [← r.length]
  cases q : ixN vs.length i with
  | none => rw [q] at e; cases e
  | some j =>
    rw [q] at e
    obtain ⟨x, e1, e2⟩ := r.get (show vs[j]? = some v from e)
    exact ⟨x, e1, e2⟩
theorem p_ix : Op2 Γ oIx (rIx Γ.K) := by
  intro L φ h H a b x y Q s ra rb p
  unfold oIx at p
  split at p
  · split at p
    · split at p
      · rename_i hz
        split at p
        · rename_i c e
          exact .inr (.inr ⟨_, _, _, rv_str ra, rv_int rb, big hz, e, OkV.here p s mk_str⟩)
        · exact p.elim
      · exact p.elim
    · split at p
      · rename_i v e
        obtain ⟨l, xs, q1, _, q2, q3⟩ := asT_ok ra rfl
        obtain ⟨z, z1, z2⟩ := q3.atI e
        exact .inr (.inl ⟨l, xs, _, z, q1, rv_int rb, q2, z1, OkV.here p s z2⟩)
      · exact p.elim
    · split at p
      · rename_i vs e0
        split at p
        · rename_i v e
          obtain ⟨l, xs, q1, q2, q3, _⟩ := asL_ok s ra e0
          obtain ⟨z, z1, z2⟩ := q3.atI e
          exact .inl ⟨l, xs, _, z, q1, rv_int rb, q2.sq, z1, OkV.here p s z2⟩
        · exact p.elim
      · exact p.elim
  · exact p.elim
theorem n_ix : NoErr oIx := by
  intro a b h e g q
  unfold oIx at q
  split at q
  · split at q
    · split at q
      · split at q <;> cases q
      · cases q
    · split at q <;> cases q
    · split at q
      · split at q <;> cases q
      · cases q
  · cases q
theorem s_ix (ok : Ok Γ X W) (ha : PE X a (tE Γ W f)) (hb : PE X b (tE Γ W g)) (hs : PlainIx b) : PE X (.Subscript a b pos) (tE Γ W (eBin oIx f g)) :=
  PEw (pe_ix (ix_seq (X := X)) ha hb hs) (fun σ H Q q => by rw [ok.hK]; exact rd_bin p_ix n_ix σ H Q q)

/-! ### a[lo:hi] -/
abbrev EO := Ev → Hv → R (Option Int)
def tO (Γ : G) (W : WX) (f : EO) : TO := fun σ H Q => ∃ L φ ρ h, SimE Γ L φ ρ σ H ∧ Sim Γ L φ h H ∧ PR (f ρ h) (fun o h' => ∀ φ' H', Le φ H φ' H' → Sim Γ L φ' h' H' → Q o H') (OkX Γ L φ H (WE W σ))
def pNo : EO := fun _ h => .ok none h
def pAt (f : EX) : EO := fun ρ h => (f ρ h).bind fun v h => match v with
  | .int i => .ok (some i) h
  | _ => .bad
theorem POw {e : Option Expr} {t t' : TO} (p : PO X e t) (h : ∀ σ H Q, t' σ H Q → t σ H Q) : PO X e t' := ⟨fun pins s σ H Q I q => p.run pins s σ H Q I (h σ H Q q)⟩
theorem s_no : PO X none (tO Γ W pNo) := POw po_none <| by
  rintro σ H Q ⟨L, φ, ρ, h, se, s, p⟩
  exact p φ H (Le.refl _ _) s
theorem s_at (ha : PE X a (tE Γ W f)) : PO X (some a) (tO Γ W (pAt f)) := POw (po_some ha) <| by
  rintro σ H Q ⟨L, φ, ρ, h, se, s, p⟩
  refine ⟨L, φ, ρ, h, se, s, ?_⟩
  unfold pAt at p
  rw [PR.bind] at p
  refine p.mono (fun v h1 q => ?_) (fun _ _ q => q)
  intro φ1 H1 x l1 s1 r1
  match v, q, r1 with
  | .int i, q, r1 => exact ⟨i, rv_int r1, q φ1 H1 l1 s1⟩
def cutL {α : Type} (xs : List α) (lo hi : Option Int) : List α := (xs.drop (HT.sIx xs.length 0 lo)).take (HT.sIx xs.length xs.length hi - HT.sIx xs.length 0 lo)
theorem RvL.cut {L : Addr → Prop} {φ : Mp} {H : Hp} {vs : List Val} {xs : List V} (r : RvL Γ L φ H vs xs) (lo hi : Option Int) : RvL Γ L φ H (cutL vs lo hi) (cutV xs lo hi) := by
  unfold cutL cutV
  rw [← r.length]
  exact (r.drop _).take _
abbrev OS := Val → Option Int → Option Int → Hv → R Val
def oSl : OS := fun a lo hi h => match a with
  | .str z => if z.length ≤ 1000000 then .ok (.str (cutS z lo hi)) h else .bad
  | a => match asL h a with
    | some vs => .ok (.lst (cutL vs lo hi)) h
    | none => .bad
def eSl (f : EX) (l u : EO) : EX := fun ρ h => (f ρ h).bind fun v h => (l ρ h).bind fun lo h => (u ρ h).bind fun hi h => oSl v lo hi h
theorem oSl_ne {a : Val} {lo hi : Option Int} {h : Hv} {e : Ex} {g : Hv} : oSl a lo hi h ≠ .err e g := by
  intro q
  unfold oSl at q
  split at q
  · split at q <;> cases q
  · split at q <;> cases q
theorem s_sl {lo hi : Option Expr} {p2 : Pos} {l u : EO} (ok : Ok Γ X W) (ha : PE X a (tE Γ W f)) (hl : PO X lo (tO Γ W l)) (hu : PO X hi (tO Γ W u)) : PE X (.Subscript a (.Slice lo hi none p2) pos) (tE Γ W (eSl f l u)) :=
  PEw (pe_slice (SlR.or (sl_list (X := X)) sl_str) ha hl hu) <| by
  rintro σ H Q ⟨L, φ, ρ, h, se, s, p⟩
  refine ⟨L, φ, ρ, h, se, s, ?_⟩
  unfold eSl at p
  rw [PR.bind] at p
  refine p.mono (fun v h1 q => ?_) (fun _ _ q => q)
  intro φ1 H1 x l1 s1 r1
  refine ⟨L, φ1, ρ, h1, se.mono l1, s1, ?_⟩
  rw [PR.bind] at q
  refine q.mono (fun lo h2 q2 => ?_) (fun e _ q2 => OkX.mono l1 q2)
  intro φ2 H2 l2 s2
  refine ⟨L, φ2, ρ, h2, se.mono (l1.trans l2), s2, ?_⟩
  rw [PR.bind] at q2
  refine q2.mono (fun hi h3 q3 => ?_) (fun e _ q3 => OkX.mono (l1.trans l2) q3)
  intro φ3 H3 l3 s3
  have r3 := r1.mono (l2.trans l3)
  have q4 := q3.noE' (fun e g => oSl_ne)
  unfold oSl at q4
  split at q4
  · split at q4
    · rename_i hz
      exact .inr ⟨_, rv_str r3, big hz, OkV.here (OkV.mono ((l1.trans l2).trans l3) q4) s3 mk_str⟩
    · exact q4.elim
  · split at q4
    · rename_i vs e
      obtain ⟨p', xs, e1, e2, e3, _⟩ := asL_ok s3 r3 e
      exact .inl ⟨p', xs, e1, by rw [ok.hK]; exact e2.sq, fun n hn => OkV.lst (OkV.mono ((l1.trans l2).trans l3) q4) s3 (e3.cut lo hi) hn⟩
    · exact q4.elim

/-! ### dicts -/
def keyOf : Val → Option Key
  | .int i => some (.inl i)
  | .str z => some (.inr z)
  | _ => none
theorem keyOf_ok {L : Addr → Prop} {φ : Mp} {H : Hp} {v : Val} {x : V} {k : Key} (r : Rv Γ L φ H v x) (e : keyOf v = some k) : x = kV k := by
  cases v with
  | int i => cases e; exact rv_int r
  | str z => cases e; exact rv_str r
  | _ => cases e
/-- the value at a key -/
def lookD : List Key → List Val → Key → Option Val
  | k' :: ks, v :: vs, k => if k' = k then some v else lookD ks vs k
  | _, _, _ => none
def putD : List Key → List Val → Key → Val → List Key × List Val
  | k' :: ks, v' :: vs, k, v => if k' = k then (k' :: ks, v :: vs) else ((k' :: (putD ks vs k v).1), (v' :: (putD ks vs k v).2))
  | _, _, k, v => ([k], [v])
def dropD : List Key → List Val → Key → List Key × List Val
  | k' :: ks, v' :: vs, k => if k' = k then (dropD ks vs k) else ((k' :: (dropD ks vs k).1), (v' :: (dropD ks vs k).2))
  | _, _, _ => ([], [])
theorem lookD_ok {L : Addr → Prop} {φ : Mp} {H : Hp} : ∀ {kvs : List (Key × V)} {ks : List Key} {vs : List Val} {k : Key}, kvs.map (·.1) = ks → RvL Γ L φ H vs (kvs.map (·.2)) →
    (match lookD ks vs k with | some v => ∃ x, valV kvs k = some x ∧ Rv Γ L φ H v x | none => valV kvs k = none)
  | [], ks, vs, k, e, r => by
    subst e
    cases vs with
    | nil => exact rfl
    | cons v vs => exact rfl
  | p :: kvs, ks, vs, k, e, r => by
    subst e
    rw [List.map_cons] at r ⊢
    cases vs with
    | nil =>
      unfold RvL at r
      cases r
    | cons v vs =>
      unfold RvL at r
      obtain ⟨y, ys, e1, r1, r2⟩ := r
      cases e1
      unfold lookD
      by_cases q : p.1 = k
      · rw [if_pos q]
        exact ⟨p.2, valV_pos q, r1⟩
      · rw [if_neg q]
        have ih := lookD_ok (k := k) (kvs := kvs) rfl r2
        cases z : lookD (kvs.map (·.1)) vs k with
        | none => rw [z] at ih; show valV (p :: kvs) k = none; rw [valV_neg q]; exact ih
        | some u =>
          rw [z] at ih
          obtain ⟨x, i1, i2⟩ := ih
          exact ⟨x, by rw [valV_neg q]; exact i1, i2⟩
theorem putK_cons_pos {p : Key × V} {kvs : List (Key × V)} {k : Key} {v : V} (hn : ∀ q ∈ kvs, q.1 ≠ k) (e : p.1 = k) : putK (p :: kvs) k v = (p.1, v) :: kvs := by
  unfold putK
  rw [List.any_cons, decide_eq_true e, Bool.true_or, if_pos rfl, List.map_cons, if_pos e]
  congr 1
  refine (List.map_congr_left fun q hq => ?_).trans (List.map_id' kvs)
  rw [if_neg (hn q hq)]
theorem putK_cons_neg {p : Key × V} {kvs : List (Key × V)} {k : Key} {v : V} (e : ¬ p.1 = k) : putK (p :: kvs) k v = p :: putK kvs k v := by
  unfold putK
  rw [List.any_cons, decide_eq_false e, Bool.false_or]
  split
  · rw [List.map_cons, if_neg e]
  · rfl
theorem putD_ok {L : Addr → Prop} {φ : Mp} {H : Hp} {v : Val} {x : V} (rv : Rv Γ L φ H v x) : ∀ {kvs : List (Key × V)} {ks : List Key} {vs : List Val} {k : Key}, ks.Nodup → kvs.map (·.1) = ks → RvL Γ L φ H vs (kvs.map (·.2)) →
    (putK kvs k x).map (·.1) = (putD ks vs k v).1 ∧ RvL Γ L φ H (putD ks vs k v).2 ((putK kvs k x).map (·.2))
  | [], ks, vs, k, nd, e, r => by
    subst e
    cases vs with
    | nil => exact ⟨rfl, .cons rv .nil⟩
    | cons v vs => unfold RvL at r; obtain ⟨_, _, e, _⟩ := r; cases e
  | p :: kvs, ks, vs, k, nd, e, r => by
    subst e
    rw [List.map_cons] at r nd ⊢
    obtain ⟨nd1, nd2⟩ := List.nodup_cons.mp nd
    cases vs with
    | nil => unfold RvL at r; cases r
    | cons u vs =>
      unfold RvL at r
      obtain ⟨y, ys, e1, r1, r2⟩ := r
      cases e1
      unfold putD
      by_cases q : p.1 = k
      · rw [if_pos q, putK_cons_pos (fun z hz ez => nd1 (List.mem_map.mpr ⟨z, hz, ez.trans q.symm⟩)) q]
        exact ⟨rfl, .cons rv r2⟩
      · rw [if_neg q, putK_cons_neg q]
        obtain ⟨i1, i2⟩ := putD_ok rv (k := k) nd2 rfl r2
        exact ⟨by rw [List.map_cons, i1], .cons r1 i2⟩
theorem dropD_ok {L : Addr → Prop} {φ : Mp} {H : Hp} : ∀ {kvs : List (Key × V)} {ks : List Key} {vs : List Val} {k : Key}, kvs.map (·.1) = ks → RvL Γ L φ H vs (kvs.map (·.2)) →
    (dropK kvs k).map (·.1) = (dropD ks vs k).1 ∧ RvL Γ L φ H (dropD ks vs k).2 ((dropK kvs k).map (·.2))
  | [], ks, vs, k, e, r => by
    subst e
    cases vs with
    | nil => exact ⟨rfl, .nil⟩
    | cons v vs => unfold RvL at r; obtain ⟨_, _, e, _⟩ := r; cases e
  | p :: kvs, ks, vs, k, e, r => by
    subst e
    rw [List.map_cons] at r ⊢
    cases vs with
    | nil => unfold RvL at r; cases r
    | cons u vs =>
      unfold RvL at r
      obtain ⟨y, ys, e1, r1, r2⟩ := r
      cases e1
      obtain ⟨i1, i2⟩ := dropD_ok (k := k) (kvs := kvs) rfl r2
      unfold dropD
      by_cases q : p.1 = k
      · rw [if_pos q]
        have : dropK (p :: kvs) k = dropK kvs k := by unfold dropK; rw [List.filter_cons, if_neg (by simp [q])]
        rw [this]
        exact ⟨i1, i2⟩
      · rw [if_neg q]
        have : dropK (p :: kvs) k = p :: dropK kvs k := by unfold dropK; rw [List.filter_cons, if_pos (by simp [q])]
        rw [this]
        exact ⟨by rw [List.map_cons, i1], .cons r1 i2⟩
/-- d[k] of a dict -/
def oGetD : O2 := fun a b h => match asD h a, keyOf b with
  | some (ks, vs), some k => (match lookD ks vs k with
    | some v => .ok v h
    | none => .bad)
  | _, _ => .bad
def oInD : O2 := fun b a h => match asD h a, keyOf b with
  | some (ks, vs), some k => .ok (.bl (lookD ks vs k).isSome) h
  | _, _ => .bad
def oNotInD : O2 := fun b a h => match asD h a, keyOf b with
  | some (ks, vs), some k => .ok (.bl (!(lookD ks vs k).isSome)) h
  | _, _ => .bad
theorem s_getD (ok : Ok Γ X W) (ha : PE X a (tE Γ W f)) (hb : PE X b (tE Γ W g)) (hs : NoSl b) : PE X (.Subscript a b pos) (tE Γ W (eBin oGetD f g)) :=
  PEw (pe_dget (by have := ok.un; omega) ha hb hs) <| fun σ H Q q => by
  refine rd_bin (r := fun x y H Q => ∃ a v, x = .ref a ∧ DGet H a y (some v) ∧ Q v H) ?_ ?_ σ H Q q
  · intro L φ h H a b x y Q s ra rb p
    unfold oGetD at p
    split at p
    · rename_i ks vs k e1 e2
      obtain ⟨d, kvs, q1, q2, q3, q4⟩ := asD_ok s ra e1
      have z := lookD_ok (k := k) q3 q4
      split at p
      · rename_i v ev
        rw [ev] at z
        obtain ⟨x', z1, z2⟩ := z
        refine ⟨d, x', q1, .inl ⟨kvs, k, q2, keyOf_ok rb e2, z1.symm⟩, OkV.here p s z2⟩
      · exact p.elim
    · exact p.elim
  · intro a b h e g q
    unfold oGetD at q
    split at q
    · split at q <;> cases q
    · cases q
theorem s_inD (ok : Ok Γ X W) (ha : PE X a (tE Γ W f)) (hb : PE X b (tE Γ W g)) (hm : behindInMarks .In b = false) : PT X (.Compare a [.In] [b] pos) (tT Γ W (toB (eBin oInD f g))) :=
  PTw (pt_cmp (pc_din (by have := ok.un; omega) ha hb) hm) <| fun σ H Q q => by
  have z := rd_toB (f := eBin oInD f g) σ H Q q
  refine rd_bin (r := fun y x H Q => ∃ a o, x = .ref a ∧ DGet H a y o ∧ Q (.bl o.isSome) H) ?_ ?_ σ H _ z
  · intro L φ h H a b x y Q s ra rb p
    unfold oInD at p
    split at p
    · rename_i ks vs k e1 e2
      obtain ⟨d, kvs, q1, q2, q3, q4⟩ := asD_ok s rb e1
      have z := lookD_ok (k := k) q3 q4
      refine ⟨d, valV kvs k, q1, .inl ⟨kvs, k, q2, keyOf_ok ra e2, rfl⟩, ?_⟩
      have e : (valV kvs k).isSome = (lookD ks vs k).isSome := by
        cases w : lookD ks vs k with
        | none => rw [w] at z; rw [z]; rfl
        | some v => rw [w] at z; obtain ⟨x', z1, _⟩ := z; rw [z1]; rfl
      rw [e]
      exact OkV.here p s mk_bl
    · exact p.elim
  · intro a b h e g q
    unfold oInD at q
    split at q <;> cases q
theorem s_notInD (ok : Ok Γ X W) (ha : PE X a (tE Γ W f)) (hb : PE X b (tE Γ W g)) (hm : behindInMarks .NotIn b = false) : PT X (.Compare a [.NotIn] [b] pos) (tT Γ W (toB (eBin oNotInD f g))) :=
  PTw (pt_cmp (pc_dnotin (by have := ok.un; omega) ha hb) hm) <| fun σ H Q q => by
  have z := rd_toB (f := eBin oNotInD f g) σ H Q q
  refine rd_bin (r := fun y x H Q => ∃ a o, x = .ref a ∧ DGet H a y o ∧ Q (.bl (!o.isSome)) H) ?_ ?_ σ H _ z
  · intro L φ h H a b x y Q s ra rb p
    unfold oNotInD at p
    split at p
    · rename_i ks vs k e1 e2
      obtain ⟨d, kvs, q1, q2, q3, q4⟩ := asD_ok s rb e1
      have z := lookD_ok (k := k) q3 q4
      refine ⟨d, valV kvs k, q1, .inl ⟨kvs, k, q2, keyOf_ok ra e2, rfl⟩, ?_⟩
      have e : (valV kvs k).isSome = (lookD ks vs k).isSome := by
        cases w : lookD ks vs k with
        | none => rw [w] at z; rw [z]; rfl
        | some v => rw [w] at z; obtain ⟨x', z1, _⟩ := z; rw [z1]; rfl
      rw [e]
      exact OkV.here p s mk_bl
    · exact p.elim
  · intro a b h e g q
    unfold oNotInD at q
    split at q <;> cases q
/-- a new dict without keys, a thing of the evaluator's heap -/
def eDnew : EX := fun _ h => .ok (.ref h.length) (h ++ [.dct [] []])
theorem s_dnew : PE X (.Dict [] [] pos) (tE Γ W eDnew) := PEw pe_dnewK <| by
  rintro σ H Q ⟨L, φ, ρ, h, se, s, p⟩
  intro q hq
  exact OkV.dctA p s rfl .nil hq

/-! ### built-in functions -/
def cAbs : OC := fun vs h => match vs with
  | [.int i] => .ok (.int (if i < 0 then -i else i)) h
  | _ => .bad
def cLen : OC := fun vs h => match vs with
  | [.str z] => if z.length ≤ 1000000 then .ok (.int z.length) h else .bad
  | [.tup xs] => .ok (.int xs.length) h
  | [v] => (match asL h v with
    | some xs => .ok (.int xs.length) h
    | none => match v with
      | .dct ks _ => .ok (.int ks.length) h
      | .ref i => (match h[i]? with
        | some (.dct ks _) => .ok (.int ks.length) h
        | _ => .bad)
      | _ => .bad)
  | _ => .bad
def rLenA (K : PySem.W.Frag) : List V → Hp → VK → Prop := fun xs H Q => (∃ x n, xs = [x] ∧ LenV K x H n ∧ Q (.int n) H) ∨ (∃ a kvs, xs = [V.ref a] ∧ H a = some (.dK kvs) ∧ Q (.int kvs.length) H)
theorem rvl1 {L : Addr → Prop} {φ : Mp} {H : Hp} {v : Val} {xs : List V} (r : RvL Γ L φ H [v] xs) : ∃ x, xs = [x] ∧ Rv Γ L φ H v x := by
  unfold RvL at r
  obtain ⟨y, ys, rfl, r1, r2⟩ := r
  unfold RvL at r2
  subst r2
  exact ⟨y, rfl, r1⟩
theorem rvl2 {L : Addr → Prop} {φ : Mp} {H : Hp} {v u : Val} {xs : List V} (r : RvL Γ L φ H [v, u] xs) : ∃ x y, xs = [x, y] ∧ Rv Γ L φ H v x ∧ Rv Γ L φ H u y := by
  unfold RvL at r
  obtain ⟨y, ys, rfl, r1, r2⟩ := r
  obtain ⟨z, rfl, r3⟩ := rvl1 r2
  exact ⟨y, z, rfl, r1, r3⟩
theorem x_len : CallR X (.builtin "len") (rLenA X.K) := CallR.or call_len call_lenD
theorem p_len : OpC Γ cLen (rLenA Γ.K) := by
  intro L φ h H vs xs Q s r p
  unfold cLen at p
  split at p
  · split at p
    · rename_i hz
      obtain ⟨x, rfl, r1⟩ := rvl1 r
      rw [rv_str r1]
      exact .inl ⟨_, _, rfl, ⟨big hz, rfl⟩, OkV.here p s mk_int⟩
    · exact p.elim
  · obtain ⟨x, rfl, r1⟩ := rvl1 r
    obtain ⟨a, ys, rfl, _, q1, q2⟩ := asT_ok r1 rfl
    exact .inl ⟨_, _, rfl, .inr ⟨ys, q1, rfl⟩, by rw [← q2.length]; exact OkV.here p s mk_int⟩
  · obtain ⟨x, rfl, r1⟩ := rvl1 r
    split at p
    · rename_i ys e
      obtain ⟨a, zs, rfl, q1, q2, _⟩ := asL_ok s r1 e
      exact .inl ⟨_, _, rfl, .inl ⟨zs, q1.sq, rfl⟩, by rw [← q2.length]; exact OkV.here p s mk_int⟩
    · split at p
      · unfold Rv at r1
        obtain ⟨a, kvs, rfl, q1, q2, q3⟩ := r1
        refine .inr ⟨a, kvs, rfl, q1.1, ?_⟩
        rw [show kvs.length = _ from (List.length_map (f := (·.1)) (as := kvs)).symm, q2]
        exact OkV.here p s mk_int
      · split at p
        · rename_i ks vs hi
          rcases s.live _ _ hi with z | ⟨a, z1, kvs, z2, z3, z4⟩
          · cases z
          · unfold Rv at r1
            obtain ⟨o, o1, o2⟩ := r1
            rw [z1] at o1
            cases o1
            rw [o2 a rfl]
            refine .inr ⟨a, kvs, rfl, z2, ?_⟩
            rw [show kvs.length = _ from (List.length_map (f := (·.1)) (as := kvs)).symm, z3]
            exact OkV.here p s mk_int
        · exact p.elim
      · exact p.elim
  · exact p.elim
theorem n_len : NoErrC cLen := by
  intro vs h e g q
  unfold cLen at q
  split at q
  · split at q <;> cases q
  · cases q
  · split at q
    · cases q
    · split at q
      · cases q
      · split at q <;> cases q
      · cases q
  · cases q
theorem x_abs : CallR X (.builtin "abs") (fun xs H Q => ∃ i, xs = [.int i] ∧ Q (.int (if i < 0 then -i else i)) H) := call_abs
theorem p_abs : OpC Γ cAbs (fun xs H Q => ∃ i, xs = [.int i] ∧ Q (.int (if i < 0 then -i else i)) H) := by
  intro L φ h H vs xs Q s r p
  unfold cAbs at p
  split at p
  · obtain ⟨x, rfl, r1⟩ := rvl1 r
    rw [rv_int r1]
    exact ⟨_, rfl, OkV.here p s mk_int⟩
  · exact p.elim
theorem n_abs : NoErrC cAbs := by
  intro vs h e g q
  unfold cAbs at q
  split at q <;> cases q
def cMax2 : OC := fun vs h => match vs with
  | [.int i, .int j] => .ok (.int (if j > i then j else i)) h
  | _ => .bad
def cMin2 : OC := fun vs h => match vs with
  | [.int i, .int j] => .ok (.int (if j < i then j else i)) h
  | _ => .bad
theorem p_max2 : OpC Γ cMax2 (fun xs H Q => ∃ i j, xs = [.int i, .int j] ∧ Q (.int (if j > i then j else i)) H) := by
  intro L φ h H vs xs Q s r p
  unfold cMax2 at p
  split at p
  · obtain ⟨x, y, rfl, r1, r2⟩ := rvl2 r
    rw [rv_int r1, rv_int r2]
    exact ⟨_, _, rfl, OkV.here p s mk_int⟩
  · exact p.elim
theorem n_max2 : NoErrC cMax2 := by
  intro vs h e g q
  unfold cMax2 at q
  split at q <;> cases q
theorem p_min2 : OpC Γ cMin2 (fun xs H Q => ∃ i j, xs = [.int i, .int j] ∧ Q (.int (if j < i then j else i)) H) := by
  intro L φ h H vs xs Q s r p
  unfold cMin2 at p
  split at p
  · obtain ⟨x, y, rfl, r1, r2⟩ := rvl2 r
    rw [rv_int r1, rv_int r2]
    exact ⟨_, _, rfl, OkV.here p s mk_int⟩
  · exact p.elim
theorem n_min2 : NoErrC cMin2 := by
  intro vs h e g q
  unfold cMin2 at q
  split at q <;> cases q
/-- the ints of a list, the truths, the texts -/
def intsOf : List Val → Option (List Int)
  | [] => some []
  | .int i :: vs => (intsOf vs).map (i :: ·)
  | _ :: _ => none
def blsOf : List Val → Option (List Bool)
  | [] => some []
  | .bl i :: vs => (blsOf vs).map (i :: ·)
  | _ :: _ => none
def strsOf : List Val → Option (List Str)
  | [] => some []
  | .str i :: vs => (strsOf vs).map (i :: ·)
  | _ :: _ => none
theorem intsOf_ok {L : Addr → Prop} {φ : Mp} {H : Hp} : ∀ {vs : List Val} {xs : List V} {ns : List Int}, RvL Γ L φ H vs xs → intsOf vs = some ns → xs = ns.map V.int
  | [], xs, ns, r, e => by unfold RvL at r; cases e; exact r
  | v :: vs, xs, ns, r, e => by
    unfold RvL at r
    obtain ⟨y, ys, rfl, r1, r2⟩ := r
    cases v with
    | int i =>
      obtain ⟨ms, e1, rfl⟩ := Option.map_eq_some_iff.mp (show (intsOf vs).map (i :: ·) = some ns from e)
      rw [rv_int r1, intsOf_ok r2 e1, List.map_cons]
    | _ => cases e
theorem blsOf_ok {L : Addr → Prop} {φ : Mp} {H : Hp} : ∀ {vs : List Val} {xs : List V} {ns : List Bool}, RvL Γ L φ H vs xs → blsOf vs = some ns → xs = ns.map V.bl
  | [], xs, ns, r, e => by unfold RvL at r; cases e; exact r
  | v :: vs, xs, ns, r, e => by
    unfold RvL at r
    obtain ⟨y, ys, rfl, r1, r2⟩ := r
    cases v with
    | bl i =>
      obtain ⟨ms, e1, rfl⟩ := Option.map_eq_some_iff.mp (show (blsOf vs).map (i :: ·) = some ns from e)
      rw [rv_bl r1, blsOf_ok r2 e1, List.map_cons]
    | _ => cases e
theorem strsOf_ok {L : Addr → Prop} {φ : Mp} {H : Hp} : ∀ {vs : List Val} {xs : List V} {ns : List Str}, RvL Γ L φ H vs xs → strsOf vs = some ns → xs = ns.map V.str
  | [], xs, ns, r, e => by unfold RvL at r; cases e; exact r
  | v :: vs, xs, ns, r, e => by
    unfold RvL at r
    obtain ⟨y, ys, rfl, r1, r2⟩ := r
    cases v with
    | str i =>
      obtain ⟨ms, e1, rfl⟩ := Option.map_eq_some_iff.mp (show (strsOf vs).map (i :: ·) = some ns from e)
      rw [rv_str r1, strsOf_ok r2 e1, List.map_cons]
    | _ => cases e
theorem strs_rv {L : Addr → Prop} {φ : Mp} {H : Hp} : ∀ (ns : List Str), RvL Γ L φ H (ns.map Val.str) (ns.map V.str)
  | [] => .nil
  | n :: ns => .cons mk_str (strs_rv ns)
theorem ints_rv {L : Addr → Prop} {φ : Mp} {H : Hp} : ∀ (ns : List Int), RvL Γ L φ H (ns.map Val.int) (ns.map V.int)
  | [] => .nil
  | n :: ns => .cons mk_int (ints_rv ns)
theorem keys_rv {L : Addr → Prop} {φ : Mp} {H : Hp} : ∀ (ns : List Key), RvL Γ L φ H (ns.map fun k => match k with | .inl i => Val.int i | .inr z => Val.str z) (ns.map kV)
  | [] => .nil
  | .inl i :: ns => .cons mk_int (keys_rv ns)
  | .inr i :: ns => .cons mk_str (keys_rv ns)
def onL (h : Hv) (vs : List Val) (k : List Val → R Val) : R Val := match vs with
  | [v] => match asL h v with
    | some xs => k xs
    | none => .bad
  | _ => .bad
def cAll : OC := fun vs h => onL h vs fun xs => match blsOf xs with
  | some bs => .ok (.bl (bs.all id)) h
  | none => .bad
def cAny : OC := fun vs h => onL h vs fun xs => match blsOf xs with
  | some bs => .ok (.bl (bs.any id)) h
  | none => .bad
def cSum : OC := fun vs h => onL h vs fun xs => match intsOf xs with
  | some bs => .ok (.int bs.sum) h
  | none => .bad
def maxI : List Int → Option Int
  | [] => none
  | a :: as => some (as.foldl (fun m b => if b > m then b else m) a)
def minI : List Int → Option Int
  | [] => none
  | a :: as => some (as.foldl (fun m b => if b < m then b else m) a)
theorem foldl_max_le : ∀ (as : List Int) (a : Int), a ≤ as.foldl (fun m b => if b > m then b else m) a ∧ (∀ y ∈ as, y ≤ as.foldl (fun m b => if b > m then b else m) a)
  | [], a => ⟨Int.le_refl _, fun y hy => nomatch hy⟩
  | b :: as, a => by
    obtain ⟨h1, h2⟩ := foldl_max_le as (if b > a then b else a)
    rw [List.foldl_cons]
    refine ⟨?_, fun y hy => ?_⟩
    · by_cases z : b > a
      · rw [if_pos z] at h1 ⊢; omega
      · rw [if_neg z] at h1 ⊢; exact h1
    · rcases List.mem_cons.mp hy with q | q
      · subst q
        by_cases z : y > a
        · rw [if_pos z] at h1 ⊢; exact h1
        · rw [if_neg z] at h1 ⊢; omega
      · exact h2 y q
theorem foldl_min_le : ∀ (as : List Int) (a : Int), as.foldl (fun m b => if b < m then b else m) a ≤ a ∧ (∀ y ∈ as, as.foldl (fun m b => if b < m then b else m) a ≤ y)
  | [], a => ⟨Int.le_refl _, fun y hy => nomatch hy⟩
  | b :: as, a => by
    obtain ⟨h1, h2⟩ := foldl_min_le as (if b < a then b else a)
    rw [List.foldl_cons]
    refine ⟨?_, fun y hy => ?_⟩
    · by_cases z : b < a
      · rw [if_pos z] at h1 ⊢; omega
      · rw [if_neg z] at h1 ⊢; exact h1
    · rcases List.mem_cons.mp hy with q | q
      · subst q
        by_cases z : y < a
        · rw [if_pos z] at h1 ⊢; exact h1
        · rw [if_neg z] at h1 ⊢; omega
      · exact h2 y q
theorem foldl_max_mem : ∀ (as : List Int) (a : Int), as.foldl (fun m b => if b > m then b else m) a ∈ a :: as
  | [], a => List.mem_cons_self
  | b :: as, a => by
    rw [List.foldl_cons]
    rcases List.mem_cons.mp (foldl_max_mem as (if b > a then b else a)) with q | q
    · rw [q]; split
      · exact List.mem_cons_of_mem _ List.mem_cons_self
      · exact List.mem_cons_self
    · exact List.mem_cons_of_mem _ (List.mem_cons_of_mem _ q)
theorem foldl_min_mem : ∀ (as : List Int) (a : Int), as.foldl (fun m b => if b < m then b else m) a ∈ a :: as
  | [], a => List.mem_cons_self
  | b :: as, a => by
    rw [List.foldl_cons]
    rcases List.mem_cons.mp (foldl_min_mem as (if b < a then b else a)) with q | q
    · rw [q]; split
      · exact List.mem_cons_of_mem _ List.mem_cons_self
      · exact List.mem_cons_self
    · exact List.mem_cons_of_mem _ (List.mem_cons_of_mem _ q)
theorem maxI_spec {ns : List Int} {m : Int} (h : maxI ns = some m) : m ∈ ns ∧ ∀ y ∈ ns, y ≤ m := by
  cases ns with
  | nil => cases h
  | cons a as =>
    cases h
    exact ⟨foldl_max_mem as a, fun y hy => by
      rcases List.mem_cons.mp hy with q | q
      · subst q; exact (foldl_max_le as y).1
      · exact (foldl_max_le as a).2 y q⟩
theorem minI_spec {ns : List Int} {m : Int} (h : minI ns = some m) : m ∈ ns ∧ ∀ y ∈ ns, m ≤ y := by
  cases ns with
  | nil => cases h
  | cons a as =>
    cases h
    exact ⟨foldl_min_mem as a, fun y hy => by
      rcases List.mem_cons.mp hy with q | q
      · subst q; exact (foldl_min_le as y).1
      · exact (foldl_min_le as a).2 y q⟩
def cMax : OC := fun vs h => onL h vs fun xs => match intsOf xs with
  | some bs => match maxI bs with
    | some m => .ok (.int m) h
    | none => .bad
  | none => .bad
def cMin : OC := fun vs h => onL h vs fun xs => match intsOf xs with
  | some bs => match minI bs with
    | some m => .ok (.int m) h
    | none => .bad
  | none => .bad
theorem onL_ok {L : Addr → Prop} {φ : Mp} {H : Hp} {h : Hv} {vs : List Val} {xs : List V} {k : List Val → R Val} {P : Val → Hv → Prop} {E : Ex → Hv → Prop} (s : Sim Γ L φ h H) (r : RvL Γ L φ H vs xs) (p : PR (onL h vs k) P E) :
    ∃ a ys zs, xs = [V.ref a] ∧ RdK Γ.K H a zs ∧ RvL Γ L φ H ys zs ∧ PR (k ys) P E := by
  unfold onL at p
  split at p
  · obtain ⟨x, rfl, r1⟩ := rvl1 r
    split at p
    · rename_i ys e
      obtain ⟨a, zs, rfl, q1, q2, _⟩ := asL_ok s r1 e
      exact ⟨a, ys, zs, rfl, q1, q2, p⟩
    · exact p.elim
  · exact p.elim
theorem p_all : OpC Γ cAll (rAll Γ.K) := by
  intro L φ h H vs xs Q s r p
  obtain ⟨a, ys, zs, rfl, q1, q2, p⟩ := onL_ok s r p
  split at p
  · rename_i bs e
    have q1' : RdK Γ.K H a (bs.map V.bl) := by rw [← blsOf_ok q2 e]; exact q1
    exact ⟨a, bs, rfl, q1'.sq, OkV.here p s mk_bl⟩
  · exact p.elim
theorem p_any : OpC Γ cAny (rAny Γ.K) := by
  intro L φ h H vs xs Q s r p
  obtain ⟨a, ys, zs, rfl, q1, q2, p⟩ := onL_ok s r p
  split at p
  · rename_i bs e
    have q1' : RdK Γ.K H a (bs.map V.bl) := by rw [← blsOf_ok q2 e]; exact q1
    exact ⟨a, bs, rfl, q1'.sq, OkV.here p s mk_bl⟩
  · exact p.elim
theorem p_sum : OpC Γ cSum (rSum Γ.K) := by
  intro L φ h H vs xs Q s r p
  obtain ⟨a, ys, zs, rfl, q1, q2, p⟩ := onL_ok s r p
  split at p
  · rename_i bs e
    have q1' : RdK Γ.K H a (bs.map V.int) := by rw [← intsOf_ok q2 e]; exact q1
    exact ⟨a, bs, rfl, q1'.sq, OkV.here p s mk_int⟩
  · exact p.elim
theorem p_max : OpC Γ cMax (rMax Γ.K) := by
  intro L φ h H vs xs Q s r p
  obtain ⟨a, ys, zs, rfl, q1, q2, p⟩ := onL_ok s r p
  split at p
  · rename_i bs e
    split at p
    · rename_i m em
      have q1' : RdK Γ.K H a (bs.map V.int) := by rw [← intsOf_ok q2 e]; exact q1
      obtain ⟨m1, m2⟩ := maxI_spec em
      refine ⟨a, bs, rfl, q1'.sq, List.length_pos_of_mem m1, fun m' h1 h2 => ?_⟩
      have : m' = m := by have a1 := m2 m' h1; have a2 := h2 m m1; omega
      rw [this]
      exact OkV.here p s mk_int
    · exact p.elim
  · exact p.elim
theorem p_min : OpC Γ cMin (rMin Γ.K) := by
  intro L φ h H vs xs Q s r p
  obtain ⟨a, ys, zs, rfl, q1, q2, p⟩ := onL_ok s r p
  split at p
  · rename_i bs e
    split at p
    · rename_i m em
      have q1' : RdK Γ.K H a (bs.map V.int) := by rw [← intsOf_ok q2 e]; exact q1
      obtain ⟨m1, m2⟩ := minI_spec em
      refine ⟨a, bs, rfl, q1'.sq, List.length_pos_of_mem m1, fun m' h1 h2 => ?_⟩
      have : m' = m := by have a1 := m2 m' h1; have a2 := h2 m m1; omega
      rw [this]
      exact OkV.here p s mk_int
    · exact p.elim
  · exact p.elim
theorem onL_ne {h : Hv} {vs : List Val} {k : List Val → R Val} {e : Ex} {g : Hv} (hk : ∀ ys, k ys ≠ .err e g) : onL h vs k ≠ .err e g := by
  intro q
  unfold onL at q
  split at q
  · split at q
    · exact hk _ q
    · cases q
  · cases q
theorem n_all : NoErrC cAll := fun vs h e g => onL_ne fun ys q => by split at q <;> cases q
theorem n_any : NoErrC cAny := fun vs h e g => onL_ne fun ys q => by split at q <;> cases q
theorem n_sum : NoErrC cSum := fun vs h e g => onL_ne fun ys q => by split at q <;> cases q
theorem n_max : NoErrC cMax := fun vs h e g => onL_ne fun ys q => by
  split at q
  · split at q <;> cases q
  · cases q
theorem n_min : NoErrC cMin := fun vs h e g => onL_ne fun ys q => by
  split at q
  · split at q <;> cases q
  · cases q
/-- int of a number, of a truth -/
def cInt : OC := fun vs h => match vs with
  | [.int i] => .ok (.int i) h
  | [.bl b] => .ok (.int (if b then 1 else 0)) h
  | _ => .bad
theorem p_intN : OpC Γ cInt (fun xs H Q => (∃ i, xs = [.int i] ∧ Q (.int i) H) ∨ ∃ k, xs = [.bl k] ∧ Q (.int (if k then 1 else 0)) H) := by
  intro L φ h H vs xs Q s r p
  unfold cInt at p
  split at p
  · obtain ⟨x, rfl, r1⟩ := rvl1 r
    rw [rv_int r1]
    exact .inl ⟨_, rfl, OkV.here p s mk_int⟩
  · obtain ⟨x, rfl, r1⟩ := rvl1 r
    rw [rv_bl r1]
    exact .inr ⟨_, rfl, OkV.here p s mk_int⟩
  · exact p.elim
theorem n_intN : NoErrC cInt := by
  intro vs h e g q
  unfold cInt at q
  split at q <;> cases q
/-- list(..): a list, a tuple; of a dict its keys; made a list that never changes again, or one of the heap -/
def seqOf (h : Hv) (v : Val) : Option (List Val) := match v with
  | .tup xs => some xs
  | v => asL h v
def cList : OC := fun vs h => match vs with
  | [v] => (match seqOf h v with
    | some xs => .ok (.lst xs) h
    | none => .bad)
  | _ => .bad
def cListA : OC := fun vs h => match vs with
  | [v] => (match seqOf h v with
    | some xs => .ok (.ref h.length) (h ++ [.lst xs])
    | none => .bad)
  | _ => .bad
theorem seqOf_ok {L : Addr → Prop} {φ : Mp} {H : Hp} {h : Hv} {v : Val} {x : V} {vs : List Val} (s : Sim Γ L φ h H) (r : Rv Γ L φ H v x) (e : seqOf h v = some vs) :
    ∃ a xs, x = .ref a ∧ (SqL Γ.K H a xs ∨ SqT Γ.K H a xs) ∧ RvL Γ L φ H vs xs := by
  unfold seqOf at e
  split at e
  · cases e
    obtain ⟨a, ys, rfl, _, q1, q2⟩ := asT_ok r rfl
    exact ⟨a, ys, rfl, .inr q1, q2⟩
  · obtain ⟨a, ys, rfl, q1, q2, _⟩ := asL_ok s r e
    exact ⟨a, ys, rfl, .inl q1.sq, q2⟩
def rListO (K : PySem.W.Frag) : List V → Hp → VK → Prop := fun xs H Q => ∃ p ys, xs = [.ref p] ∧ (SqL K H p ys ∨ SqT K H p ys) ∧ ∀ l, H l = none → Q (.ref l) (upd H l (.lst ys))
theorem p_list : OpC Γ cList (rListO Γ.K) := by
  intro L φ h H vs xs Q s r p
  unfold cList at p
  split at p
  · obtain ⟨x, rfl, r1⟩ := rvl1 r
    split at p
    · rename_i ys e
      obtain ⟨a, zs, rfl, q1, q2⟩ := seqOf_ok s r1 e
      exact ⟨a, zs, rfl, q1, fun l hl => OkV.lst p s q2 hl⟩
    · exact p.elim
  · exact p.elim
theorem p_listA : OpC Γ cListA (rListO Γ.K) := by
  intro L φ h H vs xs Q s r p
  unfold cListA at p
  split at p
  · obtain ⟨x, rfl, r1⟩ := rvl1 r
    split at p
    · rename_i ys e
      obtain ⟨a, zs, rfl, q1, q2⟩ := seqOf_ok s r1 e
      exact ⟨a, zs, rfl, q1, fun l hl => OkV.lstA p s q2 hl⟩
    · exact p.elim
  · exact p.elim
theorem n_list : NoErrC cList := by
  intro vs h e g q
  unfold cList at q
  split at q
  · split at q <;> cases q
  · cases q
theorem n_listA : NoErrC cListA := by
  intro vs h e g q
  unfold cListA at q
  split at q
  · split at q <;> cases q
  · cases q
/-- tuple(a list) -/
def cTuple : OC := fun vs h => match vs with
  | [v] => (match asL h v with
    | some xs => .ok (.tup xs) h
    | none => .bad)
  | _ => .bad
def rTupO (K : PySem.W.Frag) : List V → Hp → VK → Prop := fun xs H Q => ∃ p ys, xs = [.ref p] ∧ ((SqL K H p ys ∧ ∀ l, H l = none → Q (.ref l) (upd H l (.tup ys))) ∨ (SqT K H p ys ∧ Q (.ref p) H))
theorem p_tuple : OpC Γ cTuple (rTupO Γ.K) := by
  intro L φ h H vs xs Q s r p
  unfold cTuple at p
  split at p
  · obtain ⟨x, rfl, r1⟩ := rvl1 r
    split at p
    · rename_i ys e
      obtain ⟨a, zs, rfl, q1, q2, _⟩ := asL_ok s r1 e
      exact ⟨a, zs, rfl, .inl ⟨q1.sq, fun l hl => OkV.tup p s q2 hl⟩⟩
    · exact p.elim
  · exact p.elim
theorem n_tuple : NoErrC cTuple := by
  intro vs h e g q
  unfold cTuple at q
  split at q
  · split at q <;> cases q
  · cases q
/-- dict(d): a copy that never changes again, or one of the heap -/
def cDict : OC := fun vs h => match vs with
  | [v] => (match asD h v with
    | some (ks, xs) => .ok (.dct ks xs) h
    | none => .bad)
  | _ => .bad
def cDictA : OC := fun vs h => match vs with
  | [v] => (match asD h v with
    | some (ks, xs) => .ok (.ref h.length) (h ++ [.dct ks xs])
    | none => .bad)
  | _ => .bad
def rDictO : List V → Hp → VK → Prop := fun xs H Q => ∃ (a : Addr) (kvs : List (Key × V)), xs = [.ref a] ∧ Rd H a (.dK kvs) ∧ ∀ p, H p = none → Q (.ref p) (upd H p (.dK kvs))
theorem p_dict : OpC Γ cDict rDictO := by
  intro L φ h H vs xs Q s r p
  unfold cDict at p
  split at p
  · obtain ⟨x, rfl, r1⟩ := rvl1 r
    split at p
    · rename_i ks ys e
      obtain ⟨a, zs, rfl, q1, q2, q3⟩ := asD_ok s r1 e
      exact ⟨a, zs, rfl, q1, fun l hl => OkV.dct p s q2 q3 hl⟩
    · exact p.elim
  · exact p.elim
theorem p_dictA : OpC Γ cDictA rDictO := by
  intro L φ h H vs xs Q s r p
  unfold cDictA at p
  split at p
  · obtain ⟨x, rfl, r1⟩ := rvl1 r
    split at p
    · rename_i ks ys e
      obtain ⟨a, zs, rfl, q1, q2, q3⟩ := asD_ok s r1 e
      exact ⟨a, zs, rfl, q1, fun l hl => OkV.dctA p s q2 q3 hl⟩
    · exact p.elim
  · exact p.elim
theorem n_dict : NoErrC cDict := by
  intro vs h e g q
  unfold cDict at q
  split at q
  · split at q <;> cases q
  · cases q
theorem n_dictA : NoErrC cDictA := by
  intro vs h e g q
  unfold cDictA at q
  split at q
  · split at q <;> cases q
  · cases q
end
end Eng

set_option Elab.async false
set_option linter.all false
set_option autoImplicit false
set_option maxRecDepth 100000
set_option maxHeartbeats 4000000
/-! The engine, part E: statements, loops, comprehensions. -/
namespace Eng
open PySem L2 PySem.Spec PyProof.Rows

section
variable {Γ : G} {X : Cx} {W : WX} {a b c e : Expr} {f g k : EX} {pos : Pos} {st : Stmt} {sts sts' : List Stmt} {s t : ST} {fb : EB}
def ofR {α : Type} (r : R α) (ρ : Ev) (k : α → Hv → SR) : SR := match r with
  | .ok v h => k v h
  | .err e h => .er e ρ h
  | .bad => .bad
/-- an expression within a statement: what it raises, the statement raises -/
theorem ofR_ok {α : Type} {L : Addr → Prop} {φ : Mp} {H : Hp} {D : Ends} {ρ : Ev} {σ : L2.St} {r : R α} {k : α → Hv → SR} (se : SimE Γ L φ ρ σ H) (p : OkD Γ L φ H W D (ofR r ρ k)) :
    PR r (fun v h' => OkD Γ L φ H W D (k v h')) (OkX Γ L φ H (WE W σ)) := by
  cases r with
  | ok v h' => exact p
  | err e h' => exact fun φ' H' cls d l s x => p φ' H' σ cls d l s (se.mono l) x
  | bad => exact p
def sNil : ST := fun ρ h => .nx ρ h
def sSeq (s t : ST) : ST := fun ρ h => match s ρ h with
  | .nx ρ h => t ρ h
  | r => r
theorem s_snil : PSs X [] (tS Γ W sNil) := PSsw pss_nil <| by
  rintro D σ H ⟨L, φ, ρ, h, se, s, p⟩
  exact p φ H σ (Le.refl _ _) s se
theorem s_seq (h1 : PS X st (tS Γ W s)) (h2 : PSs X sts (tS Γ W t)) : PSs X (st :: sts) (tS Γ W (sSeq s t)) := PSsw (pss_cons h1 h2) <| by
  rintro D σ H ⟨L, φ, ρ, h, se, sm, p⟩
  refine ⟨L, φ, ρ, h, se, sm, ?_⟩
  unfold sSeq at p
  cases q : s ρ h with
  | nx ρ1 h1 =>
    rw [q] at p
    intro φ' H' σ' l s' se'
    exact ⟨L, φ', ρ1, h1, se', s', OkD.mono l p⟩
  | rt v h1 => rw [q] at p; exact p
  | bk v h1 => rw [q] at p; exact p
  | ct v h1 => rw [q] at p; exact p
  | er e v h1 => rw [q] at p; exact p
  | bad => rw [q] at p; exact p
theorem s_last (h1 : PS X st (tS Γ W s)) : PSs X [st] (tS Γ W s) := pss_one h1
def sPass : ST := fun ρ h => .nx ρ h
theorem s_pass : PS X (.Pass pos) (tS Γ W sPass) := PSw ps_pass <| by
  rintro D σ H ⟨L, φ, ρ, h, se, s, p⟩
  exact p φ H σ (Le.refl _ _) s se
/-- a statement that is never come to -/
def sBad : ST := fun _ _ => .bad
theorem s_bad : PS X st (tS Γ W sBad) := PSw ps_never <| by
  rintro D σ H ⟨L, φ, ρ, h, se, s, p⟩
  exact p
theorem s_bads : PSs X sts (tS Γ W sBad) := PSsw pss_never <| by
  rintro D σ H ⟨L, φ, ρ, h, se, s, p⟩
  exact p
def sExpr (f : EX) : ST := fun ρ h => ofR (f ρ h) ρ fun _ h => .nx ρ h
theorem s_expr (he : PE X e (tE Γ W f)) (hs : swapsWith e none pos.line X.env = pure false := by rfl) : PS X (.Expr e pos) (tS Γ W (sExpr f)) := PSw (ps_expr he hs) <| by
  rintro D σ H ⟨L, φ, ρ, h, se, s, p⟩
  refine ⟨L, φ, ρ, h, se, s, ?_⟩
  refine (ofR_ok se p).mono (fun v h1 q => ?_) fun _ _ q => q
  intro φ' H' x l s' r
  exact q φ' H' σ l s' (se.mono l)
def sRet (f : EX) : ST := fun ρ h => ofR (f ρ h) ρ fun v h => .rt v h
theorem s_ret (he : PE X e (tE Γ W f)) : PS X (.Return (some e) pos) (tS Γ W (sRet f)) := PSw (ps_ret he) <| by
  rintro D σ H ⟨L, φ, ρ, h, se, s, p⟩
  refine ⟨L, φ, ρ, h, se, s, ?_⟩
  exact (ofR_ok se p).mono (fun v h1 q => q) fun _ _ q => q
def sRetN : ST := fun _ h => .rt .non h
theorem s_retN : PS X (.Return none pos) (tS Γ W sRetN) := PSw ps_retN <| by
  rintro D σ H ⟨L, φ, ρ, h, se, s, p⟩
  exact OkV.here p s mk_non
def sIf (c : EB) (s t : ST) : ST := fun ρ h => ofR (c ρ h) ρ fun b h => if b then s ρ h else t ρ h
theorem s_sif (hc : PT X c (tT Γ W fb)) (ha : PSs X sts (tS Γ W s)) (hb : PSs X sts' (tS Γ W t)) : PS X (.If c sts sts' pos) (tS Γ W (sIf fb s t)) := PSw (ps_if hc ha hb) <| by
  rintro D σ H ⟨L, φ, ρ, h, se, sm, p⟩
  refine ⟨L, φ, ρ, h, se, sm, ?_⟩
  refine (ofR_ok se p).mono (fun b h1 q => ?_) fun _ _ q => q
  intro φ' H' l s'
  cases b with
  | true => rw [if_pos rfl] at q ⊢; exact ⟨L, φ', ρ, h1, se.mono l, s', OkD.mono l q⟩
  | false => rw [if_neg Bool.false_ne_true] at q ⊢; exact ⟨L, φ', ρ, h1, se.mono l, s', OkD.mono l q⟩

/-! ### targets -/
abbrev TGt := Val → Ev → Hv → Option (Ev × Hv)
abbrev TGs_ := List Val → Ev → Hv → Option (Ev × Hv)
def PG_ (o : Option (Ev × Hv)) (P : Ev → Hv → Prop) : Prop := match o with
  | some (ρ, h) => P ρ h
  | none => False
def tG (Γ : G) (g : TGt) : TG := fun x σ H Q => ∃ L φ ρ h v, SimE Γ L φ ρ σ H ∧ Sim Γ L φ h H ∧ Rv Γ L φ H v x ∧ PG_ (g v ρ h) (OkS Γ L φ H Q)
def tGs (Γ : G) (g : TGs_) : TGs := fun xs σ H Q => ∃ L φ ρ h vs, SimE Γ L φ ρ σ H ∧ Sim Γ L φ h H ∧ RvL Γ L φ H vs xs ∧ PG_ (g vs ρ h) (OkS Γ L φ H Q)
theorem PGw {tg : Expr} {t t' : TG} (p : PG X tg t) (h : ∀ v σ H Q, t' v σ H Q → t v σ H Q) : PG X tg t' := ⟨fun pins s σ H v u Q I r q => p.run pins s σ H v u Q I r (h v σ H Q q)⟩
theorem PGsw {tg : List Expr} {t t' : TGs} (p : PGs X tg t) (h : ∀ v σ H Q, t' v σ H Q → t v σ H Q) : PGs X tg t' := ⟨fun pins s σ H v u Q I r q => p.run pins s σ H v u Q I r (h v σ H Q q)⟩
def gNm (i : Nat) : TGt := fun v ρ h => some (ρ.set i (some v), h)
theorem s_gnm {i : Nat} (p : PG X e (gName i)) : PG X e (tG Γ (gNm i)) := PGw p <| by
  rintro x σ H Q ⟨L, φ, ρ, h, v, se, s, r, q⟩
  exact q φ H _ (Le.refl _ _) s (se.set i r)
def gN : TGs_ := fun vs ρ h => match vs with
  | [] => some (ρ, h)
  | _ => none
def gC (g : TGt) (gs : TGs_) : TGs_ := fun vs ρ h => match vs with
  | v :: vs => (g v ρ h).bind fun p => gs vs p.1 p.2
  | [] => none
theorem s_gn : PGs X [] (tGs Γ gN) := PGsw pgs_nil <| by
  rintro xs σ H Q ⟨L, φ, ρ, h, vs, se, s, r, q⟩
  unfold gN at q
  cases vs with
  | nil =>
    unfold RvL at r
    exact ⟨r, q φ H σ (Le.refl _ _) s se⟩
  | cons v vs => exact q.elim
theorem s_gc {es : List Expr} {g : TGt} {gs : TGs_} (h1 : PG X e (tG Γ g)) (h2 : PGs X es (tGs Γ gs)) (hs : (assignEach (e :: es) X.env).map (·.2) = assign e X.env :: (assignEach es X.env).map (·.2) := by rfl) : PGs X (e :: es) (tGs Γ (gC g gs)) := PGsw (pgs_cons h1 h2 hs) <| by
  rintro xs σ H Q ⟨L, φ, ρ, h, vs, se, s, r, q⟩
  unfold gC at q
  cases vs with
  | nil => exact q.elim
  | cons v vs =>
    unfold RvL at r
    obtain ⟨y, ys, rfl, r1, r2⟩ := r
    refine ⟨y, ys, rfl, L, φ, ρ, h, v, se, s, r1, ?_⟩
    dsimp only at q
    cases z : g v ρ h with
    | none => rw [z] at q; exact q.elim
    | some pr =>
      obtain ⟨ρ1, h1⟩ := pr
      rw [z] at q
      intro φ' H' σ' l s' se'
      refine ⟨L, φ', ρ1, h1, vs, se', s', r2.mono l, ?_⟩
      have q' : PG_ (gs vs ρ1 h1) (OkS Γ L φ H Q) := q
      cases z2 : gs vs ρ1 h1 with
      | none => rw [z2] at q'; exact q'.elim
      | some pr2 => rw [z2] at q'; exact OkS.mono l q'
def gTp (n : Nat) (gs : TGs_) : TGt := fun v ρ h => match asT v with
  | some vs => if vs.length = n then gs vs ρ h else none
  | none => none
theorem s_gtup {es : List Expr} {k : Nat} {n : Nat} {gs : TGs_} (hc : X.calm = true) (hK : X.K = Γ.K) (h : PGs X es (tGs Γ gs)) (hn : (assignEach es X.env).length = n := by rfl) (hst : (assignEach es X.env).findIdx? (·.1) = none := by rfl) : PG X (.Tuple es k pos) (tG Γ (gTp n gs)) := PGw (pg_tup hc h hn hst) <| by
  rintro x σ H Q ⟨L, φ, ρ, h, v, se, s, r, q⟩
  unfold gTp at q
  split at q
  · rename_i vs e
    obtain ⟨a, xs, rfl, _, q1, q2⟩ := asT_ok r e
    split at q
    · rename_i hl
      exact ⟨a, xs, rfl, hK ▸ q1, by rw [← q2.length]; exact hl, L, φ, ρ, h, vs, se, s, q2, q⟩
    · exact q.elim
  · exact q.elim
def gLs (n : Nat) (gs : TGs_) : TGt := fun v ρ h => match asL h v with
  | some vs => if vs.length = n then gs vs ρ h else none
  | none => none
theorem s_glst {es : List Expr} {k : Nat} {n : Nat} {gs : TGs_} (hc : X.calm = true) (hK : X.K = Γ.K) (h : PGs X es (tGs Γ gs)) (hn : (assignEach es X.env).length = n := by rfl) (hst : (assignEach es X.env).findIdx? (·.1) = none := by rfl) : PG X (.Tuple es k pos) (tG Γ (gLs n gs)) := PGw (pg_lst hc h hn hst) <| by
  rintro x σ H Q ⟨L, φ, ρ, h, v, se, s, r, q⟩
  unfold gLs at q
  split at q
  · rename_i vs e
    obtain ⟨a, xs, rfl, q1, q2, _⟩ := asL_ok s r e
    split at q
    · rename_i hl
      exact ⟨a, xs, rfl, by rw [hK]; exact q1.sq, by rw [← q2.length]; exact hl, L, φ, ρ, h, vs, se, s, q2, q⟩
    · exact q.elim
  · exact q.elim
def ofG (o : Option (Ev × Hv)) : SR := match o with
  | some (ρ, h) => .nx ρ h
  | none => .bad
def sAsg (f : EX) (g : TGt) : ST := fun ρ h => ofR (f ρ h) ρ fun v h => ofG (g v ρ h)
theorem rd_asg {g : TGt} : ∀ D σ H, tS Γ W (sAsg f g) D σ H → tAsg (tE Γ W f) (tG Γ g) D σ H := by
  rintro D σ H ⟨L, φ, ρ, h, se, s, p⟩
  refine ⟨L, φ, ρ, h, se, s, ?_⟩
  refine (ofR_ok se p).mono (fun v h1 q => ?_) fun _ _ q => q
  intro φ' H' x l s' r
  refine ⟨L, φ', ρ, h1, v, se.mono l, s', r, ?_⟩
  cases z : g v ρ h1 with
  | none => rw [z] at q; exact q.elim
  | some pr => rw [z] at q; exact OkS.mono l q
theorem s_asg {tg : Expr} {g : TGt} (he : PE X e (tE Γ W f)) (hg : PG X tg (tG Γ g)) (hs : swapsWithSole [tg] e pos.line X.env = pure false := by rfl) (hw : swappedStores [tg] e X.env = pure none := by rfl)
    (h1 : (assignEach [tg] X.env).map (·.2) = [assign tg X.env] := by rfl) : PS X (.Assign [tg] e pos) (tS Γ W (sAsg f g)) := PSw (ps_asg he hg hs hw h1) rd_asg
def sSet (i : Nat) (f : EX) : ST := fun ρ h => ofR (f ρ h) ρ fun v h => .nx (ρ.set i (some v)) h
theorem rd_set {i : Nat} : ∀ D σ H, tS Γ W (sSet i f) D σ H → tAsg (tE Γ W f) (gName i) D σ H := by
  rintro D σ H ⟨L, φ, ρ, h, se, s, p⟩
  refine ⟨L, φ, ρ, h, se, s, ?_⟩
  refine (ofR_ok se p).mono (fun v h1 q => ?_) fun _ _ q => q
  intro φ' H' x l s' r
  exact q φ' H' _ l s' ((se.mono l).set i r)
theorem s_set {i : Nat} {x : Str} {pos' : Pos} (hN : X.N.Nodup) (hi : X.N[i]? = some x) (hx : Loc X.env.scope x) (he : PE X e (tE Γ W f)) (hs : swapsWith e (some (.Name x pos')) pos.line X.env = pure false := by rfl) (hf : X.fn x = true ∨ X.env.scope.names.lookup x = some .local := by first | exact .inl rfl | exact .inr rfl | assumption) :
    PS X (.Assign [.Name x pos'] e pos) (tS Γ W (sSet i f)) := PSw (ps_set hN hi hx he hs hf) rd_set
/-- a, b = x, y -/
def sPar (i j : Nat) (f : EA) : ST := fun ρ h => ofR (f ρ h) ρ fun vs h => match vs with
  | [v, w] => .nx ((ρ.set i (some v)).set j (some w)) h
  | _ => .bad
theorem rd_par {i j : Nat} {fa : EA} : ∀ D σ H, tS Γ W (sPar i j fa) D σ H → tPar i j (tA Γ W fa) D σ H := by
  rintro D σ H ⟨L, φ, ρ, h, se, s, p⟩
  refine ⟨L, φ, ρ, h, se, s, ?_⟩
  refine (ofR_ok se p).mono (fun v h1 q => ?_) fun _ _ q => q
  intro φ' H' xs l s' r
  split at q
  · obtain ⟨x, y, rfl, r1, r2⟩ := rvl2 r
    exact ⟨x, y, rfl, q φ' H' _ l s' (((se.mono l).set i r1).set j r2)⟩
  · exact q.elim
theorem s_par {i j : Nat} {x y : Str} {fa : EA} {px py pt : Pos} {kt k2 pt2} (hc : X.calm = true) (hN : X.N.Nodup) (hi : X.N[i]? = some x) (hj : X.N[j]? = some y) (hij : i ≠ j)
    (hx : X.env.scope.names.lookup x = some .local) (hy : X.env.scope.names.lookup y = some .local) (ha : PA X [a, b] (tA Γ W fa))
    (hw : swappedStores [.Tuple [.Name x px, .Name y py] kt pt] (.Tuple [a, b] k2 pt2) X.env = pure (some [x, y]))
    (hs : swapsWithSole [.Tuple [.Name x px, .Name y py] kt pt] (.Tuple [a, b] k2 pt2) pos.line X.env = pure false := by rfl) :
    PS X (.Assign [.Tuple [.Name x px, .Name y py] kt pt] (.Tuple [a, b] k2 pt2) pos) (tS Γ W (sPar i j fa)) := PSw (ps_par hc hN hi hj hij hx hy ha hw hs) rd_par
/-- n += e, n -= e of whole numbers -/
def sAug (i : Nat) (op : O2) (f : EX) : ST := fun ρ h => match ρ[i]? with
  | some (some a) => ofR (f ρ h) ρ fun b h => ofR (op a b h) ρ fun v h => .nx (ρ.set i (some v)) h
  | _ => .bad
theorem s_aug {i : Nat} {x : Str} {o : Operator} {op : O2} {r : R2} {pos' : Pos} (hN : X.N.Nodup) (hi : X.N[i]? = some x) (hx : Loc X.env.scope x) (he : PE X e (tE Γ W f)) (hr : PIp X o r) (ho : Op2 Γ op r) (ne : NoErr op) (hf : X.fn x = true ∨ X.env.scope.names.lookup x = some .local := by first | exact .inl rfl | exact .inr rfl | assumption) :
    PS X (.AugAssign (.Name x pos') o e pos) (tS Γ W (sAug i op f)) := PSw (ps_aug hN hi hx he hr hf) <| by
  rintro D σ H ⟨L, φ, ρ, h, se, s, p⟩
  unfold sAug at p
  split at p
  · rename_i v ev
    obtain ⟨x, e1, e2⟩ := se.get i v ev
    refine ⟨x, e1, L, φ, ρ, h, se, s, ?_⟩
    refine (ofR_ok se p).mono (fun b h1 q => ?_) fun _ _ q => q
    intro φ' H' y l s' ry
    refine ho L φ' h1 H' v b x y _ s' (e2.mono l) ry ?_
    have q' := (ofR_ok se q).noE' (ne v b h1)
    refine q'.mono (fun w h2 q2 => ?_) fun _ _ z => z
    intro φ2 H2 z l2 s2 rz
    exact q2 φ2 H2 _ (l.trans l2) s2 ((se.mono (l.trans l2)).set i rz)
  · exact p.elim
theorem i_add : PIp X .Add (rI0 fun i j => .int (i + j)) := iop_add
theorem i_sub : PIp X .Sub (rI0 fun i j => .int (i - j)) := iop_sub
theorem p_addI : Op2 Γ (fun a b h => match a, b with | .int i, .int j => .ok (.int (i + j)) h | _, _ => .bad) (rI0 fun i j => .int (i + j)) := by
  intro L φ h H a b x y Q s ra rb p
  dsimp only at p
  split at p
  · exact ⟨_, _, rv_int ra, rv_int rb, OkV.here p s mk_int⟩
  · exact p.elim
def oAddI : O2 := fun a b h => match a, b with
  | .int i, .int j => .ok (.int (i + j)) h
  | _, _ => .bad
theorem p_addI' : Op2 Γ oAddI (rI0 fun i j => .int (i + j)) := p_addI
theorem n_addI : NoErr oAddI := by
  intro a b h e g q
  unfold oAddI at q
  split at q <;> cases q

/-! ### xs[i] = e, d[k] = e -/
def setAt (h : Hv) (o i v : Val) : Option Hv := match o, i with
  | .ref a, .int k => (match h[a]? with
    | some (.lst xs) => (match ixN xs.length k with
      | some j => some (h.set a (.lst (xs.set j v)))
      | none => none)
    | _ => none)
  | _, _ => none
def sPutL (fo fi f : EX) : ST := fun ρ h => ofR (f ρ h) ρ fun v h => ofR (fo ρ h) ρ fun o h => ofR (fi ρ h) ρ fun i h => match setAt h o i v with
  | some h => .nx ρ h
  | none => .bad
def tGL (Γ : G) (W : WX) (fo fi : EX) (ρ0 : Ev) : Prop := True
theorem s_putL {o i : Expr} {fo fi : EX} {tpos : Pos} (ho : PE X o (tE Γ W fo)) (hi : PE X i (tE Γ W fi)) (hv : PE X e (tE Γ W f))
    (ha : ∀ v, assign (.Subscript o i tpos) X.env v = (do
      let ov ← holding [v] (eval o X.env)
      let iv ← holding [v, ov] (eval i X.env)
      standAt tpos
      holding [v, ov, iv] (setItem ov iv v)
      release [v, ov, iv] []) := by intro _; rfl)
    (hs : swapsWithSole [.Subscript o i tpos] e pos.line X.env = pure false := by rfl) (hw : swappedStores [.Subscript o i tpos] e X.env = pure none := by rfl)
    (h1 : (assignEach [.Subscript o i tpos] X.env).map (·.2) = [assign (.Subscript o i tpos) X.env] := by rfl) :
    PS X (.Assign [.Subscript o i tpos] e pos) (tS Γ W (sPutL fo fi f)) := PSw (ps_asg hv (pg_sub ho hi set_list ha) hs hw h1) <| by
  rintro D σ H ⟨L, φ, ρ, h, se, s, p⟩
  refine ⟨L, φ, ρ, h, se, s, ?_⟩
  refine (ofR_ok se p).mono (fun v h1 q => ?_) fun _ _ q => q
  intro φ1 H1 x l1 s1 r1
  refine ⟨L, φ1, ρ, h1, se.mono l1, s1, ?_⟩
  refine (ofR_ok se q).mono (fun o h2 q2 => ?_) fun _ _ q => OkX.mono l1 q
  intro φ2 H2 y l2 s2 r2
  refine ⟨L, φ2, ρ, h2, se.mono (l1.trans l2), s2, ?_⟩
  refine (ofR_ok se q2).mono (fun i h3 q3 => ?_) fun _ _ q => OkX.mono (l1.trans l2) q
  intro φ3 H3 z l3 s3 r3
  unfold setAt at q3
  split at q3
  · rename_i h4 e4
    split at e4
    · rename_i a k
      split at e4
      · rename_i xs e5
        split at e4
        · rename_i j e6
          cases e4
          rcases s3.live _ _ e5 with q | ⟨A, z1, ys, z2, z3⟩
          · cases q
          · have r2' := r2.mono l3
            unfold Rv at r2'
            obtain ⟨oo, o1, o2⟩ := r2'
            rw [z1] at o1
            cases o1
            have r1' := r1.mono (l2.trans l3)
            refine ⟨A, ys, k, j, o2 A rfl, rv_int r3, z2, by rw [← z3.length]; exact e6, ?_⟩
            have m := List.mem_of_getElem? z1
            refine q3 φ3 _ σ (((l1.trans l2).trans l3).trans (Le.write m)) (s3.write z1 ⟨ys.set j x, upd_same, ?_⟩) ((se.mono ((l1.trans l2).trans l3)).mono (Le.write m))
            exact (z3.mono (Le.write m)).set j (r1'.mono (Le.write m))
        · cases e4
      · cases e4
    · cases e4
  · exact q3.elim
/-- no key stands twice -/
def ndB : List Key → Bool
  | [] => true
  | k :: ks => ks.all (fun x => decide (x ≠ k)) && ndB ks
theorem ndB_ok : ∀ {ks : List Key}, ndB ks = true → ks.Nodup
  | [], _ => List.nodup_nil
  | k :: ks, h => by
    obtain ⟨h1, h2⟩ := Bool.and_eq_true_iff.mp (show (ks.all (fun x => decide (x ≠ k)) && ndB ks) = true from h)
    exact List.nodup_cons.mpr ⟨fun m => of_decide_eq_true (List.all_eq_true.mp h1 k m) rfl, ndB_ok h2⟩
def setD (h : Hv) (o i v : Val) : Option Hv := match o, keyOf i with
  | .ref a, some k => (match h[a]? with
    | some (.dct ks vs) => if ndB ks && decide (ks.length < 1000000) then some (h.set a (.dct (putD ks vs k v).1 (putD ks vs k v).2)) else none
    | _ => none)
  | _, _ => none
def sPutD (fo fi f : EX) : ST := fun ρ h => ofR (f ρ h) ρ fun v h => ofR (fo ρ h) ρ fun o h => ofR (fi ρ h) ρ fun i h => match setD h o i v with
  | some h => .nx ρ h
  | none => .bad
theorem s_putD {o i : Expr} {fo fi : EX} {tpos : Pos} (ok : Ok Γ X W) (ho : PE X o (tE Γ W fo)) (hi : PE X i (tE Γ W fi)) (hv : PE X e (tE Γ W f))
    (hs : swapsWith e (some (.Subscript o i tpos)) pos.line X.env = pure false := by rfl) :
    PS X (.Assign [.Subscript o i tpos] e pos) (tS Γ W (sPutD fo fi f)) := PSw (ps_dput (by have := ok.un; omega) ho hi hv hs) <| by
  rintro D σ H ⟨L, φ, ρ, h, se, s, p⟩
  refine ⟨L, φ, ρ, h, se, s, ?_⟩
  refine (ofR_ok se p).mono (fun v h1 q => ?_) fun _ _ q => q
  intro φ1 H1 x l1 s1 r1
  refine ⟨L, φ1, ρ, h1, se.mono l1, s1, ?_⟩
  refine (ofR_ok se q).mono (fun o h2 q2 => ?_) fun _ _ q => OkX.mono l1 q
  intro φ2 H2 y l2 s2 r2
  refine ⟨L, φ2, ρ, h2, se.mono (l1.trans l2), s2, ?_⟩
  refine (ofR_ok se q2).mono (fun i h3 q3 => ?_) fun _ _ q => OkX.mono (l1.trans l2) q
  intro φ3 H3 z l3 s3 r3
  unfold setD at q3
  split at q3
  · rename_i h4 e4
    split at e4
    · rename_i a k ek
      split at e4
      · rename_i ks vs e5
        split at e4
        · rename_i hnd
          obtain ⟨n1, n2⟩ := Bool.and_eq_true_iff.mp hnd
          cases e4
          rcases s3.live _ _ e5 with q | ⟨A, z1, kvs, z2, z3, z4⟩
          · cases q
          · have r2' := r2.mono l3
            unfold Rv at r2'
            obtain ⟨oo, o1, o2⟩ := r2'
            rw [z1] at o1
            cases o1
            have r1' := r1.mono (l2.trans l3)
            have hl : kvs.length < sizeLine := by
              have e : kvs.length = ks.length := by rw [← z3, List.length_map]
              have := of_decide_eq_true n2
              have := sizeLine_eq
              omega
            refine ⟨A, _, o2 A rfl, .inl ⟨kvs, k, z2, keyOf_ok r3 ek, hl, rfl⟩, ?_⟩
            have m := List.mem_of_getElem? z1
            obtain ⟨w1, w2⟩ := putD_ok (r1'.mono (Le.write (u := .dK (putK kvs k x)) m)) (ndB_ok n1) z3 (z4.mono (Le.write m))
            exact q3 φ3 _ σ (((l1.trans l2).trans l3).trans (Le.write m)) (s3.write z1 ⟨putK kvs k x, upd_same, w1, w2⟩) ((se.mono ((l1.trans l2).trans l3)).mono (Le.write m))
        · cases e4
      · cases e4
    · cases e4
  · exact q3.elim

/-! ### while -/
def whileN : Nat → EB → ST → ST
  | 0, _, _ => fun _ _ => .bad
  | n + 1, c, s => fun ρ h => ofR (c ρ h) ρ fun b h => if b then (match s ρ h with
    | .nx ρ h => whileN n c s ρ h
    | .ct ρ h => whileN n c s ρ h
    | .bk ρ h => .nx ρ h
    | r => r) else .nx ρ h
/-- fu: how many turns there may be -/
def sWhile (fu : Ev → Hv → Nat) (c : EB) (s : ST) : ST := fun ρ h => whileN (fu ρ h) c s ρ h
theorem s_while {fu : Ev → Hv → Nat} {body : List Stmt} (ok : Ok Γ X W) (hc : PT X c (tT Γ W fb)) (hb : PSs X body (tS Γ W s)) : PS X (.While c body [] pos) (tS Γ W (sWhile fu fb s)) := PSw (ps_while ok.po hc hb) <| by
  rintro D σ H ⟨L, φ, ρ, h, se, sm, p⟩
  refine ⟨fun m σ1 H1 => ∃ φ1 ρ1 h1, Le φ H φ1 H1 ∧ SimE Γ L φ1 ρ1 σ1 H1 ∧ Sim Γ L φ1 h1 H1 ∧ OkD Γ L φ1 H1 W D (whileN m fb s ρ1 h1), ⟨fu ρ h, φ, ρ, h, Le.refl _ _, se, sm, p⟩, ?_⟩
  rintro m σ1 H1 ⟨φ1, ρ1, h1, l1, se1, sm1, p1⟩
  cases m with
  | zero => exact p1.elim
  | succ m =>
    refine ⟨L, φ1, ρ1, h1, se1, sm1, ?_⟩
    refine (ofR_ok se1 p1).mono (fun b h2 q => ?_) fun _ _ q => q
    intro φ2 H2 l2 s2
    cases b with
    | true =>
      rw [if_pos rfl] at q ⊢
      refine ⟨fun σ' H' => ∃ φ1 ρ1 h1, Le φ H φ1 H' ∧ SimE Γ L φ1 ρ1 σ' H' ∧ Sim Γ L φ1 h1 H' ∧ OkD Γ L φ1 H' W D (whileN m fb s ρ1 h1), fun σ' H' z => ⟨m, Nat.lt_succ_self _, z⟩, L, φ2, ρ1, h2, se1.mono l2, s2, ?_⟩
      cases w : s ρ1 h2 with
      | nx ρ3 h3 => rw [w] at q; intro φ3 H3 σ3 l3 s3 se3; exact ⟨φ3, ρ3, h3, (l1.trans l2).trans l3, se3, s3, OkD.mono (l2.trans l3) q⟩
      | ct ρ3 h3 => rw [w] at q; intro φ3 H3 σ3 l3 s3 se3; exact ⟨φ3, ρ3, h3, (l1.trans l2).trans l3, se3, s3, OkD.mono (l2.trans l3) q⟩
      | bk ρ3 h3 => rw [w] at q; exact OkS.mono l2 q
      | rt v h3 => rw [w] at q; exact OkV.mono l2 q
      | er x v h3 => rw [w] at q; exact OkW.mono l2 q
      | bad => rw [w] at q; exact q
    | false =>
      rw [if_neg Bool.false_ne_true] at q ⊢
      exact q φ2 H2 σ1 l2 s2 (se1.mono l2)

/-! ### what is walked -/
/-- J yields just vs, whatever happens meanwhile -/
def ItR (Γ : G) (L : Addr → Prop) (φ : Mp) (H : Hp) (vs : List Val) (J : It) : Prop :=
  ∀ (i : Nat) (L1 : Addr → Prop) (φ1 : Mp) (H1 : Hp) (h1 : Hv), LTo L L1 H → Le φ H φ1 H1 → Sim Γ L1 φ1 h1 H1 →
    (∀ v, vs[i]? = some v → J.go i H1 ∧ ∀ x H2, J.yld i H1 x H2 → Le φ1 H1 φ1 H2 ∧ Sim Γ L1 φ1 h1 H2 ∧ Rv Γ L1 φ1 H2 v x) ∧ (i = vs.length → J.stop i H1)
theorem LstAt.toL {L L1 : Addr → Prop} {φ : Mp} {H : Hp} {a : Addr} {xs : List V} (e : LTo L L1 H) (h : LstAt Γ L φ H a xs) : LstAt Γ L1 φ H a xs := by
  rcases h with h | h
  · refine .inl ⟨h.1, fun z => ?_, h.2.2⟩
    rcases e a z with q | q
    · exact h.2.1 q
    · exact rd_ne h.1 q
  · exact .inr h
theorem LstAt.sq {L : Addr → Prop} {φ : Mp} {H : Hp} {a : Addr} {xs : List V} (h : LstAt Γ L φ H a xs) : SqL Γ.K H a xs := by
  rcases h with h | h
  · exact .inl h.1
  · exact h.sq H
abbrev EI := Ev → Hv → R (List Val)
def tI (Γ : G) (W : WX) (f : EI) : TI := fun σ H Rr => ∃ L φ ρ h, SimE Γ L φ ρ σ H ∧ Sim Γ L φ h H ∧ PR (f ρ h) (fun vs h' => ∀ φ' H' J, Le φ H φ' H' → Sim Γ L φ' h' H' → ItR Γ L φ' H' vs J → Rr J H') (OkX Γ L φ H (WE W σ))
theorem PIw {tg iter : Expr} {t t' : TI} (p : PI X tg iter t) (h : ∀ σ H R, t' σ H R → t σ H R) : PI X tg iter t' := ⟨fun pins s σ H R I q => p.run pins s σ H R I (h σ H R q)⟩
/-- a list: one of the heap is given up -/
def iLst (f : EX) : EI := fun ρ h => (f ρ h).bind fun v h => match v with
  | .lst xs => .ok xs h
  | .ref i => (match h[i]? with
    | some (.lst xs) => .ok xs (h.set i .dead)
    | _ => .bad)
  | _ => .bad
theorem itr_list {L : Addr → Prop} {φ : Mp} {H : Hp} {a : Addr} {xs : List V} {vs : List Val} (hl : LstAt Γ L φ H a xs) (r : RvL Γ L φ H vs xs) : ItR Γ L φ H vs (Itl Γ.K a) := by
  intro i L1 φ1 H1 h1 e1 l1 s1
  have hl1 := (hl.toL e1).mono l1
  have r1 := (r.toL e1).mono l1
  refine ⟨fun v hv => ?_, fun e => ⟨xs, hl1.sq, by rw [← r1.length]; exact Nat.le_of_eq e.symm⟩⟩
  obtain ⟨x, x1, x2⟩ := r1.get hv
  refine ⟨⟨xs, x, hl1.sq, x1⟩, fun y H2 yy => ?_⟩
  obtain ⟨e, yy⟩ := yy
  subst e
  have := yy xs (hl1.sq)
  rw [x1] at this
  cases this
  exact ⟨Le.refl _ _, s1, x2⟩
theorem s_ilst {tg : Expr} (hK : X.K = Γ.K) (he : PE X e (tE Γ W f)) : PI X tg e (tI Γ W (iLst f)) := PIw (pi_list he) <| by
  rintro σ H Q ⟨L, φ, ρ, h, se, s, p⟩
  refine ⟨L, φ, ρ, h, se, s, ?_⟩
  unfold iLst at p
  rw [PR.bind] at p
  refine p.mono (fun v h1 q => ?_) fun _ _ q => q
  intro φ1 H1 x l1 s1 r1
  rw [hK]
  split at q
  · unfold Rv at r1
    obtain ⟨a, xs, rfl, e1, e2⟩ := r1
    exact ⟨a, rfl, ⟨xs, e1.sq⟩, q φ1 H1 _ l1 s1 (itr_list e1 e2)⟩
  · split at q
    · rename_i i xs hi
      rcases s1.live _ _ hi with z | ⟨a, z1, ys, z2, z3⟩
      · cases z
      · unfold Rv at r1
        obtain ⟨o, o1, o2⟩ := r1
        rw [z1] at o1
        cases o1
        refine ⟨a, o2 a rfl, ⟨ys, .inl (.inl z2)⟩, q _ H1 _ (l1.trans Le.kill) (s1.kill _) (itr_list (.inl ⟨.inl z2, (s1.apart a (List.mem_of_getElem? z1)).1, kill_nin s1 z1⟩) (z3.mono Le.kill))⟩
    · exact q.elim
  · exact q.elim
/-- a tuple -/
def iTp (f : EX) : EI := fun ρ h => (f ρ h).bind fun v h => match v with
  | .tup xs => .ok xs h
  | _ => .bad
theorem itr_tup {L : Addr → Prop} {φ : Mp} {H : Hp} {a : Addr} {xs : List V} {vs : List Val} (hl : TupAt Γ L φ H a xs) (r : RvL Γ L φ H vs xs) : ItR Γ L φ H vs (Itt Γ.K a) := by
  intro i L1 φ1 H1 h1 e1 l1 s1
  have hl1 : TupAt Γ L φ1 H1 a xs := hl.mono l1
  have r1 := (r.toL e1).mono l1
  have hq : SqT Γ.K H1 a xs := by
    rcases hl1 with q | q
    · exact .inl q.1
    · exact q H1
  refine ⟨fun v hv => ?_, fun e => ⟨xs, hq, by rw [← r1.length]; exact Nat.le_of_eq e.symm⟩⟩
  obtain ⟨x, x1, x2⟩ := r1.get hv
  refine ⟨⟨xs, x, hq, x1⟩, fun y H2 yy => ?_⟩
  obtain ⟨e, yy⟩ := yy
  subst e
  have := yy xs hq
  rw [x1] at this
  cases this
  exact ⟨Le.refl _ _, s1, x2⟩
theorem s_itup {tg : Expr} (hK : X.K = Γ.K) (he : PE X e (tE Γ W f)) : PI X tg e (tI Γ W (iTp f)) := PIw (pi_tup he) <| by
  rintro σ H Q ⟨L, φ, ρ, h, se, s, p⟩
  refine ⟨L, φ, ρ, h, se, s, ?_⟩
  unfold iTp at p
  rw [PR.bind] at p
  refine p.mono (fun v h1 q => ?_) fun _ _ q => q
  intro φ1 H1 x l1 s1 r1
  rw [hK]
  split at q
  · obtain ⟨a, xs, rfl, e0, e1, e2⟩ := asT_ok r1 rfl
    exact ⟨a, rfl, ⟨xs, e1⟩, q φ1 H1 _ l1 s1 (itr_tup e0 e2)⟩
  · exact q.elim
/-- range(n), range(m, n) -/
def upTo (lo : Int) (n : Nat) : List Val := (List.range n).map fun i => .int (lo + (i : Nat))
def iRg1 (f : EX) : EI := fun ρ h => (f ρ h).bind fun v h => match v with
  | .int j => if -(2 ^ 62) ≤ j ∧ j < 2 ^ 62 then .ok (upTo 0 j.toNat) h else .bad
  | _ => .bad
def iRg2 (f g : EX) : EI := fun ρ h => (f ρ h).bind fun v h => (g ρ h).bind fun u h => match v, u with
  | .int i, .int j => if -(2 ^ 62) ≤ i ∧ i < 2 ^ 62 ∧ -(2 ^ 62) ≤ j ∧ j < 2 ^ 62 then .ok (upTo i (j - i).toNat) h else .bad
  | _, _ => .bad
theorem itr_range {L : Addr → Prop} {φ : Mp} {H : Hp} {lo : Int} {n : Nat} : ItR Γ L φ H (upTo lo n) (Itr lo n) := by
  intro i L1 φ1 H1 h1 e1 l1 s1
  refine ⟨fun v hv => ?_, fun e => ?_⟩
  · unfold upTo at hv
    rw [List.getElem?_map] at hv
    obtain ⟨k, hk, e⟩ := Option.map_eq_some_iff.mp hv
    have hi : i < n := by
      have := (List.getElem?_eq_some_iff.mp hk).1
      simpa using this
    rw [List.getElem?_range hi] at hk
    cases hk
    refine ⟨hi, fun y H2 yy => ?_⟩
    obtain ⟨e1, yy⟩ := yy
    subst e1
    subst e
    rw [yy]
    exact ⟨Le.refl _ _, s1, mk_int⟩
  · have : (upTo lo n).length = n := by simp [upTo]
    rw [this] at e
    exact Nat.le_of_eq e.symm
theorem s_irg1 {tg : Expr} {p : Pos} (hg : Gl X "range") (hm : X.mg "range" = none) (ha : PE X a (tE Γ W f)) (hs : starEach [a] X.env = [(false, eval a X.env)] := by rfl) : PI X tg (.Call (.Name "range" p) [a] [] pos) (tI Γ W (iRg1 f)) :=
  PIw (pi_range1 hg hm (pa_cons ha pa_nil hs) hs) <| by
  rintro σ H Q ⟨L, φ, ρ, h, se, s, p⟩
  refine ⟨L, φ, ρ, h, se, s, ?_⟩
  unfold iRg1 at p
  rw [PR.bind] at p
  refine p.mono (fun v h1 q => ?_) fun _ _ q => q
  intro φ1 H1 x l1 s1 r1
  split at q
  · split at q
    · rename_i hz
      exact ⟨_, by rw [rv_int r1], hz.1, hz.2, q φ1 H1 _ l1 s1 itr_range⟩
    · exact q.elim
  · exact q.elim
theorem s_irg2 {tg : Expr} {p : Pos} (hg : Gl X "range") (hm : X.mg "range" = none) (ha : PE X a (tE Γ W f)) (hb : PE X b (tE Γ W g)) (hs : starEach [a, b] X.env = [(false, eval a X.env), (false, eval b X.env)] := by rfl) (hs2 : starEach [b] X.env = [(false, eval b X.env)] := by rfl) : PI X tg (.Call (.Name "range" p) [a, b] [] pos) (tI Γ W (iRg2 f g)) :=
  PIw (pi_range2 hg hm (pa_cons ha (pa_cons hb pa_nil hs2) (by rw [hs, hs2])) hs hs2) <| by
  rintro σ H Q ⟨L, φ, ρ, h, se, s, p⟩
  refine ⟨L, φ, ρ, h, se, s, ?_⟩
  unfold iRg2 at p
  rw [PR.bind] at p
  refine p.mono (fun v h1 q => ?_) fun _ _ q => q
  intro φ1 H1 x l1 s1 r1
  refine ⟨L, φ1, ρ, h1, se.mono l1, s1, ?_⟩
  rw [PR.bind] at q
  refine q.mono (fun u h2 q2 => ?_) fun _ _ q => OkX.mono l1 q
  intro φ2 H2 y l2 s2 r2
  split at q2
  · split at q2
    · rename_i hz
      exact ⟨_, _, by rw [rv_int (r1.mono l2), rv_int r2], hz, q2 φ2 H2 _ (l1.trans l2) s2 itr_range⟩
    · exact q2.elim
  · exact q2.elim
/-- a text, sign by sign -/
def signsOf (z : Str) : List Val := z.cps.toList.map fun c => .str ⟨#[c]⟩
def iSt (f : EX) : EI := fun ρ h => (f ρ h).bind fun v h => match v with
  | .str z => .ok (signsOf z) h
  | _ => .bad
theorem s_istr {tg : Expr} (ha : PE X a (tE Γ W f)) : PI X tg a (tI Γ W (iSt f)) := PIw (pi_str ha) <| by
  rintro σ H Q ⟨L, φ, ρ, h, se, s, p⟩
  refine ⟨L, φ, ρ, h, se, s, ?_⟩
  unfold iSt at p
  rw [PR.bind] at p
  refine p.mono (fun v h1 q => ?_) fun _ _ q => q
  intro φ1 H1 x l1 s1 r1
  split at q
  · rename_i z
    refine ⟨z, rv_str r1, q φ1 H1 _ l1 s1 ?_⟩
    intro i L2 φ2 H2 h2 e2 l2 s2
    refine ⟨fun v hv => ?_, fun e => ?_⟩
    · unfold signsOf at hv
      rw [List.getElem?_map] at hv
      obtain ⟨k, hk, e⟩ := Option.map_eq_some_iff.mp hv
      have hk' : z.cps[i]? = some k := by rw [← Array.getElem?_toList]; exact hk
      refine ⟨(Array.getElem?_eq_some_iff.mp hk').1, fun y H3 yy => ?_⟩
      obtain ⟨e1, c, e2, e3⟩ := yy
      subst e1
      rw [hk'] at e2
      cases e2
      subst e
      rw [e3]
      exact ⟨Le.refl _ _, s2, mk_str⟩
    · have : (signsOf z).length = z.cps.size := by simp [signsOf]
      rw [this] at e
      exact Nat.le_of_eq e.symm
  · exact q.elim
/-- zip of two lists, enumerate of one: pairs -/
def iZp (f : EA) : EI := fun ρ h => (f ρ h).bind fun vs h => match vs with
  | [.lst xs, .lst ys] => .ok (xs.zipWith (fun x y => .tup [x, y]) ys) h
  | _ => .bad
theorem s_izip {elts : List Expr} {kk : Nat} {tpos p : Pos} {fa : EA} (hK : X.K = Γ.K) (hg : Gl X "zip") (hm : X.mg "zip" = none) (ha : PA X [a, b] (tA Γ W fa))
    (hs : starEach [a, b] X.env = (false, eval a X.env) :: starEach [b] X.env := by rfl) (hpl : (backTo pos (starEach [b] X.env)).any (·.1) = false := by rfl) : PI X (.Tuple elts kk tpos) (.Call (.Name "zip" p) [a, b] [] pos) (tI Γ W (iZp fa)) :=
  PIw (pi_zip hg hm ha hs hpl) <| by
  rintro σ H Q ⟨L, φ, ρ, h, se, s, p⟩
  refine ⟨L, φ, ρ, h, se, s, ?_⟩
  unfold iZp at p
  rw [PR.bind] at p
  refine p.mono (fun v h1 q => ?_) fun _ _ q => q
  intro φ1 H1 x l1 s1 r1
  rw [hK]
  split at q
  · rename_i vs ws
    obtain ⟨x1, x2, rfl, ra, rb⟩ := rvl2 r1
    unfold Rv at ra rb
    obtain ⟨A, xs, rfl, e1, e2⟩ := ra
    obtain ⟨B, ys, rfl, e3, e4⟩ := rb
    refine ⟨A, B, xs, ys, rfl, e1.sq, e3.sq, q φ1 H1 _ l1 s1 ?_⟩
    intro i L2 φ2 H2 h2 eL l2 s2
    have a1 := (e1.toL eL).mono l2
    have a2 := (e2.toL eL).mono l2
    have a3 := (e3.toL eL).mono l2
    have a4 := (e4.toL eL).mono l2
    refine ⟨fun v hv => ?_, fun e => ?_⟩
    · rw [List.getElem?_zipWith] at hv
      cases v1 : vs[i]? with
      | none => rw [v1] at hv; simp at hv
      | some w1 =>
        cases v2 : ws[i]? with
        | none => rw [v1, v2] at hv; simp at hv
        | some w2 =>
          rw [v1, v2] at hv
          simp at hv
          subst hv
          obtain ⟨y1, y2, y3⟩ := a2.get v1
          obtain ⟨z1, z2, z3⟩ := a4.get v2
          refine ⟨⟨xs, ys, y1, z1, a1.sq, a3.sq, y2, z2⟩, fun y H3 yy => ?_⟩
          obtain ⟨T, t1, t2, rfl, hT, rfl, k1, k2⟩ := yy
          have q1 := k1 xs (a1.sq)
          have q2 := k2 ys (a3.sq)
          rw [y2] at q1
          rw [z2] at q2
          cases q1
          cases q2
          refine ⟨Le.tmp s2 hT, s2.tmp hT, ?_⟩
          unfold Rv
          exact ⟨T, _, rfl, .inl ⟨.inl upd_same, (s2.free hT).2, (s2.free hT).1⟩, (RvL.cons y3 (.cons z3 .nil)).mono (Le.tmp s2 hT)⟩
    · refine ⟨xs, ys, a1.sq, a3.sq, ?_⟩
      rw [List.length_zipWith] at e
      rw [← a2.length, ← a4.length]
      omega
  · exact q.elim
def enumL : Nat → List Val → List Val
  | _, [] => []
  | n, v :: vs => .tup [.int (n : Nat), v] :: enumL (n + 1) vs
theorem enumL_len : ∀ (n : Nat) (vs : List Val), (enumL n vs).length = vs.length
  | _, [] => rfl
  | n, v :: vs => by simp [enumL, enumL_len (n + 1) vs]
theorem enumL_get : ∀ {n : Nat} {vs : List Val} {i : Nat} {v : Val}, (enumL n vs)[i]? = some v → ∃ u, vs[i]? = some u ∧ v = .tup [.int ((n + i : Nat) : Int), u]
  | _, [], i, v, h => by simp [enumL] at h
  | n, w :: vs, 0, v, h => by
    simp [enumL] at h
    exact ⟨w, rfl, by rw [← h]; rfl⟩
  | n, w :: vs, i + 1, v, h => by
    obtain ⟨u, h1, h2⟩ := enumL_get (n := n + 1) (vs := vs) (i := i) (v := v) (by simpa [enumL] using h)
    refine ⟨u, by simpa using h1, ?_⟩
    rw [h2]
    congr 3
    omega
def iEn (f : EA) : EI := fun ρ h => (f ρ h).bind fun vs h => match vs with
  | [.lst xs] => .ok (enumL 0 xs) h
  | _ => .bad
theorem s_ienum {elts : List Expr} {kk : Nat} {tpos p : Pos} {fa : EA} (hK : X.K = Γ.K) (hg : Gl X "enumerate") (hm : X.mg "enumerate" = none) (ha : PA X [a] (tA Γ W fa))
    (hs : starEach [a] X.env = [(false, eval a X.env)] := by rfl) : PI X (.Tuple elts kk tpos) (.Call (.Name "enumerate" p) [a] [] pos) (tI Γ W (iEn fa)) :=
  PIw (pi_enum hg hm ha hs) <| by
  rintro σ H Q ⟨L, φ, ρ, h, se, s, p⟩
  refine ⟨L, φ, ρ, h, se, s, ?_⟩
  unfold iEn at p
  rw [PR.bind] at p
  refine p.mono (fun v h1 q => ?_) fun _ _ q => q
  intro φ1 H1 x l1 s1 r1
  rw [hK]
  split at q
  · rename_i vs
    obtain ⟨x1, rfl, ra⟩ := rvl1 r1
    unfold Rv at ra
    obtain ⟨A, xs, rfl, e1, e2⟩ := ra
    refine ⟨A, xs, rfl, e1.sq, q φ1 H1 _ l1 s1 ?_⟩
    intro i L2 φ2 H2 h2 eL l2 s2
    have a1 := (e1.toL eL).mono l2
    have a2 := (e2.toL eL).mono l2
    refine ⟨fun v hv => ?_, fun e => ?_⟩
    · obtain ⟨u, u1, rfl⟩ := enumL_get hv
      obtain ⟨y1, y2, y3⟩ := a2.get u1
      refine ⟨⟨xs, y1, a1.sq, y2⟩, fun y H3 yy => ?_⟩
      obtain ⟨T, t1, rfl, hT, rfl, k1⟩ := yy
      have q1 := k1 xs (a1.sq)
      rw [y2] at q1
      cases q1
      refine ⟨Le.tmp s2 hT, s2.tmp hT, ?_⟩
      unfold Rv
      refine ⟨T, _, rfl, .inl ⟨.inl upd_same, (s2.free hT).2, (s2.free hT).1⟩, (RvL.cons ?_ (.cons y3 .nil)).mono (Le.tmp s2 hT)⟩
      rw [Nat.zero_add]
      exact mk_int
    · refine ⟨xs, a1.sq, ?_⟩
      rw [enumL_len] at e
      rw [← a2.length]
      omega
  · exact q.elim

/-! ### for -/
def forL : List Val → TGt → ST → ST
  | [], _, _ => fun ρ h => .nx ρ h
  | v :: vs, g, s => fun ρ h => match g v ρ h with
    | some (ρ, h) => (match s ρ h with
      | .nx ρ h => forL vs g s ρ h
      | .ct ρ h => forL vs g s ρ h
      | .bk ρ h => .nx ρ h
      | r => r)
    | none => .bad
def sFor (f : EI) (g : TGt) (s : ST) : ST := fun ρ h => ofR (f ρ h) ρ fun vs h => forL vs g s ρ h
theorem rd_for {fi : EI} {g : TGt} : ∀ D σ H, tS Γ W (sFor fi g s) D σ H → tFor (tI Γ W fi) (tG Γ g) (tS Γ W s) D σ H := by
  rintro D σ H ⟨L, φ, ρ, h, se, sm, p⟩
  refine ⟨L, φ, ρ, h, se, sm, ?_⟩
  refine (ofR_ok se p).mono (fun vs h1 q => ?_) fun _ _ q => q
  intro φ1 H1 J l1 s1 it
  refine ⟨fun i m σ2 H2 => m = vs.length - i ∧ i ≤ vs.length ∧ ∃ φ2 ρ2 h2, Le φ1 H1 φ2 H2 ∧ SimE Γ L φ2 ρ2 σ2 H2 ∧ Sim Γ L φ2 h2 H2 ∧ OkD Γ L φ2 H2 W D (forL (vs.drop i) g s ρ2 h2),
    ⟨vs.length, by simp, Nat.zero_le _, φ1, ρ, h1, Le.refl _ _, se.mono l1, s1, OkD.mono l1 q⟩, ?_⟩
  rintro i m σ2 H2 ⟨rfl, hi, φ2, ρ2, h2, l2, se2, s2, p2⟩
  obtain ⟨itg, its⟩ := it i L φ2 H2 h2 (fun _ z => .inl z) l2 s2
  by_cases hlt : i < vs.length
  · have hv : vs[i]? = some vs[i] := List.getElem?_eq_getElem hlt
    obtain ⟨go, yl⟩ := itg _ hv
    refine .inr ⟨go, fun σ3 H3 => i + 1 ≤ vs.length ∧ ∃ φ2 ρ2 h2, Le φ1 H1 φ2 H3 ∧ SimE Γ L φ2 ρ2 σ3 H3 ∧ Sim Γ L φ2 h2 H3 ∧ OkD Γ L φ2 H3 W D (forL (vs.drop (i + 1)) g s ρ2 h2),
      fun σ' H' z => ⟨vs.length - (i + 1), by omega, rfl, z.1, z.2⟩, fun x H3 y => ?_⟩
    obtain ⟨l3, s3, r3⟩ := yl x H3 y
    refine ⟨L, φ2, ρ2, h2, vs[i], se2.mono l3, s3, r3, ?_⟩
    rw [List.drop_eq_getElem_cons hlt] at p2
    unfold forL at p2
    cases w : g vs[i] ρ2 h2 with
    | none => rw [w] at p2; exact p2.elim
    | some pr =>
      obtain ⟨ρ4, h4⟩ := pr
      rw [w] at p2
      intro φ4 H4 σ4 l4 s4 se4
      refine ⟨L, φ4, ρ4, h4, se4, s4, ?_⟩
      dsimp only at p2
      cases z : s ρ4 h4 with
      | nx ρ5 h5 => rw [z] at p2; intro φ5 H5 σ5 l5 s5 se5; exact ⟨hlt, φ5, ρ5, h5, ((l2.trans l3).trans l4).trans l5, se5, s5, OkD.mono ((l3.trans l4).trans l5) p2⟩
      | ct ρ5 h5 => rw [z] at p2; intro φ5 H5 σ5 l5 s5 se5; exact ⟨hlt, φ5, ρ5, h5, ((l2.trans l3).trans l4).trans l5, se5, s5, OkD.mono ((l3.trans l4).trans l5) p2⟩
      | bk ρ5 h5 => rw [z] at p2; exact OkS.mono (l3.trans l4) p2
      | rt v h5 => rw [z] at p2; exact OkV.mono (l3.trans l4) p2
      | er x v h5 => rw [z] at p2; exact OkW.mono (l3.trans l4) p2
      | bad => rw [z] at p2; exact p2
  · have e : i = vs.length := by omega
    subst e
    rw [List.drop_length] at p2
    exact .inl ⟨its rfl, p2 φ2 H2 σ2 (Le.refl _ _) s2 se2⟩
theorem s_for {tg iter : Expr} {body : List Stmt} {fi : EI} {g : TGt} (ok : Ok Γ X W) (hc : X.calm = true) (hi : PI X tg iter (tI Γ W fi)) (hg : PG X tg (tG Γ g)) (hb : PSs X body (tS Γ W s))
    (hs : ∀ x, foldedSetIterable iter X.env x = pure x := by intro _; rfl) : PS X (.For tg iter body [] pos) (tS Γ W (sFor fi g s)) := PSw (ps_for ok.po hc hi hg hb hs) rd_for

/-! ### comprehensions -/
/-- the slots of a comprehension's own names, emptied -/
def wipeE (ρ : Ev) : List Nat → Ev
  | [] => ρ
  | i :: r => (wipeE ρ r).set i none
/-- a target within a comprehension: a name, a tuple of names -/
inductive Tg where
  | nm (i : Nat)
  | tp (js : List Nat)
def Tg.slots : Tg → List Nat
  | .nm i => [i]
  | .tp js => js
def setL {α : Type} : List (Option α) → List Nat → List α → List (Option α)
  | σ, j :: js, v :: vs => setL (σ.set j (some v)) js vs
  | σ, _, _ => σ
def tgE : Tg → Val → Ev → Option Ev
  | .nm i, v, ρ => some (ρ.set i (some v))
  | .tp js, v, ρ => match asT v with
    | some vs => if vs.length = js.length then some (setL ρ js vs) else none
    | none => none
def gCs : List Nat → TGs
  | [] => gNil
  | j :: js => gCons (gName j) (gCs js)
def tgK (K : PySem.W.Frag) : Tg → TG
  | .nm i => gName i
  | .tp js => gTup K js.length (gCs js)
/-- turn by turn, what was made so far ahead -/
def lcN : List Val → Tg → EB → EX → Ev → List Val → Hv → R (List Val)
  | [], _, _, _, _, acc, h => .ok acc h
  | v :: vs, g, t, f, ρ, acc, h => match tgE g v ρ with
    | some ρ1 => (t ρ1 h).bind fun b h => if b then ((f ρ1 h).bind fun y h => if acc.length < 1000000 then lcN vs g t f ρ (acc ++ [y]) h else .bad) else lcN vs g t f ρ acc h
    | none => .bad
def onlyOk {α : Type} (r : R α) : R α := match r with
  | .ok a h => .ok a h
  | _ => .bad
/-- [f for g in fi if t]: a list that never changes again -/
def eLc (fi : EI) (g : Tg) (t : EB) (f : EX) (own : List Nat) : EX := fun ρ h => (fi ρ h).bind fun vs h => (onlyOk (lcN vs g t f (wipeE ρ own) [] h)).bind fun ys h => .ok (.lst ys) h
/-- .. one of the heap -/
def eLcA (fi : EI) (g : Tg) (t : EB) (f : EX) (own : List Nat) : EX := fun ρ h => (fi ρ h).bind fun vs h => (onlyOk (lcN vs g t f (wipeE ρ own) [] h)).bind fun ys h => .ok (.ref h.length) (h ++ [.lst ys])
def bYes : EB := fun _ h => .ok true h
theorem wipe_sim {L : Addr → Prop} {φ : Mp} {H : Hp} {ρ : Ev} {σ : L2.St} (se : SimE Γ L φ ρ σ H) : ∀ (own : List Nat), SimE Γ L φ (wipeE ρ own) (wipe σ own) H
  | [] => se
  | i :: r => (wipe_sim se r).unset i none
theorem wipe_set {σ : L2.St} {i : Nat} {o : Option V} : ∀ {own : List Nat}, i ∈ own → wipe (σ.set i o) own = wipe σ own
  | [], h => nomatch h
  | j :: r, h => by
    show (wipe (σ.set i o) r).set j none = (wipe σ r).set j none
    by_cases m : i ∈ r
    · rw [wipe_set m]
    · have e : i = j := by
        rcases List.mem_cons.mp h with q | q
        · exact q
        · exact absurd q m
      subst e
      have f : ∀ (r : List Nat), i ∉ r → wipe (σ.set i o) r = (wipe σ r).set i o := by
        intro r
        induction r with
        | nil => intro _; rfl
        | cons k r ih =>
          intro hk
          show (wipe (σ.set i o) r).set k none = ((wipe σ r).set k none).set i o
          rw [ih (fun z => hk (List.mem_cons_of_mem _ z)), List.set_comm _ _ (fun z => hk (by rw [z]; exact List.mem_cons_self))]
      rw [f r m, List.set_set]
theorem wipe_idem (σ : L2.St) : ∀ (own : List Nat), wipe (wipe σ own) own = wipe σ own
  | [] => rfl
  | j :: r => by
    show (wipe ((wipe σ r).set j none) r).set j none = (wipe σ r).set j none
    by_cases m : j ∈ r
    · rw [wipe_set m, wipe_idem σ r]
    · have f : ∀ (τ : L2.St) (r : List Nat), j ∉ r → wipe (τ.set j none) r = (wipe τ r).set j none := by
        intro τ r
        induction r with
        | nil => intro _; rfl
        | cons k r ih =>
          intro hk
          show (wipe (τ.set j none) r).set k none = ((wipe τ r).set k none).set j none
          rw [ih (fun z => hk (List.mem_cons_of_mem _ z)), List.set_comm _ _ (fun z => hk (by rw [z]; exact List.mem_cons_self))]
      rw [f _ r m, List.set_set, wipe_idem σ r]
theorem gCs_ok {L : Addr → Prop} {φ : Mp} {H : Hp} : ∀ {js : List Nat} {vs : List Val} {xs : List V} {ρ : Ev} {σ : L2.St} {Q : L2.St → Hp → Prop}, vs.length = js.length → RvL Γ L φ H vs xs → SimE Γ L φ ρ σ H →
    (∀ σ', SimE Γ L φ (setL ρ js vs) σ' H → (∀ own, (∀ j ∈ js, j ∈ own) → wipe σ' own = wipe σ own) → Q σ' H) → gCs js xs σ H Q
  | [], [], xs, ρ, σ, Q, _, r, se, k => by
    unfold RvL at r
    exact ⟨r, k σ se fun _ _ => rfl⟩
  | j :: js, v :: vs, xs, ρ, σ, Q, hl, r, se, k => by
    unfold RvL at r
    obtain ⟨y, ys, rfl, r1, r2⟩ := r
    refine ⟨y, ys, rfl, ?_⟩
    show gCs js ys (σ.set j (some y)) H Q
    refine gCs_ok (by simpa using hl) r2 (se.set j r1) fun σ' se' w => k σ' se' fun own ho => ?_
    rw [w own (fun i hi => ho i (List.mem_cons_of_mem _ hi)), wipe_set (ho j List.mem_cons_self)]
  | [], _ :: _, _, _, _, _, hl, _, _, _ => by simp at hl
  | _ :: _, [], _, _, _, _, hl, _, _, _ => by simp at hl
theorem tg_ok {L : Addr → Prop} {φ : Mp} {H : Hp} {t : Tg} {v : Val} {x : V} {ρ ρ' : Ev} {σ : L2.St} {Q : L2.St → Hp → Prop} (r : Rv Γ L φ H v x) (se : SimE Γ L φ ρ σ H) (e : tgE t v ρ = some ρ')
    (k : ∀ σ', SimE Γ L φ ρ' σ' H → (∀ own, (∀ j ∈ t.slots, j ∈ own) → wipe σ' own = wipe σ own) → Q σ' H) : tgK Γ.K t x σ H Q := by
  cases t with
  | nm i =>
    cases e
    exact k _ (se.set i r) fun own ho => wipe_set (ho i List.mem_cons_self)
  | tp js =>
    have e : (match asT v with | some vs => if vs.length = js.length then some (setL ρ js vs) else none | none => none) = some ρ' := e
    split at e
    · rename_i vs ev
      split at e
      · rename_i hl
        cases e
        obtain ⟨a, xs, rfl, _, q1, q2⟩ := asT_ok r ev
        exact ⟨a, xs, rfl, q1, by rw [← q2.length]; exact hl, gCs_ok hl q2 se k⟩
      · cases e
    · cases e
abbrev W0 : WX := fun _ _ _ _ => False
theorem PR.of_noE {α : Type} {r : R α} {P : α → Hv → Prop} {E : Ex → Hv → Prop} (h : PR (onlyOk r) P E) : PR r P (fun _ _ => False) := by
  cases r with
  | ok a g => exact h
  | err e g => exact h.elim
  | bad => exact h.elim
/-- the loop of a comprehension -/
theorem lc_rd {L : Addr → Prop} {φ0 : Mp} {H0 : Hp} {J : It} {vs : List Val} {g : Tg} {tb : EB} {own : List Nat} {σ : L2.St} {ρ : Ev} {Q : VK} {k : List Val → Hv → Prop} (ho : ∀ j ∈ g.slots, j ∈ own)
    {h : Hv} (se : SimE Γ L φ0 ρ σ H0) (sm : Sim Γ L φ0 h H0) (it : ItR Γ L φ0 H0 vs J) (p : PR (lcN vs g tb f (wipeE ρ own) [] h) k fun _ _ => False)
    (hk : ∀ D φ' H' ys zs h', Le φ0 H0 φ' H' → Sim Γ (fun a => L a ∨ a = D) φ' h' H' → k ys h' → H0 D = none → H' D = some (.lst zs) → ¬ L D → some D ∉ φ' → RvL Γ (fun a => L a ∨ a = D) φ' H' ys zs → Q (.ref D) H') :
    ∀ D, H0 D = none → ∃ Wm : Nat → Nat → Hp → Prop, (∃ m, Wm 0 m (upd H0 D (.lst []))) ∧ ∀ i m H, Wm i m H →
      (J.stop i H ∧ Q (.ref D) H) ∨ (J.go i H ∧ ∃ Nx : Hp → Prop, (∀ H', Nx H' → ∃ m', m' < m ∧ Wm (i + 1) m' H') ∧ ∀ x H', J.yld i H x H' → tgK Γ.K g x (wipe σ own) H' fun σ2 H2 => wipe σ2 own = wipe σ own ∧ tT Γ W0 tb σ2 H2 fun b H3 =>
        if b = true then tE Γ W0 f σ2 H3 fun y H4 => ∃ acc, H4 D = some (.lst acc) ∧ acc.length < sizeLine ∧ Nx (upd H4 D (.lst (acc ++ [y]))) else Nx H3) := by
  intro D hD
  have nL : ¬ L D := (sm.free hD).2
  have nφ : some D ∉ φ0 := (sm.free hD).1
  have e1 : LTo L (fun a => L a ∨ a = D) H0 := fun a z => z.elim .inl fun q => .inr (q ▸ hD)
  have l0 : Le φ0 H0 φ0 (upd H0 D (.lst [])) := Le.tmp sm hD
  -- the new list is the callers' while it grows
  have sm0 : Sim Γ (fun a => L a ∨ a = D) φ0 h (upd H0 D (.lst [])) := by
    refine ⟨sm.len, fun i o q => ?_, sm.inj, fun a m => ⟨fun z => ?_, ((sm.tmp hD).apart a m).2⟩, fun a z => ?_⟩
    · rcases sm.live i o q with r | ⟨a, r1, r2⟩
      · exact .inl r
      · exact .inr ⟨a, r1, (r2.toL e1).mono l0 fun u z => by rw [upd_ne (ne_of_none z hD)]; exact z⟩
    · rcases z with z | z
      · exact (sm.apart a m).1 z
      · subst z; exact nφ m
    · rcases z with z | z
      · exact (sm.tmp hD).ldom a z
      · subst z; rw [upd_same]; exact fun z => nomatch z
  have se0 : SimE Γ (fun a => L a ∨ a = D) φ0 (wipeE ρ own) (wipe σ own) (upd H0 D (.lst [])) := by
    have w := wipe_sim se own
    exact ⟨w.len, fun i v q => by
      obtain ⟨x, x1, x2⟩ := w.get i v q
      exact ⟨x, x1, (x2.toL e1).mono l0⟩⟩
  refine ⟨fun i m H => m = vs.length - i ∧ i ≤ vs.length ∧ ∃ (φ1 : Mp) (h1 : Hv) (acc : List Val) (xs : List V), H D = some (.lst xs) ∧ Le φ0 H0 φ1 H ∧ some D ∉ φ1 ∧ Sim Γ (fun a => L a ∨ a = D) φ1 h1 H ∧
    SimE Γ (fun a => L a ∨ a = D) φ1 (wipeE ρ own) (wipe σ own) H ∧ RvL Γ (fun a => L a ∨ a = D) φ1 H acc xs ∧ PR (lcN (vs.drop i) g tb f (wipeE ρ own) acc h1) k fun _ _ => False,
    ⟨vs.length, by simp, Nat.zero_le _, φ0, h, [], [], upd_same, l0, nφ, sm0, se0, .nil, p⟩, ?_⟩
  rintro i m H ⟨rfl, hi, φ1, h1, acc, xs, hD1, l1, n1, s1, se1, r1, p1⟩
  obtain ⟨itg, its⟩ := it i _ φ1 H h1 e1 l1 s1
  by_cases hlt : i < vs.length
  · have hv : vs[i]? = some vs[i] := List.getElem?_eq_getElem hlt
    obtain ⟨go, yl⟩ := itg _ hv
    refine .inr ⟨go, fun H3 => i + 1 ≤ vs.length ∧ ∃ (φ1 : Mp) (h1 : Hv) (acc : List Val) (xs : List V), H3 D = some (.lst xs) ∧ Le φ0 H0 φ1 H3 ∧ some D ∉ φ1 ∧ Sim Γ (fun a => L a ∨ a = D) φ1 h1 H3 ∧
      SimE Γ (fun a => L a ∨ a = D) φ1 (wipeE ρ own) (wipe σ own) H3 ∧ RvL Γ (fun a => L a ∨ a = D) φ1 H3 acc xs ∧ PR (lcN (vs.drop (i + 1)) g tb f (wipeE ρ own) acc h1) k fun _ _ => False,
      fun H' z => ⟨vs.length - (i + 1), by omega, rfl, z.1, z.2⟩, fun x H3 y => ?_⟩
    obtain ⟨l3, s3, r3⟩ := yl x H3 y
    rw [List.drop_eq_getElem_cons hlt] at p1
    unfold lcN at p1
    split at p1
    · rename_i ρ1 eg
      refine tg_ok r3 (se1.mono l3) eg fun σ2 se2 w2 => ⟨(w2 own ho).trans (wipe_idem σ own), ?_⟩
      refine ⟨_, φ1, ρ1, h1, se2, s3, ?_⟩
      rw [PR.bind] at p1
      refine p1.mono (fun b h4 p2 => ?_) fun _ _ z => z.elim
      intro φ4 H4 l4 s4
      have d3 : H3 D = some (.lst xs) := l3.keep D _ hD1 n1
      have d4 : H4 D = some (.lst xs) := l4.keep D _ d3 n1
      have n4 : some D ∉ φ4 := l4.nin d3 n1
      cases b with
      | true =>
        rw [if_pos rfl] at p2 ⊢
        refine ⟨_, φ4, ρ1, h4, se2.mono l4, s4, ?_⟩
        rw [PR.bind] at p2
        refine p2.mono (fun yv h5 p3 => ?_) fun _ _ z => z.elim
        intro φ5 H5 yx l5 s5 r5
        have d5 : H5 D = some (.lst xs) := l5.keep D _ d4 n4
        have n5 : some D ∉ φ5 := l5.nin d4 n4
        have ra := ((r1.mono l3).mono l4).mono l5
        split at p3
        · rename_i hz
          refine ⟨xs, d5, ?_, hlt, φ5, h5, acc ++ [yv], xs ++ [yx], upd_same, ?_, n5, s5.wrL (.inr rfl), ?_, ?_, p3⟩
          · rw [← ra.length]; have := sizeLine_eq; omega
          · have lt : Le φ0 H0 φ5 H5 := ((l1.trans l3).trans l4).trans l5
            refine ⟨lt.len, lt.ref, fun a o e n => ?_, lt.new, fun a e => ?_⟩
            · rw [upd_ne (ne_of_none e hD)]; exact lt.keep a o e n
            · by_cases q : a = D
              · rw [q, upd_same]; exact fun z => nomatch z
              · rw [upd_ne q]; exact lt.dom a e
          · have wr : ∀ {v : Val} {x : V}, Rv Γ (fun a => L a ∨ a = D) φ5 H5 v x → Rv Γ (fun a => L a ∨ a = D) φ5 (upd H5 D (.lst (xs ++ [yx]))) v x := fun r =>
              Rv.wrL (.inr rfl) r
            have q := ((se1.mono l3).mono l4).mono l5
            exact ⟨q.len, fun j u e => by
              obtain ⟨x', x1, x2⟩ := q.get j u e
              exact ⟨x', x1, wr x2⟩⟩
          · exact RvL.wrL (.inr rfl) (ra.append (.cons r5 .nil))
        · exact p3.elim
      | false =>
        rw [if_neg Bool.false_ne_true] at p2 ⊢
        exact ⟨hlt, φ4, h4, acc, xs, d4, (l1.trans l3).trans l4, n4, s4, (se1.mono l3).mono l4, (r1.mono l3).mono l4, p2⟩
    · exact p1.elim
  · have e : i = vs.length := by omega
    subst e
    rw [List.drop_length] at p1
    exact .inl ⟨its rfl, hk D φ1 H acc xs h1 l1 s1 p1 hD hD1 nL n1 r1⟩
variable {elt tg iter : Expr} {ifs : List Expr} {scope : Scope} {own : List (Str × Nat)} {fi : EI} {tb : EB} {gt : Tg}
theorem rd_lc (hK : X.K = Γ.K) (ho : ∀ j ∈ gt.slots, j ∈ own.map (·.2)) : ∀ σ H Q, tE Γ W (eLc fi gt tb f (own.map (·.2))) σ H Q → tLc (tI Γ W fi) (tgK Γ.K gt) (tT Γ W0 tb) (tE Γ W0 f) (own.map (·.2)) σ H Q := by
  rintro σ H Q ⟨L, φ, ρ, h, se, s, p⟩
  refine ⟨L, φ, ρ, h, se, s, ?_⟩
  unfold eLc at p
  rw [PR.bind] at p
  refine p.mono (fun vs h1 q => ?_) fun _ _ q => q
  intro φ1 H1 J l1 s1 it
  rw [PR.bind] at q
  have q' : PR (lcN vs gt tb f (wipeE ρ (own.map (·.2))) [] h1) (fun ys h' => OkV Γ L φ H Q (.lst ys) h') fun _ _ => False := PR.of_noE q
  refine lc_rd ho (se.mono l1) s1 it q' ?_
  intro D φ' H' ys zs h' l' s' k' hD hD' nL nφ r'
  have back : LTo (fun a => L a ∨ a = D) L H' := fun a z => .inl (.inl z)
  refine k' φ' H' (.ref D) (l1.trans l') (s'.toL back fun a z => s'.ldom a (.inl z)) ?_
  unfold Rv
  exact ⟨D, zs, rfl, .inl ⟨.inl hD', nL, nφ⟩, r'.toL back⟩
theorem rd_lcA (hK : X.K = Γ.K) (ho : ∀ j ∈ gt.slots, j ∈ own.map (·.2)) : ∀ σ H Q, tE Γ W (eLcA fi gt tb f (own.map (·.2))) σ H Q → tLc (tI Γ W fi) (tgK Γ.K gt) (tT Γ W0 tb) (tE Γ W0 f) (own.map (·.2)) σ H Q := by
  rintro σ H Q ⟨L, φ, ρ, h, se, s, p⟩
  refine ⟨L, φ, ρ, h, se, s, ?_⟩
  unfold eLcA at p
  rw [PR.bind] at p
  refine p.mono (fun vs h1 q => ?_) fun _ _ q => q
  intro φ1 H1 J l1 s1 it
  rw [PR.bind] at q
  have q' : PR (lcN vs gt tb f (wipeE ρ (own.map (·.2))) [] h1) (fun ys h' => OkV Γ L φ H Q (.ref h'.length) (h' ++ [.lst ys])) fun _ _ => False := PR.of_noE q
  refine lc_rd ho (se.mono l1) s1 it q' ?_
  intro D φ' H' ys zs h' l' s' k' hD hD' nL nφ r'
  have la : Le φ1 H1 (φ' ++ [some D]) H' := ⟨by have := l'.len; simp; omega, fun i hi => by
      rw [List.getElem?_append_left (Nat.lt_of_lt_of_le hi l'.len)]; exact l'.ref i hi, l'.keep, fun a m => by
      rcases List.mem_append.mp m with z | z
      · exact l'.new a z
      · have : a = D := by simpa using z
        exact .inr (this ▸ hD), l'.dom⟩
  refine k' _ H' (.ref D) (l1.trans la) (s'.moveIn nL hD' r') ?_
  unfold Rv
  refine ⟨some D, ?_, fun a e => by cases e; rfl⟩
  rw [s'.len, List.getElem?_append_right (Nat.le_refl _), Nat.sub_self]
  rfl
/-- what a comprehension's block is to the engine -/
theorem Ok.blk (ok : Ok Γ X W) (s : Shared) (H : Hp) (scope : Scope) (cenv : Env) (fp : List Addr) : Ok Γ (X.blk s H scope cenv fp) W0 :=
  ⟨ok.hK, ok.un, ok.dp, takes0, PassesOwn.never, ok.tree, ok.seer, ok.digits, ok.stk⟩
theorem s_lc (ok : Ok Γ X W) (hc : X.calm = true) (hN : X.N.Nodup) (hi : PI X tg iter (tI Γ W fi)) (okb : BlkOk X.N X.env.scope scope own) (ho : ∀ j ∈ gt.slots, j ∈ own.map (·.2))
    (hg : ∀ (s : Shared) (H : Hp) (C : Addr) (cl : List (Str × Addr)) (fp : List Addr), PG (X.blk s H scope (compEnvC scope cl C X.env) fp) tg (tgK X.K gt))
    (ht : ∀ (s : Shared) (H : Hp) (C : Addr) (cl : List (Str × Addr)) (fp : List Addr), PTs (X.blk s H scope (compEnvC scope cl C X.env) fp) ifs (tT Γ W0 tb))
    (he : ∀ (s : Shared) (H : Hp) (C : Addr) (cl : List (Str × Addr)) (fp : List Addr), PE (X.blk s H scope (compEnvC scope cl C X.env) fp) elt (tE Γ W0 f)) (hs : ∀ x, foldedSetIterable iter X.env x = pure x := by intro _; rfl) :
    PE X (.ListComp elt [⟨tg, iter, ifs, 0⟩] scope pos) (tE Γ W (eLc fi gt tb f (own.map (·.2)))) :=
  PEw (pe_lc (own := own) hc hN hi okb hg ht he hs) (fun σ H Q q => by rw [ok.hK]; exact rd_lc ok.hK ho σ H Q q)
theorem s_lcA (ok : Ok Γ X W) (hc : X.calm = true) (hN : X.N.Nodup) (hi : PI X tg iter (tI Γ W fi)) (okb : BlkOk X.N X.env.scope scope own) (ho : ∀ j ∈ gt.slots, j ∈ own.map (·.2))
    (hg : ∀ (s : Shared) (H : Hp) (C : Addr) (cl : List (Str × Addr)) (fp : List Addr), PG (X.blk s H scope (compEnvC scope cl C X.env) fp) tg (tgK X.K gt))
    (ht : ∀ (s : Shared) (H : Hp) (C : Addr) (cl : List (Str × Addr)) (fp : List Addr), PTs (X.blk s H scope (compEnvC scope cl C X.env) fp) ifs (tT Γ W0 tb))
    (he : ∀ (s : Shared) (H : Hp) (C : Addr) (cl : List (Str × Addr)) (fp : List Addr), PE (X.blk s H scope (compEnvC scope cl C X.env) fp) elt (tE Γ W0 f)) (hs : ∀ x, foldedSetIterable iter X.env x = pure x := by intro _; rfl) :
    PE X (.ListComp elt [⟨tg, iter, ifs, 0⟩] scope pos) (tE Γ W (eLcA fi gt tb f (own.map (·.2)))) :=
  PEw (pe_lc (own := own) hc hN hi okb hg ht he hs) (fun σ H Q q => by rw [ok.hK]; exact rd_lcA ok.hK ho σ H Q q)
/-- y = [..] -/
theorem s_setLc {i : Nat} {y : Str} {py spos : Pos} (ok : Ok Γ X W) (hc : X.calm = true) (hN : X.N.Nodup) (hy : X.N[i]? = some y) (hyl : X.env.scope.names.lookup y = some .local)
    (hsw : swapsWith (.ListComp elt [⟨tg, iter, ifs, 0⟩] scope pos) (some (.Name y py)) spos.line X.env = pure true) (hi : PI X tg iter (tI Γ W fi)) (okb : BlkOk X.N X.env.scope scope own) (ho : ∀ j ∈ gt.slots, j ∈ own.map (·.2))
    (hg : ∀ (s : Shared) (H : Hp) (C : Addr) (cl : List (Str × Addr)) (fp : List Addr), PG (X.blk s H scope (compEnvC scope cl C X.env) fp) tg (tgK X.K gt))
    (ht : ∀ (s : Shared) (H : Hp) (C : Addr) (cl : List (Str × Addr)) (fp : List Addr), PTs (X.blk s H scope (compEnvC scope cl C X.env) fp) ifs (tT Γ W0 tb))
    (he : ∀ (s : Shared) (H : Hp) (C : Addr) (cl : List (Str × Addr)) (fp : List Addr), PE (X.blk s H scope (compEnvC scope cl C X.env) fp) elt (tE Γ W0 f)) (hs : ∀ x, foldedSetIterable iter X.env x = pure x := by intro _; rfl) :
    PS X (.Assign [.Name y py] (.ListComp elt [⟨tg, iter, ifs, 0⟩] scope pos) spos) (tS Γ W (sSet i (eLc fi gt tb f (own.map (·.2))))) :=
  PSw (ps_setLc (own := own) hc hN hy hyl hsw hi okb hg ht he hs) fun D σ H q => by
    have z := rd_set D σ H q
    rw [ok.hK]
    exact rd_lc ok.hK ho σ H _ z
theorem s_setLcA {i : Nat} {y : Str} {py spos : Pos} (ok : Ok Γ X W) (hc : X.calm = true) (hN : X.N.Nodup) (hy : X.N[i]? = some y) (hyl : X.env.scope.names.lookup y = some .local)
    (hsw : swapsWith (.ListComp elt [⟨tg, iter, ifs, 0⟩] scope pos) (some (.Name y py)) spos.line X.env = pure true) (hi : PI X tg iter (tI Γ W fi)) (okb : BlkOk X.N X.env.scope scope own) (ho : ∀ j ∈ gt.slots, j ∈ own.map (·.2))
    (hg : ∀ (s : Shared) (H : Hp) (C : Addr) (cl : List (Str × Addr)) (fp : List Addr), PG (X.blk s H scope (compEnvC scope cl C X.env) fp) tg (tgK X.K gt))
    (ht : ∀ (s : Shared) (H : Hp) (C : Addr) (cl : List (Str × Addr)) (fp : List Addr), PTs (X.blk s H scope (compEnvC scope cl C X.env) fp) ifs (tT Γ W0 tb))
    (he : ∀ (s : Shared) (H : Hp) (C : Addr) (cl : List (Str × Addr)) (fp : List Addr), PE (X.blk s H scope (compEnvC scope cl C X.env) fp) elt (tE Γ W0 f)) (hs : ∀ x, foldedSetIterable iter X.env x = pure x := by intro _; rfl) :
    PS X (.Assign [.Name y py] (.ListComp elt [⟨tg, iter, ifs, 0⟩] scope pos) spos) (tS Γ W (sSet i (eLcA fi gt tb f (own.map (·.2))))) :=
  PSw (ps_setLc (own := own) hc hN hy hyl hsw hi okb hg ht he hs) fun D σ H q => by
    have z := rd_set D σ H q
    rw [ok.hK]
    exact rd_lcA ok.hK ho σ H _ z
theorem s_ifs0 : PTs X [] (tT Γ W bYes) := ⟨fun pins s σ H Q I h => pts_nil.run pins s σ H Q I <| by
  obtain ⟨L, φ, ρ, h, se, s, p⟩ := h
  exact OkB.here p s⟩
theorem s_ifs1 (h : PT X c (tT Γ W fb)) : PTs X [c] (tT Γ W fb) := pts_one h
end
end Eng

set_option Elab.async false
set_option linter.all false
set_option autoImplicit false
set_option maxRecDepth 100000
set_option maxHeartbeats 4000000
/-! The engine, part F: own functions, what they promise; giving objects up; plain calls. -/
namespace Eng
open PySem L2 PySem.Spec PyProof.Rows

/-! ### values without objects of the heap -/
mutual
def imm : Val → Bool
  | .ref _ => false
  | .tup xs => imms xs
  | .lst xs => imms xs
  | .dct _ vs => imms vs
  | .exc _ fs => imms fs
  | _ => true
def imms : List Val → Bool
  | [] => true
  | v :: vs => imm v && imms vs
end
/-- a value with its objects given up -/
def frRef (h : Hv) (i : Nat) : Option (Val × Hv) := match h[i]? with
  | some (.lst xs) => if imms xs then some (.lst xs, h.set i .dead) else none
  | some (.dct ks vs) => if imms vs then some (.dct ks vs, h.set i .dead) else none
  | _ => none
mutual
def frz : Val → Hv → Option (Val × Hv)
  | .ref i, h => frRef h i
  | .tup xs, h => (frzs xs h).map fun p => (.tup p.1, p.2)
  | .lst xs, h => if imms xs then some (.lst xs, h) else none
  | .dct ks vs, h => if imms vs then some (.dct ks vs, h) else none
  | .exc c fs, h => if imms fs then some (.exc c fs, h) else none
  | .non, h => some (.non, h)
  | .bl b, h => some (.bl b, h)
  | .int i, h => some (.int i, h)
  | .str s, h => some (.str s, h)
def frzs : List Val → Hv → Option (List Val × Hv)
  | [], h => some ([], h)
  | v :: vs, h => match frz v h with
    | some (v', h') => (match frzs vs h' with
      | some (vs', h'') => some (v' :: vs', h'')
      | none => none)
    | none => none
end
section
variable {Γ : G} {L : Addr → Prop}
theorem frRef_ok {φ : Mp} {H : Hp} {h h' : Hv} {i : Nat} {v' : Val} {x : V} (s : Sim Γ L φ h H) (r : Rv Γ L φ H (.ref i) x) (e : frRef h i = some (v', h')) :
    imm v' = true ∧ ∃ φ', Le φ H φ' H ∧ Sim Γ L φ' h' H ∧ Rv Γ L φ' H v' x := by
  unfold frRef at e
  split at e
  · rename_i xs hi
    split at e
    · rename_i hm
      cases e
      refine ⟨by unfold imm; exact hm, φ.set i none, Le.kill, s.kill i, ?_⟩
      rcases s.live i _ hi with z | ⟨a, z1, ys, z2, z3⟩
      · cases z
      · unfold Rv at r
        obtain ⟨o, o1, o2⟩ := r
        rw [z1] at o1
        cases o1
        unfold Rv
        exact ⟨a, ys, o2 a rfl, .inl ⟨.inl z2, (s.apart a (List.mem_of_getElem? z1)).1, kill_nin s z1⟩, z3.mono Le.kill⟩
    · cases e
  · rename_i ks vs hi
    split at e
    · rename_i hm
      cases e
      refine ⟨by unfold imm; exact hm, φ.set i none, Le.kill, s.kill i, ?_⟩
      rcases s.live i _ hi with z | ⟨a, z1, ys, z2, z3, z4⟩
      · cases z
      · unfold Rv at r
        obtain ⟨o, o1, o2⟩ := r
        rw [z1] at o1
        cases o1
        unfold Rv
        exact ⟨a, ys, o2 a rfl, ⟨z2, (s.apart a (List.mem_of_getElem? z1)).1, kill_nin s z1⟩, z3, z4.mono Le.kill⟩
    · cases e
  · cases e
mutual
theorem frz_ok : ∀ {v : Val} {φ : Mp} {H : Hp} {h h' : Hv} {v' : Val} {x : V}, Sim Γ L φ h H → Rv Γ L φ H v x → frz v h = some (v', h') → imm v' = true ∧ ∃ φ', Le φ H φ' H ∧ Sim Γ L φ' h' H ∧ Rv Γ L φ' H v' x
  | .ref i, φ, H, h, h', v', x, s, r, e => frRef_ok s r (by unfold frz at e; exact e)
  | .tup xs, φ, H, h, h', v', x, s, r, e => by
    unfold frz at e
    obtain ⟨p, e1, e2⟩ := Option.map_eq_some_iff.mp e
    obtain ⟨ys, g⟩ := p
    cases e2
    unfold Rv at r
    obtain ⟨a, zs, rfl, r1, r2⟩ := r
    obtain ⟨i1, φ', i2, i3, i4⟩ := frzs_ok s r2 e1
    refine ⟨by unfold imm; exact i1, φ', i2, i3, ?_⟩
    unfold Rv
    exact ⟨a, zs, rfl, r1.mono i2, i4⟩
  | .lst xs, φ, H, h, h', v', x, s, r, e => by
    unfold frz at e
    split at e
    · rename_i hm
      cases e
      exact ⟨by unfold imm; exact hm, φ, Le.refl _ _, s, r⟩
    · cases e
  | .dct ks xs, φ, H, h, h', v', x, s, r, e => by
    unfold frz at e
    split at e
    · rename_i hm
      cases e
      exact ⟨by unfold imm; exact hm, φ, Le.refl _ _, s, r⟩
    · cases e
  | .exc ks xs, φ, H, h, h', v', x, s, r, e => by
    unfold frz at e
    split at e
    · rename_i hm
      cases e
      exact ⟨by unfold imm; exact hm, φ, Le.refl _ _, s, r⟩
    · cases e
  | .non, φ, H, h, h', v', x, s, r, e => by unfold frz at e; cases e; exact ⟨rfl, φ, Le.refl _ _, s, r⟩
  | .bl _, φ, H, h, h', v', x, s, r, e => by unfold frz at e; cases e; exact ⟨rfl, φ, Le.refl _ _, s, r⟩
  | .int _, φ, H, h, h', v', x, s, r, e => by unfold frz at e; cases e; exact ⟨rfl, φ, Le.refl _ _, s, r⟩
  | .str _, φ, H, h, h', v', x, s, r, e => by unfold frz at e; cases e; exact ⟨rfl, φ, Le.refl _ _, s, r⟩
theorem frzs_ok : ∀ {vs : List Val} {φ : Mp} {H : Hp} {h h' : Hv} {vs' : List Val} {xs : List V}, Sim Γ L φ h H → RvL Γ L φ H vs xs → frzs vs h = some (vs', h') → imms vs' = true ∧ ∃ φ', Le φ H φ' H ∧ Sim Γ L φ' h' H ∧ RvL Γ L φ' H vs' xs
  | [], φ, H, h, h', vs', xs, s, r, e => by unfold frzs at e; cases e; exact ⟨rfl, φ, Le.refl _ _, s, r⟩
  | v :: vs, φ, H, h, h', vs', xs, s, r, e => by
    unfold frzs at e
    unfold RvL at r
    obtain ⟨y, ys, rfl, r1, r2⟩ := r
    split at e
    · rename_i v1 h1 e1
      obtain ⟨i1, φ1, i2, i3, i4⟩ := frz_ok s r1 e1
      split at e
      · rename_i vs1 h2 e2
        cases e
        obtain ⟨j1, φ2, j2, j3, j4⟩ := frzs_ok i3 (r2.mono i2) e2
        refine ⟨?_, φ2, i2.trans j2, j3, .cons (i4.mono j2) j4⟩
        unfold imms
        rw [i1, j1]; rfl
      · cases e
    · cases e
end
/-- a value without objects, seen from a place where ours are the callers' -/
def LSub (L : Addr → Prop) (φ : Mp) : Addr → Prop := fun a => L a ∨ some a ∈ φ
mutual
theorem Rv.sub {φ : Mp} {H : Hp} : ∀ {v : Val} {x : V}, imm v = true → Rv Γ L φ H v x → Rv Γ (LSub L φ) [] H v x
  | .non, _, _, h => by unfold Rv at h ⊢; exact h
  | .bl _, _, _, h => by unfold Rv at h ⊢; exact h
  | .int _, _, _, h => by unfold Rv at h ⊢; exact h
  | .str _, _, _, h => by unfold Rv at h ⊢; exact h
  | .tup vs, x, m, h => by
    unfold imm at m
    unfold Rv at h ⊢
    obtain ⟨b, xs, h1, h2, h3⟩ := h
    refine ⟨b, xs, h1, ?_, RvL.sub m h3⟩
    rcases h2 with ⟨h2, nl, n⟩ | h2
    · exact .inl ⟨h2, fun z => z.elim nl n, fun z => nomatch z⟩
    · exact .inr h2
  | .lst vs, x, m, h => by
    unfold imm at m
    unfold Rv at h ⊢
    obtain ⟨b, xs, h1, h2, h3⟩ := h
    refine ⟨b, xs, h1, ?_, RvL.sub m h3⟩
    rcases h2 with ⟨h2, nl, n⟩ | h2
    · exact .inl ⟨h2, fun z => z.elim nl n, fun z => nomatch z⟩
    · exact .inr h2
  | .dct ks vs, x, m, h => by
    unfold imm at m
    unfold Rv at h ⊢
    obtain ⟨b, kvs, h1, h2, h3, h4⟩ := h
    exact ⟨b, kvs, h1, ⟨h2.1, fun z => z.elim h2.2.1 h2.2.2, fun z => nomatch z⟩, h3, RvL.sub m h4⟩
  | .ref i, x, m, h => by unfold imm at m; cases m
  | .exc c fs, x, m, h => by
    unfold imm at m
    unfold Rv at h ⊢
    obtain ⟨b, C, d, gs, h1, h2, h3, h4, h5, h6⟩ := h
    refine ⟨b, C, d, gs, h1, h2, h3, ⟨fun z => z.elim h4.1 h4.2, fun z => nomatch z⟩, RvL.sub m h5, ?_⟩
    cases d with
    | none => exact h6
    | some d => exact ⟨h6.1, ⟨fun z => z.elim h6.2.1.1 h6.2.1.2, fun z => nomatch z⟩, h6.2.2⟩
theorem RvL.sub {φ : Mp} {H : Hp} : ∀ {vs : List Val} {xs : List V}, imms vs = true → RvL Γ L φ H vs xs → RvL Γ (LSub L φ) [] H vs xs
  | [], _, _, h => by unfold RvL at h ⊢; exact h
  | v :: vs, xs, m, h => by
    unfold imms at m
    obtain ⟨m1, m2⟩ := Bool.and_eq_true_iff.mp m
    unfold RvL at h ⊢
    obtain ⟨y, ys, h1, h2, h3⟩ := h
    exact ⟨y, ys, h1, Rv.sub m1 h2, RvL.sub m2 h3⟩
end
mutual
theorem Rv.back {φ ψ : Mp} {H : Hp} : ∀ {v : Val} {x : V}, imm v = true → Rv Γ (LSub L φ) ψ H v x → Rv Γ L φ H v x
  | .non, _, _, h => by unfold Rv at h ⊢; exact h
  | .bl _, _, _, h => by unfold Rv at h ⊢; exact h
  | .int _, _, _, h => by unfold Rv at h ⊢; exact h
  | .str _, _, _, h => by unfold Rv at h ⊢; exact h
  | .tup vs, x, m, h => by
    unfold imm at m
    unfold Rv at h ⊢
    obtain ⟨b, xs, h1, h2, h3⟩ := h
    refine ⟨b, xs, h1, ?_, RvL.back m h3⟩
    rcases h2 with ⟨h2, nl, n⟩ | h2
    · exact .inl ⟨h2, fun z => nl (.inl z), fun z => nl (.inr z)⟩
    · exact .inr h2
  | .lst vs, x, m, h => by
    unfold imm at m
    unfold Rv at h ⊢
    obtain ⟨b, xs, h1, h2, h3⟩ := h
    refine ⟨b, xs, h1, ?_, RvL.back m h3⟩
    rcases h2 with ⟨h2, nl, n⟩ | h2
    · exact .inl ⟨h2, fun z => nl (.inl z), fun z => nl (.inr z)⟩
    · exact .inr h2
  | .dct ks vs, x, m, h => by
    unfold imm at m
    unfold Rv at h ⊢
    obtain ⟨b, kvs, h1, h2, h3, h4⟩ := h
    exact ⟨b, kvs, h1, ⟨h2.1, fun z => h2.2.1 (.inl z), fun z => h2.2.1 (.inr z)⟩, h3, RvL.back m h4⟩
  | .ref i, x, m, h => by unfold imm at m; cases m
  | .exc c fs, x, m, h => by
    unfold imm at m
    unfold Rv at h ⊢
    obtain ⟨b, C, d, gs, h1, h2, h3, h4, h5, h6⟩ := h
    refine ⟨b, C, d, gs, h1, h2, h3, ⟨fun z => h4.1 (.inl z), fun z => h4.1 (.inr z)⟩, RvL.back m h5, ?_⟩
    cases d with
    | none => exact h6
    | some d => exact ⟨h6.1, ⟨fun z => h6.2.1.1 (.inl z), fun z => h6.2.1.1 (.inr z)⟩, h6.2.2⟩
theorem RvL.back {φ ψ : Mp} {H : Hp} : ∀ {vs : List Val} {xs : List V}, imms vs = true → RvL Γ (LSub L φ) ψ H vs xs → RvL Γ L φ H vs xs
  | [], _, _, h => by unfold RvL at h ⊢; exact h
  | v :: vs, xs, m, h => by
    unfold imms at m
    obtain ⟨m1, m2⟩ := Bool.and_eq_true_iff.mp m
    unfold RvL at h ⊢
    obtain ⟨y, ys, h1, h2, h3⟩ := h
    exact ⟨y, ys, h1, Rv.back m1 h2, RvL.back m2 h3⟩
end
end

/-! ### own functions -/
abbrev Fn := List Val → Hv → R Val
/-- a function's promise: it does what F says -/
def spF (Γ : G) (n : Nat) (F : Fn) : Sp := fun vs H Q E => ∃ L φ h args, Sim Γ L φ h H ∧ RvL Γ L φ H args vs ∧ vs.length = n ∧ PR (F args h) (OkV Γ L φ H Q) (OkX Γ L φ H E)
def startE (n : Nat) (args : List Val) : Ev := args.map some ++ List.replicate (n - args.length) none
/-- what a body makes of its arguments -/
def fnOf (n : Nat) (s : ST) : Fn := fun args h => match s (startE n args) h with
  | .nx _ h => .ok .non h
  | .rt v h => .ok v h
  | .er e _ h => .err e h
  | _ => .bad
/-- what is known of the whole -/
structure Top (P : Program) (base : Heap) : Prop where
  tree : P.given.tree = none
  seer : base.NoSeer
  digits : ∃ mc, base.Ns cStatics mc ∧ mc "sys.int_max_str_digits" = none
section
variable {Γ : G} {P : Program} {w : World} {mg : Str → Option Value} {base : Heap}
theorem start_sim {L : Addr → Prop} {φ : Mp} {H : Hp} {N : List Str} {args : List Val} {vs : List V} (r : RvL Γ L φ H args vs) : SimE Γ L φ (startE N.length args) (L2.start N vs) H := by
  have hl := r.length
  refine ⟨by unfold startE L2.start; rw [List.length_append, List.length_append, List.length_map, List.length_map, List.length_replicate, List.length_replicate, hl], fun i v e => ?_⟩
  unfold startE at e
  by_cases hi : i < args.length
  · rw [List.getElem?_append_left (by simpa using hi), List.getElem?_map] at e
    obtain ⟨u, e1, e2⟩ := Option.map_eq_some_iff.mp e
    cases e2
    obtain ⟨x, x1, x2⟩ := r.get e1
    refine ⟨x, ?_, x2⟩
    unfold L2.start
    rw [List.getElem?_append_left (by rw [List.length_map, ← hl]; exact hi), List.getElem?_map, x1]
    rfl
  · rw [List.getElem?_append_right (by simpa using Nat.le_of_not_lt hi), List.getElem?_replicate] at e
    split at e <;> cases e
/-- THE RULE: a function by its body -/
theorem fn_ok {x qual : Str} {st : Stmt} {f : Addr} {fd : FuncData} {N ps : List Str} {k : Nat} {s : ST} (T : Top P base) (F : Fun Γ.K x qual st f fd) (S : FnScope N ps (defScope st)) (hk : 60 ≤ k)
    (hbody : ∀ (cdv : Value) (A : Around) (outer : List Env) (s0 : Shared) (H0 : Hp) (E : XK), Room k (A.deeper (envOfC qual (defScope st) s0.heap.objs.size f cdv)) →
      Ok Γ (cxOf (L2.CX P w) P w Γ.K mg base N qual (defScope st) f cdv A outer s0 H0 E) (fun cls d _ H => E cls d H) →
      PSs (cxOf (L2.CX P w) P w Γ.K mg base N qual (defScope st) f cdv A outer s0 H0 E) (defBody st) (tS Γ (fun cls d _ H => E cls d H) s)) :
    FnOk P w Γ.K mg base (L2.CX P w) (k + 1) f fd ps (spF Γ ps.length (fnOf N.length s)) := by
  refine F.okX S (fun vs H Q E h => by obtain ⟨_, _, _, _, _, _, h, _⟩ := h; exact h) (fun cdv A outer s0 H vs Q E hr h => ?_)
  obtain ⟨L, φ, hv, args, sm, ra, hl, p⟩ := h
  have ok : Ok Γ (cxOf (L2.CX P w) P w Γ.K mg base N qual (defScope st) f cdv A outer s0 H E) (fun cls d _ H => E cls d H) := by
    refine ⟨rfl, ?_, ?_, takes_of rfl rfl rfl rfl, passes_of rfl, T.tree, T.seer, T.digits, ⟨_, _, rfl, S.gen, S.co, rfl, rfl⟩⟩
    · have := hr.un
      show (A.deeper _).units + 300 < cLine
      omega
    · have := hr.dp
      show (A.deeper _).depth + 180 < recursionLimit
      omega
  refine ⟨_, hbody cdv A outer s0 H E hr ok, L, φ, startE N.length args, hv, start_sim ra, sm, ?_⟩
  unfold fnOf at p
  cases z : s (startE N.length args) hv with
  | nx ρ h => rw [z] at p; intro φ' H' σ' l s' se'; exact OkV.here (OkV.mono l p) s' mk_non
  | rt v h => rw [z] at p; exact p
  | er e ρ h => rw [z] at p; exact fun φ' H' σ' cls d l s' se' x => p φ' H' cls d l s' x
  | bk ρ h => rw [z] at p; exact p.elim
  | ct ρ h => rw [z] at p; exact p.elim
  | bad => rw [z] at p; exact p.elim

/-! ### calls -/
/-- the callee works on our heap -/
def eCall (n : Nat) (F : Fn) (g : EA) : EX := fun ρ h => (g ρ h).bind fun vs h => if vs.length = n then F vs h else .bad
/-- what a function tells of values without objects, on a heap of its own -/
def runP (F : Fn) (vs : List Val) : R Val := match F vs [] with
  | .ok v g => (match frz v g with
    | some (v', _) => .ok v' []
    | none => .bad)
  | .err e _ => if imms e.fs then .err e [] else .bad
  | .bad => .bad
theorem runP_ok {F : Fn} {vs : List Val} {v' : Val} {g' : Hv} (e : runP F vs = .ok v' g') : ∃ v g g1, F vs [] = .ok v g ∧ frz v g = some (v', g1) := by
  unfold runP at e
  split at e
  · rename_i v g z
    split at e
    · rename_i v1 g1 zf
      cases e
      exact ⟨v, g, g1, z, zf⟩
    · cases e
  · split at e <;> cases e
  · cases e
theorem runP_err {F : Fn} {vs : List Val} {x : Ex} {g' : Hv} (e : runP F vs = .err x g') : ∃ g, F vs [] = .err x g ∧ imms x.fs = true := by
  unfold runP at e
  split at e
  · split at e <;> cases e
  · rename_i x' g z
    split at e
    · rename_i im
      cases e
      exact ⟨g, z, im⟩
    · cases e
  · cases e
/-- the callee works on a heap of its own: arguments and answer are values without objects -/
def callP (n : Nat) (F : Fn) : Fn := fun vs h => if vs.length = n then (match frzs vs h with
  | some (vs', h') => (match runP F vs' with
    | .ok v _ => .ok v h'
    | .err e _ => .err e h'
    | .bad => .bad)
  | none => .bad) else .bad
def eCallP (n : Nat) (F : Fn) (g : EA) : EX := fun ρ h => (g ρ h).bind fun vs h => callP n F vs h
variable {X : Cx} {W : WX} {fa : EA} {f : EX} {a c e o : Expr} {es : List Expr} {x m : Str} {p pos apos : Pos} {g C : Addr} {fd : FuncData} {ps : List Str} {k n : Nat} {F : Fn}
/-- a call on our heap, by values -/
theorem go_call {L : Addr → Prop} {φ φ1 : Mp} {H H1 : Hp} {h1 : Hv} {vs : List Val} {xs : List V} {Q : VK} {E : XK} (l1 : Le φ H φ1 H1) (s1 : Sim Γ L φ1 h1 H1) (r1 : RvL Γ L φ1 H1 vs xs)
    (q : PR (if vs.length = n then F vs h1 else .bad) (OkV Γ L φ H Q) (OkX Γ L φ H E)) : spF Γ n F xs H1 Q E := by
  split at q
  · rename_i hl
    exact ⟨L, φ1, h1, vs, s1, r1, by rw [← r1.length]; exact hl, q.mono (fun _ _ z => z.mono l1) (fun _ _ z => z.mono l1)⟩
  · exact q.elim
/-- a call on a heap of its own -/
theorem go_callP {L : Addr → Prop} {φ φ1 : Mp} {H H1 : Hp} {h1 : Hv} {vs : List Val} {xs : List V} {Q : VK} {E : XK} (l1 : Le φ H φ1 H1) (s1 : Sim Γ L φ1 h1 H1) (r1 : RvL Γ L φ1 H1 vs xs)
    (q : PR (callP n F vs h1) (OkV Γ L φ H Q) (OkX Γ L φ H E)) : spF Γ n F xs H1 Q E := by
  unfold callP at q
  split at q
  · rename_i hl
    split at q
    · rename_i vs' h2 ef
      obtain ⟨im, φ2, l2, s2, r2⟩ := frzs_ok s1 r1 ef
      have sub : Sim Γ (LSub L φ2) [] [] H1 := by
        refine ⟨rfl, fun i o z => ?_, fun i j a z _ => ?_, fun a m => ?_, fun a z => ?_⟩
        · simp at z
        · simp at z
        · exact nomatch m
        · rcases z with z | z
          · exact s2.ldom a z
          · exact (s2.apart a z).2
      refine ⟨LSub L φ2, [], [], vs', sub, r2.sub im, by rw [← r1.length]; exact hl, ?_⟩
      -- behind the call: ours stand as before
      have aft : ∀ {φ3 : Mp} {H3 : Hp}, Le [] H1 φ3 H3 → Le φ H φ2 H3 ∧ Sim Γ L φ2 h2 H3 := fun {φ3 H3} l3 => by
        have k3 : ∀ a o, H1 a = some o → H3 a = some o := fun a o e => l3.keep a o e (fun z => nomatch z)
        have l4 : Le φ2 H1 φ2 H3 := ⟨Nat.le_refl _, fun _ _ => .inl rfl, fun a o e _ => k3 a o e, fun a m => .inl m, l3.dom⟩
        exact ⟨(l1.trans l2).trans l4, s2.past l4 fun a u _ z => k3 a u z⟩
      cases z : runP F vs' with
      | ok v' g' =>
        rw [z] at q
        obtain ⟨v, g, g1, z1, zf⟩ := runP_ok z
        rw [z1]
        intro φ3 H3 y l3 s3 r3
        obtain ⟨la, sa⟩ := aft l3
        obtain ⟨iv, φ4, l4, s4, r4⟩ := frz_ok s3 r3 zf
        exact q φ2 H3 y la sa (Rv.back iv r4)
      | err e g' =>
        rw [z] at q
        obtain ⟨g, z1, im2⟩ := runP_err z
        rw [z1]
        intro φ3 H3 cls d l3 s3 r3
        obtain ⟨la, sa⟩ := aft l3
        refine q φ2 H3 cls d la sa ?_
        obtain ⟨C, gs, c1, c2, c3, c4⟩ := r3
        refine ⟨C, gs, c1, c2, RvL.back im2 c3, ?_⟩
        cases d with
        | none => exact c4
        | some d => exact ⟨c4.1, ⟨fun z => c4.2.1.1 (.inl z), fun z => c4.2.1.1 (.inr z)⟩, c4.2.2⟩
      | bad => rw [z] at q; exact q.elim
    · exact q.elim
  · exact q.elim
theorem s_call (ok : Ok Γ X W) (hF : FnOk X.prog X.w X.K X.mg X.base (L2.CX X.prog X.w) k g fd ps (spF Γ n F)) (hr : Room k X.A) (hg : Gl X x) (hm : X.mg x = some (.ref g)) (hk : PySem.W.keepIn X.K (.ref g) = true) (hb : Binds X.K fd ps [])
    (ha : PA X (e :: es) (tA Γ W fa)) (hdb : (x == ("__debug__" : Str)) = false := by decide) (he : starEach (e :: es) X.env = (false, eval e X.env) :: starEach es X.env := by rfl) (hpl : (backTo pos (starEach es X.env)).any (·.1) = false := by rfl) :
    PE X (.Call (.Name x p) (e :: es) [] pos) (tE Γ W (eCall n F fa)) := PEw (pe_callS hF hr hg hm hk hb (fun σ => passAt ok.tk σ) ha hdb he hpl) <| by
  rintro σ H Q ⟨L, φ, ρ, h, se, s, q⟩
  refine ⟨L, φ, ρ, h, se, s, ?_⟩
  unfold eCall at q
  rw [PR.bind] at q
  refine q.mono (fun vs h1 q => ?_) fun _ _ q => q
  intro φ1 H1 xs l1 s1 r1
  exact go_call l1 s1 r1 q
theorem s_callP (ok : Ok Γ X W) (hF : FnOk X.prog X.w X.K X.mg X.base (L2.CX X.prog X.w) k g fd ps (spF Γ n F)) (hr : Room k X.A) (hg : Gl X x) (hm : X.mg x = some (.ref g)) (hk : PySem.W.keepIn X.K (.ref g) = true) (hb : Binds X.K fd ps [])
    (ha : PA X (e :: es) (tA Γ W fa)) (hdb : (x == ("__debug__" : Str)) = false := by decide) (he : starEach (e :: es) X.env = (false, eval e X.env) :: starEach es X.env := by rfl) (hpl : (backTo pos (starEach es X.env)).any (·.1) = false := by rfl) :
    PE X (.Call (.Name x p) (e :: es) [] pos) (tE Γ W (eCallP n F fa)) := PEw (pe_callS hF hr hg hm hk hb (fun σ => passAt ok.tk σ) ha hdb he hpl) <| by
  rintro σ H Q ⟨L, φ, ρ, h, se, s, q⟩
  refine ⟨L, φ, ρ, h, se, s, ?_⟩
  unfold eCallP at q
  rw [PR.bind] at q
  refine q.mono (fun vs h1 q => ?_) fun _ _ q => q
  intro φ1 H1 xs l1 s1 r1
  exact go_callP l1 s1 r1 q
/-- a function without parameters -/
theorem pe_call0S {CX : CXT} {sp : Sp} {E : L2.St → XK} (hF : FnOk X.prog X.w X.K X.mg X.base CX k g fd ps sp) (hr : Room k X.A) (hg : Gl X x) (hm : X.mg x = some (.ref g)) (hk : PySem.W.keepIn X.K (.ref g) = true) (hb : Binds X.K fd ps []) (hx : ∀ σ, PassesAt CX X σ (E σ))
    (hdb : (x == ("__debug__" : Str)) = false := by decide) : PE X (.Call (.Name x p) [] [] pos) (tCallS sp E tNil) := by
  refine ⟨fun pins s σ H Q I q => ?_⟩
  refine wpAny_Call_Name_kw (ld_glob I hg hm ?_ hdb)
  exact PySem.W.callWith_K0 I.kIn hk (run_fnS (us := []) hF hr hb (hx σ) I .nil q)
theorem s_call0 (ok : Ok Γ X W) (hF : FnOk X.prog X.w X.K X.mg X.base (L2.CX X.prog X.w) k g fd ps (spF Γ n F)) (hr : Room k X.A) (hg : Gl X x) (hm : X.mg x = some (.ref g)) (hk : PySem.W.keepIn X.K (.ref g) = true) (hb : Binds X.K fd ps [])
    (hdb : (x == ("__debug__" : Str)) = false := by decide) : PE X (.Call (.Name x p) [] [] pos) (tE Γ W (eCall n F aNil)) := PEw (pe_call0S hF hr hg hm hk hb (fun σ => passAt ok.tk σ) hdb) <| by
  rintro σ H Q ⟨L, φ, ρ, h, se, s, q⟩
  exact go_call (Le.refl _ _) s .nil q
end
end Eng

set_option Elab.async false
set_option linter.all false
set_option autoImplicit false
set_option maxRecDepth 100000
set_option maxHeartbeats 4000000
/-! The engine, part G: methods of built-in types, texts, isinstance, dict displays. -/
namespace Eng
open PySem L2 PySem.Spec PyProof.Rows

/-! ### methods of built-in types -/
def hasTy (T : String) (h : Hv) (v : Val) : Bool := match v with
  | .str _ => T == "str"
  | .lst _ => T == "list"
  | .dct _ _ => T == "dict"
  | .ref i => (match h[i]? with
    | some (.lst _) => T == "list"
    | some (.dct _ _) => T == "dict"
    | _ => false)
  | _ => false
section
variable {Γ : G} {L : Addr → Prop} {φ : Mp} {H : Hp} {h : Hv} {v : Val} {x : V}
theorem hasTy_ok {T : String} (s : Sim Γ L φ h H) (r : Rv Γ L φ H v x) (e : hasTy T h v = true) : tyV Γ.K T x H := by
  unfold hasTy at e
  split at e
  · rw [rv_str r]; exact eq_of_beq e
  · have := eq_of_beq e
    subst this
    obtain ⟨a, xs, rfl, q1, q2, _⟩ := asL_ok s r rfl
    exact .inl ⟨rfl, xs, q1.sq⟩
  · have := eq_of_beq e
    subst this
    unfold Rv at r
    obtain ⟨a, kvs, rfl, q1, _⟩ := r
    exact .inr (.inr (.inl ⟨rfl, .inl ⟨kvs, q1.1⟩⟩))
  · rename_i i
    unfold Rv at r
    obtain ⟨o, o1, o2⟩ := r
    split at e
    · rename_i ys q
      have := eq_of_beq e
      subst this
      rcases s.live i _ q with z | ⟨a, z1, xs, z2, z3⟩
      · cases z
      · rw [z1] at o1
        cases o1
        rw [o2 a rfl]
        exact .inl ⟨rfl, xs, .inl (.inl z2)⟩
    · rename_i ks ys q
      have := eq_of_beq e
      subst this
      rcases s.live i _ q with z | ⟨a, z1, xs, z2, z3⟩
      · cases z
      · rw [z1] at o1
        cases o1
        rw [o2 a rfl]
        exact .inr (.inr (.inl ⟨rfl, .inl ⟨xs, z2⟩⟩))
    · cases e
  · cases e
/-- a live list, and its change -/
theorem ref_lst (s : Sim Γ L φ h H) {i : Nat} {vs : List Val} (r : Rv Γ L φ H (.ref i) x) (e : h[i]? = some (.lst vs)) : ∃ a xs, x = .ref a ∧ H a = some (.lst xs) ∧ RvL Γ L φ H vs xs ∧ φ[i]? = some (some a) := by
  unfold Rv at r
  obtain ⟨o, o1, o2⟩ := r
  rcases s.live i _ e with z | ⟨a, z1, xs, z2, z3⟩
  · cases z
  · rw [z1] at o1
    cases o1
    exact ⟨a, xs, o2 a rfl, z2, z3, z1⟩
theorem OkV.wr {Q : VK} {u : Val} {y : V} {i : Nat} {a : Addr} {vs : List Val} {xs : List V} (k : OkV Γ L φ H Q u (h.set i (.lst vs))) (s : Sim Γ L φ h H) (z : φ[i]? = some (some a))
    (r : RvL Γ L φ H vs xs) (ry : Rv Γ L φ H u y) : Q y (upd H a (.lst xs)) := by
  have m := List.mem_of_getElem? z
  exact k φ _ y (Le.write m) (s.write z ⟨xs, upd_same, r.mono (Le.write m)⟩) (ry.mono (Le.write m))
end
abbrev OM := Val → List Val → Hv → R Val
/-- o.m(..): m's op looks at the object and the arguments -/
def eM (T : String) (op : OM) (fo : EX) (fa : EA) : EX := fun ρ h => (fo ρ h).bind fun o h => if hasTy T h o then (fa ρ h).bind fun vs h => op o vs h else .bad
def OpM (Γ : G) (op : OM) (r : V → List V → Hp → VK → Prop) : Prop := ∀ (L : Addr → Prop) (φ : Mp) (h : Hv) (H : Hp) (o : Val) (vs : List Val) (x : V) (xs : List V) (Q : VK), Sim Γ L φ h H → Rv Γ L φ H o x → RvL Γ L φ H vs xs → PR (op o vs h) (OkV Γ L φ H Q) (fun _ _ => False) → r x xs H Q
def NoErrM (op : OM) : Prop := ∀ o vs h e g, op o vs h ≠ .err e g
section
variable {Γ : G} {X : Cx} {W : WX} {f g fo : EX} {fa : EA} {o e : Expr} {es : List Expr} {name : Str} {apos cpos pos : Pos} {T id : String} {op : OM} {r : V → List V → Hp → VK → Prop}
theorem rd_m (hK : X.K = Γ.K) (hop : OpM Γ op r) (ne : NoErrM op) : ∀ σ H Q, tE Γ W (eM T op fo fa) σ H Q → tBM X.K T r (tE Γ W fo) (tA Γ W fa) σ H Q := by
  rintro σ H Q ⟨L, φ, ρ, h, se, s, p⟩
  refine ⟨L, φ, ρ, h, se, s, ?_⟩
  unfold eM at p
  rw [PR.bind] at p
  refine p.mono (fun o h1 q => ?_) fun _ _ q => q
  intro φ1 H1 x l1 s1 r1
  split at q
  · rename_i ht
    refine ⟨by rw [hK]; exact hasTy_ok s1 r1 ht, L, φ1, ρ, h1, se.mono l1, s1, ?_⟩
    rw [PR.bind] at q
    refine q.mono (fun vs h2 q2 => ?_) fun e _ q2 => OkX.mono l1 q2
    intro φ2 H2 xs l2 s2 r2
    exact hop L φ2 h2 H2 o vs x xs Q s2 (r1.mono l2) r2 ((q2.noE' (ne o vs h2)).mono (fun w h3 q3 => q3.mono (l1.trans l2)) (fun _ _ z => z))
  · exact q.elim
theorem s_bm (hK : X.K = Γ.K) (pa : PlainAttrs T) (slot : Slot T name id) (hty : typeOf (.builtin id) = pure (.type "method_descriptor")) (hm : MtR X id r) (hop : OpM Γ op r) (ne : NoErrM op) (ho : PE X o (tE Γ W fo)) (ha : PA X (e :: es) (tA Γ W fa))
    (hbase : attributeBase o name X.env (eval o X.env) = eval o X.env := by rfl)
    (hfew : ((backTo cpos (starEach (e :: es) X.env)).all (fun x => !x.1) && (backToKw cpos (keywordEach [] X.env)).all (fun x => x.1.isSome)
      && decide ((e :: es).length + ([] : List Keyword).length + (if ([] : List Keyword).isEmpty then 0 else 1) < 30)) = true := by rfl)
    (hline : (apos.endLine == cpos.line) = true := by rfl) (hs : starEach (e :: es) X.env = (false, eval e X.env) :: starEach es X.env := by rfl) (hplain : (backTo cpos (starEach es X.env)).any (·.1) = false := by rfl) :
    PE X (.Call (.Attribute o name apos) (e :: es) [] cpos) (tE Γ W (eM T op fo fa)) := PEw (pe_bm pa slot hty hm ho ha hbase hfew hline hs hplain) (rd_m hK hop ne)
theorem s_bm0 (hK : X.K = Γ.K) (pa : PlainAttrs T) (slot : Slot T name id) (hty : typeOf (.builtin id) = pure (.type "method_descriptor")) (hm : MtR X id r) (hop : OpM Γ op r) (ne : NoErrM op) (ho : PE X o (tE Γ W fo))
    (hbase : attributeBase o name X.env (eval o X.env) = eval o X.env := by rfl) (hline : (apos.endLine == cpos.line) = true := by rfl) :
    PE X (.Call (.Attribute o name apos) [] [] cpos) (tE Γ W (eM T op fo aNil)) := PEw (pe_bm0 pa slot hty hm ho hbase hline) <| by
  rintro σ H Q ⟨L, φ, ρ, h, se, s, p⟩
  refine ⟨L, φ, ρ, h, se, s, ?_⟩
  unfold eM at p
  rw [PR.bind] at p
  refine p.mono (fun o h1 q => ?_) fun _ _ q => q
  intro φ1 H1 x l1 s1 r1
  split at q
  · rename_i ht
    refine ⟨by rw [hK]; exact hasTy_ok s1 r1 ht, ?_⟩
    have q2 : PR (op o [] h1) (OkV Γ L φ H Q) (OkX Γ L φ H (WE W σ)) := q
    exact hop L φ1 h1 H1 o [] x [] Q s1 r1 .nil ((q2.noE' (ne o [] h1)).mono (fun w h3 q3 => q3.mono l1) (fun _ _ z => z))
  · exact q.elim

/-! ### append, insert, pop, clear -/
def mAppend : OM := fun o vs h => match o, vs with
  | .ref i, [v] => (match h[i]? with
    | some (.lst xs) => if xs.length < 1000000 then .ok .non (h.set i (.lst (xs ++ [v]))) else .bad
    | _ => .bad)
  | _, _ => .bad
def mInsert : OM := fun o vs h => match o, vs with
  | .ref i, [.int k, v] => (match h[i]? with
    | some (.lst xs) => if xs.length < 1000000 ∧ 0 ≤ k ∧ k < 1000000 then .ok .non (h.set i (.lst (xs.take k.toNat ++ [v] ++ xs.drop k.toNat))) else .bad
    | _ => .bad)
  | _, _ => .bad
def mPop : OM := fun o vs h => match o, vs with
  | .ref i, [] => (match h[i]? with
    | some (.lst xs) => (match xs[xs.length - 1]? with
      | some v => .ok v (h.set i (.lst xs.dropLast))
      | none => .bad)
    | _ => .bad)
  | _, _ => .bad
def mClear : OM := fun o vs h => match o, vs with
  | .ref i, [] => (match h[i]? with
    | some (.lst xs) => .ok .non (h.set i (.lst []))
    | _ => .bad)
  | _, _ => .bad
/-- xs.extend(ys), ys a list -/
def mExtend : OM := fun o vs h => match o, vs with
  | .ref i, [.ref j] => (match h[i]?, h[j]? with
    | some (.lst xs), some (.lst ys) => if xs.length + ys.length ≤ 1000000 then .ok .non (h.set i (.lst (xs ++ ys))) else .bad
    | _, _ => .bad)
  | _, _ => .bad
theorem lt_line {n : Nat} (h : n < 1000000) : n < sizeLine := by rw [sizeLine_eq]; omega
theorem p_append : OpM Γ mAppend rAppend := by
  intro L φ h H o vs x xs Q s r rs p
  unfold mAppend at p
  split at p
  · split at p
    · rename_i ys e
      split at p
      · rename_i hz
        obtain ⟨y, rfl, ry⟩ := rvl1 rs
        obtain ⟨a, zs, rfl, z1, z2, z3⟩ := ref_lst s r e
        exact ⟨a, zs, y, rfl, rfl, z1, by rw [← z2.length]; exact lt_line hz, OkV.wr p s z3 (z2.append (.cons ry .nil)) mk_non⟩
      · exact p.elim
    · exact p.elim
  · exact p.elim
theorem n_append : NoErrM mAppend := by
  intro o vs h e g q
  unfold mAppend at q
  split at q
  · split at q
    · split at q <;> cases q
    · cases q
  · cases q
theorem p_insert : OpM Γ mInsert (fun x vs H Q => ∃ (l : Addr) (xs : List V) (i : Int) (y : V), x = .ref l ∧ vs = [.int i, y] ∧ H l = some (.lst xs) ∧ xs.length < sizeLine ∧ 0 ≤ i ∧ i < 2 ^ 63 ∧
    Q .non (upd H l (.lst (xs.take i.toNat ++ [y] ++ xs.drop i.toNat)))) := by
  intro L φ h H o vs x xs Q s r rs p
  unfold mInsert at p
  split at p
  · split at p
    · rename_i ys e
      split at p
      · rename_i hz
        obtain ⟨y0, y, rfl, r0, ry⟩ := rvl2 rs
        obtain ⟨a, zs, rfl, z1, z2, z3⟩ := ref_lst s r e
        rw [rv_int r0]
        exact ⟨a, zs, _, y, rfl, rfl, z1, by rw [← z2.length]; exact lt_line hz.1, hz.2.1, by omega, OkV.wr p s z3 (((z2.take _).append (.cons ry .nil)).append (z2.drop _)) mk_non⟩
      · exact p.elim
    · exact p.elim
  · exact p.elim
theorem n_insert : NoErrM mInsert := by
  intro o vs h e g q
  unfold mInsert at q
  split at q
  · split at q
    · split at q <;> cases q
    · cases q
  · cases q
theorem RvL.dropLast {L : Addr → Prop} {φ : Mp} {H : Hp} {vs : List Val} {xs : List V} (r : RvL Γ L φ H vs xs) : RvL Γ L φ H vs.dropLast xs.dropLast := by
  rw [List.dropLast_eq_take, List.dropLast_eq_take, r.length]
  exact r.take _
theorem p_pop : OpM Γ mPop rPop := by
  intro L φ h H o vs x xs Q s r rs p
  unfold mPop at p
  split at p
  · split at p
    · rename_i ys e
      split at p
      · rename_i v ev
        obtain ⟨a, zs, rfl, z1, z2, z3⟩ := ref_lst s r e
        unfold RvL at rs
        subst rs
        obtain ⟨y, y1, y2⟩ := z2.get ev
        rw [z2.length] at y1
        exact ⟨a, zs, y, rfl, rfl, z1, y1, OkV.wr p s z3 z2.dropLast y2⟩
      · exact p.elim
    · exact p.elim
  · exact p.elim
theorem n_pop : NoErrM mPop := by
  intro o vs h e g q
  unfold mPop at q
  split at q
  · split at q
    · split at q <;> cases q
    · cases q
  · cases q
theorem p_clear : OpM Γ mClear rClear := by
  intro L φ h H o vs x xs Q s r rs p
  unfold mClear at p
  split at p
  · split at p
    · rename_i ys e
      obtain ⟨a, zs, rfl, z1, z2, z3⟩ := ref_lst s r e
      unfold RvL at rs
      subst rs
      exact ⟨a, zs, rfl, rfl, z1, OkV.wr p s z3 .nil mk_non⟩
    · exact p.elim
  · exact p.elim
theorem n_clear : NoErrM mClear := by
  intro o vs h e g q
  unfold mClear at q
  split at q
  · split at q <;> cases q
  · cases q
theorem p_extend : OpM Γ mExtend rExtend := by
  intro L φ h H o vs x xs Q s r rs p
  unfold mExtend at p
  split at p
  · split at p
    · rename_i ys zs' e e2
      split at p
      · rename_i hz
        obtain ⟨y, rfl, ry⟩ := rvl1 rs
        obtain ⟨a, zs, rfl, z1, z2, z3⟩ := ref_lst s r e
        obtain ⟨b, ws, rfl, w1, w2, w3⟩ := ref_lst s ry e2
        exact ⟨a, b, zs, ws, rfl, rfl, z1, w1, by rw [← z2.length, ← w2.length]; exact big hz, OkV.wr p s z3 (z2.append w2) mk_non⟩
      · exact p.elim
    · exact p.elim
  · exact p.elim
theorem n_extend : NoErrM mExtend := by
  intro o vs h e g q
  unfold mExtend at q
  split at q
  · split at q
    · split at q <;> cases q
    · cases q
  · cases q

/-! ### split, join, rfind -/
/-- s.split(sep): a list that never changes again -/
def mSplit : OM := fun o vs h => match o, vs with
  | .str a, [.str b] => if b.length ≠ 0 ∧ a.length ≤ 1000000 then .ok (.lst ((Txt.split a b).map .str)) h else .bad
  | _, _ => .bad
def strL : List Val → Option (List Str)
  | [] => some []
  | .str s :: vs => (strL vs).map (s :: ·)
  | _ => none
theorem strL_ok : ∀ {vs : List Val} {ss : List Str}, strL vs = some ss → vs = ss.map .str
  | [], ss, e => by cases e; rfl
  | .str s :: vs, ss, e => by
    obtain ⟨ts, e1, e2⟩ := Option.map_eq_some_iff.mp (show (strL vs).map (s :: ·) = some ss from e)
    subst e2
    rw [strL_ok e1]; rfl
  | .non :: _, _, e => by cases e
  | .bl _ :: _, _, e => by cases e
  | .int _ :: _, _, e => by cases e
  | .tup _ :: _, _, e => by cases e
  | .lst _ :: _, _, e => by cases e
  | .dct _ _ :: _, _, e => by cases e
  | .ref _ :: _, _, e => by cases e
  | .exc _ _ :: _, _, e => by cases e
theorem strL_map (ss : List Str) : strL (ss.map .str) = some ss := by
  induction ss with
  | nil => rfl
  | cons s ss ih => show (strL (ss.map Val.str)).map (s :: ·) = _; rw [ih]; rfl
theorem rvl_strs {L : Addr → Prop} {φ : Mp} {H : Hp} : ∀ {ss : List Str} {xs : List V}, RvL Γ L φ H (ss.map .str) xs → xs = ss.map V.str
  | [], xs, r => by unfold RvL at r; exact r
  | s :: ss, xs, r => by
    unfold RvL at r
    obtain ⟨y, ys, rfl, r1, r2⟩ := r
    rw [rv_str r1, rvl_strs r2]; rfl
theorem mk_strs {L : Addr → Prop} {φ : Mp} {H : Hp} : ∀ (ss : List Str), RvL Γ L φ H (ss.map .str) (ss.map V.str)
  | [] => .nil
  | s :: ss => .cons mk_str (mk_strs ss)
theorem p_split : OpM Γ mSplit (fun x xs H Q => ∃ a b, x = .str a ∧ xs = [.str b] ∧ (b.length == 0) = false ∧ a.length + 2 ≤ sizeLine ∧ rNewStrs (Txt.split a b) H Q) := by
  intro L φ h H o vs x xs Q s r rs p
  unfold mSplit at p
  split at p
  · split at p
    · rename_i hz
      obtain ⟨y, rfl, ry⟩ := rvl1 rs
      exact ⟨_, _, rv_str r, by rw [rv_str ry], beq_eq_false_iff_ne.mpr hz.1, by have := hz.2; rw [sizeLine_eq]; omega, fun q hq => OkV.lst p s (mk_strs _) hq⟩
    · exact p.elim
  · exact p.elim
theorem n_split : NoErrM mSplit := by
  intro o vs h e g q
  unfold mSplit at q
  split at q
  · split at q <;> cases q
  · cases q
def mJoin : OM := fun o vs h => match o, vs with
  | .str a, [v] => (match asL h v with
    | some ws => (match strL ws with
      | some ss => if (ss.map (·.length)).sum + ss.length * a.length ≤ 16777216 then .ok (.str (Txt.join a ss)) h else .bad
      | none => .bad)
    | none => .bad)
  | _, _ => .bad
theorem p_join : OpM Γ mJoin (fun x xs H Q => ∃ a p, ∃ ys : List Str, x = .str a ∧ xs = [.ref p] ∧ (SqL Γ.K H p (ys.map V.str) ∨ SqT Γ.K H p (ys.map V.str)) ∧
    (ys.map (·.length)).sum + ys.length * a.length ≤ 16777216 ∧ Q (.str (Txt.join a ys)) H) := by
  intro L φ h H o vs x xs Q s r rs p
  unfold mJoin at p
  split at p
  · split at p
    · rename_i ws e1
      split at p
      · rename_i ss e2
        split at p
        · rename_i hz
          obtain ⟨y, rfl, ry⟩ := rvl1 rs
          obtain ⟨a, zs, rfl, z1, z2, _⟩ := asL_ok s ry e1
          rw [strL_ok e2] at z2
          rw [rvl_strs z2] at z1
          exact ⟨_, a, ss, rv_str r, rfl, .inl z1.sq, hz, OkV.here p s mk_str⟩
        · exact p.elim
      · exact p.elim
    · exact p.elim
  · exact p.elim
theorem n_join : NoErrM mJoin := by
  intro o vs h e g q
  unfold mJoin at q
  split at q
  · split at q
    · split at q
      · split at q <;> cases q
      · cases q
    · cases q
  · cases q
def mRfind : OM := fun o vs h => match o, vs with
  | .str a, [.str b] => .ok (.int (Txt.rfind a b)) h
  | _, _ => .bad
theorem p_rfind : OpM Γ mRfind (fun x xs H Q => ∃ a b, x = .str a ∧ xs = [.str b] ∧ Q (.int (Txt.rfind a b)) H) := by
  intro L φ h H o vs x xs Q s r rs p
  unfold mRfind at p
  split at p
  · obtain ⟨y, rfl, ry⟩ := rvl1 rs
    exact ⟨_, _, rv_str r, by rw [rv_str ry], OkV.here p s mk_int⟩
  · exact p.elim
theorem n_rfind : NoErrM mRfind := by
  intro o vs h e g q
  unfold mRfind at q
  split at q <;> cases q
end
end Eng

set_option Elab.async false
set_option linter.all false
set_option autoImplicit false
set_option maxRecDepth 100000
set_option maxHeartbeats 4000000
/-! The engine, part H: numbers as texts, f-strings, isinstance, dict displays, chains, minus. -/
namespace Eng
open PySem L2 PySem.Spec PyProof.Rows

/-! ### str(number), whatever its size within 4300 figures -/
section
variable {prog : Program} {w : World} {A : Around} {E : Value → Shared → Prop} {s : Shared} {a : Int} {t : Tok}
theorem call_int_repr_lt {Q : Value → Shared → Prop} (hn : s.heap.NoDigits) (hlt : a.natAbs < 10 ^ 4300) (h1 : Q (.str (toString a) s.toks) { s with toks := s.toks + 1 }) :
    wpAny (model prog w) A (call (.builtin "int.__repr__") [.int a t]) Q E s := by
  refine wpAny_call_entry F.slot_int_repr (typeIs_int s a t) F.entry_int_repr ?_ (F.args_int_repr_1 _)
  unfold Builtin.«int.__repr__»
  show wpAny _ _ (do let r ← Builtin.overDigitLimit? a; _) _ _ s
  refine wpAny_bind (overDigitLimit_any hn (fun hlt => ?_) (fun hge => absurd hlt (Nat.not_lt_of_le hge)))
  exact wpAny_bind (wpAny_mkStr (wpAny_pure ⟨_, rfl, h1⟩) (int_text_fits10 hlt))
theorem strOf_int_lt {Q : Value → Shared → Prop} (hn : s.heap.NoDigits) (hlt : a.natAbs < 10 ^ 4300) (h1 : Q (.str (toString a) s.toks) { s with toks := s.toks + 1 }) :
    wpAny (model prog w) A (PySem.Builtin.Str.strOf (.int a t)) Q E s := by
  unfold PySem.Builtin.Str.strOf
  rw [show Builtin.Str.isExactStr (.int a t) = false from rfl]
  try (have hv : [Value.int a t].any Value.onHeap = false := rfl; simp only [cRoomFor, hv, Bool.false_eq_true, if_false, pure_bind])
  refine wpAny_bind (m := callSpecial? (.int a t) (Str.ofString "__str__")) (wpAny_callSpecial?_slot (name := Str.ofString "__str__") (typeIs_int s a t) F.slot_int_str ?_)
  refine wpAny_call_entry F.slot_int_str (typeIs_int s a t) entry_object_str ?_ (args_object_str _)
  unfold Builtin.«object.__str__»
  refine wpAny_bind (m := PySem.slotArgs "__str__" 0 _) (wpAny_pure ?_)
  try (have hv : [Value.int a t].any Value.onHeap = false := rfl; simp only [cRoomFor, hv, Bool.false_eq_true, if_false, pure_bind])
  refine wpAny_bind (m := callSpecialIfBound? (.int a t) (Str.ofString "__repr__")) (wpAny_callSpecialIfBound?_slot (name := Str.ofString "__repr__") (typeIs_int s a t) F.slot_int_repr
    (call_int_repr_lt hn hlt ?_))
  exact wpAny_pure ⟨_, rfl, wpAny_pure h1⟩
theorem str_of_int_lt {Q : Value → Shared → Prop} (hn : s.heap.NoDigits) (hlt : a.natAbs < 10 ^ 4300) (h1 : Q (.str (toString a) s.toks) { s with toks := s.toks + 1 }) :
    wpAny (model prog w) A (call (.type "str") [.int a t]) Q E s :=
  PySem.callType_new F.called_str (by decide) (F.typeCall_str_1 _) (F.newCall_str_1 _) (fun obj => F.args_object_init_2 obj _) F.entry_str_new
    (meets_str_new (S := fun A R s => s.heap.NoDigits ∧ R (.ok (.ret (.str (toString a) s.toks))) { s with toks := s.toks + 1 })
      fun _ _ _ _ _ hq => strOf_int_lt hq.1 hlt hq.2)
    ⟨hn, typeIs_str _ _ _, h1⟩
end
/-! ### int(text) of up to 4300 figures -/
section
open PySem.Builtin PySem.Calls PySem.NumText PySem.W.KIN
theorem wp_textL {M : Model} {A : Around} {E : Value → Shared → Prop} {s : Shared} {Q : Value → Shared → Prop} {v : Value} {text : List Nat} {n : Int}
    (hs : ¬ (text.takeWhile (· != 0)).length ≤ 640) (hn : s.heap.NoDigits) (hr : (int_private% "readNumeral") 4300 10 (text.takeWhile (· != 0)) = (int_private% "Numeral.value") n)
    (ha : ((text.takeWhile (· != 0)).length == text.length) = true) (h : Q (.int n s.toks) { s with toks := s.toks + 1 }) :
    wpAny M A ((int_private% "intFromText") v text 10) Q E s := by
  obtain ⟨mc, hns, hnone⟩ := hn
  have hd : wpAny M A intMaxStrDigits (fun r s' => r = 4300 ∧ s' = s) E s := by
    unfold intMaxStrDigits
    refine wpAny_bind (wpAny_nsGet hns ?_)
    rw [hnone]
    exact wpAny_pure ⟨rfl, rfl⟩
  wp_delta
  rw [if_neg hs]
  refine wpAny_bind ?_
  refine thn hd ?_
  rintro r s' ⟨rfl, rfl⟩
  dsimp only
  rw [hr]
  dsimp only
  rw [if_pos ha]
  exact wpAny_mkInt h
theorem meets_textL {x : Str} {u : Tok} {n : Int} (hl : ¬ (numSeenOf x).length ≤ 640) (hx : x.length ≤ sizeLine) (hn : PySem.intText? x = some n) :
    Meets (Builtin.«int.__new__» ⟨[.type "int", .str x u], []⟩) (fun _ R s => s.heap.NoDigits ∧ R (.ok (.ret (.int n s.toks))) { s with toks := s.toks + 1 }) := by
  refine Meets.of_wp fun prog w A R s h => ?_
  obtain ⟨hd, h⟩ := h
  obtain ⟨hp, g, d, tk, os⟩ := s
  have f1 := F.conv_sub_int
  have f2 := F.madeHere_int
  have f3 := str_int
  have f4 := str_idx
  have f5 := str_trunc
  have f6 : typeOf (.str x u) = pure (.type "str") := rfl
  have hr : (int_private% "readNumeral") 4300 10 (numSeenOf x) = (int_private% "Numeral.value") n ∧ ((numSeenOf x).length == (numTextOf x).length) = true := by
    rcases read4300 x hx with ⟨m, h1, h2, h3⟩ | ⟨h1, _⟩
    · rw [hn] at h1
      injection h1 with h1
      subst h1
      exact ⟨h3, h2⟩
    · rw [hn] at h1
      cases h1
  have hk := Hid.mk (And.intro hl (And.intro hr hd))
  clear hl hr hn hd hx
  repeat (any_goals (first
    | assumption
    | ((with_reducible show wpAny _ _ ((int_private% "intFromText") _ _ _) _ _ _); refine wp_textL hk.out.1 hk.out.2.2 hk.out.2.1.1 hk.out.2.1.2 ?_)
    | wp_step))
  all_goals first | exact ⟨_, rfl, h⟩ | exact h | skip
theorem meets_textS {x : Str} {u : Tok} {n : Int} (hl : (numSeenOf x).length ≤ 640) (h1 : (int_private% "readNumeral") 0 10 (numSeenOf x) = (int_private% "Numeral.value") n) (h2 : ((numSeenOf x).length == (numTextOf x).length) = true) :
    Meets (Builtin.«int.__new__» ⟨[.type "int", .str x u], []⟩) (fun _ R s => R (.ok (.ret (.int n s.toks))) { s with toks := s.toks + 1 }) := by
  refine Meets.of_wp fun prog w A R s h => ?_
  obtain ⟨hp, g, d, tk, os⟩ := s
  have f1 := F.conv_sub_int
  have f2 := F.madeHere_int
  have f3 := str_int
  have f4 := str_idx
  have f5 := str_trunc
  have f6 : typeOf (.str x u) = pure (.type "str") := rfl
  have hk := Hid.mk (And.intro hl (And.intro h1 h2))
  clear hl h1 h2
  repeat (any_goals (first
    | assumption
    | ((with_reducible show wpAny _ _ ((int_private% "intFromText") _ _ _) _ _ _); refine wp_text hk.out.1 hk.out.2.1 hk.out.2.2 ?_)
    | wp_step))
  all_goals first | exact ⟨_, rfl, h⟩ | exact h | skip
end

/-! ### str(..), int(..) -/
theorem noDigits_of {Γ : G} {X : Cx} {W : WX} {pins : List (Addr × Obj)} {σ : L2.St} {H : Hp} {s : Shared} (ok : Ok Γ X W) (I : Inv X pins σ H s) : s.heap.NoDigits :=
  Heap.NoDigits.keeps (h := X.base) ok.digits I.bk
def figs (i : Int) : Bool := decide (i.natAbs < 10 ^ 4300)
theorem figs_ok {i : Int} (h : figs i = true) : i.natAbs < 10 ^ 4300 := of_decide_eq_true h
def numS (i : Int) : Str := Str.ofString (toString i)
def cStr : OC := fun vs h => match vs with
  | [.int i] => if figs i then .ok (.str (numS i)) h else .bad
  | [.str s] => .ok (.str s) h
  | _ => .bad
def cIntT : OC := fun vs h => match vs with
  | [.int i] => .ok (.int i) h
  | [.bl b] => .ok (.int (if b then 1 else 0)) h
  | [.str s] => if s.length ≤ 1000000 then (match PySem.intText? s with
    | some n => .ok (.int n) h
    | none => .bad) else .bad
  | _ => .bad
def rStrC : List V → Hp → VK → Prop := fun xs H Q => (∃ i : Int, xs = [.int i] ∧ i.natAbs < 10 ^ 4300 ∧ Q (.str (numS i)) H) ∨ ∃ y, xs = [.str y] ∧ Q (.str y) H
def rIntC : List V → Hp → VK → Prop := fun xs H Q => (∃ i : Int, xs = [.int i] ∧ Q (.int i) H) ∨ (∃ k, xs = [.bl k] ∧ Q (.int (if k then 1 else 0)) H) ∨ ∃ y n, xs = [.str y] ∧ y.length ≤ 1000000 ∧ PySem.intText? y = some n ∧ Q (.int n) H
section
variable {Γ : G} {X : Cx} {W : WX} {f g fo : EX} {fa : EA} {o e : Expr} {es : List Expr} {name : Str} {apos cpos pos : Pos}
theorem x_str (ok : Ok Γ X W) : CallR X (.type "str") rStrC := by
  intro pins s σ H xs us Q I rs h
  rcases h with ⟨i, rfl, hi, q⟩ | ⟨y, rfl, q⟩
  · obtain ⟨u, rfl, ru⟩ := rs.one
    obtain ⟨t, rfl⟩ := ru
    exact str_of_int_lt (noDigits_of ok I) hi ⟨.str _, H, I.tok _, ⟨_, rfl⟩, q⟩
  · obtain ⟨u, rfl, ru⟩ := rs.one
    obtain ⟨t, rfl⟩ := ru
    exact PySem.P.str_of_str ⟨.str _, H, I, ⟨_, rfl⟩, q⟩
theorem x_int (ok : Ok Γ X W) : CallR X (.type "int") rIntC := by
  intro pins s σ H xs us Q I rs h
  rcases h with ⟨i, rfl, q⟩ | ⟨y, rfl, q⟩ | ⟨y, n, rfl, hl, hn, q⟩
  · obtain ⟨u, rfl, ru⟩ := rs.one
    obtain ⟨t, rfl⟩ := ru
    exact call_int_int ⟨.int _, H, I, ⟨_, rfl⟩, q⟩
  · obtain ⟨u, rfl, ru⟩ := rs.one
    cases ru
    exact call_int_bool ⟨.int _, H, I.tok _, ⟨_, rfl⟩, q⟩
  · obtain ⟨u, rfl, ru⟩ := rs.one
    obtain ⟨t, rfl⟩ := ru
    by_cases hs : (numSeenOf y).length ≤ 640
    · have hr : (int_private% "readNumeral") 0 10 (numSeenOf y) = (int_private% "Numeral.value") n ∧ ((numSeenOf y).length == (numTextOf y).length) = true := by
        rcases read0 y hs with ⟨m, h1, h2, h3⟩ | ⟨h1, _⟩
        · rw [hn] at h1
          injection h1 with h1
          subst h1
          exact ⟨h3, h2⟩
        · rw [hn] at h1
          cases h1
      exact call_int_1 (meets_textS hs hr.1 hr.2) (show _ ∧ _ from ⟨rfl, .int n, H, I.tok _, ⟨_, rfl⟩, q⟩)
    · exact call_int_1 (meets_textL hs (by rw [sizeLine_eq]; omega) hn) ⟨noDigits_of ok I, rfl, .int n, H, I.tok _, ⟨_, rfl⟩, q⟩
theorem p_str : OpC Γ cStr rStrC := by
  intro L φ h H vs xs Q s r p
  unfold cStr at p
  split at p
  · obtain ⟨x, rfl, r1⟩ := rvl1 r
    rw [rv_int r1]
    split at p
    · rename_i hz
      exact .inl ⟨_, rfl, figs_ok hz, OkV.here p s mk_str⟩
    · exact p.elim
  · obtain ⟨x, rfl, r1⟩ := rvl1 r
    rw [rv_str r1]
    exact .inr ⟨_, rfl, OkV.here p s mk_str⟩
  · exact p.elim
theorem n_str : NoErrC cStr := by
  intro vs h e g q
  unfold cStr at q
  split at q
  · split at q <;> cases q
  · cases q
  · cases q
theorem p_int : OpC Γ cIntT rIntC := by
  intro L φ h H vs xs Q s r p
  unfold cIntT at p
  split at p
  · obtain ⟨x, rfl, r1⟩ := rvl1 r
    rw [rv_int r1]
    exact .inl ⟨_, rfl, OkV.here p s mk_int⟩
  · obtain ⟨x, rfl, r1⟩ := rvl1 r
    rw [rv_bl r1]
    exact .inr (.inl ⟨_, rfl, OkV.here p s mk_int⟩)
  · obtain ⟨x, rfl, r1⟩ := rvl1 r
    rw [rv_str r1]
    split at p
    · rename_i hz
      split at p
      · rename_i n en
        exact .inr (.inr ⟨_, n, rfl, hz, en, OkV.here p s mk_int⟩)
      · exact p.elim
    · exact p.elim
  · exact p.elim
theorem n_int : NoErrC cIntT := by
  intro vs h e g q
  unfold cIntT at q
  split at q
  · cases q
  · cases q
  · split at q
    · split at q <;> cases q
    · cases q
  · cases q
end
end Eng

set_option Elab.async false
set_option linter.all false
set_option autoImplicit false
set_option maxRecDepth 100000
set_option maxHeartbeats 4000000
/-! The engine, part I: f-strings, isinstance, dict displays, chains, minus. -/
namespace Eng
open PySem L2 PySem.Spec PyProof.Rows

/-! ### f-strings -/
section
variable {prog : Program} {w : World} {A : Around} {E : Value → Shared → Prop} {s : Shared} {a : Int} {t : Tok}
theorem code_int_repr_lt {R : Result → Shared → Prop} (hn : s.heap.NoDigits) (hlt : a.natAbs < 10 ^ 4300) (h1 : R (.ok (.ret (.str (toString a) s.toks))) { s with toks := s.toks + 1 }) :
    codeAny (model prog w) A (.builtin "int.__repr__" ⟨[.int a t], []⟩) R s := by
  refine codeAny_builtin entry_int_repr ?_
  rw [Around.under_plainId plain_int_repr _]
  unfold Builtin.«int.__repr__»
  show wpAny _ _ (do let r ← Builtin.overDigitLimit? a; _) _ _ s
  refine wpAny_bind (overDigitLimit_any hn (fun hlt => ?_) (fun hge => absurd hlt (Nat.not_lt_of_le hge)))
  exact wpAny_bind (wpAny_mkStr (wpAny_pure h1) (int_text_fits10 hlt))
theorem formatField_lt {Q : Value → Shared → Prop} (hn : s.heap.NoDigits) (hlt : a.natAbs < 10 ^ 4300)
    (h1 : Q (.str (toString a) (s.toks + 1)) { s with toks := s.toks + 1 + 1 }) : wpAny (model prog w) A (formatField (.int a t) Str.empty) Q E s := by
  show wpAny _ _ (holding [.int a t] (pyFormat (.int a t) Str.empty)) Q E s
  refine wpAny_holding ?_
  unfold pyFormat
  refine wpAny_bind (wpAny_mkStr ?_ (by decide))
  refine wpAny_bind (m := callSpecial? (.int a t) (Str.ofString "__format__") [.str Str.empty s.toks]) (wpAny_callSpecial?_slot (name := Str.ofString "__format__") (typeIs_int _ a t) slot_int_format ?_)
  refine wpAny_call (codeAny_call_builtin slot_int_format.plain entry_int_format (slot_int_format.check _ _ _ _ _ _ _ _ (typeIs_int _ a t) (args_int_format _ _) ?_))
  show wpAny _ _ (do let _kind ← typeNameOf (.str Str.empty s.toks); (do rule "int.format.empty"; again (.builtin "int.__repr__" ⟨[.int a t], []⟩))) _ _ _
  refine wpAny_bind (wpAny_typeNameOf (T := "str") (typeIs_str _ _ _) (by decide) fun _ => wpAny_bind (wpAny_rule (wpAny_pure ⟨plainId_quiet plain_int_repr _, code_int_repr_lt hn hlt ?_⟩)))
  show wpAny _ _ (do if ← isInstance (.str (toString a) (s.toks + 1)) (.type "str") then return (.str (toString a) (s.toks + 1)) else _) Q E _
  exact wpAny_bind (wpAny_isInstance (typeIs_str _ _ _) isSubtype_str_str (wpAny_pure h1))
end
section
variable {Γ : G} {X : Cx} {W : WX} {f g fo : EX} {fa : EA} {o e a b c : Expr} {es : List Expr} {name : Str} {apos cpos pos : Pos}
/-- {x} -/
def tFmtL (te : TE) : TE := fun σ H Q => te σ H fun x H1 => (∃ y : Str, x = .str y ∧ y.length ≤ sizeLine ∧ Q (.str y) H1) ∨ ∃ i : Int, x = .int i ∧ i.natAbs < 10 ^ 4300 ∧ Q (.str (numS i)) H1
theorem pe_fmtL (ok : Ok Γ X W) {te : TE} (he : PE X e te) : PE X (.FormattedValue e (-1) none pos) (tFmtL te) := by
  refine ⟨fun pins s σ H Q I h => ?_⟩
  refine wpAny_FormattedValue_plain (thn (he.run pins s σ H _ I h) fun v s1 hv => ?_)
  obtain ⟨x, H1, I1, r1, q⟩ := hv
  rcases q with ⟨y, rfl, hz, q⟩ | ⟨i, rfl, hz, q⟩
  · obtain ⟨t, rfl⟩ := r1
    exact wpAny_formatField_str ⟨.str y, H1, I1, ⟨t, rfl⟩, q⟩ ⟨.str y, H1, I1.tok _, ⟨_, rfl⟩, q⟩ hz
  · obtain ⟨t, rfl⟩ := r1
    exact formatField_lt (noDigits_of ok I1) hz ⟨.str (numS i), H1, I1.tok _, ⟨_, rfl⟩, q⟩
/-- one part's text -/
def eFmt (f : EX) : EX := fun ρ h => (f ρ h).bind fun v h => match v with
  | .str s => if s.length ≤ 1000000 then .ok (.str s) h else .bad
  | .int i => if figs i then .ok (.str (numS i)) h else .bad
  | _ => .bad
theorem s_fmt (ok : Ok Γ X W) (he : PE X e (tE Γ W f)) : PE X (.FormattedValue e (-1) none pos) (tE Γ W (eFmt f)) := PEw (pe_fmtL ok he) <| by
  rintro σ H Q ⟨L, φ, ρ, h, se, s, p⟩
  refine ⟨L, φ, ρ, h, se, s, ?_⟩
  unfold eFmt at p
  rw [PR.bind] at p
  refine p.mono (fun v h1 q => ?_) fun _ _ q => q
  intro φ1 H1 x l1 s1 r1
  split at q
  · split at q
    · rename_i hz
      exact .inl ⟨_, rv_str r1, big hz, OkV.here (OkV.mono l1 q) s1 mk_str⟩
    · exact q.elim
  · split at q
    · rename_i hz
      exact .inr ⟨_, rv_int r1, figs_ok hz, OkV.here (OkV.mono l1 q) s1 mk_str⟩
    · exact q.elim
  · exact q.elim
/-- the texts glued -/
def jL : List EX → Str → Ev → Hv → R Str
  | [], acc, _, h => .ok acc h
  | f :: fs, acc, ρ, h => (f ρ h).bind fun v h => match v with
    | .str s => if (acc ++ s).length ≤ 1000000 then jL fs (acc ++ s) ρ h else .bad
    | _ => .bad
def eJs (fs : List EX) : EX := fun ρ h => (jL fs Str.empty ρ h).bind fun s h => .ok (.str s) h
/-- what the parts say, one behind the other -/
def JP (Γ : G) (X : Cx) (W : WX) (es : List Expr) (fs : List EX) : Prop := ∃ ts, PJ X es ts ∧ ∀ (σ : L2.St) (H : Hp) (acc : Str) (Q : Str → Hp → Prop) (L : Addr → Prop) (φ : Mp) (ρ : Ev) (h : Hv),
  SimE Γ L φ ρ σ H → Sim Γ L φ h H → PR (jL fs acc ρ h) (fun out h' => ∀ φ' H', Le φ H φ' H' → Sim Γ L φ' h' H' → Q out H') (OkX Γ L φ H (WE W σ)) → tJs ts acc σ H Q
theorem s_jnil : JP Γ X W [] [] := by
  refine ⟨[], .nil, ?_⟩
  intro σ H acc Q L φ ρ h se s p
  exact p φ H (Le.refl _ _) s
theorem s_jcons {fs : List EX} (he : PE X e (tE Γ W f)) (hr : JP Γ X W es fs) : JP Γ X W (e :: es) (f :: fs) := by
  obtain ⟨ts, h1, h2⟩ := hr
  refine ⟨_ :: ts, .cons he h1, ?_⟩
  intro σ H acc Q L φ ρ h se s p
  unfold jL at p
  rw [PR.bind] at p
  refine ⟨L, φ, ρ, h, se, s, p.mono (fun v h1 q => ?_) fun _ _ q => q⟩
  intro φ1 H1 x l1 s1 r1
  split at q
  · split at q
    · rename_i hz
      exact ⟨_, rv_str r1, big hz, h2 σ H1 _ Q L φ1 ρ h1 (se.mono l1) s1 (q.mono (fun out h' q φ' H' l' s' => q φ' H' (l1.trans l') s') fun _ _ q => OkX.mono l1 q)⟩
    · exact q.elim
  · exact q.elim
theorem s_joined {v1 v2 : Expr} {rest : List Expr} {fs : List EX} (h : JP Γ X W (v1 :: v2 :: rest) fs) : PE X (.JoinedStr (v1 :: v2 :: rest) pos) (tE Γ W (eJs fs)) := by
  obtain ⟨ts, h1, h2⟩ := h
  refine PEw (pe_joined h1) ?_
  rintro σ H Q ⟨L, φ, ρ, h, se, s, p⟩
  unfold eJs at p
  rw [PR.bind] at p
  refine h2 σ H _ _ L φ ρ h se s (p.mono (fun out h' q => ?_) fun _ _ q => q)
  intro φ' H' l s'
  exact q φ' H' _ l s' mk_str
theorem s_joined1 (he : PE X e (tE Γ W f)) : PE X (.JoinedStr [e] pos) (tE Γ W f) := pe_joined1 he

/-! ### isinstance -/
def tyN (h : Hv) (v : Val) : Option String := match v with
  | .non => some "NoneType"
  | .bl _ => some "bool"
  | .int _ => some "int"
  | .str _ => some "str"
  | .lst _ => some "list"
  | .ref i => (match h[i]? with
    | some (.lst _) => some "list"
    | some (.dct _ _) => some "dict"
    | _ => none)
  | .dct _ _ => some "dict"
  | .tup _ => some "tuple"
  | _ => none
theorem kit_bb : kitB "bool" "bool" = some true := by decide +kernel
theorem tyN_ok {L : Addr → Prop} {φ : Mp} {H : Hp} {h : Hv} {v : Val} {x : V} {T : String} (s : Sim Γ L φ h H) (r : Rv Γ L φ H v x) (e : tyN h v = some T) : TyX Γ.K H x (.type T) := by
  unfold tyN at e
  split at e
  · cases e; rw [rv_non r]; exact .base .non
  · cases e; rw [rv_bl r]; exact .base (.bl _)
  · cases e; rw [rv_int r]; exact .base (.int _)
  · cases e; rw [rv_str r]; exact .base (.str _)
  · cases e
    obtain ⟨a, xs, rfl, q1, q2, _⟩ := asL_ok s r rfl
    rcases q1 with (q1 | ⟨o, q1⟩) | ⟨its, k, _⟩
    · exact .base (.lst q1)
    · exact .base (.frz q1)
    · exact .kList k rfl
  · split at e
    · rename_i ys q
      cases e
      obtain ⟨a, xs, rfl, z1, _⟩ := ref_lst s r q
      exact .base (.lst z1)
    · rename_i i ks ys q
      cases e
      unfold Rv at r
      obtain ⟨o, o1, o2⟩ := r
      rcases s.live _ _ q with z | ⟨a, z1, xs, z2, z3⟩
      · cases z
      · rw [z1] at o1
        cases o1
        rw [o2 a rfl]
        exact .base (.dK z2)
    · cases e
  · cases e
    unfold Rv at r
    obtain ⟨a, kvs, rfl, q1, _⟩ := r
    exact .base (.dK q1.1)
  · cases e
    unfold Rv at r
    obtain ⟨a, xs, rfl, q1, q2⟩ := r
    rcases q1 with ⟨q1, _⟩ | q1
    · rcases q1 with q1 | ⟨o, q1⟩
      · exact .base (.tup q1)
      · exact .fTuple q1
    · rcases q1 H with q | ⟨o, its, n, hk, hc, _⟩
      · rcases q with q | ⟨o, q⟩
        · exact .base (.tup q)
        · exact .fTuple q
      · exact .kTuple hk hc
  · cases e
/-- isinstance(x, T), T a built-in type -/
def eIsi (T : String) (f : EX) : EX := fun ρ h => (f ρ h).bind fun v h => match tyN h v with
  | some t => (match kitB t T with
    | some b => .ok (.bl b) h
    | none => .bad)
  | none => .bad
theorem s_isi {T : String} {x : Str} {p p2 : Pos} (hK : X.K = Γ.K) (hg : Gl X "isinstance") (hm : X.mg "isinstance" = none) (hgT : Gl X x) (hmT : X.mg x = none) (hvT : bootBuiltins x = some (.type T)) (he : PE X e (tE Γ W f))
    (hn : x ≠ "__name__" := by decide) (hd : (x == ("__debug__" : Str)) = false := by decide)
    (hs1 : starEach [e, .Name x p2] X.env = (false, eval e X.env) :: starEach [.Name x p2] X.env := by rfl) (hs2 : starEach [.Name x p2] X.env = (false, eval (.Name x p2) X.env) :: starEach [] X.env := by rfl)
    (hpl : (backTo pos (starEach [.Name x p2] X.env)).any (·.1) = false := by rfl) :
    PE X (.Call (.Name "isinstance" p) [e, .Name x p2] [] pos) (tE Γ W (eIsi T f)) :=
  PEw (pe_callB (call_isi (X := X)) hg hm (by rfl) (pa_cons he (pa_cons (pe_bltn (v := .ty T) hgT hmT hvT rfl hn hd) pa_nil hs2) hs1) (by decide) (by decide) hs1 hpl) <| by
  rintro σ H Q ⟨L, φ, ρ, h, se, s, q⟩
  refine ⟨L, φ, ρ, h, se, s, ?_⟩
  unfold eIsi at q
  rw [PR.bind] at q
  refine q.mono (fun v h1 q => ?_) fun _ _ q => q
  intro φ1 H1 y l1 s1 r1
  split at q
  · rename_i t et
    split at q
    · rename_i b eb
      exact ⟨y, .ty T, _, _, b, rfl, .ty T, by rw [hK]; exact tyN_ok s1 r1 et, kit_ty eb, OkV.here (OkV.mono l1 q) s1 mk_bl⟩
    · exact q.elim
  · exact q.elim

/-- a text as a key -/
abbrev sk : Str → Key := Sum.inr
/-! ### a display of a dict: {"a": e, ..} -/
def eDisp (ks : List Str) (fa : EA) : EX := fun ρ h => (fa ρ (h ++ [.dct [] []])).bind fun vs h' => if vs.length = ks.length ∧ ks.length ≤ 15 ∧ ndB (ks.map sk) = true then
    (match h'[h.length]? with
    | some (.dct [] []) => .ok (.ref h.length) (h'.set h.length (.dct (ks.map sk) vs))
    | _ => .bad) else .bad
def DP (Γ : G) (X : Cx) (W : WX) (pos : Pos) (keys : List (Option Expr)) (es : List Expr) (ks : List Str) (fa : EA) : Prop := ∃ trs, PPs X pos keys es trs ∧ keys.all (·.isSome) = true ∧ keys.length = es.length ∧ ks.length = keys.length ∧ ∀ (σ : L2.St) (H : Hp) (Q : List (V × V) → Hp → Prop),
  tA Γ W fa σ H (fun xs H1 => xs.length = ks.length → Q ((ks.map V.str).zip xs) H1) → tPairs trs σ H Q
theorem s_dnil : DP Γ X W pos [] [] [] aNil := by
  refine ⟨[], pps_nil, rfl, rfl, rfl, ?_⟩
  rintro σ H Q ⟨L, φ, ρ, h, se, s, p⟩
  exact p φ H [] (Le.refl _ _) s .nil rfl
theorem s_dcons {keys : List (Option Expr)} {ks : List Str} {k : Str} {j} {p2 : Pos} (he : PE X e (tE Γ W f)) (hr : DP Γ X W pos keys es ks fa) : DP Γ X W pos (some (.Constant (.str k) j p2) :: keys) (e :: es) (k :: ks) (aCons f fa) := by
  obtain ⟨trs, h1, h2, h3, h4, h5⟩ := hr
  refine ⟨(tC (.str k), tE Γ W f) :: trs, pps_cons pe_str he h1, ?_, by simp [h3], by simp [h4], ?_⟩
  · simpa using h2
  · intro σ H Q q
    obtain ⟨L, φ, ρ, h, se, s, p⟩ := rd_cons σ H _ q
    refine ⟨L, φ, ρ, h, se, s, p.mono (fun v h1 q => ?_) fun _ _ q => q⟩
    intro φ1 H1 x l1 s1 r1
    obtain ⟨L2, φ2, ρ2, h2, se2, s2, p2⟩ := q φ1 H1 x l1 s1 r1
    refine h5 σ H1 _ ⟨L2, φ2, ρ2, h2, se2, s2, p2.mono (fun vs h3 q3 => ?_) fun _ _ q => q⟩
    intro φ3 H3 xs l3 s3 r3 hl
    exact q3 φ3 H3 xs l3 s3 r3 (by simp [hl])
theorem mergeK_nd : ∀ (more kvs : List (Key × V)), ((kvs ++ more).map (·.1)).Nodup → mergeK kvs more = kvs ++ more
  | [], kvs, _ => by simp [mergeK]
  | p :: more, kvs, nd => by
    have hp : p.1 ∉ kvs.map (·.1) := by
      intro m
      rw [List.map_append, List.map_cons] at nd
      exact (List.nodup_append.mp nd).2.2 _ m _ (List.mem_cons_self ..) rfl
    have e : putK kvs p.1 p.2 = kvs ++ [p] := by
      unfold putK
      have : (kvs.any fun kv => decide (kv.1 = p.1)) = false := by
        rw [List.any_eq_false]
        intro q hq e
        exact hp (List.mem_map.mpr ⟨q, hq, of_decide_eq_true e⟩)
      rw [this]
      rfl
    show mergeK (putK kvs p.1 p.2) more = _
    rw [e, mergeK_nd more (kvs ++ [p]) (by simpa using nd)]
    simp
theorem s_disp {keys : List (Option Expr)} {ks : List Str} (h : DP Γ X W pos keys es ks fa) (h0 : keys ≠ []) (h15 : keys.length ≤ 15) : PE X (.Dict keys es pos) (tE Γ W (eDisp ks fa)) := by
  obtain ⟨trs, h1, h2, h3, h4, h5⟩ := h
  refine PEw (pe_disp h1 h2 h3 h0 h15) ?_
  rintro σ H Q ⟨L, φ, ρ, h, se, s, p⟩ q hq
  have e0 : Le φ H (φ ++ [some q]) (upd H q (.dK [])) := Le.alloc hq
  have s0 : Sim Γ L (φ ++ [some q]) (h ++ [.dct [] []]) (upd H q (.dK [])) := s.alloc hq ⟨[], upd_same, rfl, .nil⟩
  refine h5 σ _ _ ⟨L, _, ρ, _, se.mono e0, s0, ?_⟩
  unfold eDisp at p
  rw [PR.bind] at p
  refine p.mono (fun vs h1 p => ?_) fun _ _ p => OkX.mono e0 p
  intro φ1 H1 xs l1 s1 r1 hl
  split at p
  · rename_i hc
    split at p
    · rename_i e1
      rcases s1.live _ _ e1 with z | ⟨a, z1, kvs, z2, z3, z4⟩
      · cases z
      · have hi : h.length < (φ ++ [some q]).length := by rw [List.length_append, s.len]; simp
        have : a = q := by
          rcases l1.ref h.length hi with y | y
          · rw [z1, s.len, List.getElem?_append_right (Nat.le_refl _), Nat.sub_self] at y
            exact Option.some.inj (Option.some.inj y)
          · rw [z1] at y; cases y
        subst this
        have ek : kvs = [] := by
          cases kvs with
          | nil => rfl
          | cons _ _ => cases z3
        subst ek
        refine ⟨z2, ((ks.map sk).zip xs), ?_, ?_, ?_⟩
        · have : ∀ (ks : List Str) (xs : List V), (ks.map V.str).zip xs = ((ks.map sk).zip xs).map fun kv => (kV kv.1, kv.2) := by
            intro ks
            induction ks with
            | nil => intro xs; rfl
            | cons k ks ih =>
              intro xs
              cases xs with
              | nil => rfl
              | cons x xs => simp only [List.map_cons, List.zip_cons_cons, ih]; rfl
          exact this ks xs
        · rw [List.length_zip, List.length_map]; omega
        · have ek1 : (((ks.map sk).zip xs).map (·.1)) = ks.map sk := by
            rw [List.map_fst_zip]; rw [List.length_map]; omega
          have ek2 : (((ks.map sk).zip xs).map (·.2)) = xs := by
            rw [List.map_snd_zip]; rw [List.length_map]; omega
          rw [mergeK_nd _ [] (by rw [List.nil_append, ek1]; exact ndB_ok hc.2.2), List.nil_append]
          have m := List.mem_of_getElem? z1
          refine p φ1 _ _ ((e0.trans l1).trans (Le.write m)) (s1.write z1 ⟨_, upd_same, ek1, ?_⟩) ?_
          · rw [ek2]; exact r1.mono (Le.write m)
          · unfold Rv
            exact ⟨_, z1, fun b e => by cases e; rfl⟩
    · exact p.elim
  · exact p.elim

/-! ### a op b op' c, -a -/
def eChain (op op' : O2) (f g k : EX) : EX := fun ρ h => (f ρ h).bind fun a h => (g ρ h).bind fun b h => (op a b h).bind fun v h => match v with
  | .bl true => (k ρ h).bind fun c h => op' b c h
  | .bl false => .ok (.bl false) h
  | _ => .bad
def eNeg (f : EX) : EX := fun ρ h => (f ρ h).bind fun v h => match v with
  | .int i => .ok (.int (-i)) h
  | _ => .bad
theorem s_neg (he : PE X e (tE Γ W f)) : PE X (.UnaryOp .USub e pos) (tE Γ W (eNeg f)) := PEw (pe_un un_neg he) <| by
  rintro σ H Q ⟨L, φ, ρ, h, se, s, q⟩
  refine ⟨L, φ, ρ, h, se, s, ?_⟩
  unfold eNeg at q
  rw [PR.bind] at q
  refine q.mono (fun v h1 q => ?_) fun _ _ q => q
  intro φ1 H1 y l1 s1 r1
  split at q
  · exact ⟨_, rv_int r1, OkV.here (OkV.mono l1 q) s1 mk_int⟩
  · exact q.elim
theorem rd_chain {op op' : O2} {r r' : R2} {k : EX} (h1 : Op2 Γ op r) (n1 : NoErr op) (h2 : Op2 Γ op' r') (n2 : NoErr op') : ∀ σ H Q, tE Γ W (eChain op op' f g k) σ H Q → tChain r r' (tE Γ W f) (tE Γ W g) (tE Γ W k) σ H Q := by
  rintro σ H Q ⟨L, φ, ρ, h, se, s, p⟩
  refine ⟨L, φ, ρ, h, se, s, ?_⟩
  unfold eChain at p
  rw [PR.bind] at p
  refine p.mono (fun a h1' p => ?_) fun _ _ p => p
  intro φ1 H1 x l1 s1 r1
  refine ⟨L, φ1, ρ, h1', se.mono l1, s1, ?_⟩
  rw [PR.bind] at p
  refine p.mono (fun b h2' p => ?_) fun _ _ p => OkX.mono l1 p
  intro φ2 H2 y l2 s2 r2
  rw [PR.bind] at p
  have r1' := r1.mono l2
  refine h1 L φ2 h2' H2 a b x y _ s2 r1' r2 ?_
  cases e : op a b h2' with
  | bad => rw [e] at p; exact p
  | err ex g => exact absurd e (n1 a b h2' ex g)
  | ok v h3 =>
    rw [e] at p
    intro φ3 H3 z l3 s3 r3
    have p' : PR (match v with | .bl true => (k ρ h3).bind fun c h => op' b c h | .bl false => .ok (.bl false) h3 | _ => .bad) (OkV Γ L φ H Q) (OkX Γ L φ H (WE W σ)) := p
    split at p'
    · refine ⟨true, rv_bl r3, ?_⟩
      rw [if_pos rfl]
      refine ⟨L, φ3, ρ, h3, se.mono ((l1.trans l2).trans l3), s3, ?_⟩
      rw [PR.bind] at p'
      refine p'.mono (fun c h4 p => ?_) fun _ _ p => OkX.mono ((l1.trans l2).trans l3) p
      intro φ4 H4 w l4 s4 r4
      exact h2 L φ4 h4 H4 b c y w Q s4 (r2.mono (l3.trans l4)) r4 ((p.noE' (n2 b c h4)).mono (fun w h5 q => q.mono (((l1.trans l2).trans l3).trans l4)) (fun _ _ z => z))
    · refine ⟨false, rv_bl r3, ?_⟩
      rw [if_neg (by decide)]
      exact p' φ3 H3 _ ((l1.trans l2).trans l3) s3 mk_bl
    · exact p'.elim
theorem s_chain {op op' : O2} {r r' : R2} {k : EX} {o o' : CmpOp} (ho : OpR X (compareOp o) r) (h1 : Op2 Γ op r) (n1 : NoErr op) (ho' : OpR X (compareOp o') r') (h2 : Op2 Γ op' r') (n2 : NoErr op') (ha : PE X a (tE Γ W f)) (hb : PE X b (tE Γ W g)) (hc : PE X c (tE Γ W k))
    (hm : lastMarks [o, o'] [b, c] = false := by with_unfolding_all rfl) : PE X (.Compare a [o, o'] [b, c] pos) (tE Γ W (eChain op op' f g k)) := PEw (pe_chain ho ho' ha hb hc hm) (rd_chain h1 n1 h2 n2)
theorem s_tchain {op op' : O2} {r r' : R2} {k : EX} {o o' : CmpOp} (ho : OpR X (compareOp o) r) (h1 : Op2 Γ op r) (n1 : NoErr op) (ho' : OpR X (compareOp o') r') (h2 : Op2 Γ op' r') (n2 : NoErr op') (ha : PE X a (tE Γ W f)) (hb : PE X b (tE Γ W g)) (hc : PE X c (tE Γ W k))
    (hm : lastMarks [o, o'] [b, c] = false := by with_unfolding_all rfl) : PT X (.Compare a [o, o'] [b, c] pos) (tT Γ W (toB (eChain op op' f g k))) :=
  PTw (pt_chain ho ho' ha hb hc hm) fun σ H Q q => rd_chain h1 n1 h2 n2 σ H _ (rd_toB σ H Q q)
end
end Eng

set_option Elab.async false
set_option linter.all false
set_option autoImplicit false
set_option maxRecDepth 100000
set_option maxHeartbeats 4000000
/-! The engine, part J: names of the module, functions by their names, the end. -/
namespace Eng
open PySem L2 PySem.Spec PyProof.Rows

/-! ### the end -/
theorem FnOk.ofK {P : Program} {w : World} {K K2 : PySem.W.Frag} {mg : Str → Option Value} {base : Heap} {CX : CXT} {k : Nat} {f : Addr} {fd : FuncData} {ps : List Str} {sp : Sp}
    (F : FnOk P w K mg base CX k f fd ps sp) (h : K2.In base → K.In base) : FnOk P w K2 mg base CX k f fd ps sp :=
  ⟨F.len, fun A outer s H args us vs Q E hr e hb hv hs => F.run A outer s H args us vs Q E hr ⟨e.frames, ⟨h e.mod.kin, e.mod.glob, e.mod.blt, e.mod.nolimit⟩, e.bs, e.bsz, e.funs, e.frf, e.hok, e.bare⟩ hb hv hs⟩
theorem lookup_of {K ex : PySem.W.Frag} {h : Heap} (k : K.In h) (e : ∀ p ∈ ex, h.get? p.1 = some p.2) : (K ++ ex).In h ∧ ∀ p ∈ ex, (K ++ ex).lookup p.1 = some p.2 := by
  have inn : (K ++ ex).In h := by
    intro a o q
    rw [List.lookup_append] at q
    cases q1 : K.lookup a with
    | some o' => rw [q1] at q; cases q; exact k a o q1
    | none =>
      rw [q1] at q
      have m : (a, o) ∈ ex := by
        obtain ⟨l1, l2, e1, e2⟩ := List.lookup_eq_some_iff.mp (show ex.lookup a = some o from q)
        rw [e1]
        simp
      exact e _ m
  refine ⟨inn, fun p m => ?_⟩
  have : ∃ o, (K ++ ex).lookup p.1 = some o := by
    cases q : (K ++ ex).lookup p.1 with
    | some o => exact ⟨o, rfl⟩
    | none =>
      rw [List.lookup_eq_none_iff] at q
      have := q p (List.mem_append_right _ m)
      simp at this
  obtain ⟨o, q⟩ := this
  have z1 := inn _ _ q
  have z2 := e p m
  rw [z1] at z2
  rw [q]
  exact z2
theorem ns_none_of {K : PySem.W.Frag} {h : Heap} {a : Addr} {mg : Str → Option Value} {n : Str} (X : K.In h) (G : h.Ns a mg) (e : PySem.W.nsIn K a n = some none) : mg n = none := by
  obtain ⟨o, es, ep, ho, hd, _, hf⟩ := G
  unfold PySem.W.nsIn at e
  split at e
  · rename_i c d es' n' sl q
    have := X _ _ q
    rw [ho] at this
    cases this
    cases hd
    split at e
    · cases e
    · rename_i he
      rw [← hf]
      unfold nsFind findBy
      rw [← Array.find?_toList, he]
      rfl
  · cases e
theorem law_end {l : PySem.W.OpenLaw} {q : Program} {loose : List Str} {XP : (Str → Option Value) → Heap → Prop} {YP : World → Heap → Prop} {d : DefRec} {K : Params → PySem.W.Frag} {x : Str} {k : Nat}
    (hn : l.most = some 63) (hdf : d.params.defaults = []) (him : importsNone q = true) (ht : l.prog.given.tree = none) (hr : Room k callerA)
    (hY : ∀ (w : World) (h : Heap), YP w h → (K w.params).In h)
    (F : ∀ (w : World) (mg : Str → Option Value) (fa : Addr) (h : Heap), (K w.params).In h → h.Ns mainGlobals mg → mg d.name = some (.ref fa) →
      PySem.W.nsIn (K w.params) cStatics "sys.int_max_str_digits" = some none ∧
      ∃ (Γ : G) (fd : FuncData) (Fl : Fn), Γ.K = K w.params ∧ (∀ (s : Shared) (u : Value), BindsTo s fd ⟨[u], []⟩ [(x, u)]) ∧
        (∀ base : Heap, (K w.params).In base → base.Ns mainGlobals mg → Top l.prog base → FnOk l.prog w (K w.params) mg base (L2.CX l.prog w) k fa fd [x] (spF Γ 1 Fl)) ∧
        ∀ ns : List Int, ns.length ≤ 63 → (∀ z ∈ ns, Builtin.Int.intBits z ≤ 1048576) → ∃ h', Fl [.lst (ns.map .int)] [] = .ok (.bl true) h') :
    PySem.W.WalkO q loose XP YP l.row.toRowW d [] (fun f vs => PySem.call f vs) := by
  refine Att.attach_callB hn hdf fun w s₀ s₁ mg mb fa o pm cd doc a vs ns G Y ho hd hcd hmg hobj hints hlen hbits hg => ?_
  have KX := hY w _ Y
  obtain ⟨dg, Γ, fd, Fl, hK, hb, hF, hD⟩ := F w mg fa _ KX G.T.g hmg
  obtain ⟨⟨mc, ⟨oc, esc, epc, c1, c2⟩, c3⟩, ⟨mm, ⟨om, esm, epm, m1, m2⟩, m3⟩, ⟨mb', ⟨obn, esb, epb, b1, b2⟩, b3⟩, ⟨mg', bm, ob, ⟨og, esg, epg, g1, g2⟩, g3, g4, g5, g6⟩⟩ := G.T.seer him
  -- a wider written part, for what division wants
  have ex : ∀ p ∈ [(cStatics, oc), (sysModules, om), (builtinsNs, obn), (mainGlobals, og), (bm, ob)], s₁.heap.get? p.1 = some p.2 := by
    intro p m
    simp only [List.mem_cons, List.not_mem_nil, or_false] at m
    rcases m with rfl | rfl | rfl | rfl | rfl
    · exact c1
    · exact m1
    · exact b1
    · exact g1
    · exact g4
  obtain ⟨K2, lk⟩ := lookup_of KX ex
  have lk' : ∀ {base : Heap}, (K w.params ++ [(cStatics, oc), (sysModules, om), (builtinsNs, obn), (mainGlobals, og), (bm, ob)]).In base → ∀ p ∈ [(cStatics, oc), (sysModules, om), (builtinsNs, obn), (mainGlobals, og), (bm, ob)], base.get? p.1 = some p.2 :=
    fun hB p m => hB _ _ (lk p m)
  have inK : ∀ {base : Heap}, (K w.params ++ [(cStatics, oc), (sysModules, om), (builtinsNs, obn), (mainGlobals, og), (bm, ob)]).In base → (K w.params).In base := fun hB a o e => hB a o (by rw [List.lookup_append, e]; rfl)
  refine law_call K2 G.T.g G.T.b G.T.builtins G.T.nolimit hg hobj hints (Nat.le_trans hlen (by decide)) hr (sp := spF Γ 1 Fl) (fun base hB hN => FnOk.ofK (hF base (inK hB) hN ?_) inK) hb (fun H hO hS => ?_) fun H e s' z => ?_
  · have L := lk' hB
    have nc : base.Ns cStatics mc := ⟨oc, esc, epc, L (cStatics, oc) (.head _), c2⟩
    refine ⟨ht, ⟨⟨mc, nc, c3⟩, ⟨mm, ⟨om, esm, epm, L (sysModules, om) (.tail _ (.head _)), m2⟩, m3⟩, ⟨mb', ⟨obn, esb, epb, L (builtinsNs, obn) (.tail _ (.tail _ (.head _))), b2⟩, b3⟩, ⟨mg', bm, ob, ⟨og, esg, epg, L (mainGlobals, og) (.tail _ (.tail _ (.tail _ (.head _)))), g2⟩, g3, L (bm, ob) (.tail _ (.tail _ (.tail _ (.tail _ (.head _))))), g5, g6⟩⟩, mc, nc, ?_⟩
    exact ns_none_of (inK hB) nc dg
  · obtain ⟨h', e⟩ := hD ns hlen hbits
    have sim0 : Sim Γ (fun _ => False) [] [] H := by
      refine ⟨rfl, fun i o z => ?_, fun i j a z _ => ?_, fun a m => ?_, fun a z => ?_⟩
      · simp at z
      · simp at z
      · exact nomatch m
      · exact False.elim z
    refine ⟨fun _ => False, [], [], [.lst (ns.map .int)], sim0, ?_, rfl, ?_⟩
    · refine .cons ?_ .nil
      unfold Rv
      refine ⟨a, ns.map V.int, rfl, ?_, ?_⟩
      · rcases hS with hS | ⟨o, its, n, z1, z2, z3, z4, z5, z6⟩
        · exact .inl ⟨hS, fun z => z, fun z => nomatch z⟩
        · refine .inr ?_
          have e1 := K2 _ _ z1
          rw [hobj] at e1
          cases e1
          cases z4
          refine ⟨vs, ?_, z6, by simpa using z5⟩
          rw [List.lookup_append] at z1
          rw [hK]
          cases q1 : (K w.params).lookup a with
          | some o' => rw [q1] at z1; exact z1
          | none =>
            rw [q1] at z1
            exfalso
            have z1' : List.lookup a [(cStatics, oc), (sysModules, om), (builtinsNs, obn), (mainGlobals, og), (bm, ob)] = some { cls := .type "list", data := .seq vs.toArray } := z1
            obtain ⟨l1, l2, e1, e2⟩ := List.lookup_eq_some_iff.mp z1'
            have m : (a, ({ cls := .type "list", data := .seq vs.toArray } : Obj)) ∈ [(cStatics, oc), (sysModules, om), (builtinsNs, obn), (mainGlobals, og), (bm, ob)] := by rw [e1]; simp
            simp only [List.mem_cons, List.not_mem_nil, or_false, Prod.mk.injEq] at m
            rcases m with ⟨_, m⟩ | ⟨_, m⟩ | ⟨_, m⟩ | ⟨_, m⟩ | ⟨_, m⟩
            · rw [← m] at c2; cases c2.1
            · rw [← m] at m2; cases m2.1
            · rw [← m] at b2; cases b2.1
            · rw [← m] at g2; cases g2.1
            · rw [← m] at g5; injection g5 with g5; exact absurd g5 (by decide)
      · have : ∀ ns : List Int, RvL Γ (fun _ => False) [] H (ns.map .int) (ns.map V.int) := by
          intro ns
          induction ns with
          | nil => exact .nil
          | cons n ns ih => exact .cons mk_int ih
        exact this ns
    · rw [e]
      intro φ' H' v _ _ r
      exact rv_bl r
  · obtain ⟨_, _, _, _, _, _, _, _, _, _, _, _, z⟩ := z
    exact z

/-! ### names of the module -/
section
variable {Γ : G} {X : Cx} {W : WX} {fa : EA} {e : Expr} {es : List Expr} {x : Str} {p pos : Pos} {k n : Nat} {F : Fn}
theorem s_glob {v : Val} {u : V} (hg : Gl X x) (hm : ∃ w, X.mg x = some w ∧ RelV u w) (r : ∀ L φ H, Rv Γ L φ H v u) (hd : (x == ("__debug__" : Str)) = false := by decide) : PE X (.Name x pos) (tE Γ W (eVal v)) := by
  obtain ⟨w, h1, h2⟩ := hm
  exact s_const (pe_glob hg h1 h2 hd) r
/-- the function that stands in the module under the name x does what F says -/
structure Cal (P : Program) (w : World) (Γ : G) (mg : Str → Option Value) (base : Heap) (x : Str) (k : Nat) (n : Nat) (F : Fn) : Prop where
  ex : ∃ (g : Addr) (fd : FuncData) (ps : List Str), mg x = some (.ref g) ∧ PySem.W.keepIn Γ.K (.ref g) = true ∧ Binds Γ.K fd ps [] ∧ FnOk P w Γ.K mg base (L2.CX P w) k g fd ps (spF Γ n F)
theorem s_cal (ok : Ok Γ X W) (c : Cal X.prog X.w Γ X.mg X.base x k n F) (hr : Room k X.A) (hg : Gl X x) (ha : PA X (e :: es) (tA Γ W fa)) (hdb : (x == ("__debug__" : Str)) = false := by decide)
    (he : starEach (e :: es) X.env = (false, eval e X.env) :: starEach es X.env := by rfl) (hpl : (backTo pos (starEach es X.env)).any (·.1) = false := by rfl) :
    PE X (.Call (.Name x p) (e :: es) [] pos) (tE Γ W (eCall n F fa)) := by
  obtain ⟨g, fd, ps, h1, h2, h3, h4⟩ := c.ex
  rw [← ok.hK] at h2 h3 h4
  exact s_call ok h4 hr hg h1 h2 h3 ha hdb he hpl
theorem s_calP (ok : Ok Γ X W) (c : Cal X.prog X.w Γ X.mg X.base x k n F) (hr : Room k X.A) (hg : Gl X x) (ha : PA X (e :: es) (tA Γ W fa)) (hdb : (x == ("__debug__" : Str)) = false := by decide)
    (he : starEach (e :: es) X.env = (false, eval e X.env) :: starEach es X.env := by rfl) (hpl : (backTo pos (starEach es X.env)).any (·.1) = false := by rfl) :
    PE X (.Call (.Name x p) (e :: es) [] pos) (tE Γ W (eCallP n F fa)) := by
  obtain ⟨g, fd, ps, h1, h2, h3, h4⟩ := c.ex
  rw [← ok.hK] at h2 h3 h4
  exact s_callP ok h4 hr hg h1 h2 h3 ha hdb he hpl
theorem s_cal0 (ok : Ok Γ X W) (c : Cal X.prog X.w Γ X.mg X.base x k n F) (hr : Room k X.A) (hg : Gl X x) (hdb : (x == ("__debug__" : Str)) = false := by decide) :
    PE X (.Call (.Name x p) [] [] pos) (tE Γ W (eCall n F aNil)) := by
  obtain ⟨g, fd, ps, h1, h2, h3, h4⟩ := c.ex
  rw [← ok.hK] at h2 h3 h4
  exact s_call0 ok h4 hr hg h1 h2 h3 hdb
end
/-- what the written part says of a def -/
structure FnAt (K : PySem.W.Frag) (x : Str) (st : Stmt) : Prop where
  ex : ∃ (f : Addr) (oc : Value) (od : Option Addr) (kV doc pm : Value) (an : Option Addr) (cdv ct : Value) (osl : Array (Option Value)), PySem.W.nsIn K mainGlobals x = some (some (.ref f)) ∧
    K.lookup f = some ⟨oc, od, .func (PySem.W.fnOf x x (defArgs st) (defBody st) (defScope st) .none kV doc pm an cdv ct), osl⟩ ∧ PySem.W.codeIn K cdv x = true ∧ PySem.W.keepIn K (.ref f) = true
theorem FnAt.mk' {K : PySem.W.Frag} {x : Str} {st : Stmt} {f : Addr} {oc : Value} {od : Option Addr} {kV doc pm : Value} {an : Option Addr} {cdv ct : Value} {osl : Array (Option Value)} (a : PySem.W.nsIn K mainGlobals x = some (some (.ref f)))
    (l : K.lookup f = some ⟨oc, od, .func (PySem.W.fnOf x x (defArgs st) (defBody st) (defScope st) .none kV doc pm an cdv ct), osl⟩) (c : PySem.W.codeIn K cdv x = true) (k : PySem.W.keepIn K (.ref f) = true) : FnAt K x st :=
  ⟨f, oc, od, kV, doc, pm, an, cdv, ct, osl, a, l, c, k⟩
theorem fnOk_mk {P : Program} {w : World} {Γ : G} {mg : Str → Option Value} {base : Heap} {x : Str} {st : Stmt} {k : Nat} {N ps : List Str} {s : ST} {f : Addr} {oc : Value} {od : Option Addr} {kV doc pm : Value} {an : Option Addr} {cdv ct : Value} {osl : Array (Option Value)} (T : Top P base)
    (l : Γ.K.lookup f = some ⟨oc, od, .func (PySem.W.fnOf x x (defArgs st) (defBody st) (defScope st) .none kV doc pm an cdv ct), osl⟩) (c : PySem.W.codeIn Γ.K cdv x = true) (kp : PySem.W.keepIn Γ.K (.ref f) = true) (S : FnScope N ps (defScope st)) (hk : 60 ≤ k)
    (hbody : ∀ (f : Addr) (cdv : Value) (A : Around) (outer : List Env) (s0 : Shared) (H0 : Hp) (E : XK), Room k (A.deeper (envOfC x (defScope st) s0.heap.objs.size f cdv)) →
      Ok Γ (cxOf (L2.CX P w) P w Γ.K mg base N x (defScope st) f cdv A outer s0 H0 E) (fun cls d _ H => E cls d H) →
      PSs (cxOf (L2.CX P w) P w Γ.K mg base N x (defScope st) f cdv A outer s0 H0 E) (defBody st) (tS Γ (fun cls d _ H => E cls d H) s)) :
    FnOk P w Γ.K mg base (L2.CX P w) (k + 1) f (PySem.W.fnOf x x (defArgs st) (defBody st) (defScope st) .none kV doc pm an cdv ct) ps (spF Γ ps.length (fnOf N.length s)) :=
  fn_ok T (fun_mk (st := st) l c kp) S hk (hbody f)
theorem cal_mk {P : Program} {w : World} {Γ : G} {mg : Str → Option Value} {base h : Heap} {x : Str} {st : Stmt} {k : Nat} {N ps : List Str} {s : ST} (T : Top P base) (X : Γ.K.In h) (G : h.Ns mainGlobals mg) (A : FnAt Γ.K x st) (S : FnScope N ps (defScope st)) (hk : 60 ≤ k)
    (hb : ∀ (kV doc pm : Value) (an : Option Addr) (cdv ct : Value) (us : List Value), us.length = ps.length → bindArgs (PySem.W.fnOf x x (defArgs st) (defBody st) (defScope st) .none kV doc pm an cdv ct) ⟨us, []⟩ = pure (ps.zip us))
    (hbody : ∀ (f : Addr) (cdv : Value) (A : Around) (outer : List Env) (s0 : Shared) (H0 : Hp) (E : XK), Room k (A.deeper (envOfC x (defScope st) s0.heap.objs.size f cdv)) →
      Ok Γ (cxOf (L2.CX P w) P w Γ.K mg base N x (defScope st) f cdv A outer s0 H0 E) (fun cls d _ H => E cls d H) →
      PSs (cxOf (L2.CX P w) P w Γ.K mg base N x (defScope st) f cdv A outer s0 H0 E) (defBody st) (tS Γ (fun cls d _ H => E cls d H) s)) :
    Cal P w Γ mg base x (k + 1) ps.length (fnOf N.length s) := by
  obtain ⟨f, oc, od, kV, doc, pm, an, cdv, ct, osl, a, l, c, kp⟩ := A.ex
  have F := fun_mk (st := st) l c kp
  exact ⟨f, _, ps, PySem.W.mg_of X G a, kp, F.binds hb, fn_ok T F S hk (hbody f)⟩
theorem Room.le {j k : Nat} {A : Around} (h : Room k A) (e : j ≤ k) : Room j A := h.mono e
end Eng

set_option Elab.async false
set_option linter.all false
set_option autoImplicit false
set_option maxRecDepth 100000
set_option maxHeartbeats 4000000
/-! The engine, part K: built-in names. -/
namespace Eng
open PySem L2 PySem.Spec PyProof.Rows
/-- turns enough for a loop whose slot i falls -/
def fuI (i : Nat) : Ev → Hv → Nat := fun ρ _ => match (ρ[i]? : Option (Option Val)) with
  | some (some (Val.int n)) => n.natAbs + 1
  | _ => 0
theorem bt_len : bootBuiltins "len" = some (.builtin "len") := by decide +kernel
theorem bt_abs : bootBuiltins "abs" = some (.builtin "abs") := by decide +kernel
theorem bt_min : bootBuiltins "min" = some (.builtin "min") := by decide +kernel
theorem bt_max : bootBuiltins "max" = some (.builtin "max") := by decide +kernel
theorem bt_all : bootBuiltins "all" = some (.builtin "all") := by decide +kernel
theorem bt_any : bootBuiltins "any" = some (.builtin "any") := by decide +kernel
theorem bt_sum : bootBuiltins "sum" = some (.builtin "sum") := by decide +kernel
theorem bt_int : bootBuiltins "int" = some (.type "int") := by decide +kernel
theorem bt_str : bootBuiltins "str" = some (.type "str") := by decide +kernel
theorem bt_list : bootBuiltins "list" = some (.type "list") := by decide +kernel
theorem bt_tuple : bootBuiltins "tuple" = some (.type "tuple") := by decide +kernel
theorem bt_dict : bootBuiltins "dict" = some (.type "dict") := by decide +kernel
theorem bt_bool : bootBuiltins "bool" = some (.type "bool") := by decide +kernel
section
variable {Γ : G} {X : Cx} {W : WX}
theorem x_max2 (hc : X.calm = true) : CallR X (.builtin "max") (fun xs H Q => ∃ i j, xs = [.int i, .int j] ∧ Q (.int (if j > i then j else i)) H) := call_max2 hc
theorem x_min2 (hc : X.calm = true) : CallR X (.builtin "min") (fun xs H Q => ∃ i j, xs = [.int i, .int j] ∧ Q (.int (if j < i then j else i)) H) := call_min2 hc
theorem x_all (ok : Ok Γ X W) (hc : X.calm = true) : CallR X (.builtin "all") (rAll Γ.K) := ok.hK ▸ cr_all hc
theorem x_any (ok : Ok Γ X W) (hc : X.calm = true) : CallR X (.builtin "any") (rAny Γ.K) := ok.hK ▸ cr_any hc
theorem x_sum (ok : Ok Γ X W) (hc : X.calm = true) : CallR X (.builtin "sum") (rSum Γ.K) := ok.hK ▸ cr_sum hc
theorem x_max (ok : Ok Γ X W) (hc : X.calm = true) : CallR X (.builtin "max") (rMax Γ.K) := ok.hK ▸ cr_max hc
theorem x_min (ok : Ok Γ X W) (hc : X.calm = true) : CallR X (.builtin "min") (rMin Γ.K) := ok.hK ▸ cr_min hc
theorem x_list (ok : Ok Γ X W) : CallR X (.type "list") (rListO Γ.K) := ok.hK ▸ call_list_of
theorem x_tuple (ok : Ok Γ X W) : CallR X (.type "tuple") (rTupO Γ.K) := ok.hK ▸ call_tuple_of
end
end Eng

set_option Elab.async false
set_option linter.all false
set_option autoImplicit false
set_option maxRecDepth 100000
/-! The engine, part L: words for working a text out. -/
namespace Eng
open PySem L2
theorem bind_ok {α β : Type} (a : α) (h : Hv) (k : α → Hv → R β) : (R.ok a h).bind k = k a h := rfl
theorem ofR_v {α : Type} (a : α) (h : Hv) (ρ : Ev) (k : α → Hv → SR) : ofR (.ok a h) ρ k = k a h := rfl
theorem eVar_at {i : Nat} {ρ : Ev} {h : Hv} {v : Val} (e : ρ[i]? = some (some v)) : eVar i ρ h = .ok v h := by unfold eVar; rw [e]
theorem eqv_int (i j : Int) : PyData.eqv (.int i) (.int j) = decide (i = j) := by
  by_cases h : i = j <;> simp [PyData.eqv, h]
theorem sh_int (i : Int) : SeqAt.shaped (.int i) = true := by simp [SeqAt.shaped, PyData.canLay0, PyData.depth]
theorem sh_str {i : Str} (e : PyData.strOk i = true) : SeqAt.shaped (.str i) = true := by simp [SeqAt.shaped, PyData.canLay0, PyData.depth, e]
theorem oEq_int (i j : Int) (h : Hv) : oEq (.int i) (.int j) h = .ok (.bl (decide (i = j))) h := by
  have : eqE h (.int i) (.int j) = some (decide (i = j)) := by
    simp only [eqE, toD, dat, sh_int, Bool.and_self, if_true, eqv_int]
  simp only [oEq, this]
theorem oNe_int (i j : Int) (h : Hv) : oNe (.int i) (.int j) h = .ok (.bl (!decide (i = j))) h := by
  have : eqE h (.int i) (.int j) = some (decide (i = j)) := by
    simp only [eqE, toD, dat, sh_int, Bool.and_self, if_true, eqv_int]
  simp only [oNe, this]
theorem eqv_str (i j : Str) : PyData.eqv (.str i) (.str j) = decide (i = j) := by
  by_cases h : i = j <;> simp [PyData.eqv, h]
theorem oEq_str {i j : Str} (ei : PyData.strOk i = true) (ej : PyData.strOk j = true) (h : Hv) : oEq (.str i) (.str j) h = .ok (.bl (decide (i = j))) h := by
  have : eqE h (.str i) (.str j) = some (decide (i = j)) := by
    simp only [eqE, toD, dat, sh_str ei, sh_str ej, Bool.and_self, if_true, eqv_str]
  simp only [oEq, this]
theorem oNe_str {i j : Str} (ei : PyData.strOk i = true) (ej : PyData.strOk j = true) (h : Hv) : oNe (.str i) (.str j) h = .ok (.bl (!decide (i = j))) h := by
  have : eqE h (.str i) (.str j) = some (decide (i = j)) := by
    simp only [eqE, toD, dat, sh_str ei, sh_str ej, Bool.and_self, if_true, eqv_str]
  simp only [oNe, this]
theorem abs_natAbs (a : Int) : (if a < 0 then -a else a) = a.natAbs := by split <;> omega
theorem oLt_int (i j : Int) (h : Hv) : oLt (.int i) (.int j) h = .ok (.bl (decide (i < j))) h := rfl
theorem oLe_int (i j : Int) (h : Hv) : oLe (.int i) (.int j) h = .ok (.bl (decide (i ≤ j))) h := rfl
theorem oGt_int (i j : Int) (h : Hv) : oGt (.int i) (.int j) h = .ok (.bl (decide (j < i))) h := rfl
theorem oGe_int (i j : Int) (h : Hv) : oGe (.int i) (.int j) h = .ok (.bl (decide (j ≤ i))) h := rfl
theorem oAdd_int (i j : Int) (h : Hv) : oAdd (.int i) (.int j) h = .ok (.int (i + j)) h := rfl
theorem oSub_int (i j : Int) (h : Hv) : oSub (.int i) (.int j) h = .ok (.int (i - j)) h := rfl
theorem oMul_int {i j : Int} (h : Hv) (e : intFits i j = true) : oMul (.int i) (.int j) h = .ok (.int (i * j)) h := by unfold oMul; simp only [e, if_true]
theorem oFdiv_int {i j : Int} (h : Hv) (e : j ≠ 0) : oFdiv (.int i) (.int j) h = .ok (.int (i.fdiv j)) h := by unfold oFdiv; simp only [e, if_false]
theorem oMod_int {i j : Int} (h : Hv) (e : j ≠ 0) : oMod (.int i) (.int j) h = .ok (.int (i.fmod j)) h := by unfold oMod; simp only [e, if_false]
theorem oAdd_str {i j : Str} (h : Hv) (e : i.length + j.length ≤ 1000000) : oAdd (.str i) (.str j) h = .ok (.str (i ++ j)) h := by unfold oAdd; simp only [e, if_true]
theorem toB_bl {f : EX} {ρ : Ev} {h h' : Hv} {b : Bool} (e : f ρ h = .ok (.bl b) h') : toB f ρ h = .ok b h' := by unfold toB; rw [e]; rfl
theorem eBin_ok {op : O2} {f g : EX} {ρ : Ev} {h h1 h2 : Hv} {a b : Val} (e1 : f ρ h = .ok a h1) (e2 : g ρ h1 = .ok b h2) : eBin op f g ρ h = op a b h2 := by unfold eBin; rw [e1, bind_ok, e2, bind_ok]
theorem atI_k {α : Type} (xs : List α) (k : Nat) : L2.atI xs (k : Int) = xs[k]? := by
  unfold L2.atI L2.ixN
  rw [if_pos (by omega)]
  by_cases h : k < xs.length
  · rw [if_pos (by omega)]
    show xs[(k : Int).toNat]? = _
    rw [Int.toNat_natCast]
  · rw [if_neg (by omega)]
    exact (List.getElem?_eq_none (by omega)).symm
theorem asT_tup (xs : List Val) : asT (.tup xs) = some xs := rfl
/-- a call on a heap of its own, of values without objects -/
theorem callP_ok {n : Nat} {F : Fn} {vs vs' : List Val} {h h' g g' : Hv} {v w : Val} (hn : vs.length = n) (e1 : frzs vs h = some (vs', h')) (e2 : F vs' [] = .ok v g) (e3 : frz v g = some (w, g')) : callP n F vs h = .ok w h' := by
  unfold callP
  rw [if_pos hn, e1]
  dsimp only
  unfold runP
  rw [e2]
  dsimp only
  rw [e3]
theorem euclid (c : EB) (s : ST) (ρ : Int → Int → Ev) (hc : ∀ (a b : Int) h, c (ρ a b) h = .ok (decide (0 < b)) h)
    (hs : ∀ (a b : Int) h, b ≠ 0 → s (ρ a b) h = .nx (ρ b (a.fmod b)) h) :
    ∀ (n : Nat) (a b : Int) (h : Hv), 0 ≤ a → 0 ≤ b → b.natAbs < n → whileN n c s (ρ a b) h = .nx (ρ (Int.gcd a b) 0) h := by
  intro n
  induction n with
  | zero => intro a b h _ _ hb; omega
  | succ n ih =>
    intro a b h ha hb hn
    unfold whileN
    rw [hc]
    dsimp only [ofR]
    by_cases h0 : 0 < b
    · rw [decide_eq_true h0, if_pos rfl, hs a b h (by omega)]
      dsimp only
      have e : a.fmod b = a % b := Int.fmod_eq_emod_of_nonneg a (by omega)
      have l := Int.emod_lt_of_pos a h0
      have l2 := Int.emod_nonneg a (show b ≠ 0 by omega)
      rw [e, ih b (a % b) h hb l2 (by omega)]
      have : Int.gcd b (a % b) = Int.gcd a b := by
        unfold Int.gcd
        rw [Int.natAbs_emod_of_nonneg ha, Nat.gcd_comm a.natAbs b.natAbs, Nat.gcd_rec b.natAbs a.natAbs, Nat.gcd_comm]
      rw [this]
    · have : b = 0 := by omega
      subst this
      rw [decide_eq_false h0, if_neg (by decide)]
      have : ((Int.gcd a 0 : Nat) : Int) = a := by simp; omega
      rw [this]
end Eng

set_option Elab.async false
set_option linter.all false
set_option autoImplicit false
set_option maxRecDepth 100000
/-! The engine, part M: texts of numbers, loops with what stays. -/
namespace Eng
open PySem L2 TL PySem.NumText
def sgnL (n : Int) : List Nat := if n < 0 then 45 :: numL n.natAbs else numL n.natAbs
theorem tl_numS (n : Int) : tl (numS n) = sgnL n := by
  unfold numS sgnL
  by_cases h : n < 0
  · rw [if_pos h]
    obtain ⟨k, rfl⟩ : ∃ k : Nat, n = Int.negSucc k := ⟨n.natAbs - 1, by omega⟩
    rw [tl_ofString]
    show ((("-" : String) ++ toString (k + 1)).toList.map Char.toNat) = _
    rw [String.toList_append, List.map_append]
    show [45] ++ _ = _
    have := tl_num (k + 1)
    rw [tl_ofString] at this
    show 45 :: ((toString (((k + 1 : Nat) : Int))).toList.map Char.toNat) = _
    rw [this]
    rfl
  · rw [if_neg h]
    obtain ⟨k, rfl⟩ : ∃ k : Nat, n = (k : Int) := ⟨n.natAbs, by omega⟩
    rw [tl_num]
    rfl
theorem sgn_signs {n : Int} : ∀ c ∈ sgnL n, c = 45 ∨ (48 ≤ c ∧ c ≤ 57) := by
  intro c hc
  unfold sgnL at hc
  split at hc
  · rcases List.mem_cons.mp hc with e | e
    · exact .inl e
    · exact .inr (numL_digits _ c e)
  · exact .inr (numL_digits _ c hc)
theorem strOk_of {s : Str} (h : ∀ c ∈ tl s, c < 128) : PyData.strOk s = true := by
  unfold PyData.strOk
  rw [← Array.all_toList, List.all_eq_true]
  intro c hc
  have := h c hc
  exact decide_eq_true (by omega)
theorem len_numS {n : Int} {k : Nat} (hk : 0 < k) (h : n.natAbs < 10 ^ k) : (numS n).length ≤ k + 1 := by
  rw [len_tl, tl_numS]
  have := numL_len hk h
  unfold sgnL
  split
  · rw [List.length_cons]; omega
  · omega
theorem intText_numS {n : Int} (h : n.natAbs < 10 ^ 1000) : intText? (numS n) = some n := by
  have hl := len_numS (by decide) h
  have hl' := numL_len (by decide) h
  have et : (numS n).cps.toList = sgnL n := tl_numS n
  by_cases hn : n < 0
  · have e2 : sgnL n = 45 :: numL n.natAbs := if_pos hn
    rw [intText_neg (et.trans e2) (numL_digits _) (numL_ne _) (by omega), numL_val]
    congr 1
    omega
  · have e2 : sgnL n = numL n.natAbs := if_neg hn
    rw [intText_digits (by rw [et, e2]; exact numL_digits _) (by rw [et, e2]; exact numL_ne _) (by omega), et, e2, numL_val]
    congr 1
    omega
theorem figs_of {n : Int} {k : Nat} (hk : k ≤ 4300) (h : n.natAbs < 10 ^ k) : figs n = true :=
  decide_eq_true (Nat.lt_of_lt_of_le h (Nat.pow_le_pow_right (by decide) hk))
theorem forL_inv {g : TGt} {s : ST} (I : Nat → Ev → Hv → Prop) : ∀ (vs : List Val) (i : Nat) (ρ : Ev) (h : Hv), (∀ j v ρ h, vs[j]? = some v → I (i + j) ρ h → ∃ ρ1 h1, g v ρ h = some (ρ1, h1) ∧ ∃ ρ2 h2, s ρ1 h1 = .nx ρ2 h2 ∧ I (i + j + 1) ρ2 h2) →
    I i ρ h → ∃ ρ' h', forL vs g s ρ h = .nx ρ' h' ∧ I (i + vs.length) ρ' h' := by
  intro vs
  induction vs with
  | nil => intro i ρ h _ q; exact ⟨ρ, h, rfl, q⟩
  | cons v vs ih =>
    intro i ρ h st q
    obtain ⟨ρ1, h1, e1, ρ2, h2, e2, q2⟩ := st 0 v ρ h rfl q
    obtain ⟨ρ', h', e3, q3⟩ := ih (i + 1) ρ2 h2 (fun j w ρ h e q => by
      have := st (j + 1) w ρ h e (by rw [show i + (j + 1) = i + 1 + j by omega]; exact q)
      rw [show i + (j + 1) + 1 = i + 1 + j + 1 by omega] at this
      exact this) q2
    refine ⟨ρ', h', ?_, by rw [List.length_cons, show i + (vs.length + 1) = i + 1 + vs.length by omega]; exact q3⟩
    unfold forL
    rw [e1]
    dsimp only
    rw [e2]
    exact e3
mutual
theorem frz_imm : ∀ {v : Val} {h : Hv}, imm v = true → frz v h = some (v, h)
  | .ref i, h, e => by unfold imm at e; cases e
  | .tup xs, h, e => by unfold imm at e; unfold frz; rw [frzs_imm e]; rfl
  | .lst xs, h, e => by unfold imm at e; unfold frz; rw [if_pos e]
  | .dct ks xs, h, e => by unfold imm at e; unfold frz; rw [if_pos e]
  | .exc ks xs, h, e => by unfold imm at e; unfold frz; rw [if_pos e]
  | .non, h, e => by unfold frz; rfl
  | .bl _, h, e => by unfold frz; rfl
  | .int _, h, e => by unfold frz; rfl
  | .str _, h, e => by unfold frz; rfl
theorem frzs_imm : ∀ {vs : List Val} {h : Hv}, imms vs = true → frzs vs h = some (vs, h)
  | [], h, e => by unfold frzs; rfl
  | v :: vs, h, e => by
    unfold imms at e
    obtain ⟨e1, e2⟩ := Bool.and_eq_true_iff.mp e
    unfold frzs
    rw [frz_imm e1]
    dsimp only
    rw [frzs_imm e2]
end
theorem callP_imm {n : Nat} {F : Fn} {vs : List Val} {h g : Hv} {v : Val} (e2 : F vs [] = .ok v g) (hn : vs.length = n := by rfl) (e1 : imms vs = true := by rfl) (e3 : imm v = true := by rfl) : callP n F vs h = .ok v h :=
  callP_ok hn (frzs_imm e1) e2 (frz_imm e3)
theorem fnOf_rt {n : Nat} {s : ST} {args : List Val} {h h' : Hv} {v : Val} {ρ : Ev} (e : s ρ h = .rt v h') (hs : startE n args = ρ := by rfl) : fnOf n s args h = .ok v h' := by
  subst hs
  unfold fnOf
  rw [e]
/-- all of a comprehension's tests hold -/
theorem lcN_map {g : Tg} {f : EX} {ρ : Ev} {h : Hv} (r : Val → Val) : ∀ (vs : List Val) (acc : List Val), acc.length + vs.length ≤ 1000000 → (∀ v ∈ vs, ∃ ρ1, tgE g v ρ = some ρ1 ∧ f ρ1 h = .ok (r v) h) → lcN vs g bYes f ρ acc h = .ok (acc ++ vs.map r) h := by
  intro vs
  induction vs with
  | nil => intro acc _ _; simp [lcN]
  | cons v vs ih =>
    intro acc hl hs
    rw [List.length_cons] at hl
    obtain ⟨ρ1, e1, e2⟩ := hs v (List.mem_cons_self ..)
    unfold lcN
    rw [e1]
    dsimp only
    rw [show bYes ρ1 h = .ok true h from rfl, bind_ok, if_pos rfl, e2, bind_ok, if_pos (by omega), ih (acc ++ [r v]) (by rw [List.length_append, List.length_singleton]; omega) fun w hw => hs w (List.mem_cons_of_mem _ hw)]
    simp
theorem blsOf_map (f : Val → Bool) (vs : List Val) : blsOf (vs.map fun v => .bl (f v)) = some (vs.map f) := by
  induction vs with
  | nil => rfl
  | cons v vs ih => simp only [List.map_cons, blsOf, ih]; rfl
end Eng

set_option Elab.async false
set_option linter.all false
set_option autoImplicit false
set_option maxRecDepth 100000
set_option exponentiation.threshold 5000
/-! The engine, part N: numbers: greatest divisors, lowest terms, sizes; tuples looked into. -/
namespace Eng
open PySem L2
/-! ### lowest terms -/
theorem gcd_pos {a b : Int} (h : 0 < b) : 0 < Int.gcd a b := Nat.pos_of_ne_zero fun e => by
  have := (Int.gcd_eq_zero_iff.mp e).2
  omega
theorem gcd_red {a b : Int} (h : 0 < b) : Int.gcd (a / (Int.gcd a b : Nat)) (b / (Int.gcd a b : Nat)) = 1 := by
  have p := gcd_pos (a := a) h
  have e1 := Int.ediv_mul_cancel (Int.gcd_dvd_left a b)
  have e2 := Int.ediv_mul_cancel (Int.gcd_dvd_right a b)
  have e3 := Int.gcd_mul_left (Int.gcd a b : Int) (a / (Int.gcd a b : Nat)) (b / (Int.gcd a b : Nat))
  rw [Int.mul_comm, e1, Int.mul_comm, e2, Int.natAbs_natCast] at e3
  have e4 : Int.gcd a b * 1 = Int.gcd a b * Int.gcd (a / (Int.gcd a b : Nat)) (b / (Int.gcd a b : Nat)) := by rw [Nat.mul_one]; exact e3
  exact (Nat.eq_of_mul_eq_mul_left p e4).symm
theorem ediv_pos {b : Int} {g : Nat} (hb : 0 < b) (hg : (g : Int) ∣ b) : 0 < b / (g : Int) := by
  obtain ⟨c, rfl⟩ := hg
  have : 0 < (g : Int) := by
    rcases Nat.eq_zero_or_pos g with e | e
    · subst e; simp at hb
    · omega
  rw [Int.mul_ediv_cancel_left _ (by omega)]
  by_cases hc : 0 < c
  · exact hc
  · have h2 : (g : Int) * c ≤ (g : Int) * 0 := Int.mul_le_mul_of_nonneg_left (by omega) (by omega)
    rw [Int.mul_zero] at h2
    omega
/-- the size that a text of so many figures can tell -/
def Big (n : Int) : Prop := n.natAbs < 10 ^ 1000
theorem Big.div {a : Int} (b : Int) (h : Big a) : Big (a / b) := Nat.lt_of_le_of_lt (Int.natAbs_ediv_le_natAbs a b) h
theorem Big.figs {n : Int} (h : Big n) : figs n = true := figs_of (by decide) h
theorem Big.len {n : Int} (h : Big n) : (numS n).length ≤ 1001 := len_numS (by decide) h
theorem Big.fits {m n : Int} (h : Big m) (k : Big n) : intFits m n = true := by
  have l : ∀ {x : Int}, Big x → x.natAbs.log2 < 4000 := fun {x} h => by
    by_cases e : x.natAbs = 0
    · rw [e]; decide
    · refine (Nat.log2_lt e).mpr (Nat.lt_trans h ?_)
      decide +kernel
  exact decide_eq_true (by have := l h; have := l k; omega)
theorem Big.small {n : Int} (h : n.natAbs < 10 ^ 100) : Big n := Nat.lt_trans h (by decide +kernel)
/-- a triple in lowest terms is told by its proportion -/
theorem lowest_eq {x y w X Y W : Int} (hw : 0 < w) (hW : 0 < W) (h1 : Int.gcd (Int.gcd x y : Nat) w = 1) (h2 : Int.gcd (Int.gcd X Y : Nat) W = 1) (ex : X * w = x * W) (ey : Y * w = y * W) : X = x ∧ Y = y ∧ W = w := by
  have g1 : Int.gcd (Int.gcd (W * x) (W * y) : Nat) (W * w) = W.natAbs := by
    rw [Int.gcd_mul_left, show ((W.natAbs * Int.gcd x y : Nat) : Int) = W * (Int.gcd x y : Nat) by rw [Int.natCast_mul]; congr 1; omega, Int.gcd_mul_left, h1, Nat.mul_one]
  have g2 : Int.gcd (Int.gcd (w * X) (w * Y) : Nat) (w * W) = w.natAbs := by
    rw [Int.gcd_mul_left, show ((w.natAbs * Int.gcd X Y : Nat) : Int) = w * (Int.gcd X Y : Nat) by rw [Int.natCast_mul]; congr 1; omega, Int.gcd_mul_left, h2, Nat.mul_one]
  have e1 : W * x = w * X := by rw [Int.mul_comm W, ← ex, Int.mul_comm]
  have e2 : W * y = w * Y := by rw [Int.mul_comm W, ← ey, Int.mul_comm]
  rw [e1, e2, Int.mul_comm W w, g2] at g1
  have e3 : W = w := by omega
  subst e3
  exact ⟨Int.eq_of_mul_eq_mul_right (by omega) ex, Int.eq_of_mul_eq_mul_right (by omega) ey, rfl⟩
/-! ### looking into tuples and lists that are written out -/
theorem ix_t0 (a : Val) (r : List Val) (h : Hv) : oIx (.tup (a :: r)) (.int 0) h = .ok a h := by
  show (match L2.atI (a :: r) ((0 : Nat) : Int) with | some v => (R.ok v h : R Val) | none => R.bad) = _
  rw [atI_k]; rfl
theorem ix_t1 (a b : Val) (r : List Val) (h : Hv) : oIx (.tup (a :: b :: r)) (.int 1) h = .ok b h := by
  show (match L2.atI (a :: b :: r) ((1 : Nat) : Int) with | some v => (R.ok v h : R Val) | none => R.bad) = _
  rw [atI_k]; rfl
theorem ix_t2 (a b c : Val) (r : List Val) (h : Hv) : oIx (.tup (a :: b :: c :: r)) (.int 2) h = .ok c h := by
  show (match L2.atI (a :: b :: c :: r) ((2 : Nat) : Int) with | some v => (R.ok v h : R Val) | none => R.bad) = _
  rw [atI_k]; rfl
theorem ix_l0 (a : Val) (r : List Val) (h : Hv) : oIx (.lst (a :: r)) (.int 0) h = .ok a h := by
  show (match L2.atI (a :: r) ((0 : Nat) : Int) with | some v => (R.ok v h : R Val) | none => R.bad) = _
  rw [atI_k]; rfl
theorem ix_l1 (a b : Val) (r : List Val) (h : Hv) : oIx (.lst (a :: b :: r)) (.int 1) h = .ok b h := by
  show (match L2.atI (a :: b :: r) ((1 : Nat) : Int) with | some v => (R.ok v h : R Val) | none => R.bad) = _
  rw [atI_k]; rfl
theorem ix_l2 (a b c : Val) (r : List Val) (h : Hv) : oIx (.lst (a :: b :: c :: r)) (.int 2) h = .ok c h := by
  show (match L2.atI (a :: b :: c :: r) ((2 : Nat) : Int) with | some v => (R.ok v h : R Val) | none => R.bad) = _
  rw [atI_k]; rfl
theorem len_lst (xs : List Val) (h : Hv) : cLen [.lst xs] h = .ok (.int xs.length) h := rfl
theorem tup_ok (vs : List Val) (h : Hv) (e : vs.length ≤ 1000000) : (if vs.length ≤ 1000000 then (R.ok (Val.tup vs) h : R Val) else R.bad) = .ok (.tup vs) h := if_pos e
end Eng

set_option Elab.async false
set_option linter.all false
set_option autoImplicit false
set_option maxRecDepth 100000
set_option maxHeartbeats 4000000
namespace Law
open PySem L2 PySem.Spec PyProof.Rows Eng
def top (i : Nat) : Stmt := PySem.Challenge.pw_nearlands_k87_fractions_and_points_shown.main.body.getD i (.Pass ⟨0, 0, 0, 0⟩)
/-- the names of the module that the walk reads, beside the defs -/
structure Bt (mg : Str → Option Value) : Prop where
  b_abs : mg "abs" = none
  b_all : mg "all" = none
  b_bool : mg "bool" = none
  b_int : mg "int" = none
  b_isinstance : mg "isinstance" = none
  b_len : mg "len" = none
  b_list : mg "list" = none
  b_min : mg "min" = none
  b_range : mg "range" = none
  b_str : mg "str" = none
  b_tuple : mg "tuple" = none
  g_FIGURES : ∃ w, mg "FIGURES" = some w ∧ RelV (.str "0123456789") w
  g_MOST_FIGURES : ∃ w, mg "MOST_FIGURES" = some w ∧ RelV (.int 1000) w
section
variable {P : Program} {w : World} {Γ : G} {mg : Str → Option Value} {base h : Heap}
abbrev sd_divisor : Stmt := top 5
abbrev N_divisor : List Str := ["one", "other"]
theorem sc_divisor : FnScope N_divisor ["one", "other"] (defScope sd_divisor) := ⟨rfl, rfl, rfl, by decide +kernel, rfl, by decide +kernel, by decide +kernel⟩
def fu_divisor_0 : Ev → Hv → Nat := fuI 1
def t_divisor : ST :=
    sSeq (sPar 0 1 (aCons (eCB cAbs (aCons (eVar 0) (aNil))) (aCons (eCB cAbs (aCons (eVar 1) (aNil))) aNil)))
    (sSeq (sWhile fu_divisor_0 (toB (eBin oGt (eVar 1) (eVal (.int 0))))
    (sPar 0 1 (aCons (eVar 1) (aCons (eBin oMod (eVar 0) (eVar 1)) aNil))))
    (sRet (eVar 0)))
def f_divisor : Fn := fnOf 2 t_divisor
theorem ok_divisor (T : Top P base) (KX : Γ.K.In h) (G : h.Ns mainGlobals mg) (U : Bt mg) (A : FnAt Γ.K "divisor" sd_divisor)  : Cal P w Γ mg base "divisor" 61 2 f_divisor := by
  refine cal_mk T KX G A sc_divisor (by decide) (fun _ _ _ _ _ _ us hl => match us, hl with | [_, _], _ => rfl) (fun f cdv A outer s0 H0 E hr ok => ?_)
  exact s_seq (s_par rfl sc_divisor.nd rfl rfl (by decide) rfl rfl (s_cons (s_callB x_abs p_abs n_abs rfl U.b_abs bt_abs (s_cons (s_var 0 (pv 0)) (s_nil))) (s_cons (s_callB x_abs p_abs n_abs rfl U.b_abs bt_abs (s_cons (s_var 1 (pv 1)) (s_nil))) s_nil)) (by rfl))
    (s_seq (s_while ok (s_tcmp x_gt p_gt n_gt (s_var 1 (pv 1)) (s_int) (nomark _))
    (s_last (s_par rfl sc_divisor.nd rfl rfl (by decide) rfl rfl (s_cons (s_var 1 (pv 1)) (s_cons (s_bin x_mod p_mod n_mod (s_var 0 (pv 0)) (s_var 1 (pv 1))) s_nil)) (by rfl))))
    (s_last (s_ret (s_var 0 (pv 0)))))
abbrev sd_point_of : Stmt := top 6
abbrev N_point_of : List Str := ["x", "y", "w", "by"]
theorem sc_point_of : FnScope N_point_of ["x", "y", "w"] (defScope sd_point_of) := ⟨rfl, rfl, rfl, by decide +kernel, rfl, by decide +kernel, by decide +kernel⟩
def t_point_of : ST :=
    sSeq (sIf (toB (eBin oEq (eVar 2) (eVal (.int 0))))
    (sBad)
    (sNil))
    (sSeq (sSet 3 (eCallP 2 f_divisor (aCons (eCallP 2 f_divisor (aCons (eVar 0) (aCons (eVar 1) (aNil)))) (aCons (eVar 2) (aNil)))))
    (sSeq (sIf (toB (eBin oLt (eVar 2) (eVal (.int 0))))
    (sSet 3 (eBin oSub (eVal (.int 0)) (eVar 3)))
    (sNil))
    (sRet (eTup (aCons (eBin oFdiv (eVar 0) (eVar 3)) (aCons (eBin oFdiv (eVar 1) (eVar 3)) (aCons (eBin oFdiv (eVar 2) (eVar 3)) (aNil))))))))
def f_point_of : Fn := fnOf 4 t_point_of
theorem ok_point_of (T : Top P base) (KX : Γ.K.In h) (G : h.Ns mainGlobals mg) (U : Bt mg) (A : FnAt Γ.K "point_of" sd_point_of) (c_divisor : Cal P w Γ mg base "divisor" 61 2 f_divisor) : Cal P w Γ mg base "point_of" 62 3 f_point_of := by
  refine cal_mk T KX G A sc_point_of (by decide) (fun _ _ _ _ _ _ us hl => match us, hl with | [_, _, _], _ => rfl) (fun f cdv A outer s0 H0 E hr ok => ?_)
  exact s_seq (s_sif (s_tcmp (x_eq ok) p_eq n_eq (s_var 2 (pv 2)) (s_int) (nomark _))
    (s_bads)
    (s_snil))
    (s_seq (s_set (i := 3) sc_point_of.nd rfl (by first | exact Or.inl rfl | exact Or.inr rfl) (s_calP ok c_divisor (hr.mono (by decide)) rfl (s_cons (s_calP ok c_divisor (hr.mono (by decide)) rfl (s_cons (s_var 0 (pv 0)) (s_cons (s_var 1 (pv 1)) (s_nil)))) (s_cons (s_var 2 (pv 2)) (s_nil)))))
    (s_seq (s_sif (s_tcmp x_lt p_lt n_lt (s_var 2 (pv 2)) (s_int) (nomark _))
    (s_last (s_set (i := 3) sc_point_of.nd rfl (by first | exact Or.inl rfl | exact Or.inr rfl) (s_bin x_sub p_sub n_sub (s_int) (s_var 3 (pv 3)))))
    (s_snil))
    (s_last (s_ret (s_tup (s_cons (s_bin (x_fdiv ok) p_fdiv n_fdiv (s_var 0 (pv 0)) (s_var 3 (pv 3))) (s_cons (s_bin (x_fdiv ok) p_fdiv n_fdiv (s_var 1 (pv 1)) (s_var 3 (pv 3))) (s_cons (s_bin (x_fdiv ok) p_fdiv n_fdiv (s_var 2 (pv 2)) (s_var 3 (pv 3))) (s_nil)))))))))
abbrev sd_fraction_of : Stmt := top 7
abbrev N_fraction_of : List Str := ["top", "bottom", "by"]
theorem sc_fraction_of : FnScope N_fraction_of ["top", "bottom"] (defScope sd_fraction_of) := ⟨rfl, rfl, rfl, by decide +kernel, rfl, by decide +kernel, by decide +kernel⟩
def t_fraction_of : ST :=
    sSeq (sIf (toB (eBin oEq (eVar 1) (eVal (.int 0))))
    (sBad)
    (sNil))
    (sSeq (sSet 2 (eCallP 2 f_divisor (aCons (eVar 0) (aCons (eVar 1) (aNil)))))
    (sSeq (sIf (toB (eBin oLt (eVar 1) (eVal (.int 0))))
    (sSet 2 (eBin oSub (eVal (.int 0)) (eVar 2)))
    (sNil))
    (sRet (eTup (aCons (eBin oFdiv (eVar 0) (eVar 2)) (aCons (eBin oFdiv (eVar 1) (eVar 2)) (aNil)))))))
def f_fraction_of : Fn := fnOf 3 t_fraction_of
theorem ok_fraction_of (T : Top P base) (KX : Γ.K.In h) (G : h.Ns mainGlobals mg) (U : Bt mg) (A : FnAt Γ.K "fraction_of" sd_fraction_of) (c_divisor : Cal P w Γ mg base "divisor" 61 2 f_divisor) : Cal P w Γ mg base "fraction_of" 63 2 f_fraction_of := by
  refine cal_mk T KX G A sc_fraction_of (by decide) (fun _ _ _ _ _ _ us hl => match us, hl with | [_, _], _ => rfl) (fun f cdv A outer s0 H0 E hr ok => ?_)
  exact s_seq (s_sif (s_tcmp (x_eq ok) p_eq n_eq (s_var 1 (pv 1)) (s_int) (nomark _))
    (s_bads)
    (s_snil))
    (s_seq (s_set (i := 2) sc_fraction_of.nd rfl (by first | exact Or.inl rfl | exact Or.inr rfl) (s_calP ok c_divisor (hr.mono (by decide)) rfl (s_cons (s_var 0 (pv 0)) (s_cons (s_var 1 (pv 1)) (s_nil)))))
    (s_seq (s_sif (s_tcmp x_lt p_lt n_lt (s_var 1 (pv 1)) (s_int) (nomark _))
    (s_last (s_set (i := 2) sc_fraction_of.nd rfl (by first | exact Or.inl rfl | exact Or.inr rfl) (s_bin x_sub p_sub n_sub (s_int) (s_var 2 (pv 2)))))
    (s_snil))
    (s_last (s_ret (s_tup (s_cons (s_bin (x_fdiv ok) p_fdiv n_fdiv (s_var 0 (pv 0)) (s_var 2 (pv 2))) (s_cons (s_bin (x_fdiv ok) p_fdiv n_fdiv (s_var 1 (pv 1)) (s_var 2 (pv 2))) (s_nil))))))))
abbrev sd_show_fraction : Stmt := top 11
abbrev N_show_fraction : List Str := ["fraction"]
theorem sc_show_fraction : FnScope N_show_fraction ["fraction"] (defScope sd_show_fraction) := ⟨rfl, rfl, rfl, by decide +kernel, rfl, by decide +kernel, by decide +kernel⟩
def t_show_fraction : ST :=
    sSeq (sIf (toB (eBin oEq (eBin oIx (eVar 0) (eVal (.int 1))) (eVal (.int 1))))
    (sRet (eCB cStr (aCons (eBin oIx (eVar 0) (eVal (.int 0))) (aNil))))
    (sNil))
    (sRet (eJs [eFmt (eBin oIx (eVar 0) (eVal (.int 0))), eVal (.str "/"), eFmt (eBin oIx (eVar 0) (eVal (.int 1)))]))
def f_show_fraction : Fn := fnOf 1 t_show_fraction
theorem ok_show_fraction (T : Top P base) (KX : Γ.K.In h) (G : h.Ns mainGlobals mg) (U : Bt mg) (A : FnAt Γ.K "show_fraction" sd_show_fraction)  : Cal P w Γ mg base "show_fraction" 64 1 f_show_fraction := by
  refine cal_mk T KX G A sc_show_fraction (by decide) (fun _ _ _ _ _ _ us hl => match us, hl with | [_], _ => rfl) (fun f cdv A outer s0 H0 E hr ok => ?_)
  exact s_seq (s_sif (s_tcmp (x_eq ok) p_eq n_eq (s_ix ok (s_var 0 (pv 0)) (s_int) (fun _ _ => rfl)) (s_int) (nomark _))
    (s_last (s_ret (s_callTy (x_str ok) p_str n_str rfl U.b_str bt_str (s_cons (s_ix ok (s_var 0 (pv 0)) (s_int) (fun _ _ => rfl)) (s_nil)))))
    (s_snil))
    (s_last (s_ret (s_joined (s_jcons (s_fmt ok (s_ix ok (s_var 0 (pv 0)) (s_int) (fun _ _ => rfl))) (s_jcons (s_str) (s_jcons (s_fmt ok (s_ix ok (s_var 0 (pv 0)) (s_int) (fun _ _ => rfl))) (s_jnil)))))))
abbrev sd_show_point : Stmt := top 12
abbrev N_show_point : List Str := ["point", "x", "y", "w"]
theorem sc_show_point : FnScope N_show_point ["point"] (defScope sd_show_point) := ⟨rfl, rfl, rfl, by decide +kernel, rfl, by decide +kernel, by decide +kernel⟩
def t_show_point : ST :=
    sSeq (sAsg (eVar 0) (gTp 3 (gC (gNm 1) (gC (gNm 2) (gC (gNm 3) (gN))))))
    (sRet (eBin oAdd (eBin oAdd (eCallP 1 f_show_fraction (aCons (eCallP 2 f_fraction_of (aCons (eVar 1) (aCons (eVar 3) (aNil)))) (aNil))) (eVal (.str " "))) (eCallP 1 f_show_fraction (aCons (eCallP 2 f_fraction_of (aCons (eVar 2) (aCons (eVar 3) (aNil)))) (aNil)))))
def f_show_point : Fn := fnOf 4 t_show_point
theorem ok_show_point (T : Top P base) (KX : Γ.K.In h) (G : h.Ns mainGlobals mg) (U : Bt mg) (A : FnAt Γ.K "show_point" sd_show_point) (c_show_fraction : Cal P w Γ mg base "show_fraction" 64 1 f_show_fraction) (c_fraction_of : Cal P w Γ mg base "fraction_of" 63 2 f_fraction_of) : Cal P w Γ mg base "show_point" 65 1 f_show_point := by
  refine cal_mk T KX G A sc_show_point (by decide) (fun _ _ _ _ _ _ us hl => match us, hl with | [_], _ => rfl) (fun f cdv A outer s0 H0 E hr ok => ?_)
  exact s_seq (s_asg (s_var 0 (pv 0)) (s_gtup rfl ok.hK (s_gc (s_gnm (pg_name (i := 1) sc_show_point.nd rfl (by first | exact Or.inl rfl | exact Or.inr rfl))) (s_gc (s_gnm (pg_name (i := 2) sc_show_point.nd rfl (by first | exact Or.inl rfl | exact Or.inr rfl))) (s_gc (s_gnm (pg_name (i := 3) sc_show_point.nd rfl (by first | exact Or.inl rfl | exact Or.inr rfl))) (s_gn))))))
    (s_last (s_ret (s_bin (x_add ok) p_add n_add (s_bin (x_add ok) p_add n_add (s_calP ok c_show_fraction (hr.mono (by decide)) rfl (s_cons (s_calP ok c_fraction_of (hr.mono (by decide)) rfl (s_cons (s_var 1 (pv 1)) (s_cons (s_var 3 (pv 3)) (s_nil)))) (s_nil))) (s_str)) (s_calP ok c_show_fraction (hr.mono (by decide)) rfl (s_cons (s_calP ok c_fraction_of (hr.mono (by decide)) rfl (s_cons (s_var 2 (pv 2)) (s_cons (s_var 3 (pv 3)) (s_nil)))) (s_nil))))))
abbrev sd_read_whole : Stmt := top 13
abbrev N_read_whole : List Str := ["word", "most", "figures", "sign"]
theorem sc_read_whole : FnScope N_read_whole ["word", "most"] (defScope sd_read_whole) := ⟨rfl, rfl, rfl, by decide +kernel, rfl, by decide +kernel, by decide +kernel⟩
def t_read_whole : ST :=
    sSeq (sSet 2 (eIf (toB (eBin oEq (eSl (eVar 0) (pNo) (pAt (eVal (.int 1)))) (eVal (.str "-")))) (eSl (eVar 0) (pAt (eVal (.int 1))) (pNo)) (eVar 0)))
    (sSeq (sIf (bOr (toB (eBin oLt (eCB cLen (aCons (eVar 2) (aNil))) (eVal (.int 1)))) (bOr (toB (eBin oGt (eCB cLen (aCons (eVar 2) (aNil))) (eVar 1))) (bNot (toB (eCB cAll (aCons (eLc (iSt (eVar 2)) (.nm 3) (bYes) (eBin oIn (eVar 3) (eVal (.str "0123456789"))) [3]) (aNil)))))))
    (sBad)
    (sNil))
    (sSeq (sIf (bAnd (toB (eBin oEq (eBin oIx (eVar 2) (eVal (.int 0))) (eVal (.str "0")))) (toB (eBin oNe (eVar 0) (eVal (.str "0")))))
    (sBad)
    (sNil))
    (sRet (eCB cIntT (aCons (eVar 0) (aNil))))))
def f_read_whole : Fn := fnOf 4 t_read_whole
theorem ok_read_whole (T : Top P base) (KX : Γ.K.In h) (G : h.Ns mainGlobals mg) (U : Bt mg) (A : FnAt Γ.K "read_whole" sd_read_whole)  : Cal P w Γ mg base "read_whole" 66 2 f_read_whole := by
  refine cal_mk T KX G A sc_read_whole (by decide) (fun _ _ _ _ _ _ us hl => match us, hl with | [_, _], _ => rfl) (fun f cdv A outer s0 H0 E hr ok => ?_)
  exact s_seq (s_set (i := 2) sc_read_whole.nd rfl (by first | exact Or.inl rfl | exact Or.inr rfl) (s_if (s_tcmp (x_eq ok) p_eq n_eq (s_sl ok (s_var 0 (pv 0)) (s_no) (s_at (s_int))) (s_str) (nomark _)) (s_sl ok (s_var 0 (pv 0)) (s_at (s_int)) (s_no)) (s_var 0 (pv 0))))
    (s_seq (s_sif (PW.pt (s_or (s_tcmp x_lt p_lt n_lt (s_callB x_len p_len n_len rfl U.b_len bt_len (s_cons (s_var 2 (pv 2)) (s_nil))) (s_int) (nomark _)) (s_or (s_tcmp x_gt p_gt n_gt (s_callB x_len p_len n_len rfl U.b_len bt_len (s_cons (s_var 2 (pv 2)) (s_nil))) (s_var 1 (pv 1)) (nomark _)) (s_or1 (s_not (s_tval (s_callB (x_all ok rfl) p_all n_all rfl U.b_all bt_all (s_cons (s_lc ok rfl sc_read_whole.nd (s_istr (s_var 2 (pv 2))) (blkOk_by (own := [("sign", 3)]) (N := N_read_whole) (sc := defScope sd_read_whole) (by decide +kernel)) (by decide) (fun _ _ _ _ _ => pg_name (i := 3) sc_read_whole.nd rfl (Or.inl rfl)) (fun _ _ _ _ _ => s_ifs0) (fun _ _ _ _ _ => s_cmp (x_in (Ok.blk ok _ _ _ _ _)) p_in n_in (s_var 3 (pv 3)) (s_glob rfl U.g_FIGURES (fun _ _ _ => mk_str)) (by rfl))) (s_nil))) (fun _ => rfl)))))))
    (s_bads)
    (s_snil))
    (s_seq (s_sif (PW.pt (s_and (s_tcmp (x_eq ok) p_eq n_eq (s_ix ok (s_var 2 (pv 2)) (s_int) (fun _ _ => rfl)) (s_str) (nomark _)) (s_and1 (s_tcmp (x_ne ok) p_ne n_ne (s_var 0 (pv 0)) (s_str) (nomark _)))))
    (s_bads)
    (s_snil))
    (s_last (s_ret (s_callTy (x_int ok) p_int n_int rfl U.b_int bt_int (s_cons (s_var 0 (pv 0)) (s_nil)))))))
abbrev sd_read_fraction : Stmt := top 14
abbrev N_read_fraction : List Str := ["text", "words", "top", "bottom"]
theorem sc_read_fraction : FnScope N_read_fraction ["text"] (defScope sd_read_fraction) := ⟨rfl, rfl, rfl, by decide +kernel, rfl, by decide +kernel, by decide +kernel⟩
def t_read_fraction : ST :=
    sSeq (sSet 1 (eM "str" mSplit (eVar 0) (aCons (eVal (.str "/")) (aNil))))
    (sSeq (sIf (toB (eBin oEq (eCB cLen (aCons (eVar 1) (aNil))) (eVal (.int 1))))
    (sRet (eTup (aCons (eCallP 2 f_read_whole (aCons (eVar 0) (aCons (eVal (.int 1000)) (aNil)))) (aCons (eVal (.int 1)) (aNil)))))
    (sNil))
    (sSeq (sIf (toB (eBin oNe (eCB cLen (aCons (eVar 1) (aNil))) (eVal (.int 2))))
    (sBad)
    (sNil))
    (sSeq (sPar 2 3 (aCons (eCallP 2 f_read_whole (aCons (eBin oIx (eVar 1) (eVal (.int 0))) (aCons (eVal (.int 1000)) (aNil)))) (aCons (eCallP 2 f_read_whole (aCons (eBin oIx (eVar 1) (eVal (.int 1))) (aCons (eVal (.int 1000)) (aNil)))) aNil)))
    (sSeq (sIf (bOr (toB (eBin oLt (eVar 3) (eVal (.int 2)))) (toB (eBin oNe (eCallP 2 f_divisor (aCons (eVar 2) (aCons (eVar 3) (aNil)))) (eVal (.int 1)))))
    (sBad)
    (sNil))
    (sRet (eTup (aCons (eVar 2) (aCons (eVar 3) (aNil)))))))))
def f_read_fraction : Fn := fnOf 4 t_read_fraction
theorem ok_read_fraction (T : Top P base) (KX : Γ.K.In h) (G : h.Ns mainGlobals mg) (U : Bt mg) (A : FnAt Γ.K "read_fraction" sd_read_fraction) (c_read_whole : Cal P w Γ mg base "read_whole" 66 2 f_read_whole) (c_divisor : Cal P w Γ mg base "divisor" 61 2 f_divisor) : Cal P w Γ mg base "read_fraction" 67 1 f_read_fraction := by
  refine cal_mk T KX G A sc_read_fraction (by decide) (fun _ _ _ _ _ _ us hl => match us, hl with | [_], _ => rfl) (fun f cdv A outer s0 H0 E hr ok => ?_)
  exact s_seq (s_set (i := 1) sc_read_fraction.nd rfl (by first | exact Or.inl rfl | exact Or.inr rfl) (s_bm ok.hK PySem.F.plainAttrs_str PySem.F.slot_str_split PySem.F.type_str_split mt_split p_split n_split (s_var 0 (pv 0)) (s_cons (s_str) (s_nil))))
    (s_seq (s_sif (s_tcmp (x_eq ok) p_eq n_eq (s_callB x_len p_len n_len rfl U.b_len bt_len (s_cons (s_var 1 (pv 1)) (s_nil))) (s_int) (nomark _))
    (s_last (s_ret (s_tup (s_cons (s_calP ok c_read_whole (hr.mono (by decide)) rfl (s_cons (s_var 0 (pv 0)) (s_cons (s_glob rfl U.g_MOST_FIGURES (fun _ _ _ => mk_int)) (s_nil)))) (s_cons (s_int) (s_nil))))))
    (s_snil))
    (s_seq (s_sif (s_tcmp (x_ne ok) p_ne n_ne (s_callB x_len p_len n_len rfl U.b_len bt_len (s_cons (s_var 1 (pv 1)) (s_nil))) (s_int) (nomark _))
    (s_bads)
    (s_snil))
    (s_seq (s_par rfl sc_read_fraction.nd rfl rfl (by decide) rfl rfl (s_cons (s_calP ok c_read_whole (hr.mono (by decide)) rfl (s_cons (s_ix ok (s_var 1 (pv 1)) (s_int) (fun _ _ => rfl)) (s_cons (s_glob rfl U.g_MOST_FIGURES (fun _ _ _ => mk_int)) (s_nil)))) (s_cons (s_calP ok c_read_whole (hr.mono (by decide)) rfl (s_cons (s_ix ok (s_var 1 (pv 1)) (s_int) (fun _ _ => rfl)) (s_cons (s_glob rfl U.g_MOST_FIGURES (fun _ _ _ => mk_int)) (s_nil)))) s_nil)) (by rfl))
    (s_seq (s_sif (PW.pt (s_or (s_tcmp x_lt p_lt n_lt (s_var 3 (pv 3)) (s_int) (nomark _)) (s_or1 (s_tcmp (x_ne ok) p_ne n_ne (s_calP ok c_divisor (hr.mono (by decide)) rfl (s_cons (s_var 2 (pv 2)) (s_cons (s_var 3 (pv 3)) (s_nil)))) (s_int) (nomark _)))))
    (s_bads)
    (s_snil))
    (s_last (s_ret (s_tup (s_cons (s_var 2 (pv 2)) (s_cons (s_var 3 (pv 3)) (s_nil))))))))))
abbrev sd_read_point : Stmt := top 15
abbrev N_read_point : List Str := ["text", "words", "x", "y"]
theorem sc_read_point : FnScope N_read_point ["text"] (defScope sd_read_point) := ⟨rfl, rfl, rfl, by decide +kernel, rfl, by decide +kernel, by decide +kernel⟩
def t_read_point : ST :=
    sSeq (sSet 1 (eM "str" mSplit (eVar 0) (aCons (eVal (.str " ")) (aNil))))
    (sSeq (sIf (toB (eBin oNe (eCB cLen (aCons (eVar 1) (aNil))) (eVal (.int 2))))
    (sBad)
    (sNil))
    (sSeq (sPar 2 3 (aCons (eCallP 1 f_read_fraction (aCons (eBin oIx (eVar 1) (eVal (.int 0))) (aNil))) (aCons (eCallP 1 f_read_fraction (aCons (eBin oIx (eVar 1) (eVal (.int 1))) (aNil))) aNil)))
    (sRet (eCallP 3 f_point_of (aCons (eBin oMul (eBin oIx (eVar 2) (eVal (.int 0))) (eBin oIx (eVar 3) (eVal (.int 1)))) (aCons (eBin oMul (eBin oIx (eVar 3) (eVal (.int 0))) (eBin oIx (eVar 2) (eVal (.int 1)))) (aCons (eBin oMul (eBin oIx (eVar 2) (eVal (.int 1))) (eBin oIx (eVar 3) (eVal (.int 1)))) (aNil))))))))
def f_read_point : Fn := fnOf 4 t_read_point
theorem ok_read_point (T : Top P base) (KX : Γ.K.In h) (G : h.Ns mainGlobals mg) (U : Bt mg) (A : FnAt Γ.K "read_point" sd_read_point) (c_read_fraction : Cal P w Γ mg base "read_fraction" 67 1 f_read_fraction) (c_point_of : Cal P w Γ mg base "point_of" 62 3 f_point_of) : Cal P w Γ mg base "read_point" 68 1 f_read_point := by
  refine cal_mk T KX G A sc_read_point (by decide) (fun _ _ _ _ _ _ us hl => match us, hl with | [_], _ => rfl) (fun f cdv A outer s0 H0 E hr ok => ?_)
  exact s_seq (s_set (i := 1) sc_read_point.nd rfl (by first | exact Or.inl rfl | exact Or.inr rfl) (s_bm ok.hK PySem.F.plainAttrs_str PySem.F.slot_str_split PySem.F.type_str_split mt_split p_split n_split (s_var 0 (pv 0)) (s_cons (s_str) (s_nil))))
    (s_seq (s_sif (s_tcmp (x_ne ok) p_ne n_ne (s_callB x_len p_len n_len rfl U.b_len bt_len (s_cons (s_var 1 (pv 1)) (s_nil))) (s_int) (nomark _))
    (s_bads)
    (s_snil))
    (s_seq (s_par rfl sc_read_point.nd rfl rfl (by decide) rfl rfl (s_cons (s_calP ok c_read_fraction (hr.mono (by decide)) rfl (s_cons (s_ix ok (s_var 1 (pv 1)) (s_int) (fun _ _ => rfl)) (s_nil))) (s_cons (s_calP ok c_read_fraction (hr.mono (by decide)) rfl (s_cons (s_ix ok (s_var 1 (pv 1)) (s_int) (fun _ _ => rfl)) (s_nil))) s_nil)) (by rfl))
    (s_last (s_ret (s_calP ok c_point_of (hr.mono (by decide)) rfl (s_cons (s_bin x_mul p_mul n_mul (s_ix ok (s_var 2 (pv 2)) (s_int) (fun _ _ => rfl)) (s_ix ok (s_var 3 (pv 3)) (s_int) (fun _ _ => rfl))) (s_cons (s_bin x_mul p_mul n_mul (s_ix ok (s_var 3 (pv 3)) (s_int) (fun _ _ => rfl)) (s_ix ok (s_var 2 (pv 2)) (s_int) (fun _ _ => rfl))) (s_cons (s_bin x_mul p_mul n_mul (s_ix ok (s_var 2 (pv 2)) (s_int) (fun _ _ => rfl)) (s_ix ok (s_var 3 (pv 3)) (s_int) (fun _ _ => rfl))) (s_nil)))))))))
abbrev sd__law_feed : Stmt := top 17
abbrev N__law_feed : List Str := ["_law_script"]
theorem sc__law_feed : FnScope N__law_feed ["_law_script"] (defScope sd__law_feed) := ⟨rfl, rfl, rfl, by decide +kernel, rfl, by decide +kernel, by decide +kernel⟩
def t__law_feed : ST :=
    sRet (eDisp ["cells", "at", "left"] (aCons (eCB cList (aCons (eSl (eVar 0) (pNo) (pAt (eVal (.int 63)))) (aNil))) (aCons (eVal (.int 0)) (aCons (eVal (.int 0)) (aNil)))))
def f__law_feed : Fn := fnOf 1 t__law_feed
theorem ok__law_feed (T : Top P base) (KX : Γ.K.In h) (G : h.Ns mainGlobals mg) (U : Bt mg) (A : FnAt Γ.K "_law_feed" sd__law_feed)  : Cal P w Γ mg base "_law_feed" 69 1 f__law_feed := by
  refine cal_mk T KX G A sc__law_feed (by decide) (fun _ _ _ _ _ _ us hl => match us, hl with | [_], _ => rfl) (fun f cdv A outer s0 H0 E hr ok => ?_)
  exact s_last (s_ret (s_disp (s_dcons (s_callTy (x_list ok) p_list n_list rfl U.b_list bt_list (s_cons (s_sl ok (s_var 0 (pv 0)) (s_no) (s_at (s_int))) (s_nil))) (s_dcons (s_int) (s_dcons (s_int) (s_dnil)))) (by simp) (by decide)))
abbrev sd__law_draw : Stmt := top 18
abbrev N__law_draw : List Str := ["_law_feed_here", "_law_many", "_law_found", "_law_at", "_law_cell", "_law_number_here"]
theorem sc__law_draw : FnScope N__law_draw ["_law_feed_here", "_law_many"] (defScope sd__law_draw) := ⟨rfl, rfl, rfl, by decide +kernel, rfl, by decide +kernel, by decide +kernel⟩
def t__law_draw : ST :=
    sSeq (sIf (toB (eBin oGt (eBin oGetD (eVar 0) (eVal (.str "left"))) (eVal (.int 0))))
    (sSeq (sSet 2 (eBin oMod (eBin oGetD (eVar 0) (eVal (.str "left"))) (eVar 1)))
    (sSeq (sPutD (eVar 0) (eVal (.str "left")) (eBin oFdiv (eBin oGetD (eVar 0) (eVal (.str "left"))) (eVar 1)))
    (sRet (eVar 2))))
    (sNil))
    (sSeq (sSet 3 (eBin oGetD (eVar 0) (eVal (.str "at"))))
    (sSeq (sPutD (eVar 0) (eVal (.str "at")) (eBin oAdd (eVar 3) (eVal (.int 1))))
    (sSeq (sSet 4 (eVar 3))
    (sSeq (sIf (toB (eBin oGt (eCB cLen (aCons (eBin oGetD (eVar 0) (eVal (.str "cells"))) (aNil))) (eVal (.int 0))))
    (sSet 4 (eBin oIx (eBin oGetD (eVar 0) (eVal (.str "cells"))) (eBin oMod (eVar 3) (eCB cLen (aCons (eBin oGetD (eVar 0) (eVal (.str "cells"))) (aNil))))))
    (sNil))
    (sSeq (sIf (bAnd (toB (eBin oGe (eVar 4) (eBin oPow (eVal (.int 10)) (eVal (.int 18))))) (toB (eBin oLt (eVar 3) (eCB cLen (aCons (eBin oGetD (eVar 0) (eVal (.str "cells"))) (aNil))))))
    (sSeq (sPutD (eVar 0) (eVal (.str "left")) (eBin oFdiv (eVar 4) (eVar 1)))
    (sRet (eBin oMod (eVar 4) (eVar 1))))
    (sNil))
    (sSeq (sSet 5 (eBin oMod (eBin oMul (eBin oAdd (eBin oAdd (eBin oAdd (eBin oMod (eVar 4) (eVal (.int 1000003))) (eBin oMul (eBin oMul (eVal (.int 61)) (eVar 3)) (eVar 3))) (eBin oMul (eVal (.int 7)) (eVar 3))) (eVal (.int 1))) (eVal (.int 48271))) (eVal (.int 999983))))
    (sRet (eBin oMod (eBin oFdiv (eBin oMod (eBin oMul (eBin oMod (eBin oAdd (eBin oMul (eVar 5) (eVal (.int 69623))) (eBin oMul (eVal (.int 7919)) (eVar 3))) (eVal (.int 1999993))) (eVal (.int 16811))) (eVal (.int 524287))) (eVal (.int 5))) (eVar 1)))))))))
def f__law_draw : Fn := fnOf 6 t__law_draw
theorem ok__law_draw (T : Top P base) (KX : Γ.K.In h) (G : h.Ns mainGlobals mg) (U : Bt mg) (A : FnAt Γ.K "_law_draw" sd__law_draw)  : Cal P w Γ mg base "_law_draw" 70 2 f__law_draw := by
  refine cal_mk T KX G A sc__law_draw (by decide) (fun _ _ _ _ _ _ us hl => match us, hl with | [_, _], _ => rfl) (fun f cdv A outer s0 H0 E hr ok => ?_)
  exact s_seq (s_sif (s_tcmp x_gt p_gt n_gt (s_getD ok (s_var 0 (pv 0)) (s_str) (fun _ _ => rfl)) (s_int) (nomark _))
    (s_seq (s_set (i := 2) sc__law_draw.nd rfl (by first | exact Or.inl rfl | exact Or.inr rfl) (s_bin x_mod p_mod n_mod (s_getD ok (s_var 0 (pv 0)) (s_str) (fun _ _ => rfl)) (s_var 1 (pv 1))))
    (s_seq (s_putD ok (s_var 0 (pv 0)) (s_str) (s_bin (x_fdiv ok) p_fdiv n_fdiv (s_getD ok (s_var 0 (pv 0)) (s_str) (fun _ _ => rfl)) (s_var 1 (pv 1))))
    (s_last (s_ret (s_var 2 (pv 2))))))
    (s_snil))
    (s_seq (s_set (i := 3) sc__law_draw.nd rfl (by first | exact Or.inl rfl | exact Or.inr rfl) (s_getD ok (s_var 0 (pv 0)) (s_str) (fun _ _ => rfl)))
    (s_seq (s_putD ok (s_var 0 (pv 0)) (s_str) (s_bin (x_add ok) p_add n_add (s_var 3 (pv 3)) (s_int)))
    (s_seq (s_set (i := 4) sc__law_draw.nd rfl (by first | exact Or.inl rfl | exact Or.inr rfl) (s_var 3 (pv 3)))
    (s_seq (s_sif (s_tcmp x_gt p_gt n_gt (s_callB x_len p_len n_len rfl U.b_len bt_len (s_cons (s_getD ok (s_var 0 (pv 0)) (s_str) (fun _ _ => rfl)) (s_nil))) (s_int) (nomark _))
    (s_last (s_set (i := 4) sc__law_draw.nd rfl (by first | exact Or.inl rfl | exact Or.inr rfl) (s_ix ok (s_getD ok (s_var 0 (pv 0)) (s_str) (fun _ _ => rfl)) (s_bin x_mod p_mod n_mod (s_var 3 (pv 3)) (s_callB x_len p_len n_len rfl U.b_len bt_len (s_cons (s_getD ok (s_var 0 (pv 0)) (s_str) (fun _ _ => rfl)) (s_nil)))) (fun _ _ => rfl))))
    (s_snil))
    (s_seq (s_sif (PW.pt (s_and (s_tcmp x_ge p_ge n_ge (s_var 4 (pv 4)) (s_bin x_pow p_pow n_pow (s_int) (s_int)) (nomark _)) (s_and1 (s_tcmp x_lt p_lt n_lt (s_var 3 (pv 3)) (s_callB x_len p_len n_len rfl U.b_len bt_len (s_cons (s_getD ok (s_var 0 (pv 0)) (s_str) (fun _ _ => rfl)) (s_nil))) (nomark _)))))
    (s_seq (s_putD ok (s_var 0 (pv 0)) (s_str) (s_bin (x_fdiv ok) p_fdiv n_fdiv (s_var 4 (pv 4)) (s_var 1 (pv 1))))
    (s_last (s_ret (s_bin x_mod p_mod n_mod (s_var 4 (pv 4)) (s_var 1 (pv 1))))))
    (s_snil))
    (s_seq (s_set (i := 5) sc__law_draw.nd rfl (by first | exact Or.inl rfl | exact Or.inr rfl) (s_bin x_mod p_mod n_mod (s_bin x_mul p_mul n_mul (s_bin (x_add ok) p_add n_add (s_bin (x_add ok) p_add n_add (s_bin (x_add ok) p_add n_add (s_bin x_mod p_mod n_mod (s_var 4 (pv 4)) (s_int)) (s_bin x_mul p_mul n_mul (s_bin x_mul p_mul n_mul (s_int) (s_var 3 (pv 3))) (s_var 3 (pv 3)))) (s_bin x_mul p_mul n_mul (s_int) (s_var 3 (pv 3)))) (s_int)) (s_int)) (s_int)))
    (s_last (s_ret (s_bin x_mod p_mod n_mod (s_bin (x_fdiv ok) p_fdiv n_fdiv (s_bin x_mod p_mod n_mod (s_bin x_mul p_mul n_mul (s_bin x_mod p_mod n_mod (s_bin (x_add ok) p_add n_add (s_bin x_mul p_mul n_mul (s_var 5 (pv 5)) (s_int)) (s_bin x_mul p_mul n_mul (s_int) (s_var 3 (pv 3)))) (s_int)) (s_int)) (s_int)) (s_int)) (s_var 1 (pv 1)))))))))))
abbrev sd__law_great : Stmt := top 19
abbrev N__law_great : List Str := ["_law_feed_here", "_law_pieces", "_law_number_here", "_law_k"]
theorem sc__law_great : FnScope N__law_great ["_law_feed_here", "_law_pieces"] (defScope sd__law_great) := ⟨rfl, rfl, rfl, by decide +kernel, rfl, by decide +kernel, by decide +kernel⟩
def t__law_great : ST :=
    sSeq (sSet 2 (eVal (.int 0)))
    (sSeq (sFor (iRg1 (eVar 1)) (gNm 3)
    (sSet 2 (eBin oAdd (eBin oMul (eVar 2) (eVal (.int 100000))) (eCall 2 f__law_draw (aCons (eVar 0) (aCons (eVal (.int 100000)) (aNil)))))))
    (sRet (eVar 2)))
def f__law_great : Fn := fnOf 4 t__law_great
theorem ok__law_great (T : Top P base) (KX : Γ.K.In h) (G : h.Ns mainGlobals mg) (U : Bt mg) (A : FnAt Γ.K "_law_great" sd__law_great) (c__law_draw : Cal P w Γ mg base "_law_draw" 70 2 f__law_draw) : Cal P w Γ mg base "_law_great" 71 2 f__law_great := by
  refine cal_mk T KX G A sc__law_great (by decide) (fun _ _ _ _ _ _ us hl => match us, hl with | [_, _], _ => rfl) (fun f cdv A outer s0 H0 E hr ok => ?_)
  exact s_seq (s_set (i := 2) sc__law_great.nd rfl (by first | exact Or.inl rfl | exact Or.inr rfl) (s_int))
    (s_seq (s_for ok rfl (s_irg1 rfl U.b_range (s_var 1 (pv 1))) (s_gnm (pg_name (i := 3) sc__law_great.nd rfl (by first | exact Or.inl rfl | exact Or.inr rfl)))
    (s_last (s_set (i := 2) sc__law_great.nd rfl (by first | exact Or.inl rfl | exact Or.inr rfl) (s_bin (x_add ok) p_add n_add (s_bin x_mul p_mul n_mul (s_var 2 (pv 2)) (s_int)) (s_cal ok c__law_draw (hr.mono (by decide)) rfl (s_cons (s_var 0 (pv 0)) (s_cons (s_int) (s_nil))))))))
    (s_last (s_ret (s_var 2 (pv 2)))))
abbrev sd__law_number : Stmt := top 20
abbrev N__law_number : List Str := ["_law_feed_here", "_law_most", "_law_way", "_law_number_here"]
theorem sc__law_number : FnScope N__law_number ["_law_feed_here", "_law_most"] (defScope sd__law_number) := ⟨rfl, rfl, rfl, by decide +kernel, rfl, by decide +kernel, by decide +kernel⟩
def t__law_number : ST :=
    sSeq (sSet 2 (eCall 2 f__law_draw (aCons (eVar 0) (aCons (eVal (.int 4)) (aNil)))))
    (sSeq (sSet 3 (eCall 2 f__law_draw (aCons (eVar 0) (aCons (eVal (.int 60)) (aNil)))))
    (sSeq (sIf (toB (eBin oEq (eVar 2) (eVal (.int 2))))
    (sSet 3 (eCall 2 f__law_great (aCons (eVar 0) (aCons (eBin oAdd (eVal (.int 1)) (eCall 2 f__law_draw (aCons (eVar 0) (aCons (eVal (.int 8)) (aNil))))) (aNil)))))
    (sNil))
    (sSeq (sIf (toB (eBin oEq (eVar 2) (eVal (.int 3))))
    (sSet 3 (eCB cIntT (aCons (eBin oAdd (eBin oAdd (eCB cStr (aCons (eBin oAdd (eVal (.int 1)) (eCall 2 f__law_draw (aCons (eVar 0) (aCons (eVal (.int 9)) (aNil))))) (aNil))) (eBin oMulS (eVal (.str "0")) (eBin oSub (eVar 1) (eVal (.int 20))))) (eCB cStr (aCons (eCall 2 f__law_great (aCons (eVar 0) (aCons (eVal (.int 2)) (aNil)))) (aNil)))) (aNil))))
    (sNil))
    (sRet (eBin oIx (eLst (aCons (eVar 3) (aCons (eBin oSub (eVal (.int 0)) (eVar 3)) (aNil)))) (eCall 2 f__law_draw (aCons (eVar 0) (aCons (eVal (.int 2)) (aNil)))))))))
def f__law_number : Fn := fnOf 4 t__law_number
theorem ok__law_number (T : Top P base) (KX : Γ.K.In h) (G : h.Ns mainGlobals mg) (U : Bt mg) (A : FnAt Γ.K "_law_number" sd__law_number) (c__law_draw : Cal P w Γ mg base "_law_draw" 70 2 f__law_draw) (c__law_great : Cal P w Γ mg base "_law_great" 71 2 f__law_great) : Cal P w Γ mg base "_law_number" 72 2 f__law_number := by
  refine cal_mk T KX G A sc__law_number (by decide) (fun _ _ _ _ _ _ us hl => match us, hl with | [_, _], _ => rfl) (fun f cdv A outer s0 H0 E hr ok => ?_)
  exact s_seq (s_set (i := 2) sc__law_number.nd rfl (by first | exact Or.inl rfl | exact Or.inr rfl) (s_cal ok c__law_draw (hr.mono (by decide)) rfl (s_cons (s_var 0 (pv 0)) (s_cons (s_int) (s_nil)))))
    (s_seq (s_set (i := 3) sc__law_number.nd rfl (by first | exact Or.inl rfl | exact Or.inr rfl) (s_cal ok c__law_draw (hr.mono (by decide)) rfl (s_cons (s_var 0 (pv 0)) (s_cons (s_int) (s_nil)))))
    (s_seq (s_sif (s_tcmp (x_eq ok) p_eq n_eq (s_var 2 (pv 2)) (s_int) (nomark _))
    (s_last (s_set (i := 3) sc__law_number.nd rfl (by first | exact Or.inl rfl | exact Or.inr rfl) (s_cal ok c__law_great (hr.mono (by decide)) rfl (s_cons (s_var 0 (pv 0)) (s_cons (s_bin (x_add ok) p_add n_add (s_int) (s_cal ok c__law_draw (hr.mono (by decide)) rfl (s_cons (s_var 0 (pv 0)) (s_cons (s_int) (s_nil))))) (s_nil))))))
    (s_snil))
    (s_seq (s_sif (s_tcmp (x_eq ok) p_eq n_eq (s_var 2 (pv 2)) (s_int) (nomark _))
    (s_last (s_set (i := 3) sc__law_number.nd rfl (by first | exact Or.inl rfl | exact Or.inr rfl) (s_callTy (x_int ok) p_int n_int rfl U.b_int bt_int (s_cons (s_bin (x_add ok) p_add n_add (s_bin (x_add ok) p_add n_add (s_callTy (x_str ok) p_str n_str rfl U.b_str bt_str (s_cons (s_bin (x_add ok) p_add n_add (s_int) (s_cal ok c__law_draw (hr.mono (by decide)) rfl (s_cons (s_var 0 (pv 0)) (s_cons (s_int) (s_nil))))) (s_nil))) (s_bin x_mulS p_mulS n_mulS (s_str) (s_bin x_sub p_sub n_sub (s_var 1 (pv 1)) (s_int)))) (s_callTy (x_str ok) p_str n_str rfl U.b_str bt_str (s_cons (s_cal ok c__law_great (hr.mono (by decide)) rfl (s_cons (s_var 0 (pv 0)) (s_cons (s_int) (s_nil)))) (s_nil)))) (s_nil)))))
    (s_snil))
    (s_last (s_ret (s_ix ok (s_lst (s_cons (s_var 3 (pv 3)) (s_cons (s_bin x_sub p_sub n_sub (s_int) (s_var 3 (pv 3))) (s_nil)))) (s_cal ok c__law_draw (hr.mono (by decide)) rfl (s_cons (s_var 0 (pv 0)) (s_cons (s_int) (s_nil)))) (fun _ _ => rfl)))))))
abbrev sd__law_whole : Stmt := top 21
abbrev N__law_whole : List Str := ["_law_thing"]
theorem sc__law_whole : FnScope N__law_whole ["_law_thing"] (defScope sd__law_whole) := ⟨rfl, rfl, rfl, by decide +kernel, rfl, by decide +kernel, by decide +kernel⟩
def t__law_whole : ST :=
    sRet (eAnd (eIsi "int" (eVar 0)) (eNot (eIsi "bool" (eVar 0))))
def f__law_whole : Fn := fnOf 1 t__law_whole
theorem ok__law_whole (T : Top P base) (KX : Γ.K.In h) (G : h.Ns mainGlobals mg) (U : Bt mg) (A : FnAt Γ.K "_law_whole" sd__law_whole)  : Cal P w Γ mg base "_law_whole" 73 1 f__law_whole := by
  refine cal_mk T KX G A sc__law_whole (by decide) (fun _ _ _ _ _ _ us hl => match us, hl with | [_], _ => rfl) (fun f cdv A outer s0 H0 E hr ok => ?_)
  exact s_last (s_ret (s_andV (s_isi ok.hK rfl U.b_isinstance rfl U.b_int bt_int (s_var 0 (pv 0))) (s_one (s_notV (s_isi ok.hK rfl U.b_isinstance rfl U.b_bool bt_bool (s_var 0 (pv 0)))))))
abbrev sd__law_shown : Stmt := top 22
abbrev N__law_shown : List Str := ["_law_top", "_law_bottom", "_law_one", "_law_other"]
theorem sc__law_shown : FnScope N__law_shown ["_law_top", "_law_bottom"] (defScope sd__law_shown) := ⟨rfl, rfl, rfl, by decide +kernel, rfl, by decide +kernel, by decide +kernel⟩
def fu__law_shown_0 : Ev → Hv → Nat := fuI 3
def t__law_shown : ST :=
    sSeq (sSet 2 (eCB cAbs (aCons (eVar 0) (aNil))))
    (sSeq (sSet 3 (eVar 1))
    (sSeq (sWhile fu__law_shown_0 (toB (eBin oGt (eVar 3) (eVal (.int 0))))
    (sPar 2 3 (aCons (eVar 3) (aCons (eBin oMod (eVar 2) (eVar 3)) aNil))))
    (sSeq (sIf (toB (eBin oEq (eVar 2) (eVar 1)))
    (sRet (eCB cStr (aCons (eBin oFdiv (eVar 0) (eVar 2)) (aNil))))
    (sNil))
    (sRet (eBin oAdd (eBin oAdd (eCB cStr (aCons (eBin oFdiv (eVar 0) (eVar 2)) (aNil))) (eVal (.str "/"))) (eCB cStr (aCons (eBin oFdiv (eVar 1) (eVar 2)) (aNil))))))))
def f__law_shown : Fn := fnOf 4 t__law_shown
theorem ok__law_shown (T : Top P base) (KX : Γ.K.In h) (G : h.Ns mainGlobals mg) (U : Bt mg) (A : FnAt Γ.K "_law_shown" sd__law_shown)  : Cal P w Γ mg base "_law_shown" 74 2 f__law_shown := by
  refine cal_mk T KX G A sc__law_shown (by decide) (fun _ _ _ _ _ _ us hl => match us, hl with | [_, _], _ => rfl) (fun f cdv A outer s0 H0 E hr ok => ?_)
  exact s_seq (s_set (i := 2) sc__law_shown.nd rfl (by first | exact Or.inl rfl | exact Or.inr rfl) (s_callB x_abs p_abs n_abs rfl U.b_abs bt_abs (s_cons (s_var 0 (pv 0)) (s_nil))))
    (s_seq (s_set (i := 3) sc__law_shown.nd rfl (by first | exact Or.inl rfl | exact Or.inr rfl) (s_var 1 (pv 1)))
    (s_seq (s_while ok (s_tcmp x_gt p_gt n_gt (s_var 3 (pv 3)) (s_int) (nomark _))
    (s_last (s_par rfl sc__law_shown.nd rfl rfl (by decide) rfl rfl (s_cons (s_var 3 (pv 3)) (s_cons (s_bin x_mod p_mod n_mod (s_var 2 (pv 2)) (s_var 3 (pv 3))) s_nil)) (by rfl))))
    (s_seq (s_sif (s_tcmp (x_eq ok) p_eq n_eq (s_var 2 (pv 2)) (s_var 1 (pv 1)) (nomark _))
    (s_last (s_ret (s_callTy (x_str ok) p_str n_str rfl U.b_str bt_str (s_cons (s_bin (x_fdiv ok) p_fdiv n_fdiv (s_var 0 (pv 0)) (s_var 2 (pv 2))) (s_nil)))))
    (s_snil))
    (s_last (s_ret (s_bin (x_add ok) p_add n_add (s_bin (x_add ok) p_add n_add (s_callTy (x_str ok) p_str n_str rfl U.b_str bt_str (s_cons (s_bin (x_fdiv ok) p_fdiv n_fdiv (s_var 0 (pv 0)) (s_var 2 (pv 2))) (s_nil))) (s_str)) (s_callTy (x_str ok) p_str n_str rfl U.b_str bt_str (s_cons (s_bin (x_fdiv ok) p_fdiv n_fdiv (s_var 1 (pv 1)) (s_var 2 (pv 2))) (s_nil)))))))))
abbrev sd__law_point_shown : Stmt := top 23
abbrev N__law_point_shown : List Str := ["_law_point"]
theorem sc__law_point_shown : FnScope N__law_point_shown ["_law_point"] (defScope sd__law_point_shown) := ⟨rfl, rfl, rfl, by decide +kernel, rfl, by decide +kernel, by decide +kernel⟩
def t__law_point_shown : ST :=
    sRet (eBin oAdd (eBin oAdd (eCallP 2 f__law_shown (aCons (eBin oIx (eVar 0) (eVal (.int 0))) (aCons (eBin oIx (eVar 0) (eVal (.int 2))) (aNil)))) (eVal (.str " "))) (eCallP 2 f__law_shown (aCons (eBin oIx (eVar 0) (eVal (.int 1))) (aCons (eBin oIx (eVar 0) (eVal (.int 2))) (aNil)))))
def f__law_point_shown : Fn := fnOf 1 t__law_point_shown
theorem ok__law_point_shown (T : Top P base) (KX : Γ.K.In h) (G : h.Ns mainGlobals mg) (U : Bt mg) (A : FnAt Γ.K "_law_point_shown" sd__law_point_shown) (c__law_shown : Cal P w Γ mg base "_law_shown" 74 2 f__law_shown) : Cal P w Γ mg base "_law_point_shown" 75 1 f__law_point_shown := by
  refine cal_mk T KX G A sc__law_point_shown (by decide) (fun _ _ _ _ _ _ us hl => match us, hl with | [_], _ => rfl) (fun f cdv A outer s0 H0 E hr ok => ?_)
  exact s_last (s_ret (s_bin (x_add ok) p_add n_add (s_bin (x_add ok) p_add n_add (s_calP ok c__law_shown (hr.mono (by decide)) rfl (s_cons (s_ix ok (s_var 0 (pv 0)) (s_int) (fun _ _ => rfl)) (s_cons (s_ix ok (s_var 0 (pv 0)) (s_int) (fun _ _ => rfl)) (s_nil)))) (s_str)) (s_calP ok c__law_shown (hr.mono (by decide)) rfl (s_cons (s_ix ok (s_var 0 (pv 0)) (s_int) (fun _ _ => rfl)) (s_cons (s_ix ok (s_var 0 (pv 0)) (s_int) (fun _ _ => rfl)) (s_nil))))))
abbrev sd__law_common : Stmt := top 25
abbrev N__law_common : List Str := ["_law_one", "_law_other"]
theorem sc__law_common : FnScope N__law_common ["_law_one", "_law_other"] (defScope sd__law_common) := ⟨rfl, rfl, rfl, by decide +kernel, rfl, by decide +kernel, by decide +kernel⟩
def fu__law_common_0 : Ev → Hv → Nat := fuI 1
def t__law_common : ST :=
    sSeq (sSet 0 (eCB cAbs (aCons (eVar 0) (aNil))))
    (sSeq (sSet 1 (eCB cAbs (aCons (eVar 1) (aNil))))
    (sSeq (sWhile fu__law_common_0 (toB (eBin oGt (eVar 1) (eVal (.int 0))))
    (sPar 0 1 (aCons (eVar 1) (aCons (eBin oMod (eVar 0) (eVar 1)) aNil))))
    (sRet (eVar 0))))
def f__law_common : Fn := fnOf 2 t__law_common
theorem ok__law_common (T : Top P base) (KX : Γ.K.In h) (G : h.Ns mainGlobals mg) (U : Bt mg) (A : FnAt Γ.K "_law_common" sd__law_common)  : Cal P w Γ mg base "_law_common" 77 2 f__law_common := by
  refine cal_mk T KX G A sc__law_common (by decide) (fun _ _ _ _ _ _ us hl => match us, hl with | [_, _], _ => rfl) (fun f cdv A outer s0 H0 E hr ok => ?_)
  exact s_seq (s_set (i := 0) sc__law_common.nd rfl (by first | exact Or.inl rfl | exact Or.inr rfl) (s_callB x_abs p_abs n_abs rfl U.b_abs bt_abs (s_cons (s_var 0 (pv 0)) (s_nil))))
    (s_seq (s_set (i := 1) sc__law_common.nd rfl (by first | exact Or.inl rfl | exact Or.inr rfl) (s_callB x_abs p_abs n_abs rfl U.b_abs bt_abs (s_cons (s_var 1 (pv 1)) (s_nil))))
    (s_seq (s_while ok (s_tcmp x_gt p_gt n_gt (s_var 1 (pv 1)) (s_int) (nomark _))
    (s_last (s_par rfl sc__law_common.nd rfl rfl (by decide) rfl rfl (s_cons (s_var 1 (pv 1)) (s_cons (s_bin x_mod p_mod n_mod (s_var 0 (pv 0)) (s_var 1 (pv 1))) s_nil)) (by rfl))))
    (s_last (s_ret (s_var 0 (pv 0))))))
abbrev sd__law_lowest : Stmt := top 26
abbrev N__law_lowest : List Str := ["_law_x", "_law_y", "_law_w", "_law_by"]
theorem sc__law_lowest : FnScope N__law_lowest ["_law_x", "_law_y", "_law_w"] (defScope sd__law_lowest) := ⟨rfl, rfl, rfl, by decide +kernel, rfl, by decide +kernel, by decide +kernel⟩
def t__law_lowest : ST :=
    sSeq (sSet 3 (eCallP 2 f__law_common (aCons (eCallP 2 f__law_common (aCons (eVar 0) (aCons (eVar 1) (aNil)))) (aCons (eVar 2) (aNil)))))
    (sRet (eTup (aCons (eBin oFdiv (eVar 0) (eVar 3)) (aCons (eBin oFdiv (eVar 1) (eVar 3)) (aCons (eBin oFdiv (eVar 2) (eVar 3)) (aNil))))))
def f__law_lowest : Fn := fnOf 4 t__law_lowest
theorem ok__law_lowest (T : Top P base) (KX : Γ.K.In h) (G : h.Ns mainGlobals mg) (U : Bt mg) (A : FnAt Γ.K "_law_lowest" sd__law_lowest) (c__law_common : Cal P w Γ mg base "_law_common" 77 2 f__law_common) : Cal P w Γ mg base "_law_lowest" 78 3 f__law_lowest := by
  refine cal_mk T KX G A sc__law_lowest (by decide) (fun _ _ _ _ _ _ us hl => match us, hl with | [_, _, _], _ => rfl) (fun f cdv A outer s0 H0 E hr ok => ?_)
  exact s_seq (s_set (i := 3) sc__law_lowest.nd rfl (by first | exact Or.inl rfl | exact Or.inr rfl) (s_calP ok c__law_common (hr.mono (by decide)) rfl (s_cons (s_calP ok c__law_common (hr.mono (by decide)) rfl (s_cons (s_var 0 (pv 0)) (s_cons (s_var 1 (pv 1)) (s_nil)))) (s_cons (s_var 2 (pv 2)) (s_nil)))))
    (s_last (s_ret (s_tup (s_cons (s_bin (x_fdiv ok) p_fdiv n_fdiv (s_var 0 (pv 0)) (s_var 3 (pv 3))) (s_cons (s_bin (x_fdiv ok) p_fdiv n_fdiv (s_var 1 (pv 1)) (s_var 3 (pv 3))) (s_cons (s_bin (x_fdiv ok) p_fdiv n_fdiv (s_var 2 (pv 2)) (s_var 3 (pv 3))) (s_nil)))))))
abbrev sd__law_all_whole : Stmt := top 27
abbrev N__law_all_whole : List Str := ["_law_thing", "_law_number_here"]
theorem sc__law_all_whole : FnScope N__law_all_whole ["_law_thing"] (defScope sd__law_all_whole) := ⟨rfl, rfl, rfl, by decide +kernel, rfl, by decide +kernel, by decide +kernel⟩
def t__law_all_whole : ST :=
    sRet (eAnd (eIsi "tuple" (eVar 0)) (eCB cAll (aCons (eLc (iTp (eVar 0)) (.nm 1) (bYes) (eCallP 1 f__law_whole (aCons (eVar 1) (aNil))) [1]) (aNil))))
def f__law_all_whole : Fn := fnOf 2 t__law_all_whole
theorem ok__law_all_whole (T : Top P base) (KX : Γ.K.In h) (G : h.Ns mainGlobals mg) (U : Bt mg) (A : FnAt Γ.K "_law_all_whole" sd__law_all_whole) (c__law_whole : Cal P w Γ mg base "_law_whole" 73 1 f__law_whole) : Cal P w Γ mg base "_law_all_whole" 79 1 f__law_all_whole := by
  refine cal_mk T KX G A sc__law_all_whole (by decide) (fun _ _ _ _ _ _ us hl => match us, hl with | [_], _ => rfl) (fun f cdv A outer s0 H0 E hr ok => ?_)
  exact s_last (s_ret (s_andV (s_isi ok.hK rfl U.b_isinstance rfl U.b_tuple bt_tuple (s_var 0 (pv 0))) (s_one (s_callB (x_all ok rfl) p_all n_all rfl U.b_all bt_all (s_cons (s_lc ok rfl sc__law_all_whole.nd (s_itup ok.hK (s_var 0 (pv 0))) (blkOk_by (own := [("_law_number_here", 1)]) (N := N__law_all_whole) (sc := defScope sd__law_all_whole) (by decide +kernel)) (by decide) (fun _ _ _ _ _ => pg_name (i := 1) sc__law_all_whole.nd rfl (Or.inl rfl)) (fun _ _ _ _ _ => s_ifs0) (fun _ _ _ _ _ => s_calP (Ok.blk ok _ _ _ _ _) c__law_whole (hr.mono (by decide)) rfl (s_cons (s_var 1 (pv 1)) (s_nil)))) (s_nil))))))
abbrev sd__law_neighbours : Stmt := top 28
abbrev N__law_neighbours : List Str := ["_law_feed_here", "_law_one", "_law_other", "_law_k"]
theorem sc__law_neighbours : FnScope N__law_neighbours ["_law_feed_here"] (defScope sd__law_neighbours) := ⟨rfl, rfl, rfl, by decide +kernel, rfl, by decide +kernel, by decide +kernel⟩
def t__law_neighbours : ST :=
    sSeq (sAsg (eTup (aCons (eVal (.int 0)) (aCons (eVal (.int 1)) (aNil)))) (gTp 2 (gC (gNm 1) (gC (gNm 2) (gN)))))
    (sSeq (sFor (iRg1 (eVal (.int 4785))) (gNm 3)
    (sPar 1 2 (aCons (eVar 2) (aCons (eBin oAdd (eVar 1) (eVar 2)) aNil))))
    (sRet (eTup (aCons (eBin oIx (eLst (aCons (eVar 1) (aCons (eBin oSub (eVal (.int 0)) (eVar 1)) (aNil)))) (eCall 2 f__law_draw (aCons (eVar 0) (aCons (eVal (.int 2)) (aNil))))) (aCons (eVar 2) (aNil))))))
def f__law_neighbours : Fn := fnOf 4 t__law_neighbours
theorem ok__law_neighbours (T : Top P base) (KX : Γ.K.In h) (G : h.Ns mainGlobals mg) (U : Bt mg) (A : FnAt Γ.K "_law_neighbours" sd__law_neighbours) (c__law_draw : Cal P w Γ mg base "_law_draw" 70 2 f__law_draw) : Cal P w Γ mg base "_law_neighbours" 80 1 f__law_neighbours := by
  refine cal_mk T KX G A sc__law_neighbours (by decide) (fun _ _ _ _ _ _ us hl => match us, hl with | [_], _ => rfl) (fun f cdv A outer s0 H0 E hr ok => ?_)
  exact s_seq (s_asg (s_tup (s_cons (s_int) (s_cons (s_int) (s_nil)))) (s_gtup rfl ok.hK (s_gc (s_gnm (pg_name (i := 1) sc__law_neighbours.nd rfl (by first | exact Or.inl rfl | exact Or.inr rfl))) (s_gc (s_gnm (pg_name (i := 2) sc__law_neighbours.nd rfl (by first | exact Or.inl rfl | exact Or.inr rfl))) (s_gn)))))
    (s_seq (s_for ok rfl (s_irg1 rfl U.b_range (s_int)) (s_gnm (pg_name (i := 3) sc__law_neighbours.nd rfl (by first | exact Or.inl rfl | exact Or.inr rfl)))
    (s_last (s_par rfl sc__law_neighbours.nd rfl rfl (by decide) rfl rfl (s_cons (s_var 2 (pv 2)) (s_cons (s_bin (x_add ok) p_add n_add (s_var 1 (pv 1)) (s_var 2 (pv 2))) s_nil)) (by rfl))))
    (s_last (s_ret (s_tup (s_cons (s_ix ok (s_lst (s_cons (s_var 1 (pv 1)) (s_cons (s_bin x_sub p_sub n_sub (s_int) (s_var 1 (pv 1))) (s_nil)))) (s_cal ok c__law_draw (hr.mono (by decide)) rfl (s_cons (s_var 0 (pv 0)) (s_cons (s_int) (s_nil)))) (fun _ _ => rfl)) (s_cons (s_var 2 (pv 2)) (s_nil)))))))
abbrev sd_law : Stmt := top 29
abbrev N_law : List Str := ["_law_script", "_law_feed_here", "_law_bout", "_law_top", "_law_bottom", "_law_by", "_law_fraction", "_law_shown_here", "_law_point", "_law_text", "_law_again", "_law_found", "_law_there"]
theorem sc_law : FnScope N_law ["_law_script"] (defScope sd_law) := ⟨rfl, rfl, rfl, by decide +kernel, rfl, by decide +kernel, by decide +kernel⟩
def t_law : ST :=
    sSeq (sSet 1 (eCall 1 f__law_feed (aCons (eVar 0) (aNil))))
    (sSeq (sFor (iRg1 (eBin oAdd (eVal (.int 2)) (eCB cMin2 (aCons (eVal (.int 4)) (aCons (eCB cLen (aCons (eVar 0) (aNil))) (aNil)))))) (gNm 2)
    (sSeq (sSet 3 (eCall 2 f__law_number (aCons (eVar 1) (aCons (eVal (.int 990)) (aNil)))))
    (sSeq (sSet 4 (eBin oAdd (eVal (.int 1)) (eBin oMul (eCB cAbs (aCons (eCall 2 f__law_number (aCons (eVar 1) (aCons (eVal (.int 990)) (aNil)))) (aNil))) (eCall 2 f__law_draw (aCons (eVar 1) (aCons (eVal (.int 2)) (aNil)))))))
    (sSeq (sIf (bAnd (toB (eBin oEq (eVar 2) (eVal (.int 0)))) (toB (eBin oEq (eCall 2 f__law_draw (aCons (eVar 1) (aCons (eVal (.int 4)) (aNil)))) (eVal (.int 0)))))
    (sAsg (eCall 1 f__law_neighbours (aCons (eVar 1) (aNil))) (gTp 2 (gC (gNm 3) (gC (gNm 4) (gN)))))
    (sNil))
    (sSeq (sSet 5 (eCallP 2 f__law_common (aCons (eVar 3) (aCons (eVar 4) (aNil)))))
    (sSeq (sSet 6 (eTup (aCons (eBin oFdiv (eVar 3) (eVar 5)) (aCons (eBin oFdiv (eVar 4) (eVar 5)) (aNil)))))
    (sSeq (sSet 7 (eCallP 2 f__law_shown (aCons (eVar 3) (aCons (eVar 4) (aNil)))))
    (sSeq (sIf (toB (eBin oNe (eCallP 1 f_show_fraction (aCons (eVar 6) (aNil))) (eVar 7)))
    (sRet (eVal (.bl false)))
    (sNil))
    (sSeq (sSet 8 (eCallP 3 f__law_lowest (aCons (eVar 3) (aCons (eCall 2 f__law_number (aCons (eVar 1) (aCons (eVal (.int 490)) (aNil)))) (aCons (eBin oAdd (eVal (.int 1)) (eCB cAbs (aCons (eCall 2 f__law_number (aCons (eVar 1) (aCons (eVal (.int 490)) (aNil)))) (aNil)))) (aNil))))))
    (sSeq (sSet 9 (eCallP 1 f__law_point_shown (aCons (eVar 8) (aNil))))
    (sSeq (sIf (toB (eBin oNe (eCallP 1 f_show_point (aCons (eVar 8) (aNil))) (eVar 9)))
    (sRet (eVal (.bl false)))
    (sNil))
    (sFor (iRg1 (eVal (.int 2))) (gNm 10)
    (sSeq (sSet 11 (eCallP 1 f_read_fraction (aCons (eVar 7) (aNil))))
    (sSeq (sSet 12 (eCallP 1 f_read_point (aCons (eVar 9) (aNil))))
    (sIf (bOr (bNot (toB (eCallP 1 f__law_all_whole (aCons (eVar 11) (aNil))))) (bOr (toB (eBin oNe (eVar 11) (eVar 6))) (bOr (bNot (toB (eCallP 1 f__law_all_whole (aCons (eVar 12) (aNil))))) (toB (eBin oNe (eVar 12) (eVar 8))))))
    (sRet (eVal (.bl false)))
    (sNil))))))))))))))))
    (sRet (eVal (.bl true))))
def f_law : Fn := fnOf 13 t_law
theorem ok_law (T : Top P base) (KX : Γ.K.In h) (G : h.Ns mainGlobals mg) (U : Bt mg) {f : Addr} {oc : Value} {od : Option Addr} {kV doc pm : Value} {an : Option Addr} {cdv ct : Value} {osl : Array (Option Value)} (l : Γ.K.lookup f = some ⟨oc, od, .func (PySem.W.fnOf "law" "law" (defArgs sd_law) (defBody sd_law) (defScope sd_law) .none kV doc pm an cdv ct), osl⟩) (c : PySem.W.codeIn Γ.K cdv "law" = true) (kp : PySem.W.keepIn Γ.K (.ref f) = true) (c__law_feed : Cal P w Γ mg base "_law_feed" 69 1 f__law_feed) (c__law_number : Cal P w Γ mg base "_law_number" 72 2 f__law_number) (c__law_draw : Cal P w Γ mg base "_law_draw" 70 2 f__law_draw) (c__law_neighbours : Cal P w Γ mg base "_law_neighbours" 80 1 f__law_neighbours) (c__law_common : Cal P w Γ mg base "_law_common" 77 2 f__law_common) (c__law_shown : Cal P w Γ mg base "_law_shown" 74 2 f__law_shown) (c_show_fraction : Cal P w Γ mg base "show_fraction" 64 1 f_show_fraction) (c__law_lowest : Cal P w Γ mg base "_law_lowest" 78 3 f__law_lowest) (c__law_point_shown : Cal P w Γ mg base "_law_point_shown" 75 1 f__law_point_shown) (c_show_point : Cal P w Γ mg base "show_point" 65 1 f_show_point) (c_read_fraction : Cal P w Γ mg base "read_fraction" 67 1 f_read_fraction) (c_read_point : Cal P w Γ mg base "read_point" 68 1 f_read_point) (c__law_all_whole : Cal P w Γ mg base "_law_all_whole" 79 1 f__law_all_whole) :
    FnOk P w Γ.K mg base (L2.CX P w) 81 f (PySem.W.fnOf "law" "law" (defArgs sd_law) (defBody sd_law) (defScope sd_law) .none kV doc pm an cdv ct) ["_law_script"] (spF Γ 1 f_law) := by
  refine fnOk_mk T l c kp sc_law (by decide) (fun f cdv A outer s0 H0 E hr ok => ?_)
  exact s_seq (s_set (i := 1) sc_law.nd rfl (by first | exact Or.inl rfl | exact Or.inr rfl) (s_cal ok c__law_feed (hr.mono (by decide)) rfl (s_cons (s_var 0 (pv 0)) (s_nil))))
    (s_seq (s_for ok rfl (s_irg1 rfl U.b_range (s_bin (x_add ok) p_add n_add (s_int) (s_callB (x_min2 rfl) p_min2 n_min2 rfl U.b_min bt_min (s_cons (s_int) (s_cons (s_callB x_len p_len n_len rfl U.b_len bt_len (s_cons (s_var 0 (pv 0)) (s_nil))) (s_nil)))))) (s_gnm (pg_name (i := 2) sc_law.nd rfl (by first | exact Or.inl rfl | exact Or.inr rfl)))
    (s_seq (s_set (i := 3) sc_law.nd rfl (by first | exact Or.inl rfl | exact Or.inr rfl) (s_cal ok c__law_number (hr.mono (by decide)) rfl (s_cons (s_var 1 (pv 1)) (s_cons (s_int) (s_nil)))))
    (s_seq (s_set (i := 4) sc_law.nd rfl (by first | exact Or.inl rfl | exact Or.inr rfl) (s_bin (x_add ok) p_add n_add (s_int) (s_bin x_mul p_mul n_mul (s_callB x_abs p_abs n_abs rfl U.b_abs bt_abs (s_cons (s_cal ok c__law_number (hr.mono (by decide)) rfl (s_cons (s_var 1 (pv 1)) (s_cons (s_int) (s_nil)))) (s_nil))) (s_cal ok c__law_draw (hr.mono (by decide)) rfl (s_cons (s_var 1 (pv 1)) (s_cons (s_int) (s_nil)))))))
    (s_seq (s_sif (PW.pt (s_and (s_tcmp (x_eq ok) p_eq n_eq (s_var 2 (pv 2)) (s_int) (nomark _)) (s_and1 (s_tcmp (x_eq ok) p_eq n_eq (s_cal ok c__law_draw (hr.mono (by decide)) rfl (s_cons (s_var 1 (pv 1)) (s_cons (s_int) (s_nil)))) (s_int) (nomark _)))))
    (s_last (s_asg (s_cal ok c__law_neighbours (hr.mono (by decide)) rfl (s_cons (s_var 1 (pv 1)) (s_nil))) (s_gtup rfl ok.hK (s_gc (s_gnm (pg_name (i := 3) sc_law.nd rfl (by first | exact Or.inl rfl | exact Or.inr rfl))) (s_gc (s_gnm (pg_name (i := 4) sc_law.nd rfl (by first | exact Or.inl rfl | exact Or.inr rfl))) (s_gn))))))
    (s_snil))
    (s_seq (s_set (i := 5) sc_law.nd rfl (by first | exact Or.inl rfl | exact Or.inr rfl) (s_calP ok c__law_common (hr.mono (by decide)) rfl (s_cons (s_var 3 (pv 3)) (s_cons (s_var 4 (pv 4)) (s_nil)))))
    (s_seq (s_set (i := 6) sc_law.nd rfl (by first | exact Or.inl rfl | exact Or.inr rfl) (s_tup (s_cons (s_bin (x_fdiv ok) p_fdiv n_fdiv (s_var 3 (pv 3)) (s_var 5 (pv 5))) (s_cons (s_bin (x_fdiv ok) p_fdiv n_fdiv (s_var 4 (pv 4)) (s_var 5 (pv 5))) (s_nil)))))
    (s_seq (s_set (i := 7) sc_law.nd rfl (by first | exact Or.inl rfl | exact Or.inr rfl) (s_calP ok c__law_shown (hr.mono (by decide)) rfl (s_cons (s_var 3 (pv 3)) (s_cons (s_var 4 (pv 4)) (s_nil)))))
    (s_seq (s_sif (s_tcmp (x_ne ok) p_ne n_ne (s_calP ok c_show_fraction (hr.mono (by decide)) rfl (s_cons (s_var 6 (pv 6)) (s_nil))) (s_var 7 (pv 7)) (nomark _))
    (s_last (s_ret (s_bl)))
    (s_snil))
    (s_seq (s_set (i := 8) sc_law.nd rfl (by first | exact Or.inl rfl | exact Or.inr rfl) (s_calP ok c__law_lowest (hr.mono (by decide)) rfl (s_cons (s_var 3 (pv 3)) (s_cons (s_cal ok c__law_number (hr.mono (by decide)) rfl (s_cons (s_var 1 (pv 1)) (s_cons (s_int) (s_nil)))) (s_cons (s_bin (x_add ok) p_add n_add (s_int) (s_callB x_abs p_abs n_abs rfl U.b_abs bt_abs (s_cons (s_cal ok c__law_number (hr.mono (by decide)) rfl (s_cons (s_var 1 (pv 1)) (s_cons (s_int) (s_nil)))) (s_nil)))) (s_nil))))))
    (s_seq (s_set (i := 9) sc_law.nd rfl (by first | exact Or.inl rfl | exact Or.inr rfl) (s_calP ok c__law_point_shown (hr.mono (by decide)) rfl (s_cons (s_var 8 (pv 8)) (s_nil))))
    (s_seq (s_sif (s_tcmp (x_ne ok) p_ne n_ne (s_calP ok c_show_point (hr.mono (by decide)) rfl (s_cons (s_var 8 (pv 8)) (s_nil))) (s_var 9 (pv 9)) (nomark _))
    (s_last (s_ret (s_bl)))
    (s_snil))
    (s_last (s_for ok rfl (s_irg1 rfl U.b_range (s_int)) (s_gnm (pg_name (i := 10) sc_law.nd rfl (by first | exact Or.inl rfl | exact Or.inr rfl)))
    (s_seq (s_set (i := 11) sc_law.nd rfl (by first | exact Or.inl rfl | exact Or.inr rfl) (s_calP ok c_read_fraction (hr.mono (by decide)) rfl (s_cons (s_var 7 (pv 7)) (s_nil))))
    (s_seq (s_set (i := 12) sc_law.nd rfl (by first | exact Or.inl rfl | exact Or.inr rfl) (s_calP ok c_read_point (hr.mono (by decide)) rfl (s_cons (s_var 9 (pv 9)) (s_nil))))
    (s_last (s_sif (PW.pt (s_or (s_not (s_tval (s_calP ok c__law_all_whole (hr.mono (by decide)) rfl (s_cons (s_var 11 (pv 11)) (s_nil))) (fun _ => rfl))) (s_or (s_tcmp (x_ne ok) p_ne n_ne (s_var 11 (pv 11)) (s_var 6 (pv 6)) (nomark _)) (s_or (s_not (s_tval (s_calP ok c__law_all_whole (hr.mono (by decide)) rfl (s_cons (s_var 12 (pv 12)) (s_nil))) (fun _ => rfl))) (s_or1 (s_tcmp (x_ne ok) p_ne n_ne (s_var 12 (pv 12)) (s_var 8 (pv 8)) (nomark _)))))))
    (s_last (s_ret (s_bl)))
    (s_snil))))))))))))))))))
    (s_last (s_ret (s_bl))))
end
/-- what the written part says: the defs -/
structure Defs (K : PySem.W.Frag) : Prop where
  a_divisor : FnAt K "divisor" sd_divisor
  a_point_of : FnAt K "point_of" sd_point_of
  a_fraction_of : FnAt K "fraction_of" sd_fraction_of
  a_show_fraction : FnAt K "show_fraction" sd_show_fraction
  a_show_point : FnAt K "show_point" sd_show_point
  a_read_whole : FnAt K "read_whole" sd_read_whole
  a_read_fraction : FnAt K "read_fraction" sd_read_fraction
  a_read_point : FnAt K "read_point" sd_read_point
  a__law_feed : FnAt K "_law_feed" sd__law_feed
  a__law_draw : FnAt K "_law_draw" sd__law_draw
  a__law_great : FnAt K "_law_great" sd__law_great
  a__law_number : FnAt K "_law_number" sd__law_number
  a__law_whole : FnAt K "_law_whole" sd__law_whole
  a__law_shown : FnAt K "_law_shown" sd__law_shown
  a__law_point_shown : FnAt K "_law_point_shown" sd__law_point_shown
  a__law_common : FnAt K "_law_common" sd__law_common
  a__law_lowest : FnAt K "_law_lowest" sd__law_lowest
  a__law_all_whole : FnAt K "_law_all_whole" sd__law_all_whole
  a__law_neighbours : FnAt K "_law_neighbours" sd__law_neighbours
theorem whole {P : Program} {w : World} {Γ : G} {mg : Str → Option Value} {base h : Heap} (T : Top P base) (KX : Γ.K.In h) (G : h.Ns mainGlobals mg) (U : Bt mg) (D : Defs Γ.K) {f : Addr} {oc : Value} {od : Option Addr} {kV doc pm : Value} {an : Option Addr} {cdv ct : Value} {osl : Array (Option Value)}
    (l : Γ.K.lookup f = some ⟨oc, od, .func (PySem.W.fnOf "law" "law" (defArgs sd_law) (defBody sd_law) (defScope sd_law) .none kV doc pm an cdv ct), osl⟩) (c : PySem.W.codeIn Γ.K cdv "law" = true) (kp : PySem.W.keepIn Γ.K (.ref f) = true) :
    FnOk P w Γ.K mg base (L2.CX P w) 81 f (PySem.W.fnOf "law" "law" (defArgs sd_law) (defBody sd_law) (defScope sd_law) .none kV doc pm an cdv ct) ["_law_script"] (spF Γ 1 f_law) := by
  have c_divisor := ok_divisor (P := P) (w := w) T KX G U D.a_divisor 
  have c_point_of := ok_point_of (P := P) (w := w) T KX G U D.a_point_of c_divisor
  have c_fraction_of := ok_fraction_of (P := P) (w := w) T KX G U D.a_fraction_of c_divisor
  have c_show_fraction := ok_show_fraction (P := P) (w := w) T KX G U D.a_show_fraction 
  have c_show_point := ok_show_point (P := P) (w := w) T KX G U D.a_show_point c_show_fraction c_fraction_of
  have c_read_whole := ok_read_whole (P := P) (w := w) T KX G U D.a_read_whole 
  have c_read_fraction := ok_read_fraction (P := P) (w := w) T KX G U D.a_read_fraction c_read_whole c_divisor
  have c_read_point := ok_read_point (P := P) (w := w) T KX G U D.a_read_point c_read_fraction c_point_of
  have c__law_feed := ok__law_feed (P := P) (w := w) T KX G U D.a__law_feed 
  have c__law_draw := ok__law_draw (P := P) (w := w) T KX G U D.a__law_draw 
  have c__law_great := ok__law_great (P := P) (w := w) T KX G U D.a__law_great c__law_draw
  have c__law_number := ok__law_number (P := P) (w := w) T KX G U D.a__law_number c__law_draw c__law_great
  have c__law_whole := ok__law_whole (P := P) (w := w) T KX G U D.a__law_whole 
  have c__law_shown := ok__law_shown (P := P) (w := w) T KX G U D.a__law_shown 
  have c__law_point_shown := ok__law_point_shown (P := P) (w := w) T KX G U D.a__law_point_shown c__law_shown
  have c__law_common := ok__law_common (P := P) (w := w) T KX G U D.a__law_common 
  have c__law_lowest := ok__law_lowest (P := P) (w := w) T KX G U D.a__law_lowest c__law_common
  have c__law_all_whole := ok__law_all_whole (P := P) (w := w) T KX G U D.a__law_all_whole c__law_whole
  have c__law_neighbours := ok__law_neighbours (P := P) (w := w) T KX G U D.a__law_neighbours c__law_draw
  exact ok_law T KX G U l c kp c__law_feed c__law_number c__law_draw c__law_neighbours c__law_common c__law_shown c_show_fraction c__law_lowest c__law_point_shown c_show_point c_read_fraction c_read_point c__law_all_whole
end Law

set_option linter.all false
set_option autoImplicit false
set_option maxRecDepth 100000
set_option maxHeartbeats 1000000
namespace Law
open PySem L2 Eng TL PySem.NumText
theorem f_divisor_eq (a b : Int) (h : Hv) : f_divisor [.int a, .int b] h = .ok (.int (Int.gcd a b)) h := by
  have : t_divisor [some (.int a), some (.int b)] h = .rt (.int (Int.gcd a b)) h := by
    unfold t_divisor
    simp only [sSeq, sPar, aCons, aNil, eCB, cAbs, eVar, bind_ok, ofR_v, List.getElem?_cons_zero, List.getElem?_cons_succ, List.set_cons_zero, List.set_cons_succ, abs_natAbs, sWhile, fu_divisor_0, fuI]
    rw [euclid _ _ (fun a b => [some (.int a), some (.int b)])]
    · simp [sRet, ofR, eVar]
      rfl
    · intro a b h
      simp [toB, eBin, oGt, eVar, eVal, R.bind]
    · intro a b h hb
      simp [sPar, aCons, aNil, eBin, oMod, eVar, R.bind, ofR, hb]
    · omega
    · omega
    · omega
  exact fnOf_rt this
theorem numL_head : ∀ k : Nat, 0 < k → ∀ c r, numL k = c :: r → c ≠ 48 := by
  intro k
  induction k using Nat.strongRecOn with
  | _ k ih =>
    intro hk c r e
    by_cases h : k < 10
    · rw [numL_lt h] at e
      cases e
      omega
    · rw [numL_step (by omega)] at e
      cases e2 : numL (k / 10) with
      | nil => exact absurd e2 (numL_ne _)
      | cons d s =>
        rw [e2] at e
        injection e with e3 e4
        rw [← e3]
        exact ih (k / 10) (by omega) (by omega) d s e2
/-- the figures of a number -/
def figS (n : Int) : Str := ⟨(numL n.natAbs).toArray⟩
theorem cut_head (n : Int) : decide (cutS (numS n) none (some 1) = "-") = decide (n < 0) := by
  have et : (numS n).cps.toList = sgnL n := tl_numS n
  have el : (numS n).length = (sgnL n).length := by rw [len_tl, tl_numS]
  have : tl (cutS (numS n) none (some 1)) = (sgnL n).take 1 := by
    show ((numS n).cps.toList.drop 0).take (min (1 : Int).toNat (numS n).length - 0) = _
    rw [et, el, List.drop_zero, Nat.sub_zero]
    show List.take (min 1 (sgnL n).length) (sgnL n) = _
    rw [← List.take_eq_take_min]
  have e2 : (cutS (numS n) none (some 1) = "-") ↔ n < 0 := by
    have em : tl ("-" : Str) = [45] := rfl
    constructor
    · intro e
      rw [e, em] at this
      by_cases hn : n < 0
      · exact hn
      · exfalso
        have e3 : sgnL n = numL n.natAbs := if_neg hn
        rw [e3] at this
        cases e4 : numL n.natAbs with
        | nil => exact absurd e4 (numL_ne _)
        | cons c r =>
          rw [e4] at this
          have hc : c = 45 := by simpa using this.symm
          have := numL_digits n.natAbs c (by rw [e4]; exact List.mem_cons_self ..)
          omega
    · intro hn
      have e3 : sgnL n = 45 :: numL n.natAbs := if_pos hn
      refine ext_tl ?_
      rw [this, e3, em]
      rfl
  exact decide_eq_decide.mpr e2
theorem cut_rest {n : Int} (hn : n < 0) : cutS (numS n) (some 1) none = figS n := by
  have et : (numS n).cps.toList = sgnL n := tl_numS n
  have el : (numS n).length = (sgnL n).length := by rw [len_tl, tl_numS]
  have e3 : sgnL n = 45 :: numL n.natAbs := if_pos hn
  refine ext_tl ?_
  show ((numS n).cps.toList.drop (min (1 : Int).toNat (numS n).length)).take ((numS n).length - min (1 : Int).toNat (numS n).length) = numL n.natAbs
  rw [et, el, e3]
  show List.take ((45 :: numL n.natAbs).length - min 1 (45 :: numL n.natAbs).length) (List.drop (min 1 (45 :: numL n.natAbs).length) (45 :: numL n.natAbs)) = _
  rw [List.length_cons, Nat.min_eq_left (by omega)]
  simp
theorem figS_pos {n : Int} (hn : ¬ n < 0) : numS n = figS n := ext_tl (by rw [tl_numS]; exact if_neg hn)
theorem numS_ok (n : Int) : PyData.strOk (numS n) = true := strOk_of fun c hc => by
  rw [tl_numS] at hc
  have := sgn_signs c hc
  omega
theorem lit_ok {s : Str} (h : (tl s).all (· < 128) = true) : PyData.strOk s = true := strOk_of fun c hc => of_decide_eq_true (List.all_eq_true.mp h c hc)
theorem cutS_ok {s : Str} (lo hi : Option Int) (h : PyData.strOk s = true) : PyData.strOk (cutS s lo hi) = true := by
  unfold PyData.strOk at h ⊢
  rw [← Array.all_toList, List.all_eq_true] at h ⊢
  intro c hc
  exact h c (List.mem_of_mem_drop (List.mem_of_mem_take hc))
theorem figs_all (n : Int) (ρ : Ev) (h : Hv) (hl : (numL n.natAbs).length ≤ 1000000) (h3 : ρ.length = 4) (h2 : ρ[2]? = some (some (.str (figS n)))) : eCB cAll (aCons (eLc (iSt (eVar 2)) (.nm 3) bYes (eBin oIn (eVar 3) (eVal (.str "0123456789"))) [3]) aNil) ρ h = .ok (.bl true) h := by
  have e1 : eLc (iSt (eVar 2)) (.nm 3) bYes (eBin oIn (eVar 3) (eVal (.str "0123456789"))) [3] ρ h = .ok (.lst ((signsOf (figS n)).map fun _ => .bl true)) h := by
    unfold eLc iSt
    rw [eVar_at h2, bind_ok]
    dsimp only
    rw [bind_ok, lcN_map (fun _ => .bl true)]
    · rfl
    · show 0 + (signsOf (figS n)).length ≤ _
      unfold signsOf
      rw [List.length_map]
      show 0 + (numL n.natAbs).length ≤ _
      omega
    · intro v hv
      obtain ⟨c, hc, rfl⟩ := List.mem_map.mp hv
      have hd := numL_digits n.natAbs c hc
      refine ⟨_, rfl, ?_⟩
      have e3 : ((wipeE ρ [3]).set 3 (some (.str ⟨#[c]⟩)))[3]? = some (some (.str ⟨#[c]⟩)) := by
        rw [List.getElem?_set_self]
        show 3 < (ρ.set 3 none).length
        rw [List.length_set]; omega
      rw [eBin_ok (eVar_at e3) rfl]
      have : inE (.str ⟨#[c]⟩) (.str "0123456789") h = some true := by
        show some (decide (c ∈ tl ("0123456789" : Str))) = some true
        have : c ∈ tl ("0123456789" : Str) := by
          show c ∈ [48, 49, 50, 51, 52, 53, 54, 55, 56, 57]
          simp
          omega
        rw [decide_eq_true this]
      unfold oIn
      rw [this]
  have e2 : aCons (eLc (iSt (eVar 2)) (.nm 3) bYes (eBin oIn (eVar 3) (eVal (.str "0123456789"))) [3]) aNil ρ h = .ok [.lst ((signsOf (figS n)).map fun _ => .bl true)] h := by
    unfold aCons
    rw [e1, bind_ok]
    rfl
  unfold eCB
  rw [e2, bind_ok]
  show (match blsOf ((signsOf (figS n)).map fun _ => Val.bl true) with | some bs => (R.ok (Val.bl (bs.all id)) h : R Val) | none => R.bad) = _
  rw [blsOf_map (fun _ => true)]
  simp
theorem f_read_whole_eq (n m : Int) (h : Hv) (hn : n.natAbs < 10 ^ 1000) (hm : ((numL n.natAbs).length : Int) ≤ m) : f_read_whole [.str (numS n), .int m] h = .ok (.int n) h := by
  have hl := len_numS (by decide) hn
  have hl2 := numL_len (by decide) hn
  have el : (figS n).length = (numL n.natAbs).length := rfl
  have hl1 : 1 ≤ (numL n.natAbs).length := by
    cases e : numL n.natAbs with
    | nil => exact absurd e (numL_ne _)
    | cons _ _ => simp
  have e0 : eIf (toB (eBin oEq (eSl (eVar 0) (pNo) (pAt (eVal (.int 1)))) (eVal (.str "-")))) (eSl (eVar 0) (pAt (eVal (.int 1))) (pNo)) (eVar 0) [some (.str (numS n)), some (.int m), none, none] h = .ok (.str (figS n)) h := by
    simp only [eIf, toB, eBin, eSl, eVar, eVal, pNo, pAt, bind_ok, List.getElem?_cons_zero, oSl, show (numS n).length ≤ 1000000 by omega, if_true, oEq_str (cutS_ok none (some 1) (numS_ok n)) (lit_ok (s := "-") (by decide)), cut_head]
    by_cases hn : n < 0
    · simp only [hn, decide_true, if_true, cut_rest hn]
    · simp only [hn, decide_false, Bool.false_eq_true, if_false, figS_pos hn]
  have e1 := figs_all n [some (.str (numS n)), some (.int m), some (.str (figS n)), none] h (by omega) rfl rfl
  have e2 : bOr (toB (eBin oLt (eCB cLen (aCons (eVar 2) (aNil))) (eVal (.int 1)))) (bOr (toB (eBin oGt (eCB cLen (aCons (eVar 2) (aNil))) (eVar 1))) (bNot (toB (eCB cAll (aCons (eLc (iSt (eVar 2)) (.nm 3) (bYes) (eBin oIn (eVar 3) (eVal (.str "0123456789"))) [3]) (aNil))))))
      [some (.str (numS n)), some (.int m), some (.str (figS n)), none] h = .ok false h := by
    have eN : bNot (toB (eCB cAll (aCons (eLc (iSt (eVar 2)) (.nm 3) (bYes) (eBin oIn (eVar 3) (eVal (.str "0123456789"))) [3]) (aNil)))) [some (.str (numS n)), some (.int m), some (.str (figS n)), none] h = .ok false h := by
      unfold bNot
      rw [toB_bl e1]
      rfl
    simp only [bOr, eN, bind_ok]
    simp only [toB, eBin, eCB, aCons, aNil, eVar, eVal, bind_ok, List.getElem?_cons_zero, List.getElem?_cons_succ, cLen, el, show (numL n.natAbs).length ≤ 1000000 by omega, if_true, oLt_int, oGt_int,
      show ¬ (((numL n.natAbs).length : Int) < 1) by omega, decide_false, Bool.false_eq_true, if_false, show ¬ (m < ((numL n.natAbs).length : Int)) by omega, Bool.not_true]
    exact eN
  have e3 : bAnd (toB (eBin oEq (eBin oIx (eVar 2) (eVal (.int 0))) (eVal (.str "0")))) (toB (eBin oNe (eVar 0) (eVal (.str "0")))) [some (.str (numS n)), some (.int m), some (.str (figS n)), none] h = .ok false h := by
    obtain ⟨c, r, ec⟩ : ∃ c r, numL n.natAbs = c :: r := by
      cases e : numL n.natAbs with
      | nil => exact absurd e (numL_ne _)
      | cons c r => exact ⟨c, r, rfl⟩
    have ei : oIx (.str (figS n)) (.int 0) h = .ok (.str ⟨#[c]⟩) h := by
      show (if (figS n).length ≤ 1000000 then (match L2.atI (numL n.natAbs) 0 with | some c => (R.ok (Val.str ⟨#[c]⟩) h : R Val) | none => R.bad) else R.bad) = _
      rw [if_pos (by rw [el]; omega), ec]
      rw [show (0 : Int) = ((0 : Nat) : Int) from rfl, atI_k]
      rfl
    have hc := numL_digits n.natAbs c (by rw [ec]; exact List.mem_cons_self ..)
    have hco : PyData.strOk ⟨#[c]⟩ = true := strOk_of fun d hd => by
      have : d = c := by simpa [tl] using hd
      omega
    simp only [bAnd, toB, eBin, eVar, eVal, bind_ok, List.getElem?_cons_zero, List.getElem?_cons_succ, ei, oEq_str hco (lit_ok (s := "0") (by decide)), oNe_str (numS_ok n) (lit_ok (s := "0") (by decide))]
    by_cases h48 : c = 48
    · have hz : n.natAbs = 0 := by
        by_cases h0 : 0 < n.natAbs
        · exact absurd h48 (numL_head _ h0 c r ec)
        · omega
      have : n = 0 := by omega
      subst this
      have e0 : numS 0 = "0" := by decide
      rw [e0]
      simp
    · have : ¬ ((⟨#[c]⟩ : Str) = "0") := by
        intro e
        have := congrArg tl e
        have e2 : tl ("0" : Str) = [48] := rfl
        rw [e2] at this
        exact h48 (by simpa [tl] using this)
      simp only [this, decide_false, Bool.false_eq_true, if_false]
  have e4 : eCB cIntT (aCons (eVar 0) (aNil)) [some (.str (numS n)), some (.int m), some (.str (figS n)), none] h = .ok (.int n) h := by
    simp only [eCB, aCons, aNil, eVar, bind_ok, List.getElem?_cons_zero, cIntT, show (numS n).length ≤ 1000000 by omega, if_true, intText_numS hn]
  have : t_read_whole [some (.str (numS n)), some (.int m), none, none] h = .rt (.int n) h := by
    unfold t_read_whole
    simp only [sSeq, sSet, sIf, sNil, e0, ofR_v, List.set_cons_zero, List.set_cons_succ, e2, e3, Bool.false_eq_true, if_false, sRet, e4]
  exact fnOf_rt this
end Law

set_option linter.all false
set_option autoImplicit false
set_option maxRecDepth 100000
set_option maxHeartbeats 1000000
set_option exponentiation.threshold 5000
namespace Law
open PySem L2 Eng TL PySem.NumText
theorem cP_divisor (a b : Int) (h : Hv) : callP 2 f_divisor [.int a, .int b] h = .ok (.int (Int.gcd a b : Nat)) h := callP_imm (f_divisor_eq a b [])
theorem fdiv_e (a : Int) {b : Int} (h : 0 ≤ b) : a.fdiv b = a / b := Int.fdiv_eq_ediv_of_nonneg a h
/-- a fraction's text -/
def fracS (p q : Int) : Str := if q = 1 then numS p else numS p ++ "/" ++ numS q
theorem f_fraction_of_eq (t b : Int) (hb : 0 < b) (h : Hv) : f_fraction_of [.int t, .int b] h = .ok (.tup [.int (t / (Int.gcd t b : Nat)), .int (b / (Int.gcd t b : Nat))]) h := by
  have g := gcd_pos (a := t) hb
  have : t_fraction_of [some (.int t), some (.int b), none] h = .rt (.tup [.int (t / (Int.gcd t b : Nat)), .int (b / (Int.gcd t b : Nat))]) h := by
    unfold t_fraction_of
    simp only [sSeq, sSet, sIf, sNil, sRet, toB, eBin, eVar, eVal, bind_ok, ofR_v, List.getElem?_cons_zero, List.getElem?_cons_succ, oEq_int, show ¬ (b = 0) by omega, decide_false, Bool.false_eq_true, if_false, eCallP, aCons, aNil, cP_divisor,
      List.set_cons_zero, List.set_cons_succ, oLt_int, show ¬ (b < 0) by omega, eTup, List.length_cons, List.length_nil, oFdiv_int h (show ((Int.gcd t b : Nat) : Int) ≠ 0 by omega), fdiv_e t (show (0 : Int) ≤ (Int.gcd t b : Nat) by omega), fdiv_e b (show (0 : Int) ≤ (Int.gcd t b : Nat) by omega)]
    rfl
  exact fnOf_rt this
theorem f_point_of_eq (x y w : Int) (hw : 0 < w) (h : Hv) : f_point_of [.int x, .int y, .int w] h =
    .ok (.tup [.int (x / (Int.gcd (Int.gcd x y : Nat) w : Nat)), .int (y / (Int.gcd (Int.gcd x y : Nat) w : Nat)), .int (w / (Int.gcd (Int.gcd x y : Nat) w : Nat))]) h := by
  have g := gcd_pos (a := (Int.gcd x y : Nat)) hw
  have g0 : ((Int.gcd (Int.gcd x y : Nat) w : Nat) : Int) ≠ 0 := by omega
  have g1 : (0 : Int) ≤ (Int.gcd (Int.gcd x y : Nat) w : Nat) := by omega
  have : t_point_of [some (.int x), some (.int y), some (.int w), none] h = .rt (.tup [.int (x / (Int.gcd (Int.gcd x y : Nat) w : Nat)), .int (y / (Int.gcd (Int.gcd x y : Nat) w : Nat)), .int (w / (Int.gcd (Int.gcd x y : Nat) w : Nat))]) h := by
    unfold t_point_of
    simp only [sSeq, sSet, sIf, sNil, sRet, toB, eBin, eVar, eVal, bind_ok, ofR_v, List.getElem?_cons_zero, List.getElem?_cons_succ, oEq_int, show ¬ (w = 0) by omega, decide_false, Bool.false_eq_true, if_false, eCallP, aCons, aNil, cP_divisor,
      List.set_cons_zero, List.set_cons_succ, oLt_int, show ¬ (w < 0) by omega, eTup, List.length_cons, List.length_nil, oFdiv_int h g0, fdiv_e _ g1]
    rfl
  exact fnOf_rt this
theorem f_show_fraction_eq (p q : Int) (hp : Big p) (hq : Big q) (h : Hv) : f_show_fraction [.tup [.int p, .int q]] h = .ok (.str (fracS p q)) h := by
  have lp := hp.len
  have lq := hq.len
  have : t_show_fraction [some (.tup [.int p, .int q])] h = .rt (.str (fracS p q)) h := by
    unfold t_show_fraction
    simp only [sSeq, sIf, sNil, sRet, toB, eBin, eVar, eVal, bind_ok, ofR_v, List.getElem?_cons_zero, ix_t0, ix_t1, oEq_int]
    by_cases e : q = 1
    · simp only [e, decide_true, if_true, eCB, aCons, aNil, eBin, eVar, eVal, bind_ok, List.getElem?_cons_zero, ix_t0, cStr, hp.figs, ofR_v, fracS]
    · have el : (Str.empty ++ numS p).length = (numS p).length := by rw [len_tl, tl_append, len_tl]; rfl
      have e2 : (Str.empty ++ numS p ++ "/").length = (numS p).length + 1 := by rw [len_tl, tl_append, List.length_append, ← len_tl, el]; rfl
      have e3 : (Str.empty ++ numS p ++ "/" ++ numS q).length = (numS p).length + 1 + (numS q).length := by rw [len_tl, tl_append, List.length_append, ← len_tl, e2, ← len_tl]
      have e4 : Str.empty ++ numS p = numS p := ext_tl (by rw [tl_append]; rfl)
      simp only [e, decide_false, Bool.false_eq_true, if_false, eJs, jL, eFmt, eBin, eVar, eVal, bind_ok, List.getElem?_cons_zero, ix_t0, ix_t1, hp.figs, hq.figs, if_true, e4, fracS]
      rw [e4] at e2 e3
      rw [if_pos (by omega), if_pos (by omega), if_pos (by omega)]
      rfl
  exact fnOf_rt this
theorem gcd_le {t b : Int} (hb : 0 < b) : (((Int.gcd t b : Nat) : Int) = b) ↔ b / (Int.gcd t b : Nat) = 1 := by
  have p := gcd_pos (a := t) hb
  have e2 := Int.ediv_mul_cancel (Int.gcd_dvd_right t b)
  constructor
  · intro e
    rw [e]
    exact Int.ediv_self (by omega)
  · intro e
    rw [e, Int.one_mul] at e2
    exact e2
theorem numS_len2 {p q : Int} (hp : Big p) (hq : Big q) : (fracS p q).length ≤ 3000 := by
  have lp := hp.len
  have lq := hq.len
  unfold fracS
  split
  · omega
  · rw [len_tl, tl_append, tl_append, List.length_append, List.length_append, ← len_tl, ← len_tl (numS q)]
    show (numS p).length + 1 + (numS q).length ≤ 3000
    omega
theorem f__law_shown_eq (t b : Int) (hb : 0 < b) (ht : Big t) (hB : Big b) (h : Hv) : f__law_shown [.int t, .int b] h = .ok (.str (fracS (t / (Int.gcd t b : Nat)) (b / (Int.gcd t b : Nat)))) h := by
  have p := gcd_pos (a := t) hb
  have g0 : ((Int.gcd t b : Nat) : Int) ≠ 0 := by omega
  have g1 : (0 : Int) ≤ (Int.gcd t b : Nat) := by omega
  have lp := (ht.div (Int.gcd t b : Nat)).len
  have lq := (hB.div (Int.gcd t b : Nat)).len
  have eg : Int.gcd ((t.natAbs : Nat) : Int) b = Int.gcd t b := by unfold Int.gcd; rw [Int.natAbs_natCast]
  have el : sWhile fu__law_shown_0 (toB (eBin oGt (eVar 3) (eVal (.int 0)))) (sPar 2 3 (aCons (eVar 3) (aCons (eBin oMod (eVar 2) (eVar 3)) aNil))) [some (.int t), some (.int b), some (.int t.natAbs), some (.int b)] h =
      .nx [some (.int t), some (.int b), some (.int (Int.gcd t b : Nat)), some (.int 0)] h := by
    show whileN (b.natAbs + 1) _ _ _ h = _
    rw [euclid _ _ (fun x y => [some (.int t), some (.int b), some (.int x), some (.int y)]), eg]
    · intro a b h
      simp [toB, eBin, oGt, eVar, eVal, R.bind]
    · intro a b h hb
      simp [sPar, aCons, aNil, eBin, oMod, eVar, R.bind, ofR, hb]
    · omega
    · omega
    · omega
  have : t__law_shown [some (.int t), some (.int b), none, none] h = .rt (.str (fracS (t / (Int.gcd t b : Nat)) (b / (Int.gcd t b : Nat)))) h := by
    unfold t__law_shown
    simp only [sSeq, sSet, eCB, cAbs, aCons, aNil, eVar, bind_ok, ofR_v, List.getElem?_cons_zero, List.getElem?_cons_succ, List.set_cons_zero, List.set_cons_succ, abs_natAbs]
    rw [el]
    simp only [sIf, sNil, sRet, toB, eBin, eVar, bind_ok, ofR_v, List.getElem?_cons_zero, List.getElem?_cons_succ, oEq_int, gcd_le hb]
    by_cases e : b / (Int.gcd t b : Nat) = 1
    · simp only [sSeq, sSet, sPar, sIf, sNil, sRet, sExpr, sAsg, ofG, gTp, gC, gNm, gN, asT_tup, aCons, aNil, eCB, eVar, eVal, eBin, toB, bAnd, bOr, bNot, eIf, eTup, eLst, eAnd, eOr, eNot, eCallP, eCall, bind_ok, ofR_v, List.getElem?_cons_zero, List.getElem?_cons_succ, List.set_cons_zero, List.set_cons_succ, List.length_cons, List.length_nil, Nat.zero_add, Nat.reduceAdd, Nat.reduceLeDiff, if_true, if_false, Bool.false_eq_true, decide_true, decide_false, Bool.not_true, Bool.not_false, Option.bind_some, oEq_int, oNe_int, oLt_int, oGt_int, oLe_int, oGe_int, oAdd_int, oSub_int, ix_t0, ix_t1, ix_t2, ix_l0, ix_l1, ix_l2, e, oFdiv_int h g0, fdiv_e _ g1, cStr, (ht.div _).figs, fracS]
    · have a1 : oAdd (.str (numS (t / (Int.gcd t b : Nat)))) (.str "/") h = .ok (.str (numS (t / (Int.gcd t b : Nat)) ++ "/")) h := oAdd_str h (by show _ + 1 ≤ _; omega)
      have a2 : oAdd (.str (numS (t / (Int.gcd t b : Nat)) ++ "/")) (.str (numS (b / (Int.gcd t b : Nat)))) h = .ok (.str (numS (t / (Int.gcd t b : Nat)) ++ "/" ++ numS (b / (Int.gcd t b : Nat)))) h := oAdd_str h (by
        rw [len_tl, tl_append, List.length_append, ← len_tl]
        show (numS _).length + 1 + _ ≤ _
        omega)
      simp only [sSeq, sSet, sPar, sIf, sNil, sRet, sExpr, sAsg, ofG, gTp, gC, gNm, gN, asT_tup, aCons, aNil, eCB, eVar, eVal, eBin, toB, bAnd, bOr, bNot, eIf, eTup, eLst, eAnd, eOr, eNot, eCallP, eCall, bind_ok, ofR_v, List.getElem?_cons_zero, List.getElem?_cons_succ, List.set_cons_zero, List.set_cons_succ, List.length_cons, List.length_nil, Nat.zero_add, Nat.reduceAdd, Nat.reduceLeDiff, if_true, if_false, Bool.false_eq_true, decide_true, decide_false, Bool.not_true, Bool.not_false, Option.bind_some, oEq_int, oNe_int, oLt_int, oGt_int, oLe_int, oGe_int, oAdd_int, oSub_int, ix_t0, ix_t1, ix_t2, ix_l0, ix_l1, ix_l2, e, oFdiv_int h g0, fdiv_e _ g1, cStr, (ht.div _).figs, (hB.div _).figs, fracS, a1, a2]
  exact fnOf_rt this
end Law

set_option linter.all false
set_option autoImplicit false
set_option maxRecDepth 100000
set_option maxHeartbeats 1000000
set_option exponentiation.threshold 5000
namespace Law
open PySem L2 Eng TL PySem.NumText
theorem split1 {a y : Str} {s : Nat} {S : List Nat} (ey : tl y = s :: S) (hk : y.cps.all (· < 256) = true) (h : s ∉ tl a) : Txt.split a y = [a] := by
  have := split_join ey hk (parts := [a]) (by simp) (by simpa using h)
  rw [join_eq] at this
  exact this
theorem split2 {a b y : Str} {s : Nat} {S : List Nat} (ey : tl y = s :: S) (hk : y.cps.all (· < 256) = true) (h : s ∉ tl a) (h2 : s ∉ tl b) : Txt.split (a ++ y ++ b) y = [a, b] := by
  have := split_join ey hk (parts := [a, b]) (by simp) (by
    intro p m
    simp only [List.mem_cons, List.not_mem_nil, or_false] at m
    rcases m with rfl | rfl
    · exact h
    · exact h2)
  rw [join_eq] at this
  exact this
theorem numS_free {n : Int} {s : Nat} (h : s ≠ 45 ∧ (s < 48 ∨ 57 < s)) : s ∉ tl (numS n) := by
  rw [tl_numS]
  intro m
  have := sgn_signs s m
  omega
theorem fracS_signs {p q : Int} : ∀ c ∈ tl (fracS p q), c = 45 ∨ (47 ≤ c ∧ c ≤ 57) := by
  intro c hc
  unfold fracS at hc
  split at hc
  · rw [tl_numS] at hc
    have := sgn_signs c hc
    omega
  · rw [tl_append, tl_append, tl_numS, tl_numS] at hc
    rcases List.mem_append.mp hc with hc | hc
    · rcases List.mem_append.mp hc with hc | hc
      · have := sgn_signs c hc
        omega
      · have : c ∈ [47] := hc
        have := List.mem_singleton.mp this
        omega
    · have := sgn_signs c hc
      omega
theorem cP_read_whole (n : Int) (h : Hv) (hn : Big n) : callP 2 f_read_whole [.str (numS n), .int 1000] h = .ok (.int n) h :=
  callP_imm (f_read_whole_eq n 1000 [] hn (by have := numL_len (by decide) hn; omega))
theorem f_read_fraction_eq (p q : Int) (hp : Big p) (hq : Big q) (q1 : 0 < q) (g : Int.gcd p q = 1) (h : Hv) : f_read_fraction [.str (fracS p q)] h = .ok (.tup [.int p, .int q]) h := by
  have lf := numS_len2 hp hq
  have : t_read_fraction [some (.str (fracS p q)), none, none, none] h = .rt (.tup [.int p, .int q]) h := by
    by_cases e : q = 1
    · have ef : fracS p q = numS p := if_pos e
      have es : Txt.split (numS p) "/" = [numS p] := split1 (y := "/") (s := 47) (S := []) rfl (by decide +kernel) (numS_free (by decide))
      have em : eM "str" mSplit (eVar 0) (aCons (eVal (.str "/")) aNil) [some (.str (numS p)), none, none, none] h = .ok (.lst [.str (numS p)]) h := by
        simp only [eM, sSeq, sSet, sPar, sIf, sNil, sRet, sExpr, sAsg, ofG, gTp, gC, gNm, gN, asT_tup, aCons, aNil, eCB, eVar, eVal, eBin, toB, bAnd, bOr, bNot, eIf, eTup, eLst, eAnd, eOr, eNot, eCallP, eCall, bind_ok, ofR_v, List.getElem?_cons_zero, List.getElem?_cons_succ, List.set_cons_zero, List.set_cons_succ, List.length_cons, List.length_nil, Nat.zero_add, Nat.reduceAdd, Nat.reduceLeDiff, if_true, if_false, Bool.false_eq_true, decide_true, decide_false, Bool.not_true, Bool.not_false, Option.bind_some, oEq_int, oNe_int, oLt_int, oGt_int, oLe_int, oGe_int, oAdd_int, oSub_int, ix_t0, ix_t1, ix_t2, ix_l0, ix_l1, ix_l2, show ((0 : Nat) : Int) = 0 from rfl, show ((1 : Nat) : Int) = 1 from rfl, show ((2 : Nat) : Int) = 2 from rfl, show ((3 : Nat) : Int) = 3 from rfl, Int.reduceEq, Int.reduceLT, Int.reduceLE, hasTy, beq_self_eq_true, mSplit]
        rw [if_pos ⟨by decide +kernel, by rw [← ef]; omega⟩, es]
        rfl
      unfold t_read_fraction
      rw [ef]
      simp only [sSeq, sSet, sPar, sIf, sNil, sRet, sExpr, sAsg, ofG, gTp, gC, gNm, gN, asT_tup, aCons, aNil, eCB, eVar, eVal, eBin, toB, bAnd, bOr, bNot, eIf, eTup, eLst, eAnd, eOr, eNot, eCallP, eCall, bind_ok, ofR_v, List.getElem?_cons_zero, List.getElem?_cons_succ, List.set_cons_zero, List.set_cons_succ, List.length_cons, List.length_nil, Nat.zero_add, Nat.reduceAdd, Nat.reduceLeDiff, if_true, if_false, Bool.false_eq_true, decide_true, decide_false, Bool.not_true, Bool.not_false, Option.bind_some, oEq_int, oNe_int, oLt_int, oGt_int, oLe_int, oGe_int, oAdd_int, oSub_int, ix_t0, ix_t1, ix_t2, ix_l0, ix_l1, ix_l2, show ((0 : Nat) : Int) = 0 from rfl, show ((1 : Nat) : Int) = 1 from rfl, show ((2 : Nat) : Int) = 2 from rfl, show ((3 : Nat) : Int) = 3 from rfl, Int.reduceEq, Int.reduceLT, Int.reduceLE, em, len_lst, cP_read_whole p h hp, e]
    · have ef : fracS p q = numS p ++ "/" ++ numS q := if_neg e
      have es : Txt.split (numS p ++ "/" ++ numS q) "/" = [numS p, numS q] := split2 (y := "/") (s := 47) (S := []) rfl (by decide +kernel) (numS_free (by decide)) (numS_free (by decide))
      have em : eM "str" mSplit (eVar 0) (aCons (eVal (.str "/")) aNil) [some (.str (numS p ++ "/" ++ numS q)), none, none, none] h = .ok (.lst [.str (numS p), .str (numS q)]) h := by
        simp only [eM, sSeq, sSet, sPar, sIf, sNil, sRet, sExpr, sAsg, ofG, gTp, gC, gNm, gN, asT_tup, aCons, aNil, eCB, eVar, eVal, eBin, toB, bAnd, bOr, bNot, eIf, eTup, eLst, eAnd, eOr, eNot, eCallP, eCall, bind_ok, ofR_v, List.getElem?_cons_zero, List.getElem?_cons_succ, List.set_cons_zero, List.set_cons_succ, List.length_cons, List.length_nil, Nat.zero_add, Nat.reduceAdd, Nat.reduceLeDiff, if_true, if_false, Bool.false_eq_true, decide_true, decide_false, Bool.not_true, Bool.not_false, Option.bind_some, oEq_int, oNe_int, oLt_int, oGt_int, oLe_int, oGe_int, oAdd_int, oSub_int, ix_t0, ix_t1, ix_t2, ix_l0, ix_l1, ix_l2, show ((0 : Nat) : Int) = 0 from rfl, show ((1 : Nat) : Int) = 1 from rfl, show ((2 : Nat) : Int) = 2 from rfl, show ((3 : Nat) : Int) = 3 from rfl, Int.reduceEq, Int.reduceLT, Int.reduceLE, hasTy, beq_self_eq_true, mSplit]
        rw [if_pos ⟨by decide +kernel, by rw [← ef]; omega⟩, es]
        rfl
      unfold t_read_fraction
      rw [ef]
      simp only [sSeq, sSet, sPar, sIf, sNil, sRet, sExpr, sAsg, ofG, gTp, gC, gNm, gN, asT_tup, aCons, aNil, eCB, eVar, eVal, eBin, toB, bAnd, bOr, bNot, eIf, eTup, eLst, eAnd, eOr, eNot, eCallP, eCall, bind_ok, ofR_v, List.getElem?_cons_zero, List.getElem?_cons_succ, List.set_cons_zero, List.set_cons_succ, List.length_cons, List.length_nil, Nat.zero_add, Nat.reduceAdd, Nat.reduceLeDiff, if_true, if_false, Bool.false_eq_true, decide_true, decide_false, Bool.not_true, Bool.not_false, Option.bind_some, oEq_int, oNe_int, oLt_int, oGt_int, oLe_int, oGe_int, oAdd_int, oSub_int, ix_t0, ix_t1, ix_t2, ix_l0, ix_l1, ix_l2, show ((0 : Nat) : Int) = 0 from rfl, show ((1 : Nat) : Int) = 1 from rfl, show ((2 : Nat) : Int) = 2 from rfl, show ((3 : Nat) : Int) = 3 from rfl, Int.reduceEq, Int.reduceLT, Int.reduceLE, em, len_lst, cP_read_whole p h hp, cP_read_whole q h hq, show ¬ (q < 2) by omega, cP_divisor, g]
  exact fnOf_rt this
/-- a point's text -/
def ptS (x y w : Int) : Str := fracS (x / (Int.gcd x w : Nat)) (w / (Int.gcd x w : Nat)) ++ " " ++ fracS (y / (Int.gcd y w : Nat)) (w / (Int.gcd y w : Nat))
theorem cP_fraction_of (t b : Int) (hb : 0 < b) (h : Hv) : callP 2 f_fraction_of [.int t, .int b] h = .ok (.tup [.int (t / (Int.gcd t b : Nat)), .int (b / (Int.gcd t b : Nat))]) h := callP_imm (f_fraction_of_eq t b hb [])
theorem cP_show_fraction (p q : Int) (hp : Big p) (hq : Big q) (h : Hv) : callP 1 f_show_fraction [.tup [.int p, .int q]] h = .ok (.str (fracS p q)) h := callP_imm (f_show_fraction_eq p q hp hq [])
theorem cP__law_shown (t b : Int) (hb : 0 < b) (ht : Big t) (hB : Big b) (h : Hv) : callP 2 f__law_shown [.int t, .int b] h = .ok (.str (fracS (t / (Int.gcd t b : Nat)) (b / (Int.gcd t b : Nat)))) h := callP_imm (f__law_shown_eq t b hb ht hB [])
theorem pt_add {A B : Str} (hA : A.length ≤ 3000) (hB : B.length ≤ 3000) (h : Hv) : oAdd (.str A) (.str " ") h = .ok (.str (A ++ " ")) h ∧ oAdd (.str (A ++ " ")) (.str B) h = .ok (.str (A ++ " " ++ B)) h := by
  refine ⟨oAdd_str h (by show _ + 1 ≤ _; omega), oAdd_str h ?_⟩
  rw [len_tl, tl_append, List.length_append, ← len_tl]
  show A.length + 1 + _ ≤ _
  omega
theorem f_show_point_eq (x y w : Int) (hw : 0 < w) (bx : Big x) (by' : Big y) (bw : Big w) (h : Hv) : f_show_point [.tup [.int x, .int y, .int w]] h = .ok (.str (ptS x y w)) h := by
  obtain ⟨a1, a2⟩ := pt_add (numS_len2 (bx.div (Int.gcd x w : Nat)) (bw.div (Int.gcd x w : Nat))) (numS_len2 (by'.div (Int.gcd y w : Nat)) (bw.div (Int.gcd y w : Nat))) h
  have : t_show_point [some (.tup [.int x, .int y, .int w]), none, none, none] h = .rt (.str (ptS x y w)) h := by
    unfold t_show_point
    simp only [sSeq, sSet, sPar, sIf, sNil, sRet, sExpr, sAsg, ofG, gTp, gC, gNm, gN, asT_tup, aCons, aNil, eCB, eVar, eVal, eBin, toB, bAnd, bOr, bNot, eIf, eTup, eLst, eAnd, eOr, eNot, eCallP, eCall, bind_ok, ofR_v, List.getElem?_cons_zero, List.getElem?_cons_succ, List.set_cons_zero, List.set_cons_succ, List.length_cons, List.length_nil, Nat.zero_add, Nat.reduceAdd, Nat.reduceLeDiff, if_true, if_false, Bool.false_eq_true, decide_true, decide_false, Bool.not_true, Bool.not_false, Option.bind_some, oEq_int, oNe_int, oLt_int, oGt_int, oLe_int, oGe_int, oAdd_int, oSub_int, ix_t0, ix_t1, ix_t2, ix_l0, ix_l1, ix_l2, show ((0 : Nat) : Int) = 0 from rfl, show ((1 : Nat) : Int) = 1 from rfl, show ((2 : Nat) : Int) = 2 from rfl, show ((3 : Nat) : Int) = 3 from rfl, Int.reduceEq, Int.reduceLT, Int.reduceLE, cP_fraction_of x w hw, cP_fraction_of y w hw, cP_show_fraction _ _ (bx.div (Int.gcd x w : Nat)) (bw.div (Int.gcd x w : Nat)), cP_show_fraction _ _ (by'.div (Int.gcd y w : Nat)) (bw.div (Int.gcd y w : Nat)), a1, a2]
    rfl
  exact fnOf_rt this
theorem f__law_point_shown_eq (x y w : Int) (hw : 0 < w) (bx : Big x) (by' : Big y) (bw : Big w) (h : Hv) : f__law_point_shown [.tup [.int x, .int y, .int w]] h = .ok (.str (ptS x y w)) h := by
  obtain ⟨a1, a2⟩ := pt_add (numS_len2 (bx.div (Int.gcd x w : Nat)) (bw.div (Int.gcd x w : Nat))) (numS_len2 (by'.div (Int.gcd y w : Nat)) (bw.div (Int.gcd y w : Nat))) h
  have : t__law_point_shown [some (.tup [.int x, .int y, .int w])] h = .rt (.str (ptS x y w)) h := by
    unfold t__law_point_shown
    simp only [sSeq, sSet, sPar, sIf, sNil, sRet, sExpr, sAsg, ofG, gTp, gC, gNm, gN, asT_tup, aCons, aNil, eCB, eVar, eVal, eBin, toB, bAnd, bOr, bNot, eIf, eTup, eLst, eAnd, eOr, eNot, eCallP, eCall, bind_ok, ofR_v, List.getElem?_cons_zero, List.getElem?_cons_succ, List.set_cons_zero, List.set_cons_succ, List.length_cons, List.length_nil, Nat.zero_add, Nat.reduceAdd, Nat.reduceLeDiff, if_true, if_false, Bool.false_eq_true, decide_true, decide_false, Bool.not_true, Bool.not_false, Option.bind_some, oEq_int, oNe_int, oLt_int, oGt_int, oLe_int, oGe_int, oAdd_int, oSub_int, ix_t0, ix_t1, ix_t2, ix_l0, ix_l1, ix_l2, show ((0 : Nat) : Int) = 0 from rfl, show ((1 : Nat) : Int) = 1 from rfl, show ((2 : Nat) : Int) = 2 from rfl, show ((3 : Nat) : Int) = 3 from rfl, Int.reduceEq, Int.reduceLT, Int.reduceLE, cP__law_shown x w hw bx bw, cP__law_shown y w hw by' bw, a1, a2]
    rfl
  exact fnOf_rt this
theorem cP_read_fraction (p q : Int) (hp : Big p) (hq : Big q) (q1 : 0 < q) (g : Int.gcd p q = 1) (h : Hv) : callP 1 f_read_fraction [.str (fracS p q)] h = .ok (.tup [.int p, .int q]) h := callP_imm (f_read_fraction_eq p q hp hq q1 g [])
theorem cP_point_of (x y w : Int) (hw : 0 < w) (h : Hv) : callP 3 f_point_of [.int x, .int y, .int w] h =
    .ok (.tup [.int (x / (Int.gcd (Int.gcd x y : Nat) w : Nat)), .int (y / (Int.gcd (Int.gcd x y : Nat) w : Nat)), .int (w / (Int.gcd (Int.gcd x y : Nat) w : Nat))]) h := callP_imm (f_point_of_eq x y w hw [])
theorem gcd_red3 {x y w : Int} (hw : 0 < w) : Int.gcd (Int.gcd (x / (Int.gcd (Int.gcd x y : Nat) w : Nat)) (y / (Int.gcd (Int.gcd x y : Nat) w : Nat)) : Nat) (w / (Int.gcd (Int.gcd x y : Nat) w : Nat)) = 1 := by
  have p := gcd_pos (a := (Int.gcd x y : Nat)) hw
  generalize hG : Int.gcd (Int.gcd x y : Nat) w = G at p ⊢
  have d1 : (G : Int) ∣ (Int.gcd x y : Nat) := hG ▸ Int.gcd_dvd_left _ _
  have d2 : (G : Int) ∣ w := hG ▸ Int.gcd_dvd_right _ _
  have dx : (G : Int) ∣ x := Int.dvd_trans d1 (Int.gcd_dvd_left _ _)
  have dy : (G : Int) ∣ y := Int.dvd_trans d1 (Int.gcd_dvd_right _ _)
  have ex : x = (G : Int) * (x / G) := (Int.mul_ediv_cancel' dx).symm
  have ey : y = (G : Int) * (y / G) := (Int.mul_ediv_cancel' dy).symm
  have ew : w = (G : Int) * (w / G) := (Int.mul_ediv_cancel' d2).symm
  have e1 : Int.gcd x y = G * Int.gcd (x / G) (y / G) := by
    have := Int.gcd_mul_left (G : Int) (x / G) (y / G)
    rw [← ex, ← ey, Int.natAbs_natCast] at this
    exact this
  have e2 : Int.gcd (Int.gcd x y : Nat) w = G * Int.gcd (Int.gcd (x / G) (y / G) : Nat) (w / G) := by
    have := Int.gcd_mul_left (G : Int) (Int.gcd (x / G) (y / G) : Nat) (w / G)
    rw [← ew, Int.natAbs_natCast, ← Int.natCast_mul, ← e1] at this
    exact this
  rw [hG] at e2
  have e3 : G * 1 = G * Int.gcd (Int.gcd (x / G) (y / G) : Nat) (w / G) := by rw [Nat.mul_one]; exact e2
  exact (Nat.eq_of_mul_eq_mul_left p e3).symm
theorem f_read_point_eq (x y w : Int) (hw : 0 < w) (bx : Big x) (by' : Big y) (bw : Big w) (g3 : Int.gcd (Int.gcd x y : Nat) w = 1) (h : Hv) : f_read_point [.str (ptS x y w)] h = .ok (.tup [.int x, .int y, .int w]) h := by
  have p1 := gcd_pos (a := x) hw
  have p2 := gcd_pos (a := y) hw
  have r1 := gcd_red (a := x) hw
  have r2 := gcd_red (a := y) hw
  have q1 := ediv_pos hw (Int.gcd_dvd_right x w)
  have q2 := ediv_pos hw (Int.gcd_dvd_right y w)
  have m1 := Int.ediv_mul_cancel (Int.gcd_dvd_left x w)
  have m2 := Int.ediv_mul_cancel (Int.gcd_dvd_right x w)
  have m3 := Int.ediv_mul_cancel (Int.gcd_dvd_left y w)
  have m4 := Int.ediv_mul_cancel (Int.gcd_dvd_right y w)
  have ba := bx.div (Int.gcd x w : Nat)
  have bb := bw.div (Int.gcd x w : Nat)
  have bc := by'.div (Int.gcd y w : Nat)
  have bd := bw.div (Int.gcd y w : Nat)
  unfold ptS
  generalize x / (Int.gcd x w : Nat) = a at *
  generalize w / (Int.gcd x w : Nat) = b at *
  generalize y / (Int.gcd y w : Nat) = c at *
  generalize w / (Int.gcd y w : Nat) = d at *
  have l1 := numS_len2 ba bb
  have l2 := numS_len2 bc bd
  have es : Txt.split (fracS a b ++ " " ++ fracS c d) " " = [fracS a b, fracS c d] := split2 (y := " ") (s := 32) (S := []) rfl (by decide +kernel) (fun m => by have := fracS_signs 32 m; omega) (fun m => by have := fracS_signs 32 m; omega)
  have hlen : (fracS a b ++ " " ++ fracS c d).length ≤ 1000000 := by
    rw [len_tl, tl_append, tl_append, List.length_append, List.length_append, ← len_tl, ← len_tl (fracS c d)]
    show _ + 1 + _ ≤ _
    omega
  have em : eM "str" mSplit (eVar 0) (aCons (eVal (.str " ")) aNil) [some (.str (fracS a b ++ " " ++ fracS c d)), none, none, none] h = .ok (.lst [.str (fracS a b), .str (fracS c d)]) h := by
    simp only [eM, sSeq, sSet, sPar, sIf, sNil, sRet, sExpr, sAsg, ofG, gTp, gC, gNm, gN, asT_tup, aCons, aNil, eCB, eVar, eVal, eBin, toB, bAnd, bOr, bNot, eIf, eTup, eLst, eAnd, eOr, eNot, eCallP, eCall, bind_ok, ofR_v, List.getElem?_cons_zero, List.getElem?_cons_succ, List.set_cons_zero, List.set_cons_succ, List.length_cons, List.length_nil, Nat.zero_add, Nat.reduceAdd, Nat.reduceLeDiff, if_true, if_false, Bool.false_eq_true, decide_true, decide_false, Bool.not_true, Bool.not_false, Option.bind_some, oEq_int, oNe_int, oLt_int, oGt_int, oLe_int, oGe_int, oAdd_int, oSub_int, ix_t0, ix_t1, ix_t2, ix_l0, ix_l1, ix_l2, show ((0 : Nat) : Int) = 0 from rfl, show ((1 : Nat) : Int) = 1 from rfl, show ((2 : Nat) : Int) = 2 from rfl, show ((3 : Nat) : Int) = 3 from rfl, Int.reduceEq, Int.reduceLT, Int.reduceLE, hasTy, beq_self_eq_true, mSplit]
    rw [if_pos ⟨by decide +kernel, hlen⟩, es]
    rfl
  have hbd : 0 < b * d := Int.mul_pos q1 q2
  have pt : a * d / (Int.gcd (Int.gcd (a * d) (c * b) : Nat) (b * d) : Nat) = x ∧ c * b / (Int.gcd (Int.gcd (a * d) (c * b) : Nat) (b * d) : Nat) = y ∧ b * d / (Int.gcd (Int.gcd (a * d) (c * b) : Nat) (b * d) : Nat) = w := by
    have red := gcd_red3 (x := a * d) (y := c * b) (w := b * d) hbd
    have d1 : ((Int.gcd (Int.gcd (a * d) (c * b) : Nat) (b * d) : Nat) : Int) ∣ a * d := Int.dvd_trans (Int.gcd_dvd_left _ _) (Int.gcd_dvd_left _ _)
    have d2 : ((Int.gcd (Int.gcd (a * d) (c * b) : Nat) (b * d) : Nat) : Int) ∣ c * b := Int.dvd_trans (Int.gcd_dvd_left _ _) (Int.gcd_dvd_right _ _)
    have d3 : ((Int.gcd (Int.gcd (a * d) (c * b) : Nat) (b * d) : Nat) : Int) ∣ b * d := Int.gcd_dvd_right _ _
    have pos := ediv_pos hbd d3
    have n1 := Int.ediv_mul_cancel d1
    have n2 := Int.ediv_mul_cancel d2
    have n3 := Int.ediv_mul_cancel d3
    have pG := gcd_pos (a := (Int.gcd (a * d) (c * b) : Nat)) hbd
    generalize Int.gcd (Int.gcd (a * d) (c * b) : Nat) (b * d) = G at *
    generalize a * d / (G : Int) = X at *
    generalize c * b / (G : Int) = Y at *
    generalize b * d / (G : Int) = W at *
    refine lowest_eq hw pos g3 red ?_ ?_
    · have z1 : (X * w) * (G : Int) = (x * W) * (G : Int) := by
        have : X * w * (G : Int) = (X * G) * w := by grind
        rw [this, n1]
        have : x * W * (G : Int) = x * (W * G) := by grind
        rw [this, n3]
        generalize (Int.gcd x w : Int) = g1 at *
        rw [← m1, ← m2]
        grind
      exact Int.eq_of_mul_eq_mul_right (by omega) z1
    · have z1 : (Y * w) * (G : Int) = (y * W) * (G : Int) := by
        have : Y * w * (G : Int) = (Y * G) * w := by grind
        rw [this, n2]
        have : y * W * (G : Int) = y * (W * G) := by grind
        rw [this, n3, ← m3, ← m4]
        grind
      exact Int.eq_of_mul_eq_mul_right (by omega) z1
  have : t_read_point [some (.str (fracS a b ++ " " ++ fracS c d)), none, none, none] h = .rt (.tup [.int x, .int y, .int w]) h := by
    unfold t_read_point
    simp only [sSeq, sSet, sPar, sIf, sNil, sRet, sExpr, sAsg, ofG, gTp, gC, gNm, gN, asT_tup, aCons, aNil, eCB, eVar, eVal, eBin, toB, bAnd, bOr, bNot, eIf, eTup, eLst, eAnd, eOr, eNot, eCallP, eCall, bind_ok, ofR_v, List.getElem?_cons_zero, List.getElem?_cons_succ, List.set_cons_zero, List.set_cons_succ, List.length_cons, List.length_nil, Nat.zero_add, Nat.reduceAdd, Nat.reduceLeDiff, if_true, if_false, Bool.false_eq_true, decide_true, decide_false, Bool.not_true, Bool.not_false, Option.bind_some, oEq_int, oNe_int, oLt_int, oGt_int, oLe_int, oGe_int, oAdd_int, oSub_int, ix_t0, ix_t1, ix_t2, ix_l0, ix_l1, ix_l2, show ((0 : Nat) : Int) = 0 from rfl, show ((1 : Nat) : Int) = 1 from rfl, show ((2 : Nat) : Int) = 2 from rfl, show ((3 : Nat) : Int) = 3 from rfl, Int.reduceEq, Int.reduceLT, Int.reduceLE, em, len_lst, cP_read_fraction a b ba bb q1 r1, cP_read_fraction c d bc bd q2 r2, oMul_int h (ba.fits bd), oMul_int h (bc.fits bb), oMul_int h (bb.fits bd), cP_point_of _ _ _ hbd, pt.1, pt.2.1, pt.2.2]
  exact fnOf_rt this
end Law

set_option linter.all false
set_option autoImplicit false
set_option maxRecDepth 100000
set_option maxHeartbeats 1000000
set_option exponentiation.threshold 5000
namespace Law
open PySem L2 Eng TL PySem.NumText
theorem f__law_common_eq (a b : Int) (h : Hv) : f__law_common [.int a, .int b] h = .ok (.int (Int.gcd a b : Nat)) h := by
  have el : sWhile fu__law_common_0 (toB (eBin oGt (eVar 1) (eVal (.int 0)))) (sPar 0 1 (aCons (eVar 1) (aCons (eBin oMod (eVar 0) (eVar 1)) aNil))) [some (.int a.natAbs), some (.int b.natAbs)] h =
      .nx [some (.int (Int.gcd a b : Nat)), some (.int 0)] h := by
    show whileN (((b.natAbs : Nat) : Int).natAbs + 1) _ _ _ h = _
    rw [euclid _ _ (fun x y => [some (.int x), some (.int y)])]
    · rfl
    · intro a b h
      simp [toB, eBin, oGt, eVar, eVal, R.bind]
    · intro a b h hb
      simp [sPar, aCons, aNil, eBin, oMod, eVar, R.bind, ofR, hb]
    · omega
    · omega
    · omega
  have : t__law_common [some (.int a), some (.int b)] h = .rt (.int (Int.gcd a b : Nat)) h := by
    unfold t__law_common
    simp only [sSeq, sSet, eCB, cAbs, aCons, aNil, eVar, bind_ok, ofR_v, List.getElem?_cons_zero, List.getElem?_cons_succ, List.set_cons_zero, List.set_cons_succ, abs_natAbs]
    rw [el]
    simp only [sSeq, sSet, sPar, sIf, sNil, sRet, sExpr, sAsg, ofG, gTp, gC, gNm, gN, asT_tup, aCons, aNil, eCB, eVar, eVal, eBin, toB, bAnd, bOr, bNot, eIf, eTup, eLst, eAnd, eOr, eNot, eCallP, eCall, bind_ok, ofR_v, List.getElem?_cons_zero, List.getElem?_cons_succ, List.set_cons_zero, List.set_cons_succ, List.length_cons, List.length_nil, Nat.zero_add, Nat.reduceAdd, Nat.reduceLeDiff, if_true, if_false, Bool.false_eq_true, decide_true, decide_false, Bool.not_true, Bool.not_false, Option.bind_some, oEq_int, oNe_int, oLt_int, oGt_int, oLe_int, oGe_int, oAdd_int, oSub_int, ix_t0, ix_t1, ix_t2, ix_l0, ix_l1, ix_l2, show ((0 : Nat) : Int) = 0 from rfl, show ((1 : Nat) : Int) = 1 from rfl, show ((2 : Nat) : Int) = 2 from rfl, show ((3 : Nat) : Int) = 3 from rfl, Int.reduceEq, Int.reduceLT, Int.reduceLE]
  exact fnOf_rt this
theorem cP__law_common (a b : Int) (h : Hv) : callP 2 f__law_common [.int a, .int b] h = .ok (.int (Int.gcd a b : Nat)) h := callP_imm (f__law_common_eq a b [])
theorem f__law_lowest_eq (x y w : Int) (hw : 0 < w) (h : Hv) : f__law_lowest [.int x, .int y, .int w] h =
    .ok (.tup [.int (x / (Int.gcd (Int.gcd x y : Nat) w : Nat)), .int (y / (Int.gcd (Int.gcd x y : Nat) w : Nat)), .int (w / (Int.gcd (Int.gcd x y : Nat) w : Nat))]) h := by
  have g := gcd_pos (a := (Int.gcd x y : Nat)) hw
  have g0 : ((Int.gcd (Int.gcd x y : Nat) w : Nat) : Int) ≠ 0 := by omega
  have g1 : (0 : Int) ≤ (Int.gcd (Int.gcd x y : Nat) w : Nat) := by omega
  have : t__law_lowest [some (.int x), some (.int y), some (.int w), none] h = .rt (.tup [.int (x / (Int.gcd (Int.gcd x y : Nat) w : Nat)), .int (y / (Int.gcd (Int.gcd x y : Nat) w : Nat)), .int (w / (Int.gcd (Int.gcd x y : Nat) w : Nat))]) h := by
    unfold t__law_lowest
    simp only [sSeq, sSet, sPar, sIf, sNil, sRet, sExpr, sAsg, ofG, gTp, gC, gNm, gN, asT_tup, aCons, aNil, eCB, eVar, eVal, eBin, toB, bAnd, bOr, bNot, eIf, eTup, eLst, eAnd, eOr, eNot, eCallP, eCall, bind_ok, ofR_v, List.getElem?_cons_zero, List.getElem?_cons_succ, List.set_cons_zero, List.set_cons_succ, List.length_cons, List.length_nil, Nat.zero_add, Nat.reduceAdd, Nat.reduceLeDiff, if_true, if_false, Bool.false_eq_true, decide_true, decide_false, Bool.not_true, Bool.not_false, Option.bind_some, oEq_int, oNe_int, oLt_int, oGt_int, oLe_int, oGe_int, oAdd_int, oSub_int, ix_t0, ix_t1, ix_t2, ix_l0, ix_l1, ix_l2, show ((0 : Nat) : Int) = 0 from rfl, show ((1 : Nat) : Int) = 1 from rfl, show ((2 : Nat) : Int) = 2 from rfl, show ((3 : Nat) : Int) = 3 from rfl, Int.reduceEq, Int.reduceLT, Int.reduceLE, cP__law_common, oFdiv_int h g0, fdiv_e _ g1]
  exact fnOf_rt this
theorem k_ib : kitB "int" "bool" = some false := by decide +kernel
theorem k_ii : kitB "int" "int" = some true := by decide +kernel
theorem k_tt : kitB "tuple" "tuple" = some true := by decide +kernel
theorem f__law_whole_eq (n : Int) (h : Hv) : f__law_whole [.int n] h = .ok (.bl true) h := by
  have : t__law_whole [some (.int n)] h = .rt (.bl true) h := by
    unfold t__law_whole
    simp only [sSeq, sSet, sPar, sIf, sNil, sRet, sExpr, sAsg, ofG, gTp, gC, gNm, gN, asT_tup, aCons, aNil, eCB, eVar, eVal, eBin, toB, bAnd, bOr, bNot, eIf, eTup, eLst, eAnd, eOr, eNot, eCallP, eCall, bind_ok, ofR_v, List.getElem?_cons_zero, List.getElem?_cons_succ, List.set_cons_zero, List.set_cons_succ, List.length_cons, List.length_nil, Nat.zero_add, Nat.reduceAdd, Nat.reduceLeDiff, if_true, if_false, Bool.false_eq_true, decide_true, decide_false, Bool.not_true, Bool.not_false, Option.bind_some, oEq_int, oNe_int, oLt_int, oGt_int, oLe_int, oGe_int, oAdd_int, oSub_int, ix_t0, ix_t1, ix_t2, ix_l0, ix_l1, ix_l2, show ((0 : Nat) : Int) = 0 from rfl, show ((1 : Nat) : Int) = 1 from rfl, show ((2 : Nat) : Int) = 2 from rfl, show ((3 : Nat) : Int) = 3 from rfl, Int.reduceEq, Int.reduceLT, Int.reduceLE, eIsi, tyN, k_ib, k_ii]
  exact fnOf_rt this
theorem f__law_all_whole_eq (ns : List Int) (hl : ns.length ≤ 1000000) (h : Hv) : f__law_all_whole [.tup (ns.map .int)] h = .ok (.bl true) h := by
  have el : eLc (iTp (eVar 0)) (.nm 1) bYes (eCallP 1 f__law_whole (aCons (eVar 1) aNil)) [1] [some (.tup (ns.map .int)), none] h = .ok (.lst ((ns.map Val.int).map fun _ => .bl true)) h := by
    unfold eLc iTp
    rw [eVar_at rfl, bind_ok]
    dsimp only
    rw [bind_ok, lcN_map (fun _ => .bl true)]
    · rfl
    · rw [List.length_map]; simpa using hl
    · intro v hv
      obtain ⟨n, hn, rfl⟩ := List.mem_map.mp hv
      refine ⟨_, rfl, ?_⟩
      have : callP 1 f__law_whole [.int n] h = .ok (.bl true) h := callP_imm (f__law_whole_eq n [])
      simp only [sSeq, sSet, sPar, sIf, sNil, sRet, sExpr, sAsg, ofG, gTp, gC, gNm, gN, asT_tup, aCons, aNil, eCB, eVar, eVal, eBin, toB, bAnd, bOr, bNot, eIf, eTup, eLst, eAnd, eOr, eNot, eCallP, eCall, bind_ok, ofR_v, List.getElem?_cons_zero, List.getElem?_cons_succ, List.set_cons_zero, List.set_cons_succ, List.length_cons, List.length_nil, Nat.zero_add, Nat.reduceAdd, Nat.reduceLeDiff, if_true, if_false, Bool.false_eq_true, decide_true, decide_false, Bool.not_true, Bool.not_false, Option.bind_some, oEq_int, oNe_int, oLt_int, oGt_int, oLe_int, oGe_int, oAdd_int, oSub_int, ix_t0, ix_t1, ix_t2, ix_l0, ix_l1, ix_l2, show ((0 : Nat) : Int) = 0 from rfl, show ((1 : Nat) : Int) = 1 from rfl, show ((2 : Nat) : Int) = 2 from rfl, show ((3 : Nat) : Int) = 3 from rfl, Int.reduceEq, Int.reduceLT, Int.reduceLE, wipeE, this]
  have : t__law_all_whole [some (.tup (ns.map .int)), none] h = .rt (.bl true) h := by
    unfold t__law_all_whole
    simp only [sSeq, sSet, sPar, sIf, sNil, sRet, sExpr, sAsg, ofG, gTp, gC, gNm, gN, asT_tup, aCons, aNil, eCB, eVar, eVal, eBin, toB, bAnd, bOr, bNot, eIf, eTup, eLst, eAnd, eOr, eNot, eCallP, eCall, bind_ok, ofR_v, List.getElem?_cons_zero, List.getElem?_cons_succ, List.set_cons_zero, List.set_cons_succ, List.length_cons, List.length_nil, Nat.zero_add, Nat.reduceAdd, Nat.reduceLeDiff, if_true, if_false, Bool.false_eq_true, decide_true, decide_false, Bool.not_true, Bool.not_false, Option.bind_some, oEq_int, oNe_int, oLt_int, oGt_int, oLe_int, oGe_int, oAdd_int, oSub_int, ix_t0, ix_t1, ix_t2, ix_l0, ix_l1, ix_l2, show ((0 : Nat) : Int) = 0 from rfl, show ((1 : Nat) : Int) = 1 from rfl, show ((2 : Nat) : Int) = 2 from rfl, show ((3 : Nat) : Int) = 3 from rfl, Int.reduceEq, Int.reduceLT, Int.reduceLE, eIsi, tyN, k_tt, el]
    show ofR ((cAll [.lst ((ns.map Val.int).map fun _ => Val.bl true)]) h) _ _ = _
    show ofR (match blsOf ((ns.map Val.int).map fun _ => Val.bl true) with | some bs => (R.ok (Val.bl (bs.all id)) h : R Val) | none => R.bad) _ _ = _
    rw [blsOf_map (fun _ => true)]
    simp [ofR]
  exact fnOf_rt this
/-! ### the feed -/
/-- a feed after at most n draws, the only object -/
def Feed (n : Nat) (h : Hv) : Prop := ∃ (cells : List Int) (at' left : Int), h = [.dct [sk "cells", sk "at", sk "left"] [.lst (cells.map .int), .int at', .int left]] ∧ 0 ≤ at' ∧ at' ≤ n ∧ cells.length ≤ 63
theorem Feed.mono {m n : Nat} {h : Hv} (e : m ≤ n) (k : Feed m h) : Feed n h := by
  obtain ⟨c, a, l, h1, h2, h3, h4⟩ := k
  exact ⟨c, a, l, h1, h2, by omega, h4⟩
theorem key_ne : (sk "cells" ≠ sk "at") ∧ (sk "cells" ≠ sk "left") ∧ (sk "at" ≠ sk "left") := by decide +kernel
end Law

set_option linter.all false
set_option autoImplicit false
set_option maxRecDepth 100000
set_option maxHeartbeats 1000000
set_option exponentiation.threshold 5000
namespace Law
open PySem L2 Eng TL PySem.NumText
/-- the feed's object -/
def fd (c : List Int) (a l : Int) : Hv := [.dct [sk "cells", sk "at", sk "left"] [.lst (c.map .int), .int a, .int l]]
theorem get_left (c : List Int) (a l : Int) : oGetD (.ref 0) (.str "left") (fd c a l) = .ok (.int l) (fd c a l) := by
  simp only [oGetD, asD, fd, List.getElem?_cons_zero, Eng.keyOf, lookD]
  rw [if_neg (show ¬ (sk "cells" = Sum.inr ("left" : Str)) from key_ne.2.1), if_neg (show ¬ (sk "at" = Sum.inr ("left" : Str)) from key_ne.2.2)]
  rfl
theorem get_at (c : List Int) (a l : Int) : oGetD (.ref 0) (.str "at") (fd c a l) = .ok (.int a) (fd c a l) := by
  simp only [oGetD, asD, fd, List.getElem?_cons_zero, Eng.keyOf, lookD]
  rw [if_neg (show ¬ (sk "cells" = Sum.inr ("at" : Str)) from key_ne.1)]
  rfl
theorem get_cells (c : List Int) (a l : Int) : oGetD (.ref 0) (.str "cells") (fd c a l) = .ok (.lst (c.map .int)) (fd c a l) := by
  simp only [oGetD, asD, fd, List.getElem?_cons_zero, Eng.keyOf, lookD]
  rfl
theorem nd3 : ndB [sk "cells", sk "at", sk "left"] = true := by decide +kernel
theorem put_left (c : List Int) (a l l' : Int) : setD (fd c a l) (.ref 0) (.str "left") (.int l') = some (fd c a l') := by
  simp only [setD, fd, List.getElem?_cons_zero, Eng.keyOf, putD, nd3, List.length_cons, List.length_nil]
  rw [if_neg (show ¬ (sk "cells" = Sum.inr ("left" : Str)) from key_ne.2.1), if_neg (show ¬ (sk "at" = Sum.inr ("left" : Str)) from key_ne.2.2)]
  rfl
theorem put_at (c : List Int) (a l a' : Int) : setD (fd c a l) (.ref 0) (.str "at") (.int a') = some (fd c a' l) := by
  simp only [setD, fd, List.getElem?_cons_zero, Eng.keyOf, putD, nd3, List.length_cons, List.length_nil]
  rw [if_neg (show ¬ (sk "cells" = Sum.inr ("at" : Str)) from key_ne.1)]
  rfl
theorem fitsS {i j : Int} (hi : i.natAbs < 2 ^ 200) (hj : j.natAbs < 2 ^ 200) : intFits i j = true := by
  have l : ∀ {x : Nat}, x < 2 ^ 200 → x.log2 < 200 := fun {x} h => by
    by_cases e : x = 0
    · subst e; decide
    · exact (Nat.log2_lt e).mpr h
  exact decide_eq_true (by have := l hi; have := l hj; omega)
theorem ix_lst {xs : List Val} {k : Nat} {v : Val} (e : xs[k]? = some v) (h : Hv) : oIx (.lst xs) (.int (k : Int)) h = .ok v h := by
  show (match L2.atI xs (k : Int) with | some v => (R.ok v h : R Val) | none => R.bad) = _
  rw [atI_k, e]
theorem draw_in {m : Int} (hm : 0 < m) (x : Int) : 0 ≤ x.fmod m ∧ x.fmod m < m := by
  rw [Int.fmod_eq_emod_of_nonneg x (by omega)]
  exact ⟨Int.emod_nonneg x (by omega), Int.emod_lt_of_pos x hm⟩
theorem pow18 (h : Hv) : oPow (.int 10) (.int 18) h = .ok (.int (10 ^ 18)) h := by
  show (if (0 : Int) ≤ 18 ∧ (18 : Int) ≤ 1000 ∧ (10 : Int).natAbs < 2 ^ 64 then (R.ok (Val.int (10 ^ (18 : Int).toNat)) h : R Val) else R.bad) = _
  rw [if_pos (by decide +kernel)]
  rfl
theorem f__law_draw_eq {n : Nat} {h : Hv} {m : Int} (hn : n < 1000000) (hm : 0 < m) (F : Feed n h) : ∃ r h', f__law_draw [.ref 0, .int m] h = .ok (.int r) h' ∧ Feed (n + 1) h' ∧ 0 ≤ r ∧ r < m := by
  obtain ⟨c, a, l, rfl, ha, han, hc⟩ := F
  have hm0 : m ≠ 0 := by omega
  have ht : ∃ r h', t__law_draw [some (.ref 0), some (.int m), none, none, none, none] (fd c a l) = .rt (.int r) h' ∧ Feed (n + 1) h' ∧ 0 ≤ r ∧ r < m := by
    unfold t__law_draw
    by_cases hl : 0 < l
    · refine ⟨l.fmod m, fd c a (l.fdiv m), ?_, ⟨c, a, _, rfl, ha, by omega, hc⟩, draw_in hm l⟩
      simp only [sSeq, sSet, sPar, sIf, sNil, sRet, sExpr, sAsg, ofG, gTp, gC, gNm, gN, asT_tup, aCons, aNil, eCB, eVar, eVal, eBin, toB, bAnd, bOr, bNot, eIf, eTup, eLst, eAnd, eOr, eNot, eCallP, eCall, bind_ok, ofR_v, List.getElem?_cons_zero, List.getElem?_cons_succ, List.set_cons_zero, List.set_cons_succ, List.length_cons, List.length_nil, Nat.zero_add, Nat.reduceAdd, Nat.reduceLeDiff, if_true, if_false, Bool.false_eq_true, decide_true, decide_false, Bool.not_true, Bool.not_false, Option.bind_some, oEq_int, oNe_int, oLt_int, oGt_int, oLe_int, oGe_int, oAdd_int, oSub_int, ix_t0, ix_t1, ix_t2, ix_l0, ix_l1, ix_l2, show ((0 : Nat) : Int) = 0 from rfl, show ((1 : Nat) : Int) = 1 from rfl, show ((2 : Nat) : Int) = 2 from rfl, show ((3 : Nat) : Int) = 3 from rfl, Int.reduceEq, Int.reduceLT, Int.reduceLE, get_left, hl, oMod_int _ hm0, sPutD, oFdiv_int _ hm0, put_left]
    · -- the next cell
      have e1 : ∀ (t : ST) (ρ : Ev) (h : Hv), sSeq sNil t ρ h = t ρ h := fun _ _ _ => rfl
      have cellx : ∃ cell : Int, ∀ (t : ST), sSeq (sIf (toB (eBin oGt (eCB cLen (aCons (eBin oGetD (eVar 0) (eVal (.str "cells"))) (aNil))) (eVal (.int 0))))
          (sSet 4 (eBin oIx (eBin oGetD (eVar 0) (eVal (.str "cells"))) (eBin oMod (eVar 3) (eCB cLen (aCons (eBin oGetD (eVar 0) (eVal (.str "cells"))) (aNil)))))) sNil) t
          [some (.ref 0), some (.int m), none, some (.int a), some (.int a), none] (fd c (a + 1) l) = t [some (.ref 0), some (.int m), none, some (.int a), some (.int cell), none] (fd c (a + 1) l) := by
        by_cases hc0 : 0 < c.length
        · have hk : ((a.toNat % c.length : Nat) : Int) = a.fmod (c.length : Int) := by
            rw [Int.fmod_eq_emod_of_nonneg a (by omega), Int.natCast_emod, Int.toNat_of_nonneg ha]
          have hlt : a.toNat % c.length < c.length := Nat.mod_lt _ hc0
          refine ⟨c[a.toNat % c.length], fun t => ?_⟩
          have ei : oIx (.lst (c.map .int)) (.int (a.fmod (c.length : Int))) (fd c (a + 1) l) = .ok (.int c[a.toNat % c.length]) (fd c (a + 1) l) := by
            rw [← hk]
            exact ix_lst (by rw [List.getElem?_map, List.getElem?_eq_getElem hlt]; rfl) _
          simp only [sSeq, sSet, sPar, sIf, sNil, sRet, sExpr, sAsg, ofG, gTp, gC, gNm, gN, asT_tup, aCons, aNil, eCB, eVar, eVal, eBin, toB, bAnd, bOr, bNot, eIf, eTup, eLst, eAnd, eOr, eNot, eCallP, eCall, bind_ok, ofR_v, List.getElem?_cons_zero, List.getElem?_cons_succ, List.set_cons_zero, List.set_cons_succ, List.length_cons, List.length_nil, Nat.zero_add, Nat.reduceAdd, Nat.reduceLeDiff, if_true, if_false, Bool.false_eq_true, decide_true, decide_false, Bool.not_true, Bool.not_false, Option.bind_some, oEq_int, oNe_int, oLt_int, oGt_int, oLe_int, oGe_int, oAdd_int, oSub_int, ix_t0, ix_t1, ix_t2, ix_l0, ix_l1, ix_l2, show ((0 : Nat) : Int) = 0 from rfl, show ((1 : Nat) : Int) = 1 from rfl, show ((2 : Nat) : Int) = 2 from rfl, show ((3 : Nat) : Int) = 3 from rfl, Int.reduceEq, Int.reduceLT, Int.reduceLE, get_cells, len_lst, List.length_map, show (0 : Int) < (c.length : Int) by omega, oMod_int _ (show (c.length : Int) ≠ 0 by omega), ei]
        · refine ⟨a, fun t => ?_⟩
          simp only [sSeq, sSet, sPar, sIf, sNil, sRet, sExpr, sAsg, ofG, gTp, gC, gNm, gN, asT_tup, aCons, aNil, eCB, eVar, eVal, eBin, toB, bAnd, bOr, bNot, eIf, eTup, eLst, eAnd, eOr, eNot, eCallP, eCall, bind_ok, ofR_v, List.getElem?_cons_zero, List.getElem?_cons_succ, List.set_cons_zero, List.set_cons_succ, List.length_cons, List.length_nil, Nat.zero_add, Nat.reduceAdd, Nat.reduceLeDiff, if_true, if_false, Bool.false_eq_true, decide_true, decide_false, Bool.not_true, Bool.not_false, Option.bind_some, oEq_int, oNe_int, oLt_int, oGt_int, oLe_int, oGe_int, oAdd_int, oSub_int, ix_t0, ix_t1, ix_t2, ix_l0, ix_l1, ix_l2, show ((0 : Nat) : Int) = 0 from rfl, show ((1 : Nat) : Int) = 1 from rfl, show ((2 : Nat) : Int) = 2 from rfl, show ((3 : Nat) : Int) = 3 from rfl, Int.reduceEq, Int.reduceLT, Int.reduceLE, get_cells, len_lst, List.length_map, show ¬ (0 : Int) < (c.length : Int) by omega]
      obtain ⟨cell, hcell⟩ := cellx
      have F1 : ∀ l', Feed (n + 1) (fd c (a + 1) l') := fun l' => ⟨c, a + 1, l', rfl, by omega, by omega, hc⟩
      have pre : ∀ (s t : ST), sSeq (sIf (toB (eBin oGt (eBin oGetD (eVar 0) (eVal (.str "left"))) (eVal (.int 0)))) s sNil)
          (sSeq (sSet 3 (eBin oGetD (eVar 0) (eVal (.str "at")))) (sSeq (sPutD (eVar 0) (eVal (.str "at")) (eBin oAdd (eVar 3) (eVal (.int 1)))) (sSeq (sSet 4 (eVar 3)) t)))
          [some (.ref 0), some (.int m), none, none, none, none] (fd c a l) = t [some (.ref 0), some (.int m), none, some (.int a), some (.int a), none] (fd c (a + 1) l) := by
        intro s t
        simp only [sSeq, sSet, sPar, sIf, sNil, sRet, sExpr, sAsg, ofG, gTp, gC, gNm, gN, asT_tup, aCons, aNil, eCB, eVar, eVal, eBin, toB, bAnd, bOr, bNot, eIf, eTup, eLst, eAnd, eOr, eNot, eCallP, eCall, bind_ok, ofR_v, List.getElem?_cons_zero, List.getElem?_cons_succ, List.set_cons_zero, List.set_cons_succ, List.length_cons, List.length_nil, Nat.zero_add, Nat.reduceAdd, Nat.reduceLeDiff, if_true, if_false, Bool.false_eq_true, decide_true, decide_false, Bool.not_true, Bool.not_false, Option.bind_some, oEq_int, oNe_int, oLt_int, oGt_int, oLe_int, oGe_int, oAdd_int, oSub_int, ix_t0, ix_t1, ix_t2, ix_l0, ix_l1, ix_l2, show ((0 : Nat) : Int) = 0 from rfl, show ((1 : Nat) : Int) = 1 from rfl, show ((2 : Nat) : Int) = 2 from rfl, show ((3 : Nat) : Int) = 3 from rfl, Int.reduceEq, Int.reduceLT, Int.reduceLE, get_left, hl, get_at, sPutD, put_at]
      rw [pre, hcell]
      by_cases hb : (10 : Int) ^ 18 ≤ cell ∧ a < (c.length : Int)
      · refine ⟨cell.fmod m, fd c (a + 1) (cell.fdiv m), ?_, F1 _, draw_in hm cell⟩
        simp only [sSeq, sSet, sPar, sIf, sNil, sRet, sExpr, sAsg, ofG, gTp, gC, gNm, gN, asT_tup, aCons, aNil, eCB, eVar, eVal, eBin, toB, bAnd, bOr, bNot, eIf, eTup, eLst, eAnd, eOr, eNot, eCallP, eCall, bind_ok, ofR_v, List.getElem?_cons_zero, List.getElem?_cons_succ, List.set_cons_zero, List.set_cons_succ, List.length_cons, List.length_nil, Nat.zero_add, Nat.reduceAdd, Nat.reduceLeDiff, if_true, if_false, Bool.false_eq_true, decide_true, decide_false, Bool.not_true, Bool.not_false, Option.bind_some, oEq_int, oNe_int, oLt_int, oGt_int, oLe_int, oGe_int, oAdd_int, oSub_int, ix_t0, ix_t1, ix_t2, ix_l0, ix_l1, ix_l2, show ((0 : Nat) : Int) = 0 from rfl, show ((1 : Nat) : Int) = 1 from rfl, show ((2 : Nat) : Int) = 2 from rfl, show ((3 : Nat) : Int) = 3 from rfl, Int.reduceEq, Int.reduceLT, Int.reduceLE, pow18, hb.1, hb.2, get_cells, len_lst, List.length_map, sPutD, oFdiv_int _ hm0, put_left, oMod_int _ hm0]
      · have hfin : bAnd (toB (eBin oGe (eVar 4) (eBin oPow (eVal (.int 10)) (eVal (.int 18))))) (toB (eBin oLt (eVar 3) (eCB cLen (aCons (eBin oGetD (eVar 0) (eVal (.str "cells"))) (aNil))))) [some (.ref 0), some (.int m), none, some (.int a), some (.int cell), none] (fd c (a + 1) l) = .ok false (fd c (a + 1) l) := by
          by_cases h1 : (10 : Int) ^ 18 ≤ cell
          · have h2 : ¬ a < (c.length : Int) := fun z => hb ⟨h1, z⟩
            simp only [sSeq, sSet, sPar, sIf, sNil, sRet, sExpr, sAsg, ofG, gTp, gC, gNm, gN, asT_tup, aCons, aNil, eCB, eVar, eVal, eBin, toB, bAnd, bOr, bNot, eIf, eTup, eLst, eAnd, eOr, eNot, eCallP, eCall, bind_ok, ofR_v, List.getElem?_cons_zero, List.getElem?_cons_succ, List.set_cons_zero, List.set_cons_succ, List.length_cons, List.length_nil, Nat.zero_add, Nat.reduceAdd, Nat.reduceLeDiff, if_true, if_false, Bool.false_eq_true, decide_true, decide_false, Bool.not_true, Bool.not_false, Option.bind_some, oEq_int, oNe_int, oLt_int, oGt_int, oLe_int, oGe_int, oAdd_int, oSub_int, ix_t0, ix_t1, ix_t2, ix_l0, ix_l1, ix_l2, show ((0 : Nat) : Int) = 0 from rfl, show ((1 : Nat) : Int) = 1 from rfl, show ((2 : Nat) : Int) = 2 from rfl, show ((3 : Nat) : Int) = 3 from rfl, Int.reduceEq, Int.reduceLT, Int.reduceLE, pow18, h1, h2, get_cells, len_lst, List.length_map]
          · simp only [sSeq, sSet, sPar, sIf, sNil, sRet, sExpr, sAsg, ofG, gTp, gC, gNm, gN, asT_tup, aCons, aNil, eCB, eVar, eVal, eBin, toB, bAnd, bOr, bNot, eIf, eTup, eLst, eAnd, eOr, eNot, eCallP, eCall, bind_ok, ofR_v, List.getElem?_cons_zero, List.getElem?_cons_succ, List.set_cons_zero, List.set_cons_succ, List.length_cons, List.length_nil, Nat.zero_add, Nat.reduceAdd, Nat.reduceLeDiff, if_true, if_false, Bool.false_eq_true, decide_true, decide_false, Bool.not_true, Bool.not_false, Option.bind_some, oEq_int, oNe_int, oLt_int, oGt_int, oLe_int, oGe_int, oAdd_int, oSub_int, ix_t0, ix_t1, ix_t2, ix_l0, ix_l1, ix_l2, show ((0 : Nat) : Int) = 0 from rfl, show ((1 : Nat) : Int) = 1 from rfl, show ((2 : Nat) : Int) = 2 from rfl, show ((3 : Nat) : Int) = 3 from rfl, Int.reduceEq, Int.reduceLT, Int.reduceLE, pow18, h1]
        have b0 := draw_in (show (0 : Int) < 1000003 by decide) cell
        have b1 : 0 ≤ 61 * a ∧ 61 * a ≤ 61000000 := by omega
        have b2 : 0 ≤ 61 * a * a ∧ 61 * a * a ≤ 61000000 * 1000000 := ⟨Int.mul_nonneg b1.1 ha, Int.mul_le_mul b1.2 (by omega) ha (by decide)⟩
        have f1 : intFits 61 a = true := fitsS (by decide) (by omega)
        have f2 : intFits (61 * a) a = true := fitsS (by omega) (by omega)
        have f3 : intFits 7 a = true := fitsS (by decide) (by omega)
        have f4 : intFits (cell.fmod 1000003 + 61 * a * a + 7 * a + 1) 48271 = true := fitsS (by omega) (by decide)
        generalize hx : ((cell.fmod 1000003 + 61 * a * a + 7 * a + 1) * 48271).fmod 999983 = x at *
        have b3 : 0 ≤ x ∧ x < 999983 := hx ▸ draw_in (by decide) _
        have f5 : intFits x 69623 = true := fitsS (by omega) (by decide)
        have f6 : intFits 7919 a = true := fitsS (by decide) (by omega)
        have b4 := draw_in (show (0 : Int) < 1999993 by decide) (x * 69623 + 7919 * a)
        have f7 : intFits ((x * 69623 + 7919 * a).fmod 1999993) 16811 = true := fitsS (by omega) (by decide)
        refine ⟨(((((x * 69623 + 7919 * a).fmod 1999993) * 16811).fmod 524287).fdiv 5).fmod m, fd c (a + 1) l, ?_, F1 l, draw_in hm _⟩
        · simp only [sSeq, sIf, hfin, ofR_v, Bool.false_eq_true, if_false, sNil]
          simp only [sSeq, sSet, sPar, sIf, sNil, sRet, sExpr, sAsg, ofG, gTp, gC, gNm, gN, asT_tup, aCons, aNil, eCB, eVar, eVal, eBin, toB, bAnd, bOr, bNot, eIf, eTup, eLst, eAnd, eOr, eNot, eCallP, eCall, bind_ok, ofR_v, List.getElem?_cons_zero, List.getElem?_cons_succ, List.set_cons_zero, List.set_cons_succ, List.length_cons, List.length_nil, Nat.zero_add, Nat.reduceAdd, Nat.reduceLeDiff, if_true, if_false, Bool.false_eq_true, decide_true, decide_false, Bool.not_true, Bool.not_false, Option.bind_some, oEq_int, oNe_int, oLt_int, oGt_int, oLe_int, oGe_int, oAdd_int, oSub_int, ix_t0, ix_t1, ix_t2, ix_l0, ix_l1, ix_l2, show ((0 : Nat) : Int) = 0 from rfl, show ((1 : Nat) : Int) = 1 from rfl, show ((2 : Nat) : Int) = 2 from rfl, show ((3 : Nat) : Int) = 3 from rfl, Int.reduceEq, Int.reduceLT, Int.reduceLE, oMod_int _ (show (1000003 : Int) ≠ 0 by decide), oMod_int _ (show (999983 : Int) ≠ 0 by decide), oMod_int _ (show (1999993 : Int) ≠ 0 by decide), oMod_int _ (show (524287 : Int) ≠ 0 by decide), oFdiv_int _ (show (5 : Int) ≠ 0 by decide), oMod_int _ hm0,
            oMul_int _ f1, oMul_int _ f2, oMul_int _ f3, oMul_int _ f4, hx, oMul_int _ f5, oMul_int _ f6, oMul_int _ f7]
  obtain ⟨r, h', e, k⟩ := ht
  exact ⟨r, h', fnOf_rt e, k⟩
end Law

set_option linter.all false
set_option autoImplicit false
set_option maxRecDepth 100000
set_option maxHeartbeats 1000000
set_option exponentiation.threshold 5000
namespace Law
open PySem L2 Eng TL PySem.NumText
theorem cutL_take {α : Type} (xs : List α) (k : Nat) : cutL xs none (some (k : Int)) = xs.take k := by
  show (xs.drop 0).take (HT.sIx xs.length xs.length (some (k : Int)) - 0) = _
  rw [HT.sIx_nat, List.drop_zero, Nat.sub_zero, ← List.take_eq_take_min]
theorem f__law_feed_eq (ns : List Int) : ∃ h', f__law_feed [.lst (ns.map .int)] [] = .ok (.ref 0) h' ∧ Feed 0 h' := by
  refine ⟨fd (ns.take 63) 0 0, ?_, ⟨ns.take 63, 0, 0, rfl, by decide, by decide, by rw [List.length_take]; omega⟩⟩
  have : t__law_feed [some (.lst (ns.map .int))] [] = .rt (.ref 0) (fd (ns.take 63) 0 0) := by
    unfold t__law_feed
    have e1 : oSl (.lst (ns.map .int)) none (some 63) [.dct [] []] = .ok (.lst ((ns.take 63).map .int)) [.dct [] []] := by
      show R.ok (Val.lst (cutL (ns.map Val.int) none (some ((63 : Nat) : Int)))) _ = _
      rw [cutL_take, List.map_take]
    have e2 : cList [.lst ((ns.take 63).map .int)] [.dct [] []] = .ok (.lst ((ns.take 63).map .int)) [.dct [] []] := rfl
    simp only [sSeq, sSet, sPar, sIf, sNil, sRet, sExpr, sAsg, ofG, gTp, gC, gNm, gN, asT_tup, aCons, aNil, eCB, eVar, eVal, eBin, toB, bAnd, bOr, bNot, eIf, eTup, eLst, eAnd, eOr, eNot, eCallP, eCall, bind_ok, ofR_v, List.getElem?_cons_zero, List.getElem?_cons_succ, List.set_cons_zero, List.set_cons_succ, List.length_cons, List.length_nil, Nat.zero_add, Nat.reduceAdd, Nat.reduceLeDiff, if_true, if_false, Bool.false_eq_true, decide_true, decide_false, Bool.not_true, Bool.not_false, Option.bind_some, oEq_int, oNe_int, oLt_int, oGt_int, oLe_int, oGe_int, oAdd_int, oSub_int, ix_t0, ix_t1, ix_t2, ix_l0, ix_l1, ix_l2, show ((0 : Nat) : Int) = 0 from rfl, show ((1 : Nat) : Int) = 1 from rfl, show ((2 : Nat) : Int) = 2 from rfl, show ((3 : Nat) : Int) = 3 from rfl, Int.reduceEq, Int.reduceLT, Int.reduceLE, eDisp, eSl, pNo, pAt, e1, e2, List.nil_append]
    rw [if_pos ⟨trivial, by decide, nd3⟩]
    rfl
  exact fnOf_rt this
theorem forR {n : Nat} (lo : Int) (k : Nat) {v : Val} (e : (Eng.upTo lo n)[k]? = some v) : v = .int (lo + (k : Nat)) ∧ k < n := by
  unfold Eng.upTo at e
  rw [List.getElem?_map] at e
  obtain ⟨i, e1, rfl⟩ := Option.map_eq_some_iff.mp e
  obtain ⟨h, e2⟩ := List.getElem?_eq_some_iff.mp e1
  rw [List.length_range] at h
  rw [List.getElem_range] at e2
  subst e2
  exact ⟨rfl, h⟩
theorem upTo_len (lo : Int) (n : Nat) : (Eng.upTo lo n).length = n := by unfold Eng.upTo; rw [List.length_map, List.length_range]
theorem pow_step {r d : Int} {i : Nat} (h0 : 0 ≤ r) (h1 : r < 100000 ^ i) (d0 : 0 ≤ d) (d1 : d < 100000) : 0 ≤ r * 100000 + d ∧ r * 100000 + d < 100000 ^ (i + 1) := by
  rw [Int.pow_succ]
  generalize (100000 : Int) ^ i = P at *
  omega
theorem pow_le8 {i : Nat} (h : i ≤ 8) : (100000 : Int) ^ i ≤ 10 ^ 40 := by
  have : ∀ i, i ≤ 8 → (100000 : Int) ^ i ≤ 10 ^ 40 := by decide +kernel
  exact this i h
theorem f__law_great_eq {n : Nat} {h : Hv} {p : Int} (hn : n + 10 < 1000000) (hp : 0 ≤ p ∧ p ≤ 8) (F : Feed n h) : ∃ r h', f__law_great [.ref 0, .int p] h = .ok (.int r) h' ∧ Feed (n + 8) h' ∧ 0 ≤ r ∧ r < 100000 ^ p.toNat := by
  obtain ⟨ρ', h', e1, r, v, e2, r0, r1, F'⟩ := forL_inv (g := gNm 3) (s := sSet 2 (eBin oAdd (eBin oMul (eVar 2) (eVal (.int 100000))) (eCall 2 f__law_draw (aCons (eVar 0) (aCons (eVal (.int 100000)) (aNil))))))
    (fun i ρ h => ∃ (r : Int) (v : Option Val), ρ = [some (.ref 0), some (.int p), some (.int r), v] ∧ 0 ≤ r ∧ r < 100000 ^ i ∧ Feed (n + i) h) (Eng.upTo 0 p.toNat) 0 [some (.ref 0), some (.int p), some (.int 0), none] h (by
      intro j v ρ h ev ⟨r, w, e, r0, r1, F⟩
      subst e
      obtain ⟨rfl, hj⟩ := forR 0 j ev
      rw [Nat.zero_add] at r1 F ⊢
      obtain ⟨d, h', ed, F', d0, d1⟩ := f__law_draw_eq (m := 100000) (show n + j < 1000000 by omega) (by decide) F
      have hr := pow_le8 (show j ≤ 8 by omega)
      have fit : intFits r 100000 = true := fitsS (by omega) (by decide)
      have := pow_step r0 r1 d0 d1
      refine ⟨_, h, rfl, [some (.ref 0), some (.int p), some (.int (r * 100000 + d)), some (.int (0 + (j : Int)))], h', ?_, r * 100000 + d, _, rfl, this.1, this.2, F'⟩
      simp only [sSeq, sSet, sPar, sIf, sNil, sRet, sExpr, sAsg, ofG, gTp, gC, gNm, gN, asT_tup, aCons, aNil, eCB, eVar, eVal, eBin, toB, bAnd, bOr, bNot, eIf, eTup, eLst, eAnd, eOr, eNot, eCallP, eCall, bind_ok, ofR_v, List.getElem?_cons_zero, List.getElem?_cons_succ, List.set_cons_zero, List.set_cons_succ, List.length_cons, List.length_nil, Nat.zero_add, Nat.reduceAdd, Nat.reduceLeDiff, if_true, if_false, Bool.false_eq_true, decide_true, decide_false, Bool.not_true, Bool.not_false, Option.bind_some, oEq_int, oNe_int, oLt_int, oGt_int, oLe_int, oGe_int, oAdd_int, oSub_int, ix_t0, ix_t1, ix_t2, ix_l0, ix_l1, ix_l2, show ((0 : Nat) : Int) = 0 from rfl, show ((1 : Nat) : Int) = 1 from rfl, show ((2 : Nat) : Int) = 2 from rfl, show ((3 : Nat) : Int) = 3 from rfl, Int.reduceEq, Int.reduceLT, Int.reduceLE, oMul_int _ fit, ed]) ⟨0, none, rfl, by decide, by decide, F⟩
  rw [upTo_len, Nat.zero_add] at r1 F'
  refine ⟨r, h', ?_, F'.mono (by omega), r0, r1⟩
  have : t__law_great [some (.ref 0), some (.int p), none, none] h = .rt (.int r) h' := by
    unfold t__law_great
    simp only [sSeq, sSet, eVal, ofR_v, List.set_cons_zero, List.set_cons_succ, sFor, iRg1, eVar, List.getElem?_cons_zero, List.getElem?_cons_succ, bind_ok, show -(2 ^ 62) ≤ p ∧ p < 2 ^ 62 by omega, if_true, and_self]
    rw [e1, e2]
    simp only [sSeq, sSet, sPar, sIf, sNil, sRet, sExpr, sAsg, ofG, gTp, gC, gNm, gN, asT_tup, aCons, aNil, eCB, eVar, eVal, eBin, toB, bAnd, bOr, bNot, eIf, eTup, eLst, eAnd, eOr, eNot, eCallP, eCall, bind_ok, ofR_v, List.getElem?_cons_zero, List.getElem?_cons_succ, List.set_cons_zero, List.set_cons_succ, List.length_cons, List.length_nil, Nat.zero_add, Nat.reduceAdd, Nat.reduceLeDiff, if_true, if_false, Bool.false_eq_true, decide_true, decide_false, Bool.not_true, Bool.not_false, Option.bind_some, oEq_int, oNe_int, oLt_int, oGt_int, oLe_int, oGe_int, oAdd_int, oSub_int, ix_t0, ix_t1, ix_t2, ix_l0, ix_l1, ix_l2, show ((0 : Nat) : Int) = 0 from rfl, show ((1 : Nat) : Int) = 1 from rfl, show ((2 : Nat) : Int) = 2 from rfl, show ((3 : Nat) : Int) = 3 from rfl, Int.reduceEq, Int.reduceLT, Int.reduceLE]
  exact fnOf_rt this
end Law

set_option linter.all false
set_option autoImplicit false
set_option maxRecDepth 100000
set_option maxHeartbeats 1000000
set_option exponentiation.threshold 5000
namespace Law
open PySem L2 Eng TL PySem.NumText
theorem dv_lt : ∀ (cs : List Nat) (a : Nat), AllDigits cs → cs.foldl (fun acc c => acc * 10 + (c - 48)) a < (a + 1) * 10 ^ cs.length
  | [], a, _ => by simp
  | c :: cs, a, h => by
    have hc := h.head
    have := dv_lt cs (a * 10 + (c - 48)) h.tail
    rw [List.foldl_cons, List.length_cons, Nat.pow_succ]
    refine Nat.lt_of_lt_of_le this ?_
    have e : (a * 10 + (c - 48) + 1) * 10 ^ cs.length ≤ ((a + 1) * 10) * 10 ^ cs.length := Nat.mul_le_mul_right _ (by omega)
    refine Nat.le_trans e ?_
    rw [Nat.mul_assoc, Nat.mul_comm 10]
    exact Nat.le_refl _
theorem digitsVal_lt {cs : List Nat} (h : AllDigits cs) : digitsVal cs < 10 ^ cs.length := by
  have := dv_lt cs 0 h
  simpa [digitsVal] using this
theorem tl_rep (s : Str) (n : Nat) : tl (strRep s n) = (List.replicate n (tl s)).flatten := by
  have : ∀ (n : Nat) (acc : Array Nat), ((List.replicate n s.cps).foldl (· ++ ·) acc).toList = acc.toList ++ (List.replicate n s.cps.toList).flatten := by
    intro n
    induction n with
    | zero => intro acc; simp
    | succ n ih =>
      intro acc
      rw [List.replicate_succ, List.foldl_cons, ih, List.replicate_succ, List.flatten_cons, Array.toList_append, List.append_assoc]
  have e := this n #[]
  show ((List.replicate n s.cps).foldl (· ++ ·) #[]).toList = _
  rw [e]
  rfl
theorem f__law_number_eq {n : Nat} {h : Hv} {most : Int} (hn : n + 40 < 1000000) (hm : most = 990 ∨ most = 490) (F : Feed n h) : ∃ v h', f__law_number [.ref 0, .int most] h = .ok (.int v) h' ∧ Feed (n + 40) h' ∧ v.natAbs < 10 ^ 990 := by
  obtain ⟨way, h1, d1, F1, w0, w1⟩ := f__law_draw_eq (m := 4) (show n < 1000000 by omega) (by decide) F
  obtain ⟨d, h2, d2, F2, e0, e1⟩ := f__law_draw_eq (m := 60) (show n + 1 < 1000000 by omega) (by decide) F1
  have big : ∀ x : Int, 0 ≤ x → x < 10 ^ 40 → x.natAbs < 10 ^ 990 := fun x h0 h1 => Nat.lt_of_lt_of_le (show x.natAbs < 10 ^ 40 by omega) (Nat.pow_le_pow_right (by decide) (by decide))
  -- the number itself
  have hv : ∃ v h3, Feed (n + 2 + 20) h3 ∧ v.natAbs < 10 ^ 990 ∧ ∀ t : ST, sSeq (sIf (toB (eBin oEq (eVar 2) (eVal (.int 2))))
      (sSet 3 (eCall 2 f__law_great (aCons (eVar 0) (aCons (eBin oAdd (eVal (.int 1)) (eCall 2 f__law_draw (aCons (eVar 0) (aCons (eVal (.int 8)) (aNil))))) (aNil))))) (sNil))
      (sSeq (sIf (toB (eBin oEq (eVar 2) (eVal (.int 3))))
      (sSet 3 (eCB cIntT (aCons (eBin oAdd (eBin oAdd (eCB cStr (aCons (eBin oAdd (eVal (.int 1)) (eCall 2 f__law_draw (aCons (eVar 0) (aCons (eVal (.int 9)) (aNil))))) (aNil))) (eBin oMulS (eVal (.str "0")) (eBin oSub (eVar 1) (eVal (.int 20))))) (eCB cStr (aCons (eCall 2 f__law_great (aCons (eVar 0) (aCons (eVal (.int 2)) (aNil)))) (aNil)))) (aNil)))) (sNil)) t)
      [some (.ref 0), some (.int most), some (.int way), some (.int d)] h2 = t [some (.ref 0), some (.int most), some (.int way), some (.int v)] h3 := by
    by_cases c2 : way = 2
    · obtain ⟨k, h3, d3, F3, k0, k1⟩ := f__law_draw_eq (m := 8) (show n + 1 + 1 < 1000000 by omega) (by decide) F2
      obtain ⟨r, h4, d4, F4, r0, r1⟩ := f__law_great_eq (p := 1 + k) (show n + 1 + 1 + 1 + 10 < 1000000 by omega) (by omega) F3
      refine ⟨r, h4, F4.mono (by omega), big r r0 (Int.lt_of_lt_of_le r1 (pow_le8 (by omega))), fun t => ?_⟩
      subst c2
      simp only [sSeq, sSet, sPar, sIf, sNil, sRet, sExpr, sAsg, ofG, gTp, gC, gNm, gN, asT_tup, aCons, aNil, eCB, eVar, eVal, eBin, toB, bAnd, bOr, bNot, eIf, eTup, eLst, eAnd, eOr, eNot, eCallP, eCall, bind_ok, ofR_v, List.getElem?_cons_zero, List.getElem?_cons_succ, List.set_cons_zero, List.set_cons_succ, List.length_cons, List.length_nil, Nat.zero_add, Nat.reduceAdd, Nat.reduceLeDiff, if_true, if_false, Bool.false_eq_true, decide_true, decide_false, Bool.not_true, Bool.not_false, Option.bind_some, oEq_int, oNe_int, oLt_int, oGt_int, oLe_int, oGe_int, oAdd_int, oSub_int, ix_t0, ix_t1, ix_t2, ix_l0, ix_l1, ix_l2, show ((0 : Nat) : Int) = 0 from rfl, show ((1 : Nat) : Int) = 1 from rfl, show ((2 : Nat) : Int) = 2 from rfl, show ((3 : Nat) : Int) = 3 from rfl, Int.reduceEq, Int.reduceLT, Int.reduceLE, d3, d4]
    · by_cases c3 : way = 3
      · obtain ⟨k, h3, d3, F3, k0, k1⟩ := f__law_draw_eq (m := 9) (show n + 1 + 1 < 1000000 by omega) (by decide) F2
        obtain ⟨r, h4, d4, F4, r0, r1⟩ := f__law_great_eq (p := 2) (show n + 1 + 1 + 1 + 10 < 1000000 by omega) (by decide) F3
        have r2 : r < 10 ^ 10 := Int.lt_of_lt_of_le r1 (by decide +kernel)
        have n1 : tl (numS (1 + k)) = numL (1 + k).natAbs := by rw [tl_numS]; exact if_neg (by omega)
        have n2 : tl (numS r) = numL r.natAbs := by rw [tl_numS]; exact if_neg (by omega)
        have l1 : (numS (1 + k)).length ≤ 2 := by rw [len_tl, n1]; exact numL_len (by decide) (by omega)
        have l2 : (numS r).length ≤ 10 := by rw [len_tl, n2]; exact numL_len (by decide) (by omega)
        have tz : tl (strRep "0" (most - 20).toNat) = List.replicate (most - 20).toNat 48 := by
          rw [tl_rep]
          have : ∀ m : Nat, (List.replicate m (tl ("0" : Str))).flatten = List.replicate m 48 := by
            intro m
            induction m with
            | zero => rfl
            | succ m ih => rw [List.replicate_succ, List.flatten_cons, ih]; rfl
          exact this _
        have lz : (strRep "0" (most - 20).toNat).length = (most - 20).toNat := by rw [len_tl, tz, List.length_replicate]
        have hz : (most - 20).toNat ≤ 970 := by omega
        have tT : tl (numS (1 + k) ++ strRep "0" (most - 20).toNat ++ numS r) = numL (1 + k).natAbs ++ List.replicate (most - 20).toNat 48 ++ numL r.natAbs := by rw [tl_append, tl_append, n1, tz, n2]
        have lT : (numS (1 + k) ++ strRep "0" (most - 20).toNat ++ numS r).length ≤ 982 := by
          rw [len_tl, tl_append, tl_append, List.length_append, List.length_append, ← len_tl, ← len_tl, ← len_tl]; omega
        have aT : AllDigits (tl (numS (1 + k) ++ strRep "0" (most - 20).toNat ++ numS r)) := by
          rw [tT]
          intro c hc
          rcases List.mem_append.mp hc with hc | hc
          · rcases List.mem_append.mp hc with hc | hc
            · exact numL_digits _ c hc
            · have := List.eq_of_mem_replicate hc
              omega
          · exact numL_digits _ c hc
        have nT : tl (numS (1 + k) ++ strRep "0" (most - 20).toNat ++ numS r) ≠ [] := by
          rw [tT]
          intro e
          have := numL_ne (1 + k).natAbs
          simp at e
          exact this e.1
        have iT := intText_digits aT nT (by omega)
        have a1 : ∀ h, oAdd (.str (numS (1 + k))) (.str (strRep "0" (most - 20).toNat)) h = .ok (.str (numS (1 + k) ++ strRep "0" (most - 20).toNat)) h := fun h => oAdd_str h (by omega)
        have a2 : ∀ h, oAdd (.str (numS (1 + k) ++ strRep "0" (most - 20).toNat)) (.str (numS r)) h = .ok (.str (numS (1 + k) ++ strRep "0" (most - 20).toNat ++ numS r)) h := fun h => oAdd_str h (by
          rw [len_tl, tl_append, List.length_append, ← len_tl, ← len_tl]; omega)
        have a3 : ∀ h, oMulS (.str "0") (.int (most - 20)) h = .ok (.str (strRep "0" (most - 20).toNat)) h := fun h => by
          show (if 0 ≤ most - 20 ∧ most - 20 ≤ 1000000 ∧ ("0" : Str).length * (most - 20).toNat ≤ 1000000 then (R.ok (Val.str (strRep "0" (most - 20).toNat)) h : R Val) else R.bad) = _
          rw [if_pos ⟨by omega, by omega, by show 1 * _ ≤ _; omega⟩]
        have a4 : ∀ h, cIntT [.str (numS (1 + k) ++ strRep "0" (most - 20).toNat ++ numS r)] h = .ok (.int (digitsVal (tl (numS (1 + k) ++ strRep "0" (most - 20).toNat ++ numS r)) : Nat)) h := fun h => by
          show (if (numS (1 + k) ++ strRep "0" (most - 20).toNat ++ numS r).length ≤ 1000000 then (match PySem.intText? (numS (1 + k) ++ strRep "0" (most - 20).toNat ++ numS r) with | some n => (R.ok (Val.int n) h : R Val) | none => R.bad) else R.bad) = _
          rw [if_pos (by omega), iT]
        have c1 : ∀ h, cStr [.int (1 + k)] h = .ok (.str (numS (1 + k))) h := fun h => if_pos (figs_of (k := 2) (by decide) (by omega))
        have c2' : ∀ h, cStr [.int r] h = .ok (.str (numS r)) h := fun h => if_pos (figs_of (k := 10) (by decide) (by omega))
        refine ⟨((digitsVal (tl (numS (1 + k) ++ strRep "0" (most - 20).toNat ++ numS r)) : Nat) : Int), h4, F4.mono (by omega), ?_, fun t => ?_⟩
        · have := digitsVal_lt aT
          rw [Int.natAbs_natCast]
          exact Nat.lt_of_lt_of_le this (Nat.pow_le_pow_right (by decide) (by rw [← len_tl]; omega))
        · subst c3
          simp only [sSeq, sSet, sPar, sIf, sNil, sRet, sExpr, sAsg, ofG, gTp, gC, gNm, gN, asT_tup, aCons, aNil, eCB, eVar, eVal, eBin, toB, bAnd, bOr, bNot, eIf, eTup, eLst, eAnd, eOr, eNot, eCallP, eCall, bind_ok, ofR_v, List.getElem?_cons_zero, List.getElem?_cons_succ, List.set_cons_zero, List.set_cons_succ, List.length_cons, List.length_nil, Nat.zero_add, Nat.reduceAdd, Nat.reduceLeDiff, if_true, if_false, Bool.false_eq_true, decide_true, decide_false, Bool.not_true, Bool.not_false, Option.bind_some, oEq_int, oNe_int, oLt_int, oGt_int, oLe_int, oGe_int, oAdd_int, oSub_int, ix_t0, ix_t1, ix_t2, ix_l0, ix_l1, ix_l2, show ((0 : Nat) : Int) = 0 from rfl, show ((1 : Nat) : Int) = 1 from rfl, show ((2 : Nat) : Int) = 2 from rfl, show ((3 : Nat) : Int) = 3 from rfl, Int.reduceEq, Int.reduceLT, Int.reduceLE, d3, d4, c1, c2', a1, a2, a3, a4]
      · refine ⟨d, h2, F2.mono (by omega), big d (by omega) (by omega), fun t => ?_⟩
        simp only [sSeq, sSet, sPar, sIf, sNil, sRet, sExpr, sAsg, ofG, gTp, gC, gNm, gN, asT_tup, aCons, aNil, eCB, eVar, eVal, eBin, toB, bAnd, bOr, bNot, eIf, eTup, eLst, eAnd, eOr, eNot, eCallP, eCall, bind_ok, ofR_v, List.getElem?_cons_zero, List.getElem?_cons_succ, List.set_cons_zero, List.set_cons_succ, List.length_cons, List.length_nil, Nat.zero_add, Nat.reduceAdd, Nat.reduceLeDiff, if_true, if_false, Bool.false_eq_true, decide_true, decide_false, Bool.not_true, Bool.not_false, Option.bind_some, oEq_int, oNe_int, oLt_int, oGt_int, oLe_int, oGe_int, oAdd_int, oSub_int, ix_t0, ix_t1, ix_t2, ix_l0, ix_l1, ix_l2, show ((0 : Nat) : Int) = 0 from rfl, show ((1 : Nat) : Int) = 1 from rfl, show ((2 : Nat) : Int) = 2 from rfl, show ((3 : Nat) : Int) = 3 from rfl, Int.reduceEq, Int.reduceLT, Int.reduceLE, c2, c3]
  obtain ⟨v, h3, F3, vb, ev⟩ := hv
  obtain ⟨s, h4, d4, F4, s0, s1⟩ := f__law_draw_eq (m := 2) (show n + 2 + 20 < 1000000 by omega) (by decide) F3
  have fin : ∃ u, t__law_number [some (.ref 0), some (.int most), none, none] h = .rt (.int u) h4 ∧ u.natAbs < 10 ^ 990 := by
    unfold t__law_number
    have pre : ∀ t : ST, sSeq (sSet 2 (eCall 2 f__law_draw (aCons (eVar 0) (aCons (eVal (.int 4)) (aNil))))) (sSeq (sSet 3 (eCall 2 f__law_draw (aCons (eVar 0) (aCons (eVal (.int 60)) (aNil))))) t) [some (.ref 0), some (.int most), none, none] h =
        t [some (.ref 0), some (.int most), some (.int way), some (.int d)] h2 := fun t => by
      simp only [sSeq, sSet, sPar, sIf, sNil, sRet, sExpr, sAsg, ofG, gTp, gC, gNm, gN, asT_tup, aCons, aNil, eCB, eVar, eVal, eBin, toB, bAnd, bOr, bNot, eIf, eTup, eLst, eAnd, eOr, eNot, eCallP, eCall, bind_ok, ofR_v, List.getElem?_cons_zero, List.getElem?_cons_succ, List.set_cons_zero, List.set_cons_succ, List.length_cons, List.length_nil, Nat.zero_add, Nat.reduceAdd, Nat.reduceLeDiff, if_true, if_false, Bool.false_eq_true, decide_true, decide_false, Bool.not_true, Bool.not_false, Option.bind_some, oEq_int, oNe_int, oLt_int, oGt_int, oLe_int, oGe_int, oAdd_int, oSub_int, ix_t0, ix_t1, ix_t2, ix_l0, ix_l1, ix_l2, show ((0 : Nat) : Int) = 0 from rfl, show ((1 : Nat) : Int) = 1 from rfl, show ((2 : Nat) : Int) = 2 from rfl, show ((3 : Nat) : Int) = 3 from rfl, Int.reduceEq, Int.reduceLT, Int.reduceLE, d1, d2]
    rw [pre, ev]
    by_cases hs : s = 0
    · subst hs
      exact ⟨v, by simp only [sSeq, sSet, sPar, sIf, sNil, sRet, sExpr, sAsg, ofG, gTp, gC, gNm, gN, asT_tup, aCons, aNil, eCB, eVar, eVal, eBin, toB, bAnd, bOr, bNot, eIf, eTup, eLst, eAnd, eOr, eNot, eCallP, eCall, bind_ok, ofR_v, List.getElem?_cons_zero, List.getElem?_cons_succ, List.set_cons_zero, List.set_cons_succ, List.length_cons, List.length_nil, Nat.zero_add, Nat.reduceAdd, Nat.reduceLeDiff, if_true, if_false, Bool.false_eq_true, decide_true, decide_false, Bool.not_true, Bool.not_false, Option.bind_some, oEq_int, oNe_int, oLt_int, oGt_int, oLe_int, oGe_int, oAdd_int, oSub_int, ix_t0, ix_t1, ix_t2, ix_l0, ix_l1, ix_l2, show ((0 : Nat) : Int) = 0 from rfl, show ((1 : Nat) : Int) = 1 from rfl, show ((2 : Nat) : Int) = 2 from rfl, show ((3 : Nat) : Int) = 3 from rfl, Int.reduceEq, Int.reduceLT, Int.reduceLE, d4], vb⟩
    · have : s = 1 := by omega
      subst this
      exact ⟨0 - v, by simp only [sSeq, sSet, sPar, sIf, sNil, sRet, sExpr, sAsg, ofG, gTp, gC, gNm, gN, asT_tup, aCons, aNil, eCB, eVar, eVal, eBin, toB, bAnd, bOr, bNot, eIf, eTup, eLst, eAnd, eOr, eNot, eCallP, eCall, bind_ok, ofR_v, List.getElem?_cons_zero, List.getElem?_cons_succ, List.set_cons_zero, List.set_cons_succ, List.length_cons, List.length_nil, Nat.zero_add, Nat.reduceAdd, Nat.reduceLeDiff, if_true, if_false, Bool.false_eq_true, decide_true, decide_false, Bool.not_true, Bool.not_false, Option.bind_some, oEq_int, oNe_int, oLt_int, oGt_int, oLe_int, oGe_int, oAdd_int, oSub_int, ix_t0, ix_t1, ix_t2, ix_l0, ix_l1, ix_l2, show ((0 : Nat) : Int) = 0 from rfl, show ((1 : Nat) : Int) = 1 from rfl, show ((2 : Nat) : Int) = 2 from rfl, show ((3 : Nat) : Int) = 3 from rfl, Int.reduceEq, Int.reduceLT, Int.reduceLE, d4], by omega⟩
  obtain ⟨u, e, ub⟩ := fin
  exact ⟨u, h4, fnOf_rt e, F4.mono (by omega), ub⟩
end Law

set_option linter.all false
set_option autoImplicit false
set_option maxRecDepth 100000
set_option maxHeartbeats 1000000
set_option exponentiation.threshold 5000
namespace Law
open PySem L2 Eng TL PySem.NumText
/-- the row in which each is the sum of the two ahead -/
def fibL : Nat → Nat → Nat → Nat × Nat
  | 0, a, b => (a, b)
  | n + 1, a, b => match a + b with
    | 0 => fibL n b 0
    | s + 1 => fibL n b (s + 1)
theorem fibL_succ (n a b : Nat) : fibL (n + 1) a b = fibL n b (a + b) := by
  show (match a + b with | 0 => fibL n b 0 | s + 1 => fibL n b (s + 1)) = _
  cases a + b <;> rfl
theorem fibL_last : ∀ (n a b : Nat), fibL (n + 1) a b = ((fibL n a b).2, (fibL n a b).1 + (fibL n a b).2)
  | 0, a, b => by rw [fibL_succ]; rfl
  | n + 1, a, b => by rw [fibL_succ, fibL_last n b (a + b), ← fibL_succ]
theorem fib_big : (fibL 4785 0 1).1 < 10 ^ 1000 ∧ (fibL 4785 0 1).2 < 10 ^ 1000 ∧ 0 < (fibL 4785 0 1).2 := by decide +kernel
theorem nb_loop (N : Nat) (h : Hv) : ∃ v, forL (Eng.upTo 0 N) (gNm 3) (sPar 1 2 (aCons (eVar 2) (aCons (eBin oAdd (eVar 1) (eVar 2)) aNil))) [some (.ref 0), some (.int 0), some (.int 1), none] h =
    .nx [some (.ref 0), some (.int ((fibL N 0 1).1 : Nat)), some (.int ((fibL N 0 1).2 : Nat)), v] h := by
  obtain ⟨ρ', h', e1, v, e2, e3⟩ := forL_inv (g := gNm 3) (s := sPar 1 2 (aCons (eVar 2) (aCons (eBin oAdd (eVar 1) (eVar 2)) aNil)))
    (fun i ρ h1 => ∃ (v : Option Val), ρ = [some (.ref 0), some (.int ((fibL i 0 1).1 : Nat)), some (.int ((fibL i 0 1).2 : Nat)), v] ∧ h1 = h) (Eng.upTo 0 N) 0 [some (.ref 0), some (.int 0), some (.int 1), none] h (by
      intro j v ρ h1 ev ⟨w, e, eh⟩
      subst e eh
      refine ⟨_, _, rfl, [some (.ref 0), some (.int ((fibL (0 + j) 0 1).2 : Nat)), some (.int ((fibL (0 + j) 0 1).1 + (fibL (0 + j) 0 1).2 : Int)), some v], h1, by simp only [sSeq, sSet, sPar, sIf, sNil, sRet, sExpr, sAsg, ofG, gTp, gC, gNm, gN, asT_tup, aCons, aNil, eCB, eVar, eVal, eBin, toB, bAnd, bOr, bNot, eIf, eTup, eLst, eAnd, eOr, eNot, eCallP, eCall, bind_ok, ofR_v, List.getElem?_cons_zero, List.getElem?_cons_succ, List.set_cons_zero, List.set_cons_succ, List.length_cons, List.length_nil, Nat.zero_add, Nat.reduceAdd, Nat.reduceLeDiff, if_true, if_false, Bool.false_eq_true, decide_true, decide_false, Bool.not_true, Bool.not_false, Option.bind_some, oEq_int, oNe_int, oLt_int, oGt_int, oLe_int, oGe_int, oAdd_int, oSub_int, ix_t0, ix_t1, ix_t2, ix_l0, ix_l1, ix_l2, show ((0 : Nat) : Int) = 0 from rfl, show ((1 : Nat) : Int) = 1 from rfl, show ((2 : Nat) : Int) = 2 from rfl, show ((3 : Nat) : Int) = 3 from rfl, Int.reduceEq, Int.reduceLT, Int.reduceLE], some v, ?_, rfl⟩
      rw [fibL_last]
      simp only [Int.natCast_add]) ⟨none, rfl, rfl⟩
  rw [upTo_len, Nat.zero_add] at e2
  subst e2 e3
  exact ⟨v, e1⟩
theorem f__law_neighbours_eq {n : Nat} {h : Hv} (hn : n < 1000000) (F : Feed n h) : ∃ t b h', f__law_neighbours [.ref 0] h = .ok (.tup [.int t, .int b]) h' ∧ Feed (n + 1) h' ∧ Big t ∧ Big b ∧ 0 < b := by
  obtain ⟨s, h4, d4, F4, s0, s1⟩ := f__law_draw_eq (m := 2) hn (by decide) F
  obtain ⟨N, hN⟩ : ∃ N, (4785 : Int).toNat = N := ⟨_, rfl⟩
  obtain ⟨v, e1⟩ := nb_loop N h
  have fb : (fibL N 0 1).1 < 10 ^ 1000 ∧ (fibL N 0 1).2 < 10 ^ 1000 ∧ 0 < (fibL N 0 1).2 := by
    have : N = 4785 := hN.symm
    rw [this]
    exact fib_big
  obtain ⟨b1, b2, b3⟩ := fb
  generalize (fibL N 0 1).1 = A at *
  generalize (fibL N 0 1).2 = B at *
  have rg : -(2 ^ 62) ≤ (4785 : Int) ∧ (4785 : Int) < 2 ^ 62 := by decide
  have ir : ∀ ρ, iRg1 (eVal (.int 4785)) ρ h = .ok (Eng.upTo 0 N) h := fun ρ => by
    show (if -(2 ^ 62) ≤ (4785 : Int) ∧ (4785 : Int) < 2 ^ 62 then (R.ok (Eng.upTo 0 (4785 : Int).toNat) h : R (List Val)) else R.bad) = _
    rw [if_pos rg, hN]
  have pre : ∀ t : ST, sSeq (sAsg (eTup (aCons (eVal (.int 0)) (aCons (eVal (.int 1)) (aNil)))) (gTp 2 (gC (gNm 1) (gC (gNm 2) (gN))))) (sSeq (sFor (iRg1 (eVal (.int 4785))) (gNm 3)
        (sPar 1 2 (aCons (eVar 2) (aCons (eBin oAdd (eVar 1) (eVar 2)) aNil)))) t) [some (.ref 0), none, none, none] h = t [some (.ref 0), some (.int (A : Nat)), some (.int (B : Nat)), v] h := fun t => by
    have ea : sAsg (eTup (aCons (eVal (.int 0)) (aCons (eVal (.int 1)) (aNil)))) (gTp 2 (gC (gNm 1) (gC (gNm 2) (gN)))) [some (.ref 0), none, none, none] h = .nx [some (.ref 0), some (.int 0), some (.int 1), none] h := by
      simp only [sSeq, sSet, sPar, sIf, sNil, sRet, sExpr, sAsg, ofG, gTp, gC, gNm, gN, asT_tup, aCons, aNil, eCB, eVar, eVal, eBin, toB, bAnd, bOr, bNot, eIf, eTup, eLst, eAnd, eOr, eNot, eCallP, eCall, bind_ok, ofR_v, List.getElem?_cons_zero, List.getElem?_cons_succ, List.set_cons_zero, List.set_cons_succ, List.length_cons, List.length_nil, Nat.zero_add, Nat.reduceAdd, Nat.reduceLeDiff, if_true, if_false, Bool.false_eq_true, decide_true, decide_false, Bool.not_true, Bool.not_false, Option.bind_some, oEq_int, oNe_int, oLt_int, oGt_int, oLe_int, oGe_int, oAdd_int, oSub_int, ix_t0, ix_t1, ix_t2, ix_l0, ix_l1, ix_l2, show ((0 : Nat) : Int) = 0 from rfl, show ((1 : Nat) : Int) = 1 from rfl, show ((2 : Nat) : Int) = 2 from rfl, show ((3 : Nat) : Int) = 3 from rfl, Int.reduceEq, Int.reduceLT, Int.reduceLE]
    simp only [sSeq, ea, sFor, ir, ofR_v, e1]
  have fin : ∃ t : Int, t__law_neighbours [some (.ref 0), none, none, none] h = .rt (.tup [.int t, .int B]) h4 ∧ Big t := by
    unfold t__law_neighbours
    rw [pre]
    by_cases hs : s = 0
    · subst hs
      exact ⟨A, by simp only [sSeq, sSet, sPar, sIf, sNil, sRet, sExpr, sAsg, ofG, gTp, gC, gNm, gN, asT_tup, aCons, aNil, eCB, eVar, eVal, eBin, toB, bAnd, bOr, bNot, eIf, eTup, eLst, eAnd, eOr, eNot, eCallP, eCall, bind_ok, ofR_v, List.getElem?_cons_zero, List.getElem?_cons_succ, List.set_cons_zero, List.set_cons_succ, List.length_cons, List.length_nil, Nat.zero_add, Nat.reduceAdd, Nat.reduceLeDiff, if_true, if_false, Bool.false_eq_true, decide_true, decide_false, Bool.not_true, Bool.not_false, Option.bind_some, oEq_int, oNe_int, oLt_int, oGt_int, oLe_int, oGe_int, oAdd_int, oSub_int, ix_t0, ix_t1, ix_t2, ix_l0, ix_l1, ix_l2, show ((0 : Nat) : Int) = 0 from rfl, show ((1 : Nat) : Int) = 1 from rfl, show ((2 : Nat) : Int) = 2 from rfl, show ((3 : Nat) : Int) = 3 from rfl, Int.reduceEq, Int.reduceLT, Int.reduceLE, d4], by show ((A : Nat) : Int).natAbs < _; rw [Int.natAbs_natCast]; exact b1⟩
    · have : s = 1 := by omega
      subst this
      exact ⟨0 - (A : Int), by simp only [sSeq, sSet, sPar, sIf, sNil, sRet, sExpr, sAsg, ofG, gTp, gC, gNm, gN, asT_tup, aCons, aNil, eCB, eVar, eVal, eBin, toB, bAnd, bOr, bNot, eIf, eTup, eLst, eAnd, eOr, eNot, eCallP, eCall, bind_ok, ofR_v, List.getElem?_cons_zero, List.getElem?_cons_succ, List.set_cons_zero, List.set_cons_succ, List.length_cons, List.length_nil, Nat.zero_add, Nat.reduceAdd, Nat.reduceLeDiff, if_true, if_false, Bool.false_eq_true, decide_true, decide_false, Bool.not_true, Bool.not_false, Option.bind_some, oEq_int, oNe_int, oLt_int, oGt_int, oLe_int, oGe_int, oAdd_int, oSub_int, ix_t0, ix_t1, ix_t2, ix_l0, ix_l1, ix_l2, show ((0 : Nat) : Int) = 0 from rfl, show ((1 : Nat) : Int) = 1 from rfl, show ((2 : Nat) : Int) = 2 from rfl, show ((3 : Nat) : Int) = 3 from rfl, Int.reduceEq, Int.reduceLT, Int.reduceLE, d4], by show (0 - (A : Int)).natAbs < _; rw [show (0 - (A : Int)).natAbs = A by omega]; exact b1⟩
  obtain ⟨t, e, bt⟩ := fin
  exact ⟨t, B, h4, fnOf_rt e, F4, bt, by show ((B : Nat) : Int).natAbs < _; rw [Int.natAbs_natCast]; exact b2, by omega⟩
theorem eq_self {v : Val} {d : PyData} (h : Hv) (e : toD h v = some d) (s : SeqAt.shaped d = true) (r : PyData.eqv d d = true) : oNe v v h = .ok (.bl false) h := by
  simp only [oNe, eqE, e, s, Bool.and_self, if_true, r, Bool.not_true]
theorem ne_t2 (a b : Int) (h : Hv) : oNe (.tup [.int a, .int b]) (.tup [.int a, .int b]) h = .ok (.bl false) h :=
  eq_self h (d := .tuple [.int a, .int b]) rfl (by simp [SeqAt.shaped, PyData.canLay0, PyData.depth, PyData.canLayAll0, PyData.depthAll]) (by simp [PyData.eqv, PyData.eqvAll])
theorem ne_t3 (a b c : Int) (h : Hv) : oNe (.tup [.int a, .int b, .int c]) (.tup [.int a, .int b, .int c]) h = .ok (.bl false) h :=
  eq_self h (d := .tuple [.int a, .int b, .int c]) rfl (by simp [SeqAt.shaped, PyData.canLay0, PyData.depth, PyData.canLayAll0, PyData.depthAll]) (by simp [PyData.eqv, PyData.eqvAll])
theorem ne_str (s : Str) (e : PyData.strOk s = true) (h : Hv) : oNe (.str s) (.str s) h = .ok (.bl false) h := by rw [oNe_str e e]; simp
theorem fracS_ok (p q : Int) : PyData.strOk (fracS p q) = true := strOk_of fun c hc => by have := fracS_signs c hc; omega
theorem ptS_ok (x y w : Int) : PyData.strOk (ptS x y w) = true := strOk_of fun c hc => by
  unfold ptS at hc
  rw [tl_append, tl_append] at hc
  rcases List.mem_append.mp hc with hc | hc
  · rcases List.mem_append.mp hc with hc | hc
    · have := fracS_signs c hc; omega
    · have : c ∈ [32] := hc
      have := List.mem_singleton.mp this
      omega
  · have := fracS_signs c hc; omega
end Law

set_option linter.all false
set_option autoImplicit false
set_option maxRecDepth 100000
set_option maxHeartbeats 2000000
set_option exponentiation.threshold 5000
namespace Law
open PySem L2 Eng TL PySem.NumText
theorem b990 {x : Int} (h : x.natAbs < 10 ^ 990) : Big x := Nat.lt_trans h (Nat.pow_lt_pow_right (by decide) (by decide))
theorem b990s {x : Int} (h : x.natAbs < 10 ^ 990) : Big (1 + (x.natAbs : Int)) := by
  have e : (10 : Nat) ^ 990 + 1 ≤ 10 ^ 1000 := by decide +kernel
  show (1 + (x.natAbs : Int)).natAbs < 10 ^ 1000
  generalize (10 : Nat) ^ 990 = P at *
  generalize (10 : Nat) ^ 1000 = R at *
  omega
abbrev inner : ST := sFor (iRg1 (eVal (.int 2))) (gNm 10)
    (sSeq (sSet 11 (eCallP 1 f_read_fraction (aCons (eVar 7) (aNil))))
    (sSeq (sSet 12 (eCallP 1 f_read_point (aCons (eVar 9) (aNil))))
    (sIf (bOr (bNot (toB (eCallP 1 f__law_all_whole (aCons (eVar 11) (aNil))))) (bOr (toB (eBin oNe (eVar 11) (eVar 6))) (bOr (bNot (toB (eCallP 1 f__law_all_whole (aCons (eVar 12) (aNil))))) (toB (eBin oNe (eVar 12) (eVar 8))))))
    (sRet (eVal (.bl false)))
    (sNil))))
abbrev rest : ST := sSeq (sSet 5 (eCallP 2 f__law_common (aCons (eVar 3) (aCons (eVar 4) (aNil)))))
    (sSeq (sSet 6 (eTup (aCons (eBin oFdiv (eVar 3) (eVar 5)) (aCons (eBin oFdiv (eVar 4) (eVar 5)) (aNil)))))
    (sSeq (sSet 7 (eCallP 2 f__law_shown (aCons (eVar 3) (aCons (eVar 4) (aNil)))))
    (sSeq (sIf (toB (eBin oNe (eCallP 1 f_show_fraction (aCons (eVar 6) (aNil))) (eVar 7)))
    (sRet (eVal (.bl false)))
    (sNil))
    (sSeq (sSet 8 (eCallP 3 f__law_lowest (aCons (eVar 3) (aCons (eCall 2 f__law_number (aCons (eVar 1) (aCons (eVal (.int 490)) (aNil)))) (aCons (eBin oAdd (eVal (.int 1)) (eCB cAbs (aCons (eCall 2 f__law_number (aCons (eVar 1) (aCons (eVal (.int 490)) (aNil)))) (aNil)))) (aNil))))))
    (sSeq (sSet 9 (eCallP 1 f__law_point_shown (aCons (eVar 8) (aNil))))
    (sSeq (sIf (toB (eBin oNe (eCallP 1 f_show_point (aCons (eVar 8) (aNil))) (eVar 9)))
    (sRet (eVal (.bl false)))
    (sNil))
    inner))))))
theorem cP_lowest (x y w : Int) (hw : 0 < w) (h : Hv) : callP 3 f__law_lowest [.int x, .int y, .int w] h =
    .ok (.tup [.int (x / (Int.gcd (Int.gcd x y : Nat) w : Nat)), .int (y / (Int.gcd (Int.gcd x y : Nat) w : Nat)), .int (w / (Int.gcd (Int.gcd x y : Nat) w : Nat))]) h := callP_imm (f__law_lowest_eq x y w hw [])
theorem whole2 (a b : Int) (h : Hv) : callP 1 f__law_all_whole [.tup [.int a, .int b]] h = .ok (.bl true) h := callP_imm (f__law_all_whole_eq [a, b] (by simp) [])
theorem whole3 (a b c : Int) (h : Hv) : callP 1 f__law_all_whole [.tup [.int a, .int b, .int c]] h = .ok (.bl true) h := callP_imm (f__law_all_whole_eq [a, b, c] (by simp) [])
theorem inner_eq (S : Option Val) (o2 o3 o4 o5 o10 o11 o12 : Option Val) (p q x y w : Int) (hp : Big p) (hq : Big q) (q1 : 0 < q) (g : Int.gcd p q = 1) (hw : 0 < w) (bx : Big x) (by' : Big y) (bw : Big w) (g3 : Int.gcd (Int.gcd x y : Nat) w = 1) (h : Hv) :
    ∃ a b c, inner [S, some (.ref 0), o2, o3, o4, o5, some (.tup [.int p, .int q]), some (.str (fracS p q)), some (.tup [.int x, .int y, .int w]), some (.str (ptS x y w)), o10, o11, o12] h =
      .nx [S, some (.ref 0), o2, o3, o4, o5, some (.tup [.int p, .int q]), some (.str (fracS p q)), some (.tup [.int x, .int y, .int w]), some (.str (ptS x y w)), a, b, c] h := by
  have c1 : ∀ h, callP 1 f_read_fraction [.str (fracS p q)] h = .ok (.tup [.int p, .int q]) h := fun h => cP_read_fraction p q hp hq q1 g h
  have c2 : ∀ h, callP 1 f_read_point [.str (ptS x y w)] h = .ok (.tup [.int x, .int y, .int w]) h := fun h => callP_imm (f_read_point_eq x y w hw bx by' bw g3 [])
  refine ⟨some (.int (0 + ((1 : Nat) : Int))), some (.tup [.int p, .int q]), some (.tup [.int x, .int y, .int w]), ?_⟩
  have ir : ∀ ρ, iRg1 (eVal (.int 2)) ρ h = .ok [.int (0 + ((0 : Nat) : Int)), .int (0 + ((1 : Nat) : Int))] h := fun ρ => rfl
  simp only [inner, sFor, ir, ofR_v, forL, gNm, List.set_cons_zero, List.set_cons_succ]
  simp only [sSeq, sSet, sPar, sIf, sNil, sRet, sExpr, sAsg, ofG, gTp, gC, gNm, gN, asT_tup, aCons, aNil, eCB, eVar, eVal, eBin, toB, bAnd, bOr, bNot, eIf, eTup, eLst, eAnd, eOr, eNot, eCallP, eCall, bind_ok, ofR_v, List.getElem?_cons_zero, List.getElem?_cons_succ, List.set_cons_zero, List.set_cons_succ, List.length_cons, List.length_nil, Nat.zero_add, Nat.reduceAdd, Nat.reduceLeDiff, if_true, if_false, Bool.false_eq_true, decide_true, decide_false, Bool.not_true, Bool.not_false, Option.bind_some, oEq_int, oNe_int, oLt_int, oGt_int, oLe_int, oGe_int, oAdd_int, oSub_int, ix_t0, ix_t1, ix_t2, ix_l0, ix_l1, ix_l2, show ((0 : Nat) : Int) = 0 from rfl, show ((1 : Nat) : Int) = 1 from rfl, show ((2 : Nat) : Int) = 2 from rfl, show ((3 : Nat) : Int) = 3 from rfl, Int.reduceEq, Int.reduceLT, Int.reduceLE, c1, c2, whole2, whole3, ne_t2, ne_t3]
theorem rest_eq (S : Option Val) (o2 o5 o6 o7 o8 o9 o10 o11 o12 : Option Val) (t b : Int) (ht : Big t) (hb : Big b) (b0 : 0 < b) {n : Nat} {h : Hv} (hn : n + 100 < 1000000) (F : Feed n h) :
    ∃ o3 o4 o5' o6' o7' o8' o9' o10' o11' o12' h', rest [S, some (.ref 0), o2, some (.int t), some (.int b), o5, o6, o7, o8, o9, o10, o11, o12] h =
      .nx [S, some (.ref 0), o2, o3, o4, o5', o6', o7', o8', o9', o10', o11', o12'] h' ∧ Feed (n + 80) h' := by
  obtain ⟨y0, h1, d1, F1, by0⟩ := f__law_number_eq (most := 490) (show n + 40 < 1000000 by omega) (.inr rfl) F
  obtain ⟨w0, h2, d2, F2, bw0⟩ := f__law_number_eq (most := 490) (show n + 40 + 40 < 1000000 by omega) (.inr rfl) F1
  have g := gcd_pos (a := t) b0
  have g0 : ((Int.gcd t b : Nat) : Int) ≠ 0 := by omega
  have g1 : (0 : Int) ≤ (Int.gcd t b : Nat) := by omega
  have hw0 : 0 < 1 + (w0.natAbs : Int) := by omega
  have hw := ediv_pos hw0 (Int.gcd_dvd_right (Int.gcd t y0 : Nat) (1 + (w0.natAbs : Int)))
  have g3 := gcd_red3 (x := t) (y := y0) hw0
  have bx := ht.div (Int.gcd (Int.gcd t y0 : Nat) (1 + (w0.natAbs : Int)) : Nat)
  have by' := (b990 by0).div (Int.gcd (Int.gcd t y0 : Nat) (1 + (w0.natAbs : Int)) : Nat)
  have bw := (b990s bw0).div (Int.gcd (Int.gcd t y0 : Nat) (1 + (w0.natAbs : Int)) : Nat)
  have lo : ∀ h, callP 3 f__law_lowest [.int t, .int y0, .int (1 + (w0.natAbs : Int))] h = _ := fun h => cP_lowest t y0 _ hw0 h
  generalize t / (Int.gcd (Int.gcd t y0 : Nat) (1 + (w0.natAbs : Int)) : Nat) = x at *
  generalize y0 / (Int.gcd (Int.gcd t y0 : Nat) (1 + (w0.natAbs : Int)) : Nat) = y at *
  generalize (1 + (w0.natAbs : Int)) / (Int.gcd (Int.gcd t y0 : Nat) (1 + (w0.natAbs : Int)) : Nat) = w at *
  have c3 : ∀ h, callP 1 f__law_point_shown [.tup [.int x, .int y, .int w]] h = .ok (.str (ptS x y w)) h := fun h => callP_imm (f__law_point_shown_eq x y w hw bx by' bw [])
  have c4 : ∀ h, callP 1 f_show_point [.tup [.int x, .int y, .int w]] h = .ok (.str (ptS x y w)) h := fun h => callP_imm (f_show_point_eq x y w hw bx by' bw [])
  have red := gcd_red (a := t) b0
  have q1 := ediv_pos b0 (Int.gcd_dvd_right t b)
  have hp := ht.div (Int.gcd t b : Nat)
  have hq := hb.div (Int.gcd t b : Nat)
  have c5 : ∀ h, callP 2 f__law_shown [.int t, .int b] h = .ok (.str (fracS (t / (Int.gcd t b : Nat)) (b / (Int.gcd t b : Nat)))) h := fun h => cP__law_shown t b b0 ht hb h
  have fd1 : ∀ h, oFdiv (.int t) (.int (Int.gcd t b : Nat)) h = .ok (.int (t / (Int.gcd t b : Nat))) h := fun h => by rw [oFdiv_int h g0, fdiv_e _ g1]
  have fd2 : ∀ h, oFdiv (.int b) (.int (Int.gcd t b : Nat)) h = .ok (.int (b / (Int.gcd t b : Nat))) h := fun h => by rw [oFdiv_int h g0, fdiv_e _ g1]
  generalize t / (Int.gcd t b : Nat) = p at *
  generalize b / (Int.gcd t b : Nat) = q at *
  have c6 : ∀ h, callP 1 f_show_fraction [.tup [.int p, .int q]] h = .ok (.str (fracS p q)) h := fun h => cP_show_fraction p q hp hq h
  obtain ⟨a, b', c, ei⟩ := inner_eq S o2 (some (.int t)) (some (.int b)) (some (.int (Int.gcd t b : Nat))) o10 o11 o12 p q x y w hp hq q1 red hw bx by' bw g3 h2
  refine ⟨some (.int t), some (.int b), some (.int (Int.gcd t b : Nat)), some (.tup [.int p, .int q]), some (.str (fracS p q)), some (.tup [.int x, .int y, .int w]), some (.str (ptS x y w)), a, b', c, h2, ?_, F2⟩
  unfold rest
  generalize inner = I at ei ⊢
  simp only [sSeq, sSet, sPar, sIf, sNil, sRet, sExpr, sAsg, ofG, gTp, gC, gNm, gN, asT_tup, aCons, aNil, eCB, eVar, eVal, eBin, toB, bAnd, bOr, bNot, eIf, eTup, eLst, eAnd, eOr, eNot, eCallP, eCall, bind_ok, ofR_v, List.getElem?_cons_zero, List.getElem?_cons_succ, List.set_cons_zero, List.set_cons_succ, List.length_cons, List.length_nil, Nat.zero_add, Nat.reduceAdd, Nat.reduceLeDiff, if_true, if_false, Bool.false_eq_true, decide_true, decide_false, Bool.not_true, Bool.not_false, Option.bind_some, oEq_int, oNe_int, oLt_int, oGt_int, oLe_int, oGe_int, oAdd_int, oSub_int, ix_t0, ix_t1, ix_t2, ix_l0, ix_l1, ix_l2, show ((0 : Nat) : Int) = 0 from rfl, show ((1 : Nat) : Int) = 1 from rfl, show ((2 : Nat) : Int) = 2 from rfl, show ((3 : Nat) : Int) = 3 from rfl, Int.reduceEq, Int.reduceLT, Int.reduceLE, cP__law_common, fd1, fd2, c5, c6, ne_str _ (fracS_ok p q), d1, d2, cAbs, abs_natAbs, lo, c3, c4, ne_str _ (ptS_ok x y w)]
  exact ei
abbrev bodyT : ST := sSeq (sSet 3 (eCall 2 f__law_number (aCons (eVar 1) (aCons (eVal (.int 990)) (aNil)))))
    (sSeq (sSet 4 (eBin oAdd (eVal (.int 1)) (eBin oMul (eCB cAbs (aCons (eCall 2 f__law_number (aCons (eVar 1) (aCons (eVal (.int 990)) (aNil)))) (aNil))) (eCall 2 f__law_draw (aCons (eVar 1) (aCons (eVal (.int 2)) (aNil)))))))
    (sSeq (sIf (bAnd (toB (eBin oEq (eVar 2) (eVal (.int 0)))) (toB (eBin oEq (eCall 2 f__law_draw (aCons (eVar 1) (aCons (eVal (.int 4)) (aNil)))) (eVal (.int 0)))))
    (sAsg (eCall 1 f__law_neighbours (aCons (eVar 1) (aNil))) (gTp 2 (gC (gNm 3) (gC (gNm 4) (gN)))))
    (sNil))
    rest))
theorem body_eq (S : Option Val) (j : Int) (o3 o4 o5 o6 o7 o8 o9 o10 o11 o12 : Option Val) {n : Nat} {h : Hv} (hn : n + 300 < 1000000) (F : Feed n h) :
    ∃ o3' o4' o5' o6' o7' o8' o9' o10' o11' o12' h', bodyT [S, some (.ref 0), some (.int j), o3, o4, o5, o6, o7, o8, o9, o10, o11, o12] h =
      .nx [S, some (.ref 0), some (.int j), o3', o4', o5', o6', o7', o8', o9', o10', o11', o12'] h' ∧ Feed (n + 200) h' := by
  obtain ⟨t, h1, d1, F1, bt⟩ := f__law_number_eq (most := 990) (show n + 40 < 1000000 by omega) (.inl rfl) F
  obtain ⟨x, h2, d2, F2, bx⟩ := f__law_number_eq (most := 990) (show n + 40 + 40 < 1000000 by omega) (.inl rfl) F1
  obtain ⟨s, h3, d3, F3, s0, s1⟩ := f__law_draw_eq (m := 2) (show n + 40 + 40 < 1000000 by omega) (by decide) F2
  have fit : intFits (x.natAbs : Int) s = true := Big.fits (by show ((x.natAbs : Nat) : Int).natAbs < _; rw [Int.natAbs_natCast]; exact b990 bx) (Big.small (by
    have : s.natAbs < 2 := by omega
    exact Nat.lt_trans this (by decide +kernel)))
  have bb : Big (1 + (x.natAbs : Int) * s) ∧ 0 < 1 + (x.natAbs : Int) * s := by
    by_cases hs : s = 0
    · subst hs
      rw [Int.mul_zero]
      exact ⟨Big.small (by decide +kernel), by decide⟩
    · have : s = 1 := by omega
      subst this
      rw [Int.mul_one]
      exact ⟨b990s bx, by omega⟩
  have mid : ∃ (t' b' : Int) (h4 : Hv), Feed (n + 90) h4 ∧ Big t' ∧ Big b' ∧ 0 < b' ∧ ∀ r : ST, sSeq (sIf (bAnd (toB (eBin oEq (eVar 2) (eVal (.int 0)))) (toB (eBin oEq (eCall 2 f__law_draw (aCons (eVar 1) (aCons (eVal (.int 4)) (aNil)))) (eVal (.int 0)))))
      (sAsg (eCall 1 f__law_neighbours (aCons (eVar 1) (aNil))) (gTp 2 (gC (gNm 3) (gC (gNm 4) (gN))))) (sNil)) r
      [S, some (.ref 0), some (.int j), some (.int t), some (.int (1 + (x.natAbs : Int) * s)), o5, o6, o7, o8, o9, o10, o11, o12] h3 = r [S, some (.ref 0), some (.int j), some (.int t'), some (.int b'), o5, o6, o7, o8, o9, o10, o11, o12] h4 := by
    by_cases j0 : j = 0
    · obtain ⟨u, h4, d4, F4, u0, u1⟩ := f__law_draw_eq (m := 4) (show n + 40 + 40 + 1 < 1000000 by omega) (by decide) F3
      by_cases hu : u = 0
      · obtain ⟨t', b', h5, d5, F5, bt', bb', b0'⟩ := f__law_neighbours_eq (show n + 40 + 40 + 1 + 1 < 1000000 by omega) F4
        refine ⟨t', b', h5, F5.mono (by omega), bt', bb', b0', fun r => ?_⟩
        simp only [sSeq, sSet, sPar, sIf, sNil, sRet, sExpr, sAsg, ofG, gTp, gC, gNm, gN, asT_tup, aCons, aNil, eCB, eVar, eVal, eBin, toB, bAnd, bOr, bNot, eIf, eTup, eLst, eAnd, eOr, eNot, eCallP, eCall, bind_ok, ofR_v, List.getElem?_cons_zero, List.getElem?_cons_succ, List.set_cons_zero, List.set_cons_succ, List.length_cons, List.length_nil, Nat.zero_add, Nat.reduceAdd, Nat.reduceLeDiff, if_true, if_false, Bool.false_eq_true, decide_true, decide_false, Bool.not_true, Bool.not_false, Option.bind_some, oEq_int, oNe_int, oLt_int, oGt_int, oLe_int, oGe_int, oAdd_int, oSub_int, ix_t0, ix_t1, ix_t2, ix_l0, ix_l1, ix_l2, show ((0 : Nat) : Int) = 0 from rfl, show ((1 : Nat) : Int) = 1 from rfl, show ((2 : Nat) : Int) = 2 from rfl, show ((3 : Nat) : Int) = 3 from rfl, Int.reduceEq, Int.reduceLT, Int.reduceLE, j0, d4, hu, d5]
      · refine ⟨t, _, h4, F4.mono (by omega), b990 bt, bb.1, bb.2, fun r => ?_⟩
        simp only [sSeq, sSet, sPar, sIf, sNil, sRet, sExpr, sAsg, ofG, gTp, gC, gNm, gN, asT_tup, aCons, aNil, eCB, eVar, eVal, eBin, toB, bAnd, bOr, bNot, eIf, eTup, eLst, eAnd, eOr, eNot, eCallP, eCall, bind_ok, ofR_v, List.getElem?_cons_zero, List.getElem?_cons_succ, List.set_cons_zero, List.set_cons_succ, List.length_cons, List.length_nil, Nat.zero_add, Nat.reduceAdd, Nat.reduceLeDiff, if_true, if_false, Bool.false_eq_true, decide_true, decide_false, Bool.not_true, Bool.not_false, Option.bind_some, oEq_int, oNe_int, oLt_int, oGt_int, oLe_int, oGe_int, oAdd_int, oSub_int, ix_t0, ix_t1, ix_t2, ix_l0, ix_l1, ix_l2, show ((0 : Nat) : Int) = 0 from rfl, show ((1 : Nat) : Int) = 1 from rfl, show ((2 : Nat) : Int) = 2 from rfl, show ((3 : Nat) : Int) = 3 from rfl, Int.reduceEq, Int.reduceLT, Int.reduceLE, j0, d4, hu]
    · refine ⟨t, _, h3, F3.mono (by omega), b990 bt, bb.1, bb.2, fun r => ?_⟩
      simp only [sSeq, sSet, sPar, sIf, sNil, sRet, sExpr, sAsg, ofG, gTp, gC, gNm, gN, asT_tup, aCons, aNil, eCB, eVar, eVal, eBin, toB, bAnd, bOr, bNot, eIf, eTup, eLst, eAnd, eOr, eNot, eCallP, eCall, bind_ok, ofR_v, List.getElem?_cons_zero, List.getElem?_cons_succ, List.set_cons_zero, List.set_cons_succ, List.length_cons, List.length_nil, Nat.zero_add, Nat.reduceAdd, Nat.reduceLeDiff, if_true, if_false, Bool.false_eq_true, decide_true, decide_false, Bool.not_true, Bool.not_false, Option.bind_some, oEq_int, oNe_int, oLt_int, oGt_int, oLe_int, oGe_int, oAdd_int, oSub_int, ix_t0, ix_t1, ix_t2, ix_l0, ix_l1, ix_l2, show ((0 : Nat) : Int) = 0 from rfl, show ((1 : Nat) : Int) = 1 from rfl, show ((2 : Nat) : Int) = 2 from rfl, show ((3 : Nat) : Int) = 3 from rfl, Int.reduceEq, Int.reduceLT, Int.reduceLE, j0]
  obtain ⟨t', b', h4, F4, bt', bb', b0', em⟩ := mid
  obtain ⟨p3, p4, p5, p6, p7, p8, p9, p10, p11, p12, h5, er, F5⟩ := rest_eq S (some (.int j)) o5 o6 o7 o8 o9 o10 o11 o12 t' b' bt' bb' b0' (show n + 90 + 100 < 1000000 by omega) F4
  refine ⟨p3, p4, p5, p6, p7, p8, p9, p10, p11, p12, h5, ?_, F5.mono (by omega)⟩
  have pre : ∀ r : ST, sSeq (sSet 3 (eCall 2 f__law_number (aCons (eVar 1) (aCons (eVal (.int 990)) (aNil)))))
    (sSeq (sSet 4 (eBin oAdd (eVal (.int 1)) (eBin oMul (eCB cAbs (aCons (eCall 2 f__law_number (aCons (eVar 1) (aCons (eVal (.int 990)) (aNil)))) (aNil))) (eCall 2 f__law_draw (aCons (eVar 1) (aCons (eVal (.int 2)) (aNil))))))) r)
      [S, some (.ref 0), some (.int j), o3, o4, o5, o6, o7, o8, o9, o10, o11, o12] h = r [S, some (.ref 0), some (.int j), some (.int t), some (.int (1 + (x.natAbs : Int) * s)), o5, o6, o7, o8, o9, o10, o11, o12] h3 := fun r => by
    simp only [sSeq, sSet, sPar, sIf, sNil, sRet, sExpr, sAsg, ofG, gTp, gC, gNm, gN, asT_tup, aCons, aNil, eCB, eVar, eVal, eBin, toB, bAnd, bOr, bNot, eIf, eTup, eLst, eAnd, eOr, eNot, eCallP, eCall, bind_ok, ofR_v, List.getElem?_cons_zero, List.getElem?_cons_succ, List.set_cons_zero, List.set_cons_succ, List.length_cons, List.length_nil, Nat.zero_add, Nat.reduceAdd, Nat.reduceLeDiff, if_true, if_false, Bool.false_eq_true, decide_true, decide_false, Bool.not_true, Bool.not_false, Option.bind_some, oEq_int, oNe_int, oLt_int, oGt_int, oLe_int, oGe_int, oAdd_int, oSub_int, ix_t0, ix_t1, ix_t2, ix_l0, ix_l1, ix_l2, show ((0 : Nat) : Int) = 0 from rfl, show ((1 : Nat) : Int) = 1 from rfl, show ((2 : Nat) : Int) = 2 from rfl, show ((3 : Nat) : Int) = 3 from rfl, Int.reduceEq, Int.reduceLT, Int.reduceLE, d1, d2, cAbs, abs_natAbs, d3, oMul_int _ fit]
  unfold bodyT
  rw [pre, em, er]
end Law

set_option linter.all false
set_option autoImplicit false
set_option maxRecDepth 100000
set_option maxHeartbeats 2000000
set_option exponentiation.threshold 5000
namespace Law
open PySem L2 Eng TL PySem.NumText
abbrev lawIt : EI := iRg1 (eBin oAdd (eVal (.int 2)) (eCB cMin2 (aCons (eVal (.int 4)) (aCons (eCB cLen (aCons (eVar 0) (aNil))) (aNil)))))
theorem t_law_eq : t_law = sSeq (sSet 1 (eCall 1 f__law_feed (aCons (eVar 0) (aNil)))) (sSeq (sFor lawIt (gNm 2) bodyT) (sRet (eVal (.bl true)))) := rfl
theorem data (ns : List Int) (hl : ns.length ≤ 63) (hb : ∀ z ∈ ns, Builtin.Int.intBits z ≤ 1048576) : ∃ h', f_law [.lst (ns.map .int)] [] = .ok (.bl true) h' := by
  obtain ⟨h0, d0, F0⟩ := f__law_feed_eq ns
  have bo : ∃ N : Nat, N ≤ 6 ∧ ∀ h, lawIt [some (.lst (ns.map .int)), some (.ref 0), none, none, none, none, none, none, none, none, none, none, none] h = .ok (Eng.upTo 0 N) h := by
    have e : ∃ m : Int, 0 ≤ m ∧ m ≤ 6 ∧ ∀ h, eBin oAdd (eVal (.int 2)) (eCB cMin2 (aCons (eVal (.int 4)) (aCons (eCB cLen (aCons (eVar 0) (aNil))) (aNil))))
      [some (.lst (ns.map .int)), some (.ref 0), none, none, none, none, none, none, none, none, none, none, none] h = .ok (.int m) h := by
      by_cases c : (ns.length : Int) < 4
      · refine ⟨2 + (ns.length : Int), by omega, by omega, fun h => ?_⟩
        simp only [sSeq, sSet, sPar, sIf, sNil, sRet, sExpr, sAsg, ofG, gTp, gC, gNm, gN, asT_tup, aCons, aNil, eCB, eVar, eVal, eBin, toB, bAnd, bOr, bNot, eIf, eTup, eLst, eAnd, eOr, eNot, eCallP, eCall, bind_ok, ofR_v, List.getElem?_cons_zero, List.getElem?_cons_succ, List.set_cons_zero, List.set_cons_succ, List.length_cons, List.length_nil, Nat.zero_add, Nat.reduceAdd, Nat.reduceLeDiff, if_true, if_false, Bool.false_eq_true, decide_true, decide_false, Bool.not_true, Bool.not_false, Option.bind_some, oEq_int, oNe_int, oLt_int, oGt_int, oLe_int, oGe_int, oAdd_int, oSub_int, ix_t0, ix_t1, ix_t2, ix_l0, ix_l1, ix_l2, show ((0 : Nat) : Int) = 0 from rfl, show ((1 : Nat) : Int) = 1 from rfl, show ((2 : Nat) : Int) = 2 from rfl, show ((3 : Nat) : Int) = 3 from rfl, Int.reduceEq, Int.reduceLT, Int.reduceLE, len_lst, List.length_map, cMin2, c]
      · refine ⟨2 + 4, by omega, by omega, fun h => ?_⟩
        simp only [sSeq, sSet, sPar, sIf, sNil, sRet, sExpr, sAsg, ofG, gTp, gC, gNm, gN, asT_tup, aCons, aNil, eCB, eVar, eVal, eBin, toB, bAnd, bOr, bNot, eIf, eTup, eLst, eAnd, eOr, eNot, eCallP, eCall, bind_ok, ofR_v, List.getElem?_cons_zero, List.getElem?_cons_succ, List.set_cons_zero, List.set_cons_succ, List.length_cons, List.length_nil, Nat.zero_add, Nat.reduceAdd, Nat.reduceLeDiff, if_true, if_false, Bool.false_eq_true, decide_true, decide_false, Bool.not_true, Bool.not_false, Option.bind_some, oEq_int, oNe_int, oLt_int, oGt_int, oLe_int, oGe_int, oAdd_int, oSub_int, ix_t0, ix_t1, ix_t2, ix_l0, ix_l1, ix_l2, show ((0 : Nat) : Int) = 0 from rfl, show ((1 : Nat) : Int) = 1 from rfl, show ((2 : Nat) : Int) = 2 from rfl, show ((3 : Nat) : Int) = 3 from rfl, Int.reduceEq, Int.reduceLT, Int.reduceLE, len_lst, List.length_map, cMin2, c]
    obtain ⟨m, m0, m1, em⟩ := e
    refine ⟨m.toNat, by omega, fun h => ?_⟩
    unfold lawIt iRg1
    rw [em, bind_ok]
    exact if_pos (by omega)
  obtain ⟨N, hN, hI⟩ := bo
  obtain ⟨ρ', h', e1, _⟩ := forL_inv (g := gNm 2) (s := bodyT)
    (fun i ρ h => ∃ o2 o3 o4 o5 o6 o7 o8 o9 o10 o11 o12 : Option Val, ρ = [some (.lst (ns.map .int)), some (.ref 0), o2, o3, o4, o5, o6, o7, o8, o9, o10, o11, o12] ∧ Feed (200 * i) h) (Eng.upTo 0 N) 0
    [some (.lst (ns.map .int)), some (.ref 0), none, none, none, none, none, none, none, none, none, none, none] h0 (by
      intro j v ρ h ev ⟨o2, o3, o4, o5, o6, o7, o8, o9, o10, o11, o12, e, F⟩
      subst e
      obtain ⟨rfl, hj⟩ := forR 0 j ev
      obtain ⟨p3, p4, p5, p6, p7, p8, p9, p10, p11, p12, h2, e2, F2⟩ := body_eq (some (.lst (ns.map .int))) (0 + (j : Int)) o3 o4 o5 o6 o7 o8 o9 o10 o11 o12 (show 200 * (0 + j) + 300 < 1000000 by omega) F
      exact ⟨_, h, rfl, _, h2, e2, _, p3, p4, p5, p6, p7, p8, p9, p10, p11, p12, rfl, F2.mono (by omega)⟩)
    ⟨none, none, none, none, none, none, none, none, none, none, none, rfl, F0⟩
  refine ⟨h', ?_⟩
  have es : sFor lawIt (gNm 2) bodyT [some (.lst (ns.map .int)), some (.ref 0), none, none, none, none, none, none, none, none, none, none, none] h0 = .nx ρ' h' := by
    unfold sFor
    rw [hI, ofR_v, e1]
  have pre : ∀ r : ST, sSeq (sSet 1 (eCall 1 f__law_feed (aCons (eVar 0) (aNil)))) r [some (.lst (ns.map .int)), none, none, none, none, none, none, none, none, none, none, none, none] [] =
      r [some (.lst (ns.map .int)), some (.ref 0), none, none, none, none, none, none, none, none, none, none, none] h0 := fun r => by
    simp only [sSeq, sSet, sPar, sIf, sNil, sRet, sExpr, sAsg, ofG, gTp, gC, gNm, gN, asT_tup, aCons, aNil, eCB, eVar, eVal, eBin, toB, bAnd, bOr, bNot, eIf, eTup, eLst, eAnd, eOr, eNot, eCallP, eCall, bind_ok, ofR_v, List.getElem?_cons_zero, List.getElem?_cons_succ, List.set_cons_zero, List.set_cons_succ, List.length_cons, List.length_nil, Nat.zero_add, Nat.reduceAdd, Nat.reduceLeDiff, if_true, if_false, Bool.false_eq_true, decide_true, decide_false, Bool.not_true, Bool.not_false, Option.bind_some, oEq_int, oNe_int, oLt_int, oGt_int, oLe_int, oGe_int, oAdd_int, oSub_int, ix_t0, ix_t1, ix_t2, ix_l0, ix_l1, ix_l2, show ((0 : Nat) : Int) = 0 from rfl, show ((1 : Nat) : Int) = 1 from rfl, show ((2 : Nat) : Int) = 2 from rfl, show ((3 : Nat) : Int) = 3 from rfl, Int.reduceEq, Int.reduceLT, Int.reduceLE, d0]
  have : t_law [some (.lst (ns.map .int)), none, none, none, none, none, none, none, none, none, none, none, none] [] = .rt (.bl true) h' := by
    rw [t_law_eq, pre]
    unfold sSeq
    rw [es]
    rfl
  exact fnOf_rt this
end Law

namespace Law
open PySem L2 PySem.Spec PyProof.Rows Eng
theorem fin {P : Program} {w : World} {K : PySem.W.Frag} {h : Heap} {mg : Str → Option Value} {fa f : Addr} {oc : Value} {od : Option Addr} {kV doc pm : Value} {an : Option Addr} {cdv ct : Value} {osl : Array (Option Value)} {u_FIGURES : Value} {u_MOST_FIGURES : Value} (X : K.In h) (G : h.Ns mainGlobals mg) (hfa : mg "law" = some (.ref fa))
    (dg : PySem.W.nsIn K cStatics "sys.int_max_str_digits" = some none)
    (b_abs : PySem.W.nsIn K mainGlobals "abs" = some none)
    (b_all : PySem.W.nsIn K mainGlobals "all" = some none)
    (b_bool : PySem.W.nsIn K mainGlobals "bool" = some none)
    (b_int : PySem.W.nsIn K mainGlobals "int" = some none)
    (b_isinstance : PySem.W.nsIn K mainGlobals "isinstance" = some none)
    (b_len : PySem.W.nsIn K mainGlobals "len" = some none)
    (b_list : PySem.W.nsIn K mainGlobals "list" = some none)
    (b_min : PySem.W.nsIn K mainGlobals "min" = some none)
    (b_range : PySem.W.nsIn K mainGlobals "range" = some none)
    (b_str : PySem.W.nsIn K mainGlobals "str" = some none)
    (b_tuple : PySem.W.nsIn K mainGlobals "tuple" = some none)
    (g_FIGURES : PySem.W.nsIn K mainGlobals "FIGURES" = some (some u_FIGURES)) (r_FIGURES : RelV (.str "0123456789") u_FIGURES)
    (g_MOST_FIGURES : PySem.W.nsIn K mainGlobals "MOST_FIGURES" = some (some u_MOST_FIGURES)) (r_MOST_FIGURES : RelV (.int 1000) u_MOST_FIGURES)
    (D : Defs K)
    (a : PySem.W.nsIn K mainGlobals "law" = some (some (.ref f))) (l : K.lookup f = some ⟨oc, od, .func (PySem.W.fnOf "law" "law" (defArgs sd_law) (defBody sd_law) (defScope sd_law) .none kV doc pm an cdv ct), osl⟩) (c : PySem.W.codeIn K cdv "law" = true) (kp : PySem.W.keepIn K (.ref f) = true)
    (data : ∀ ns : List Int, ns.length ≤ 63 → (∀ z ∈ ns, Builtin.Int.intBits z ≤ 1048576) → ∃ h', f_law [.lst (ns.map .int)] [] = .ok (.bl true) h') :
    PySem.W.nsIn K cStatics "sys.int_max_str_digits" = some none ∧ ∃ (Γ : Eng.G) (fd : FuncData) (Fl : Fn), Γ.K = K ∧ (∀ (s : Shared) (u : Value), BindsTo s fd ⟨[u], []⟩ [("_law_script", u)]) ∧
      (∀ base : Heap, K.In base → base.Ns mainGlobals mg → Top P base → FnOk P w K mg base (L2.CX P w) 81 fa fd ["_law_script"] (spF Γ 1 Fl)) ∧
      ∀ ns : List Int, ns.length ≤ 63 → (∀ z ∈ ns, Builtin.Int.intBits z ≤ 1048576) → ∃ h', Fl [.lst (ns.map .int)] [] = .ok (.bl true) h' := by
  have ef := hfa.symm.trans (PySem.W.mg_of X G a)
  cases ef
  have U : Bt mg := ⟨PySem.W.mg_none_of X G b_abs, PySem.W.mg_none_of X G b_all, PySem.W.mg_none_of X G b_bool, PySem.W.mg_none_of X G b_int, PySem.W.mg_none_of X G b_isinstance, PySem.W.mg_none_of X G b_len, PySem.W.mg_none_of X G b_list, PySem.W.mg_none_of X G b_min, PySem.W.mg_none_of X G b_range, PySem.W.mg_none_of X G b_str, PySem.W.mg_none_of X G b_tuple, ⟨_, PySem.W.mg_of X G g_FIGURES, r_FIGURES⟩, ⟨_, PySem.W.mg_of X G g_MOST_FIGURES, r_MOST_FIGURES⟩⟩
  exact ⟨dg, ⟨K, fun _ => none, fun _ => []⟩, _, f_law, rfl, fun s v => .of_eq rfl, fun base _ _ T => whole (Γ := ⟨K, fun _ => none, fun _ => []⟩) T X G U D l c kp, data⟩
end Law
open PySem PySem.W PyProof.Rows
set_option maxRecDepth 100000 in
set_option maxHeartbeats 0 in
theorem PySem.Challenge.cw_nearlands_k87_fractions_and_points_shown_holds : PySem.Challenge.rw_nearlands_k87_fractions_and_points_shown.Holds := by
  w_on; o_law; k_head; (case hw => w_witness2)
  k_fill
  refine Eng.law_end (l := PySem.Challenge.rw_nearlands_k87_fractions_and_points_shown) (x := "_law_script") (k := 81) rfl rfl (by decide +kernel) rfl ⟨rfl, by decide, by decide⟩ (fun w h Y => PySem.W.kIn_of Y) ?F
  case F =>
    intro w mg fa h KX G hmg
    refine' Law.fin KX G hmg ?dg ?b_abs ?b_all ?b_bool ?b_int ?b_isinstance ?b_len ?b_list ?b_min ?b_range ?b_str ?b_tuple ?g_FIGURES ?r_FIGURES ?g_MOST_FIGURES ?r_MOST_FIGURES ?D ?a ?l ?c ?kp Law.data
    (case dg => k_is)
    (case b_abs => k_is)
    (case b_all => k_is)
    (case b_bool => k_is)
    (case b_int => k_is)
    (case b_isinstance => k_is)
    (case b_len => k_is)
    (case b_list => k_is)
    (case b_min => k_is)
    (case b_range => k_is)
    (case b_str => k_is)
    (case b_tuple => k_is)
    (case g_FIGURES => k_is); (case r_FIGURES => exact ⟨_, rfl⟩)
    (case g_MOST_FIGURES => k_is); (case r_MOST_FIGURES => exact ⟨_, rfl⟩)
    (case D =>
      constructor
      · refine' Eng.FnAt.mk' ?a0 ?l0 ?c0 ?kp0; (case a0 => k_is); (case l0 => k_is); (case c0 => k_is); (case kp0 => k_is)
      · refine' Eng.FnAt.mk' ?a1 ?l1 ?c1 ?kp1; (case a1 => k_is); (case l1 => k_is); (case c1 => k_is); (case kp1 => k_is)
      · refine' Eng.FnAt.mk' ?a2 ?l2 ?c2 ?kp2; (case a2 => k_is); (case l2 => k_is); (case c2 => k_is); (case kp2 => k_is)
      · refine' Eng.FnAt.mk' ?a3 ?l3 ?c3 ?kp3; (case a3 => k_is); (case l3 => k_is); (case c3 => k_is); (case kp3 => k_is)
      · refine' Eng.FnAt.mk' ?a4 ?l4 ?c4 ?kp4; (case a4 => k_is); (case l4 => k_is); (case c4 => k_is); (case kp4 => k_is)
      · refine' Eng.FnAt.mk' ?a5 ?l5 ?c5 ?kp5; (case a5 => k_is); (case l5 => k_is); (case c5 => k_is); (case kp5 => k_is)
      · refine' Eng.FnAt.mk' ?a6 ?l6 ?c6 ?kp6; (case a6 => k_is); (case l6 => k_is); (case c6 => k_is); (case kp6 => k_is)
      · refine' Eng.FnAt.mk' ?a7 ?l7 ?c7 ?kp7; (case a7 => k_is); (case l7 => k_is); (case c7 => k_is); (case kp7 => k_is)
      · refine' Eng.FnAt.mk' ?a8 ?l8 ?c8 ?kp8; (case a8 => k_is); (case l8 => k_is); (case c8 => k_is); (case kp8 => k_is)
      · refine' Eng.FnAt.mk' ?a9 ?l9 ?c9 ?kp9; (case a9 => k_is); (case l9 => k_is); (case c9 => k_is); (case kp9 => k_is)
      · refine' Eng.FnAt.mk' ?a10 ?l10 ?c10 ?kp10; (case a10 => k_is); (case l10 => k_is); (case c10 => k_is); (case kp10 => k_is)
      · refine' Eng.FnAt.mk' ?a11 ?l11 ?c11 ?kp11; (case a11 => k_is); (case l11 => k_is); (case c11 => k_is); (case kp11 => k_is)
      · refine' Eng.FnAt.mk' ?a12 ?l12 ?c12 ?kp12; (case a12 => k_is); (case l12 => k_is); (case c12 => k_is); (case kp12 => k_is)
      · refine' Eng.FnAt.mk' ?a13 ?l13 ?c13 ?kp13; (case a13 => k_is); (case l13 => k_is); (case c13 => k_is); (case kp13 => k_is)
      · refine' Eng.FnAt.mk' ?a14 ?l14 ?c14 ?kp14; (case a14 => k_is); (case l14 => k_is); (case c14 => k_is); (case kp14 => k_is)
      · refine' Eng.FnAt.mk' ?a15 ?l15 ?c15 ?kp15; (case a15 => k_is); (case l15 => k_is); (case c15 => k_is); (case kp15 => k_is)
      · refine' Eng.FnAt.mk' ?a16 ?l16 ?c16 ?kp16; (case a16 => k_is); (case l16 => k_is); (case c16 => k_is); (case kp16 => k_is)
      · refine' Eng.FnAt.mk' ?a17 ?l17 ?c17 ?kp17; (case a17 => k_is); (case l17 => k_is); (case c17 => k_is); (case kp17 => k_is)
      · refine' Eng.FnAt.mk' ?a18 ?l18 ?c18 ?kp18; (case a18 => k_is); (case l18 => k_is); (case c18 => k_is); (case kp18 => k_is))
    (case a => k_is); (case l => k_is); (case c => k_is); (case kp => k_is)
