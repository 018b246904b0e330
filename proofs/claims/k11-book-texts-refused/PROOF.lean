import PyProof.Rows.All
import Wide.All
import OpenK.AllK
import Wide.FinOn
import HandS.ForMost
import HandS.Evl
import HandS.Exc
import HandS.TryOnly
import HandS.TryMany
import HandS.ExcOwn
import HandS.WordsExc
import HandS.Walk
import HandS.WideBits
import HandS.Wide
import HandS.Steps
import HandS.IsInst
import HandS.TupAny
import HandS.TupMul
import HandS.Deep
import HandS.Zip
import PyProof.Rows.RuleB_pow
import HandS.CallSlots
import HandS.Star
import HandS.Defaults
import HandS.MakeKw
import HandS.MakeKwOnly
import HandS.ExcInit
import HandS.Strs
import HandS.FStr
import HandS.Text
import HandS.Dict
import HandS.DictComp
import HandS.More
import HandS.ListEq
import HandS.Style
import HandS.OwnEq
import HandS.SetFor
import HandS.Iter
import HandS.SortRule
import KE.KExcIs
import HandS.ExcIs
import HandS.ExcField
import HandS.RaiseMore
import PyProof.NeData
import PyProof.P3Eq
import KE.KEqNest
import PySem.Challenge.RW_lastshown_k11_book_texts_refused
set_option Elab.async false
set_option linter.all false
set_option maxRecDepth 100000
set_option maxHeartbeats 4000000
/-! PD: a second layer over the hand layer: values as data D, mutable objects by handles, judgements over the syntax. -/
namespace PD
open PySem L2
open Evl (Ex ex_rd ex_l ex_t)

/-- data: what a value stands for; hdl a: the object at a, which may change -/
inductive D where
  | non | bl (b : Bool) | int (i : Int) | str (s : Str)
  | tup (ds : List D) | lst (ds : List D) | seq (ds : List D)
  | dct (ks : List Key) (ds : List D)
  | ins (C : Addr) (fs : List Str) (ds : List D)
  | hdl (a : Addr) | raw (v : V)
  deriving Inhabited
/-- an object that may change -/
inductive MO where
  | lst (ds : List D) | dct (ks : List Key) (ds : List D) | ins (C : Addr) (fs : List Str) (ds : List D) | lck (u : HO) (ks : List Key) (ds : List D) | xd (fs : List Str) (ds : List D) | gone
  deriving Inhabited
/-- where things stand: the addresses of what may change, the heap of what never changes, the heap -/
structure Sg where
  as : List Addr
  Z : Hp
  H : Hp
theorem _root_.Evl.Ex.none {H H' : Hp} (e : Ex H H') {a : Addr} (h : H' a = Option.none) : H a = Option.none := by
  cases q : H a with
  | none => rfl
  | some o => rw [e a o q] at h; cases h
theorem ex_new {H : Hp} {p : Addr} {o : HO} (h : H p = none) : Ex H (upd H p o) := fun a u e => by
  rw [upd_ne (ne_of_none e h)]; exact e
theorem ex_up {Z H : Hp} {p : Addr} {o : HO} (e : Ex Z H) : Ex (upd Z p o) (upd H p o) := fun a u h => by
  by_cases q : a = p
  · subst q; rw [upd_same] at h ⊢; exact h
  · rw [upd_ne q] at h ⊢; exact e a u h

section
variable (K : PySem.W.Frag) (S : Sg)
mutual
/-- v stands for d -/
def Rep : D → V → Prop
  | .non, v => v = .non
  | .bl b, v => v = .bl b
  | .int i, v => v = .int i
  | .str s, v => v = .str s
  | .tup ds, v => ∃ a xs, v = .ref a ∧ SqT K S.Z a xs ∧ RepL ds xs
  | .lst ds, v => ∃ a xs, v = .ref a ∧ S.Z a = some (.lst xs) ∧ RepL ds xs
  | .seq ds, v => ∃ a xs, v = .ref a ∧ SqL K S.Z a xs ∧ RepL ds xs
  | .dct ks ds, v => ∃ a kvs, v = .ref a ∧ S.Z a = some (.dK kvs) ∧ kvs.map (·.1) = ks ∧ RepL ds (kvs.map (·.2))
  | .ins C fs ds, v => ∃ a dx kvs, v = .ref a ∧ S.Z a = some (.ins C dx kvs) ∧ kvs.map (·.1) = fs ∧ RepL ds (kvs.map (·.2))
  | .hdl a, v => v = .ref a
  | .raw u, v => v = u
def RepL : List D → List V → Prop
  | [], xs => xs = []
  | d :: ds, xs => ∃ x r, xs = x :: r ∧ Rep d x ∧ RepL ds r
end
def MRep (a : Addr) : MO → Prop
  | .lst ds => S.Z a = none ∧ ∃ xs, S.H a = some (.lst xs) ∧ RepL K S ds xs
  | .dct ks ds => S.Z a = none ∧ ∃ kvs, S.H a = some (.dK kvs) ∧ kvs.map (·.1) = ks ∧ RepL K S ds (kvs.map (·.2))
  | .ins C fs ds => S.Z a = none ∧ ∃ dx kvs, S.H a = some (.ins C dx kvs) ∧ kvs.map (·.1) = fs ∧ RepL K S ds (kvs.map (·.2))
  | .lck u ks ds => S.Z a = none ∧ S.H a = some u ∧ ∃ od kvs, u = .frz od (.dK kvs) ∧ kvs.map (·.1) = ks ∧ RepL K S ds (kvs.map (·.2))
  | .xd fs ds => S.Z a = none ∧ ∃ kvs, S.H a = some (.xd kvs) ∧ kvs.map (·.1) = fs ∧ RepL K S ds (kvs.map (·.2))
  | .gone => True
abbrev Ms := List (Addr × MO)
structure OkM (M : Ms) : Prop where
  len : S.as = M.map (·.1)
  nd : S.as.Nodup
  zh : Ex S.Z S.H
  mo : ∀ p ∈ M, MRep K S p.1 p.2
  dom : ∀ a ∈ S.as, S.H a ≠ none
def EnvOk (σ : L2.St) (Γ : List (Option D)) : Prop := σ.length = Γ.length ∧ ∀ (i : Nat) d, Γ[i]? = some (some d) → ∃ v, σ[i]? = some (some v) ∧ Rep K S d v
/-- the fields of an exception that is in the air; its dict is new since S0, and nothing else holds it -/
def XRep (S0 : Sg) (dd : Option Addr) (fs : List (Str × D)) : Prop := match dd with
  | none => fs = []
  | some a => fs ≠ [] ∧ S0.H a = none ∧ S.Z a = none ∧ a ∉ S.as ∧ ∃ kvs, S.H a = some (.xd kvs) ∧ kvs.map (·.1) = fs.map (·.1) ∧ RepL K S (fs.map (·.2)) (kvs.map (·.2))
end
structure Grow (S S' : Sg) : Prop where
  pre : ∀ a ∈ S'.as, a ∈ S.as ∨ S.H a = none
  zz : Ex S.Z S'.Z
  keep : ∀ q o, S.H q = some o → q ∉ S.as → S'.H q = some o
  dom : ∀ q, S.H q ≠ none → S'.H q ≠ none
  sep : ∀ q, S.H q ≠ none → S.Z q = none → q ∉ S.as → S'.Z q = none
theorem Grow.refl (S : Sg) : Grow S S := ⟨fun _ h => .inl h, Ex.refl _, fun _ _ h _ => h, fun _ h => h, fun _ _ h _ => h⟩
theorem Grow.out {S S1 : Sg} (a : Grow S S1) {q : Addr} (h : S.H q ≠ none) (n : q ∉ S.as) : q ∉ S1.as := fun m => (a.pre q m).elim n h
theorem Grow.trans {S S1 S2 : Sg} (a : Grow S S1) (b : Grow S1 S2) : Grow S S2 := by
  refine ⟨fun x m => ?_, a.zz.trans b.zz, fun q o h n => b.keep q o (a.keep q o h n) (a.out (by rw [h]; simp) n), fun q h => b.dom q (a.dom q h), fun q h z n => b.sep q (a.dom q h) (a.sep q h z n) (a.out h n)⟩
  rcases b.pre x m with m | m
  · exact a.pre x m
  · right
    cases q : S.H x with
    | none => rfl
    | some o => exact absurd m (a.dom x (by rw [q]; simp))
section
variable {K : PySem.W.Frag} {S S' : Sg}
theorem sg_mono (hz : Ex S.Z S'.Z) : (∀ d v, Rep K S d v → Rep K S' d v) ∧ ∀ ds xs, RepL K S ds xs → RepL K S' ds xs := by
  have key : ∀ n : Nat, (∀ d, sizeOf d < n → ∀ v, Rep K S d v → Rep K S' d v) ∧ ∀ ds : List D, sizeOf ds < n → ∀ xs, RepL K S ds xs → RepL K S' ds xs := by
    intro n
    induction n with
    | zero => exact ⟨fun _ h => absurd h (Nat.not_lt_zero _), fun _ h => absurd h (Nat.not_lt_zero _)⟩
    | succ n ih =>
      refine ⟨fun d hd v h => ?_, fun ds hd xs h => ?_⟩
      · cases d with
        | non => exact h
        | bl b => exact h
        | int i => exact h
        | str s => exact h
        | tup ds => obtain ⟨a, xs, e, s, r⟩ := h; exact ⟨a, xs, e, ex_t hz s, ih.2 ds (by simp at hd; omega) xs r⟩
        | lst ds => obtain ⟨a, xs, e, s, r⟩ := h; exact ⟨a, xs, e, hz _ _ s, ih.2 ds (by simp at hd; omega) xs r⟩
        | seq ds => obtain ⟨a, xs, e, s, r⟩ := h; exact ⟨a, xs, e, ex_l hz s, ih.2 ds (by simp at hd; omega) xs r⟩
        | dct ks ds => obtain ⟨a, xs, e, s, t, r⟩ := h; exact ⟨a, xs, e, hz _ _ s, t, ih.2 ds (by simp at hd; omega) _ r⟩
        | ins C fs ds => obtain ⟨a, dx, xs, e, s, t, r⟩ := h; exact ⟨a, dx, xs, e, hz _ _ s, t, ih.2 ds (by simp at hd; omega) _ r⟩
        | hdl a => exact h
        | raw u => exact h
      · cases ds with
        | nil => exact h
        | cons d r =>
          obtain ⟨x, q, e, h1, h2⟩ := h
          exact ⟨x, q, e, ih.1 d (by simp at hd; omega) x h1, ih.2 r (by simp at hd; omega) q h2⟩
  exact ⟨fun d v => (key (sizeOf d + 1)).1 d (by omega) v, fun ds xs => (key (sizeOf ds + 1)).2 ds (by omega) xs⟩
theorem Rep.grow {d : D} {v : V} (h : Rep K S d v) (g : Grow S S') : Rep K S' d v := (sg_mono g.zz).1 d v h
theorem RepL.grow {ds : List D} {xs : List V} (h : RepL K S ds xs) (g : Grow S S') : RepL K S' ds xs := (sg_mono g.zz).2 ds xs h
theorem RepL.len : ∀ {ds : List D} {xs : List V}, RepL K S ds xs → xs.length = ds.length
  | [], _, h => by have e : _ = [] := h; subst e; rfl
  | d :: ds, _, h => by obtain ⟨x, r, rfl, _, h⟩ := h; simp [RepL.len h]
theorem RepL.get : ∀ {ds : List D} {xs : List V} {i : Nat} {d : D}, RepL K S ds xs → ds[i]? = some d → ∃ x, xs[i]? = some x ∧ Rep K S d x
  | [], _, _, _, _, e => by simp at e
  | d :: ds, _, 0, _, h, e => by obtain ⟨x, r, rfl, h1, _⟩ := h; simp at e; subst e; exact ⟨x, rfl, h1⟩
  | d :: ds, _, i + 1, _, h, e => by
    obtain ⟨x, r, rfl, _, h2⟩ := h
    obtain ⟨y, h3, h4⟩ := RepL.get (i := i) h2 (by simpa using e)
    exact ⟨y, by simpa using h3, h4⟩
theorem RepL.get' : ∀ {ds : List D} {xs : List V} {i : Nat} {x : V}, RepL K S ds xs → xs[i]? = some x → ∃ d, ds[i]? = some d ∧ Rep K S d x := fun {ds xs i x} h e => by
  have hi : i < ds.length := by rw [← h.len]; exact (List.getElem?_eq_some_iff.mp e).1
  obtain ⟨y, e2, r⟩ := h.get (i := i) (d := ds[i]) (by simp [hi])
  rw [e] at e2; cases e2
  exact ⟨ds[i], by simp [hi], r⟩
theorem RepL.nil : RepL K S [] [] := rfl
theorem RepL.cons {d : D} {ds : List D} {x : V} {xs : List V} (h : Rep K S d x) (r : RepL K S ds xs) : RepL K S (d :: ds) (x :: xs) := ⟨x, xs, rfl, h, r⟩
theorem RepL.app : ∀ {ds es : List D} {xs ys : List V}, RepL K S ds xs → RepL K S es ys → RepL K S (ds ++ es) (xs ++ ys)
  | [], _, _, _, h, q => by have e : _ = [] := h; subst e; exact q
  | d :: ds, _, _, _, h, q => by obtain ⟨x, r, rfl, h1, h2⟩ := h; exact .cons h1 (RepL.app h2 q)
theorem RepL.one {d : D} {x : V} (h : Rep K S d x) : RepL K S [d] [x] := .cons h .nil
theorem RepL.take : ∀ {ds : List D} {xs : List V} (n : Nat), RepL K S ds xs → RepL K S (ds.take n) (xs.take n)
  | _, _, 0, _ => by simp only [List.take_zero]; exact .nil
  | [], _, n + 1, h => by have e : _ = [] := h; subst e; exact .nil
  | d :: ds, _, n + 1, h => by obtain ⟨x, r, rfl, h1, h2⟩ := h; exact .cons h1 (RepL.take n h2)
theorem RepL.drop : ∀ {ds : List D} {xs : List V} (n : Nat), RepL K S ds xs → RepL K S (ds.drop n) (xs.drop n)
  | _, _, 0, h => h
  | [], _, n + 1, h => by have e : _ = [] := h; subst e; exact .nil
  | d :: ds, _, n + 1, h => by obtain ⟨x, r, rfl, h1, h2⟩ := h; exact RepL.drop n h2
theorem RepL.set : ∀ {ds : List D} {xs : List V} {d : D} {x : V} (i : Nat), RepL K S ds xs → Rep K S d x → RepL K S (ds.set i d) (xs.set i x)
  | [], _, _, _, _, h, _ => by have e : _ = [] := h; subst e; exact .nil
  | d :: ds, _, _, _, 0, h, q => by obtain ⟨x, r, rfl, h1, h2⟩ := h; exact .cons q h2
  | d :: ds, _, _, _, i + 1, h, q => by obtain ⟨x, r, rfl, h1, h2⟩ := h; exact .cons h1 (RepL.set i h2 q)
theorem EnvOk.grow {σ : L2.St} {Γ : List (Option D)} (h : EnvOk K S σ Γ) (g : Grow S S') : EnvOk K S' σ Γ := ⟨h.1, fun i d e => by
  obtain ⟨v, h1, h2⟩ := h.2 i d e
  exact ⟨v, h1, h2.grow g⟩⟩
theorem EnvOk.set {σ : L2.St} {Γ : List (Option D)} {i : Nat} {d : D} {v : V} (h : EnvOk K S σ Γ) (r : Rep K S d v) : EnvOk K S (σ.set i (some v)) (Γ.set i (some d)) := by
  refine ⟨by simp [h.1], fun j e hj => ?_⟩
  by_cases q : i = j
  · subst q
    by_cases hl : i < Γ.length
    · rw [List.getElem?_set_self hl] at hj
      cases hj
      exact ⟨v, by rw [List.getElem?_set_self (by rw [h.1]; exact hl)], r⟩
    · rw [List.getElem?_eq_none (by simpa using hl)] at hj; cases hj
  · rw [List.getElem?_set_ne q] at hj ⊢
    exact h.2 j e hj
theorem EnvOk.weak {σ : L2.St} {Γ Γ' : List (Option D)} (h : EnvOk K S σ Γ) (hl : Γ'.length = Γ.length) (w : ∀ (i : Nat) d, Γ'[i]? = some (some d) → Γ[i]? = some (some d)) : EnvOk K S σ Γ' :=
  ⟨h.1.trans hl.symm, fun i d e => h.2 i d (w i d e)⟩
/-- the description of an object that is not touched -/
theorem MRep.keep {a : Addr} {m : MO} (h : MRep K S a m) (zz : Ex S.Z S'.Z) (hz : S.Z a = none → S'.Z a = none) (hh : ∀ o, S.H a = some o → S'.H a = some o) : MRep K S' a m := by
  cases m with
  | lst ds => obtain ⟨a1, xs, a2, a3⟩ := h; exact ⟨hz a1, xs, hh _ a2, (sg_mono zz).2 _ _ a3⟩
  | dct ks ds => obtain ⟨a1, xs, a2, a4, a3⟩ := h; exact ⟨hz a1, xs, hh _ a2, a4, (sg_mono zz).2 _ _ a3⟩
  | ins C fs ds => obtain ⟨a1, dx, xs, a2, a4, a3⟩ := h; exact ⟨hz a1, dx, xs, hh _ a2, a4, (sg_mono zz).2 _ _ a3⟩
  | lck u ks ds => obtain ⟨a1, a2, od, kvs, a4, a5, a3⟩ := h; exact ⟨hz a1, hh _ a2, od, kvs, a4, a5, (sg_mono zz).2 _ _ a3⟩
  | xd fs ds => obtain ⟨a1, xs, a2, a4, a3⟩ := h; exact ⟨hz a1, xs, hh _ a2, a4, (sg_mono zz).2 _ _ a3⟩
  | gone => trivial
theorem XRep.re {S0 S0' : Sg} {dd : Option Addr} {fs : List (Str × D)} (r : XRep K S S0 dd fs) (h0 : ∀ a, S0.H a = none → S0'.H a = none) (hZ : S'.Z = S.Z) (hH : S'.H = S.H) (has : ∀ a ∈ S'.as, a ∈ S.as ∨ S0.H a ≠ none) : XRep K S' S0' dd fs := by
  cases dd with
  | none => exact r
  | some a =>
    obtain ⟨r0, r1, r2, r3, kvs, r4, r5, r6⟩ := r
    exact ⟨r0, h0 a r1, by rw [hZ]; exact r2, fun m => (has a m).elim r3 fun n => n r1, kvs, by rw [hH]; exact r4, r5, (sg_mono (by rw [hZ]; exact Ex.refl _)).2 _ _ r6⟩
theorem Grow.back {S S' : Sg} (g : Grow S S') : ∀ a, S'.H a = none → S.H a = none := fun a h => by
  cases q : S.H a with
  | none => rfl
  | some o => exact absurd h (g.dom a (by rw [q]; simp))
theorem XRep.old {S0 S0' : Sg} {dd : Option Addr} {fs : List (Str × D)} (r : XRep K S S0 dd fs) (g : Grow S0' S0) : XRep K S S0' dd fs := r.re g.back rfl rfl fun _ m => .inl m
theorem OkM.in {M : Ms} (h : OkM K S M) {p : Addr × MO} (hp : p ∈ M) : p.1 ∈ S.as := by rw [h.len]; exact List.mem_map_of_mem hp
/-- something new that never changes -/
theorem new_z {M : Ms} {p : Addr} {o : HO} (h : OkM K S M) (hp : S.H p = none) : OkM K ⟨S.as, upd S.Z p o, upd S.H p o⟩ M ∧ Grow S ⟨S.as, upd S.Z p o, upd S.H p o⟩ := by
  have hz : S.Z p = none := h.zh.none hp
  have np : ∀ a ∈ S.as, a ≠ p := fun a m e => h.dom a m (by rw [e]; exact hp)
  have g : Grow S ⟨S.as, upd S.Z p o, upd S.H p o⟩ := ⟨fun _ m => .inl m, ex_new hz, fun q u e _ => ex_new hp q u e, fun q e => by
    by_cases z : q = p
    · show upd S.H p o q ≠ none
      rw [z, upd_same]; simp
    · show upd S.H p o q ≠ none
      rw [upd_ne z]; exact e, fun q e z _ => by
    have : q ≠ p := fun c => e (by rw [c]; exact hp)
    show upd S.Z p o q = none
    rw [upd_ne this]; exact z⟩
  refine ⟨⟨h.len, h.nd, ex_up h.zh, fun q hq => ?_, fun a m => g.dom a (h.dom a m)⟩, g⟩
  have hn : q.1 ≠ p := np _ (h.in hq)
  exact (h.mo q hq).keep g.zz (fun e => by show upd S.Z p o q.1 = none; rw [upd_ne hn]; exact e) (fun u e => by show upd S.H p o q.1 = some u; rw [upd_ne hn]; exact e)
/-- something new that may change -/
theorem new_m {M : Ms} {p : Addr} {o : HO} {m : MO} (h : OkM K S M) (hp : S.H p = none) (hm : Grow S ⟨S.as ++ [p], S.Z, upd S.H p o⟩ → MRep K ⟨S.as ++ [p], S.Z, upd S.H p o⟩ p m) :
    OkM K ⟨S.as ++ [p], S.Z, upd S.H p o⟩ (M ++ [(p, m)]) ∧ Grow S ⟨S.as ++ [p], S.Z, upd S.H p o⟩ := by
  have hz : S.Z p = none := h.zh.none hp
  have np : ∀ a ∈ S.as, a ≠ p := fun a m e => h.dom a m (by rw [e]; exact hp)
  have g : Grow S ⟨S.as ++ [p], S.Z, upd S.H p o⟩ := ⟨fun a m => by
    rcases List.mem_append.mp m with m | m
    · exact .inl m
    · right
      have e : a = p := by simpa using m
      rw [e]; exact hp, Ex.refl _, fun q u e _ => ex_new hp q u e, fun q e => by
    by_cases z : q = p
    · show upd S.H p o q ≠ none
      rw [z, upd_same]; simp
    · show upd S.H p o q ≠ none
      rw [upd_ne z]; exact e, fun q e z _ => z⟩
  refine ⟨⟨by simp [h.len], ?_, h.zh.trans (ex_new hp), fun q hq => ?_, fun a ma => ?_⟩, g⟩
  · rw [List.nodup_append]
    exact ⟨h.nd, by simp, fun a ha b hb => by simp at hb; subst hb; exact np a ha⟩
  · rcases List.mem_append.mp hq with hq | hq
    · have hn : q.1 ≠ p := np _ (h.in hq)
      exact (h.mo q hq).keep g.zz (fun e => e) (fun u e => by show upd S.H p o q.1 = some u; rw [upd_ne hn]; exact e)
    · have e : q = (p, m) := by simpa using hq
      subst e
      exact hm g
  · rcases List.mem_append.mp ma with ma | ma
    · exact g.dom a (h.dom a ma)
    · have ea : a = p := by simpa using ma
      subst ea
      show upd S.H a o a ≠ none
      rw [upd_same]; simp
theorem at_ne {M : Ms} {k j : Nat} {a b : Addr} {m m' : MO} (h : OkM K S M) (hk : M[k]? = some (a, m)) (hj : M[j]? = some (b, m')) (n : j ≠ k) : b ≠ a := fun z => by
  subst z
  have e1 : S.as[k]? = some b := by rw [h.len, List.getElem?_map, hk]; rfl
  have e2 : S.as[j]? = some b := by rw [h.len, List.getElem?_map, hj]; rfl
  obtain ⟨l1, q1⟩ := List.getElem?_eq_some_iff.mp e1
  obtain ⟨l2, q2⟩ := List.getElem?_eq_some_iff.mp e2
  exact n ((List.getElem_inj h.nd).mp (q2.trans q1.symm))
theorem set_names {M : Ms} {k : Nat} {a : Addr} {m m' : MO} (hk : M[k]? = some (a, m)) : (M.set k (a, m')).map (·.1) = M.map (·.1) := by
  apply List.ext_getElem?
  intro j
  rw [List.getElem?_map, List.getElem?_map]
  by_cases q : k = j
  · subst q
    rw [List.getElem?_set_self (List.getElem?_eq_some_iff.mp hk).1, hk]; rfl
  · rw [List.getElem?_set_ne q]
theorem OkM.at {M : Ms} {k : Nat} {a : Addr} {m : MO} (h : OkM K S M) (hk : M[k]? = some (a, m)) : MRep K S a m := h.mo _ (List.mem_of_getElem? hk)
/-- an object that may change is changed -/
theorem set_m {M : Ms} {k : Nat} {a : Addr} {o : HO} {m m' : MO} (h : OkM K S M) (hk : M[k]? = some (a, m')) (hz : S.Z a = none) (hm : Grow S ⟨S.as, S.Z, upd S.H a o⟩ → MRep K ⟨S.as, S.Z, upd S.H a o⟩ a m) :
    OkM K ⟨S.as, S.Z, upd S.H a o⟩ (M.set k (a, m)) ∧ Grow S ⟨S.as, S.Z, upd S.H a o⟩ := by
  have mem : a ∈ S.as := h.in (List.mem_of_getElem? hk)
  have g : Grow S ⟨S.as, S.Z, upd S.H a o⟩ := ⟨fun _ m => .inl m, Ex.refl _, fun q u e n => by
    have : q ≠ a := fun z => n (by rw [z]; exact mem)
    show upd S.H a o q = some u
    rw [upd_ne this]; exact e, fun q e => by
    by_cases z : q = a
    · show upd S.H a o q ≠ none
      rw [z, upd_same]; simp
    · show upd S.H a o q ≠ none
      rw [upd_ne z]; exact e, fun q e z _ => z⟩
  refine ⟨⟨by rw [set_names hk]; exact h.len, h.nd, fun b u e => ?_, fun q hq => ?_, fun b mb => g.dom b (h.dom b mb)⟩, g⟩
  · have : b ≠ a := fun z => by rw [z, hz] at e; cases e
    show upd S.H a o b = some u
    rw [upd_ne this]; exact h.zh b u e
  · obtain ⟨j, hj⟩ := List.mem_iff_getElem?.mp hq
    by_cases c : k = j
    · subst c
      rw [List.getElem?_set_self (List.getElem?_eq_some_iff.mp hk).1] at hj
      cases hj
      exact hm g
    · rw [List.getElem?_set_ne c] at hj
      have hn : q.1 ≠ a := at_ne h hk hj (Ne.symm c)
      exact (h.at hj).keep g.zz (fun e => e) (fun u e => by show upd S.H a o q.1 = some u; rw [upd_ne hn]; exact e)
/-- from now on the object at k never changes -/
theorem frz_m {M : Ms} {k : Nat} {a : Addr} {o : HO} {m' : MO} (h : OkM K S M) (hk : M[k]? = some (a, m')) (hz : S.Z a = none) (ho : S.H a = some o) :
    OkM K ⟨S.as, upd S.Z a o, S.H⟩ (M.set k (a, .gone)) ∧ Grow S ⟨S.as, upd S.Z a o, S.H⟩ := by
  have mem : a ∈ S.as := h.in (List.mem_of_getElem? hk)
  have g : Grow S ⟨S.as, upd S.Z a o, S.H⟩ := ⟨fun _ m => .inl m, ex_new hz, fun q u e _ => e, fun q e => e, fun q e z n => by
    have : q ≠ a := fun c => n (by rw [c]; exact mem)
    show upd S.Z a o q = none
    rw [upd_ne this]; exact z⟩
  refine ⟨⟨by rw [set_names hk]; exact h.len, h.nd, fun b u e => ?_, fun q hq => ?_, h.dom⟩, g⟩
  · by_cases q : b = a
    · subst q
      have e' : upd S.Z b o b = some u := e
      rw [upd_same] at e'; cases e'; exact ho
    · have e' : upd S.Z a o b = some u := e
      rw [upd_ne q] at e'; exact h.zh b u e'
  · obtain ⟨j, hj⟩ := List.mem_iff_getElem?.mp hq
    by_cases c : k = j
    · subst c
      rw [List.getElem?_set_self (List.getElem?_eq_some_iff.mp hk).1] at hj
      cases hj
      trivial
    · rw [List.getElem?_set_ne c] at hj
      have hn : q.1 ≠ a := at_ne h hk hj (Ne.symm c)
      exact (h.at hj).keep g.zz (fun e => by show upd S.Z a o q.1 = none; rw [upd_ne hn]; exact e) (fun u e => e)
/-- what may change is looked at no more -/
theorem drop_m {M M' : Ms} (h : OkM K S M) (hs : M'.Sublist M) : OkM K ⟨M'.map (·.1), S.Z, S.H⟩ M' ∧ ∀ S0, Grow S0 S → Grow S0 ⟨M'.map (·.1), S.Z, S.H⟩ := by
  have sub : (M'.map (·.1)).Sublist S.as := by rw [h.len]; exact hs.map _
  refine ⟨⟨rfl, sub.nodup h.nd, h.zh, fun p hp => (h.mo p (hs.subset hp)).keep (S' := ⟨M'.map (·.1), S.Z, S.H⟩) (Ex.refl _) (fun e => e) (fun _ e => e), fun a ha => h.dom a (sub.subset ha)⟩, fun S0 g => ⟨fun a ha => g.pre a (sub.subset ha), g.zz, g.keep, g.dom, g.sep⟩⟩
/-- the objects at the places ks -/
def pick (ks : List Nat) (M : Ms) : Ms := ks.filterMap (M[·]?)
/-- .. back in their places; what is new comes behind -/
def merge : List Nat → Ms → Ms → Ms
  | [], M, N => M ++ N
  | _ :: _, M, [] => M
  | k :: ks, M, p :: N => merge ks (M.set k p) N
theorem merge_mem : ∀ {ks : List Nat} {M N : Ms} {p : Addr × MO}, p ∈ merge ks M N → p ∈ N ∨ ∃ j : Nat, M[j]? = some p ∧ (j ∉ ks ∨ N.length < ks.length)
  | [], M, N, p, h => by
    rcases List.mem_append.mp h with h | h
    · obtain ⟨j, hj⟩ := List.mem_iff_getElem?.mp h
      exact .inr ⟨j, hj, .inl (by simp)⟩
    · exact .inl h
  | k :: ks, M, [], p, h => by
    obtain ⟨j, hj⟩ := List.mem_iff_getElem?.mp (show p ∈ M from h)
    exact .inr ⟨j, hj, .inr (by simp)⟩
  | k :: ks, M, q :: N, p, h => by
    rcases merge_mem (ks := ks) (M := M.set k q) (N := N) h with h | ⟨j, hj, hn⟩
    · exact .inl (List.mem_cons_of_mem _ h)
    · by_cases c : k = j
      · subst c
        by_cases hl : k < M.length
        · rw [List.getElem?_set_self hl] at hj
          cases hj
          exact .inl List.mem_cons_self
        · rw [List.getElem?_eq_none (by simpa using hl)] at hj; cases hj
      · rw [List.getElem?_set_ne c] at hj
        refine .inr ⟨j, hj, ?_⟩
        rcases hn with hn | hn
        · left
          intro m
          rcases List.mem_cons.mp m with m | m
          · exact c m.symm
          · exact hn m
        · right; simp; omega
theorem merge_names : ∀ {ks : List Nat} {M N : Ms}, (N.take ks.length).map (·.1) = (pick ks M).map (·.1) → (∀ k ∈ ks, k < M.length) → ks.Nodup → (merge ks M N).map (·.1) = M.map (·.1) ++ (N.drop ks.length).map (·.1)
  | [], M, N, _, _, _ => by simp [merge]
  | k :: ks, M, [], h, hk, _ => by
    have hl : k < M.length := hk k List.mem_cons_self
    have e : pick (k :: ks) M = M[k] :: pick ks M := by
      unfold pick
      rw [List.filterMap_cons_some (b := M[k]) (by simp [hl])]
    rw [e] at h
    simp at h
  | k :: ks, M, p :: N, h, hk, nd => by
    have hl : k < M.length := hk k List.mem_cons_self
    have e : pick (k :: ks) M = M[k] :: pick ks M := by
      unfold pick
      rw [List.filterMap_cons_some (b := M[k]) (by simp [hl])]
    rw [e] at h
    simp only [List.length_cons, List.take_succ_cons, List.map_cons, List.cons.injEq] at h
    have hk2 : M[k]? = some (M[k].1, M[k].2) := by simp [hl]
    have hs : (M.set k p).map (·.1) = M.map (·.1) := by
      have : p = (M[k].1, p.2) := by rw [← h.1]
      rw [this]
      exact set_names (m := M[k].2) hk2
    have hp : (pick ks (M.set k p)) = pick ks M := by
      unfold pick
      have : ∀ l : List Nat, (∀ j ∈ l, j ≠ k) → l.filterMap (fun j => (M.set k p)[j]?) = l.filterMap (fun j => M[j]?) := by
        intro l
        induction l with
        | nil => intro _; rfl
        | cons j l ih =>
          intro hj
          have e1 : (M.set k p)[j]? = M[j]? := List.getElem?_set_ne (Ne.symm (hj j List.mem_cons_self))
          simp only [List.filterMap_cons, e1]
          rw [ih fun i hi => hj i (List.mem_cons_of_mem _ hi)]
      exact this ks fun j hj c => by
        subst c
        exact (List.nodup_cons.mp nd).1 hj
    have ih := merge_names (ks := ks) (M := M.set k p) (N := N) (by rw [hp]; exact h.2) (fun j hj => by rw [List.length_set]; exact hk j (List.mem_cons_of_mem _ hj)) (List.nodup_cons.mp nd).2
    show (merge ks (M.set k p) N).map (·.1) = _
    rw [ih, hs]
    simp
theorem pick_mem {ks : List Nat} {M : Ms} {p : Addr × MO} (h : p ∈ pick ks M) : ∃ k ∈ ks, M[k]? = some p := by
  unfold pick at h
  obtain ⟨k, hk, e⟩ := List.mem_filterMap.mp h
  exact ⟨k, hk, e⟩
theorem pick_names {ks : List Nat} {M : Ms} (h : OkM K S M) (nd : ks.Nodup) : ((pick ks M).map (·.1)).Nodup := by
  unfold pick
  induction ks with
  | nil => simp
  | cons k ks ih =>
    have ih := ih (List.nodup_cons.mp nd).2
    cases e : M[k]? with
    | none => rw [List.filterMap_cons_none e]; exact ih
    | some p =>
      rw [List.filterMap_cons_some e, List.map_cons, List.nodup_cons]
      refine ⟨fun m => ?_, ih⟩
      obtain ⟨q, hq, e1⟩ := List.mem_map.mp m
      obtain ⟨j, hj, e2⟩ := pick_mem (ks := ks) (M := M) hq
      have : j ≠ k := fun c => (List.nodup_cons.mp nd).1 (by rw [← c]; exact hj)
      exact at_ne (a := p.1) (m := p.2) (b := q.1) (m' := q.2) h e e2 this e1
theorem pick_ok {ks : List Nat} {M : Ms} (h : OkM K S M) (nd : ks.Nodup) : OkM K ⟨(pick ks M).map (·.1), S.Z, S.H⟩ (pick ks M) :=
  ⟨rfl, pick_names h nd, h.zh, fun p hp => by
    obtain ⟨k, _, e⟩ := pick_mem hp
    exact (h.at (a := p.1) (m := p.2) e).keep (S' := ⟨(pick ks M).map (·.1), S.Z, S.H⟩) (Ex.refl _) (fun e => e) (fun _ e => e), fun a ha => by
    obtain ⟨p, hp, e⟩ := List.mem_map.mp ha
    obtain ⟨k, _, e2⟩ := pick_mem hp
    rw [← e]; exact h.dom _ (h.in (List.mem_of_getElem? e2))⟩
/-- behind a call that was handed the objects at ks -/
theorem merge_ok {ks : List Nat} {M N : Ms} {S2 : Sg} (h : OkM K S M) (nd : ks.Nodup) (hk : ∀ k ∈ ks, k < M.length) (h2 : OkM K S2 N) (g : Grow ⟨(pick ks M).map (·.1), S.Z, S.H⟩ S2) (hn : (N.take ks.length).map (·.1) = (pick ks M).map (·.1)) :
    OkM K ⟨(merge ks M N).map (·.1), S2.Z, S2.H⟩ (merge ks M N) ∧ Grow S ⟨(merge ks M N).map (·.1), S2.Z, S2.H⟩ := by
  have names := merge_names hn hk nd
  have ndN : (N.map (·.1)).Nodup := by rw [← h2.len]; exact h2.nd
  have split : N.map (·.1) = (pick ks M).map (·.1) ++ (N.drop ks.length).map (·.1) := by
    rw [← hn, ← List.map_append, List.take_append_drop]
  have subM : ∀ a ∈ (pick ks M).map (·.1), a ∈ S.as := fun a ha => by
    obtain ⟨p, hp, e⟩ := List.mem_map.mp ha
    obtain ⟨k, _, e2⟩ := pick_mem hp
    rw [← e]; exact h.in (List.mem_of_getElem? e2)
  have new : ∀ a ∈ (N.drop ks.length).map (·.1), S.H a = none := fun a ha => by
    have ha2 : a ∈ S2.as := by rw [h2.len, split]; exact List.mem_append_right _ ha
    rcases g.pre a ha2 with q | q
    · exfalso
      rw [split] at ndN
      exact (List.nodup_append.mp ndN).2.2 a q a ha rfl
    · exact q
  have len : ks.length ≤ N.length := by
    have l1 : (pick ks M).length = ks.length := by
      unfold pick
      clear names split subM new hn g h2 ndN
      induction ks with
      | nil => rfl
      | cons k ks ih =>
        have hl : k < M.length := hk k List.mem_cons_self
        rw [List.filterMap_cons_some (b := M[k]) (by simp [hl])]
        simp [ih (List.nodup_cons.mp nd).2 fun j hj => hk j (List.mem_cons_of_mem _ hj)]
    have l2 := congrArg List.length hn
    simp [l1] at l2
    omega
  refine ⟨⟨rfl, ?_, h2.zh, fun p hp => ?_, fun a ha => ?_⟩, ⟨fun a ha => ?_, g.zz, fun q o e n => g.keep q o e fun m => n (subM q m), g.dom, fun q e z n => g.sep q e z fun m => n (subM q m)⟩⟩
  · show ((merge ks M N).map (·.1)).Nodup
    rw [names, List.nodup_append]
    refine ⟨by rw [← h.len]; exact h.nd, ?_, fun a ha b hb e => ?_⟩
    · rw [split] at ndN; exact (List.nodup_append.mp ndN).2.1
    · subst e
      exact h.dom a (by rw [h.len]; exact ha) (new a hb)
  · rcases merge_mem hp with hp | ⟨j, hj, hn'⟩
    · exact (h2.mo p hp).keep (S' := ⟨(merge ks M N).map (·.1), S2.Z, S2.H⟩) (Ex.refl _) (fun e => e) (fun _ e => e)
    · have hjk : j ∉ ks := hn'.elim id fun c => absurd len (by omega)
      have notin : p.1 ∉ (pick ks M).map (·.1) := fun m => by
        obtain ⟨q, hq, e⟩ := List.mem_map.mp m
        obtain ⟨k, hk', e2⟩ := pick_mem hq
        exact at_ne (a := q.1) (m := q.2) (b := p.1) (m' := p.2) h e2 hj (fun c => hjk (by rw [c]; exact hk')) e.symm
      have hd : S.H p.1 ≠ none := h.dom _ (h.in (List.mem_of_getElem? hj))
      exact (h.at (a := p.1) (m := p.2) hj).keep (S' := ⟨(merge ks M N).map (·.1), S2.Z, S2.H⟩) g.zz (fun e => g.sep p.1 hd e notin) (fun o e => g.keep p.1 o e notin)
  · have ha' : a ∈ M.map (·.1) ++ (N.drop ks.length).map (·.1) := by rw [← names]; exact ha
    rcases List.mem_append.mp ha' with q | q
    · exact g.dom a (h.dom a (by rw [h.len]; exact q))
    · exact h2.dom a (by rw [h2.len, split]; exact List.mem_append_right _ q)
  · have ha' : a ∈ M.map (·.1) ++ (N.drop ks.length).map (·.1) := by rw [← names]; exact ha
    rcases List.mem_append.mp ha' with q | q
    · left; rw [h.len]; exact q
    · exact .inr (new a q)
end
end PD

set_option Elab.async false
set_option linter.all false
set_option maxRecDepth 100000
set_option maxHeartbeats 4000000
/-! PD: the judgements, names, constants, operators, tests, statements. -/
namespace PD
open PySem L2
open Evl (Ex ex_rd ex_l ex_t)

def WE (X : Cx) (e : Expr) : TE := fun σ H Q => ∀ (pins : List (Addr × Obj)) (s : Shared), Inv X pins σ H s → wpAny (model X.prog X.w) X.A (eval e X.env) (EP X pins σ Q) X.xe s
def WT (X : Cx) (e : Expr) : TT := fun σ H Q => ∀ (pins : List (Addr × Obj)) (s : Shared), Inv X pins σ H s → wpAny (model X.prog X.w) X.A (isTrue e X.env (eval e X.env)) (TP X pins σ Q) X.xe s
def WP (X : Cx) (e : Expr) : TT := fun σ H Q => ∀ (whole : Sem Value) (pins : List (Addr × Obj)) (s : Shared), Inv X pins σ H s → wpAny (model X.prog X.w) X.A (isTrue e X.env whole) (TP X pins σ Q) X.xe s
def WA (X : Cx) (es : List Expr) : TA := fun σ H Q => ∀ (pos : Pos) (pins : List (Addr × Obj)) (s : Shared), Inv X pins σ H s → wpAny (model X.prog X.w) X.A (spliced (backTo pos (starEach es X.env))) (AP X pins σ Q) X.xe s
def WS (X : Cx) (st : Stmt) : TS := fun D σ H => ∀ (pins : List (Addr × Obj)) (s : Shared), Inv X pins σ H s → wpAny (model X.prog X.w) X.A (exec st X.env) (SP X pins D) X.xe s
def WB (X : Cx) (st : List Stmt) : TS := fun D σ H => ∀ (pins : List (Addr × Obj)) (s : Shared), Inv X pins σ H s → wpAny (model X.prog X.w) X.A (execs st X.env) (SP X pins D) X.xe s
def WG (X : Cx) (tg : Expr) : TG := fun v σ H Q => ∀ (pins : List (Addr × Obj)) (s : Shared) (u : Value), Inv X pins σ H s → RelV v u →
    wpAny (model X.prog X.w) X.A (assign tg X.env u) (fun _ s' => ∃ σ' H', Inv X pins σ' H' s' ∧ Q σ' H') X.xe s
section
variable {X : Cx} {e : Expr} {es : List Expr} {st : Stmt} {sts : List Stmt}
theorem we : PE X e (WE X e) := ⟨fun pins s _ _ _ I h => h pins s I⟩
theorem wt : PT X e (WT X e) := ⟨fun pins s _ _ _ I h => h pins s I⟩
theorem wpw : PW X e (WP X e) := ⟨fun w pins s _ _ _ I h => h w pins s I⟩
theorem wa : PA X es (WA X es) := ⟨fun pos pins s _ _ _ I h => h pos pins s I⟩
theorem wst : PS X st (WS X st) := ⟨fun pins s _ _ _ I h => h pins s I⟩
theorem wb : PSs X sts (WB X sts) := ⟨fun pins s _ _ _ I h => h pins s I⟩
theorem wg : PG X e (WG X e) := ⟨fun pins s _ _ _ u _ I r h => h pins s u I r⟩
theorem of_pe {t : TE} {σ : L2.St} {H : Hp} {Q : VK} (p : PE X e t) (h : t σ H Q) : WE X e σ H Q := fun pins s I => p.run pins s σ H Q I h
theorem of_pt {t : TT} {σ : L2.St} {H : Hp} {Q : Bool → Hp → Prop} (p : PT X e t) (h : t σ H Q) : WT X e σ H Q := fun pins s I => p.run pins s σ H Q I h
theorem of_pw {t : TT} {σ : L2.St} {H : Hp} {Q : Bool → Hp → Prop} (p : PW X e t) (h : t σ H Q) : WP X e σ H Q := fun w pins s I => p.run w pins s σ H Q I h
theorem of_pa {t : TA} {σ : L2.St} {H : Hp} {Q : List V → Hp → Prop} (p : PA X es t) (h : t σ H Q) : WA X es σ H Q := fun pos pins s I => p.run pos pins s σ H Q I h
theorem of_ps {t : TS} {σ : L2.St} {H : Hp} {D : Ends} (p : PS X st t) (h : t D σ H) : WS X st D σ H := fun pins s I => p.run pins s σ H D I h
theorem of_pb {t : TS} {σ : L2.St} {H : Hp} {D : Ends} (p : PSs X sts t) (h : t D σ H) : WB X sts D σ H := fun pins s I => p.run pins s σ H D I h
end

abbrev En := List (Option D)
abbrev KD := D → Ms → Prop
abbrev KB := Bool → Ms → Prop
abbrev KDs := List D → Ms → Prop
abbrev KX := Value → List (Str × D) → Ms → Prop
section
variable (K : PySem.W.Frag) (S : Sg)
def KV (k : KD) (Q : VK) : Prop := ∀ d M' S' v, k d M' → OkM K S' M' → Grow S S' → Rep K S' d v → Q v S'.H
def KT (k : KB) (Q : Bool → Hp → Prop) : Prop := ∀ b M' S', k b M' → OkM K S' M' → Grow S S' → Q b S'.H
def KA (k : KDs) (Q : List V → Hp → Prop) : Prop := ∀ ds M' S' vs, k ds M' → OkM K S' M' → Grow S S' → RepL K S' ds vs → Q vs S'.H
def KW (kx : KX) (W : WX) (σ : L2.St) : Prop := ∀ cls fs M' S' dd, kx cls fs M' → OkM K S' M' → Grow S S' → XRep K S' S dd fs → W cls dd σ S'.H
/-- the wishes behind a statement, by its ways out -/
structure ED where
  nx : En → Ms → Prop
  rt : KD
  bk : En → Ms → Prop := fun _ _ => False
  ct : En → Ms → Prop := fun _ _ => False
  ex : Value → List (Str × D) → En → Ms → Prop := fun _ _ _ _ => False
def KN (k : En → Ms → Prop) (Q : L2.St → Hp → Prop) : Prop := ∀ Γ' M' S' σ', k Γ' M' → OkM K S' M' → Grow S S' → EnvOk K S' σ' Γ' → Q σ' S'.H
structure LK (E : ED) (De : Ends) (W : WX) : Prop where
  nx : KN K S E.nx De.nx
  rt : KV K S E.rt De.rt
  bk : KN K S E.bk De.bk
  ct : KN K S E.ct De.ct
  ex : ∀ cls fs Γ' M' S' σ' dd, E.ex cls fs Γ' M' → OkM K S' M' → Grow S S' → EnvOk K S' σ' Γ' → XRep K S' S dd fs → W cls dd σ' S'.H
end
section
variable {K : PySem.W.Frag} {S S' : Sg}
theorem KV.grow {k : KD} {Q : VK} (h : KV K S k Q) (g : Grow S S') : KV K S' k Q := fun d M' S2 v a b c r => h d M' S2 v a b (g.trans c) r
theorem KT.grow {k : KB} {Q : Bool → Hp → Prop} (h : KT K S k Q) (g : Grow S S') : KT K S' k Q := fun d M' S2 a b c => h d M' S2 a b (g.trans c)
theorem KA.grow {k : KDs} {Q : List V → Hp → Prop} (h : KA K S k Q) (g : Grow S S') : KA K S' k Q := fun d M' S2 v a b c r => h d M' S2 v a b (g.trans c) r
theorem KN.grow {k : En → Ms → Prop} {Q : L2.St → Hp → Prop} (h : KN K S k Q) (g : Grow S S') : KN K S' k Q := fun d M' S2 v a b c r => h d M' S2 v a b (g.trans c) r
theorem KW.grow {kx : KX} {W : WX} {σ : L2.St} (h : KW K S kx W σ) (g : Grow S S') : KW K S' kx W σ := fun c f M' S2 dd a b q r => h c f M' S2 dd a b (g.trans q) (r.old g)
theorem LK.grow {E : ED} {De : Ends} {W : WX} (h : LK K S E De W) (g : Grow S S') : LK K S' E De W :=
  ⟨h.nx.grow g, h.rt.grow g, h.bk.grow g, h.ct.grow g, fun c f Γ M' S2 σ dd a b q r x => h.ex c f Γ M' S2 σ dd a b (g.trans q) r (x.old g)⟩
end
section
variable (X : Cx) (Γ : En) (M : Ms)
def GE (e : Expr) (k : KD) (kx : KX) : Prop := ∀ S σ, OkM X.K S M → EnvOk X.K S σ Γ → ∀ W, Takes X W → KW X.K S kx W σ → ∀ Q, KV X.K S k Q → WE X e σ S.H Q
def GT (e : Expr) (k : KB) (kx : KX) : Prop := ∀ S σ, OkM X.K S M → EnvOk X.K S σ Γ → ∀ W, Takes X W → KW X.K S kx W σ → ∀ Q, KT X.K S k Q → WT X e σ S.H Q
def GP (e : Expr) (k : KB) (kx : KX) : Prop := ∀ S σ, OkM X.K S M → EnvOk X.K S σ Γ → ∀ W, Takes X W → KW X.K S kx W σ → ∀ Q, KT X.K S k Q → WP X e σ S.H Q
def GA (es : List Expr) (k : KDs) (kx : KX) : Prop := ∀ S σ, OkM X.K S M → EnvOk X.K S σ Γ → ∀ W, Takes X W → KW X.K S kx W σ → ∀ Q, KA X.K S k Q → WA X es σ S.H Q
def GS (st : Stmt) (E : ED) : Prop := ∀ S σ, OkM X.K S M → EnvOk X.K S σ Γ → ∀ W, Takes X W → ∀ De, LK X.K S E De W → WS X st De σ S.H
def GB (sts : List Stmt) (E : ED) : Prop := ∀ S σ, OkM X.K S M → EnvOk X.K S σ Γ → ∀ W, Takes X W → ∀ De, LK X.K S E De W → WB X sts De σ S.H
/-- the target of an assignment: the value d (standing) is stored -/
def GG (tg : Expr) (d : D) (k : En → Prop) : Prop := ∀ S σ, OkM X.K S M → EnvOk X.K S σ Γ → ∀ v, Rep X.K S d v → ∀ Q : L2.St → Hp → Prop, (∀ Γ' σ', k Γ' → EnvOk X.K S σ' Γ' → Q σ' S.H) → WG X tg v σ S.H Q
/-- e is worth d, nothing else happens -/
def EV (e : Expr) (d : D) : Prop := GE X Γ M e (fun d' M' => d' = d ∧ M' = M) fun _ _ _ => False
def TV (e : Expr) (b : Bool) : Prop := GT X Γ M e (fun b' M' => b' = b ∧ M' = M) fun _ _ _ => False
def PV (e : Expr) (b : Bool) : Prop := GP X Γ M e (fun b' M' => b' = b ∧ M' = M) fun _ _ _ => False
def AV (es : List Expr) (ds : List D) : Prop := GA X Γ M es (fun d' M' => d' = ds ∧ M' = M) fun _ _ _ => False
end
section
variable {X : Cx} {Γ : En} {M : Ms} {e a b c : Expr} {es : List Expr} {st : Stmt} {rest : List Stmt} {k : KD} {kx : KX} {E : ED} {d x y z : D} {pos : Pos}
theorem GE.mono {k' : KD} {kx' : KX} (h : GE X Γ M e k kx) (hk : ∀ d M', k d M' → k' d M') (hx : ∀ c f M', kx c f M' → kx' c f M') : GE X Γ M e k' kx' := fun S σ hM hE W tk hW Q hQ =>
  h S σ hM hE W tk (fun c f M' S' dd a => hW c f M' S' dd (hx _ _ _ a)) Q fun d M' S' v a => hQ d M' S' v (hk _ _ a)
theorem GT.mono {k k' : KB} {kx' : KX} (h : GT X Γ M e k kx) (hk : ∀ d M', k d M' → k' d M') (hx : ∀ c f M', kx c f M' → kx' c f M') : GT X Γ M e k' kx' := fun S σ hM hE W tk hW Q hQ =>
  h S σ hM hE W tk (fun c f M' S' dd a => hW c f M' S' dd (hx _ _ _ a)) Q fun d M' S' a => hQ d M' S' (hk _ _ a)
theorem GP.mono {k k' : KB} {kx' : KX} (h : GP X Γ M e k kx) (hk : ∀ d M', k d M' → k' d M') (hx : ∀ c f M', kx c f M' → kx' c f M') : GP X Γ M e k' kx' := fun S σ hM hE W tk hW Q hQ =>
  h S σ hM hE W tk (fun c f M' S' dd a => hW c f M' S' dd (hx _ _ _ a)) Q fun d M' S' a => hQ d M' S' (hk _ _ a)
theorem GA.mono {k k' : KDs} {kx' : KX} (h : GA X Γ M es k kx) (hk : ∀ d M', k d M' → k' d M') (hx : ∀ c f M', kx c f M' → kx' c f M') : GA X Γ M es k' kx' := fun S σ hM hE W tk hW Q hQ =>
  h S σ hM hE W tk (fun c f M' S' dd a => hW c f M' S' dd (hx _ _ _ a)) Q fun d M' S' v a => hQ d M' S' v (hk _ _ a)
/-- a pure expression, in its place -/
theorem EV.ge (h : EV X Γ M e d) (hk : k d M) : GE X Γ M e k kx := GE.mono h (fun _ _ ⟨a, b⟩ => by rw [a, b]; exact hk) fun _ _ _ z => z.elim
theorem TV.gt {k : KB} {v : Bool} (h : TV X Γ M e v) (hk : k v M) : GT X Γ M e k kx := GT.mono h (fun _ _ ⟨a, b⟩ => by rw [a, b]; exact hk) fun _ _ _ z => z.elim
theorem PV.gp {k : KB} {v : Bool} (h : PV X Γ M e v) (hk : k v M) : GP X Γ M e k kx := GP.mono h (fun _ _ ⟨a, b⟩ => by rw [a, b]; exact hk) fun _ _ _ z => z.elim
theorem AV.ga {k : KDs} {ds : List D} (h : AV X Γ M es ds) (hk : k ds M) : GA X Γ M es k kx := GA.mono h (fun _ _ ⟨a, b⟩ => by rw [a, b]; exact hk) fun _ _ _ z => z.elim
theorem EV.eq {d' : D} (h : EV X Γ M e d) (q : d = d') : EV X Γ M e d' := by rw [← q]; exact h
theorem TV.eq {v v' : Bool} (h : TV X Γ M e v) (q : v = v') : TV X Γ M e v' := by rw [← q]; exact h

/-! ### plain names, literals -/
theorem ge_var (i : Nat) {x : Str} (hk : k d M) (hN : X.N[i]? = some x := by rfl) (hv : Vis X.env.scope x := by first | exact Or.inl rfl | exact Or.inr (Or.inl rfl) | exact Or.inr (Or.inr rfl)) (hd : Γ[i]? = some (some d) := by rfl)
    (h1 : (x == ("__debug__" : Str)) = false := by decide) (h2 : (x == ("__classdict__" : Str)) = false := by decide) : GE X Γ M (.Name x pos) k kx := fun S σ hM hE W tk hW Q hQ =>
  of_pe (pe_var hN hv h1 h2) (by
    obtain ⟨v, e1, r⟩ := hE.2 i d hd
    exact ⟨v, e1, hQ d M S v hk hM (Grow.refl _) r⟩)
theorem ge_int {i : Int} {j : Nat} (hk : k (.int i) M) : GE X Γ M (.Constant (.int i) j pos) k kx := fun S σ hM hE W tk hW Q hQ => of_pe pe_int (hQ (.int i) M S _ hk hM (Grow.refl _) rfl)
theorem ge_bl {v : Bool} {j : Nat} (hk : k (.bl v) M) : GE X Γ M (.Constant (.bool v) j pos) k kx := fun S σ hM hE W tk hW Q hQ => of_pe pe_bl (hQ (.bl v) M S _ hk hM (Grow.refl _) rfl)
theorem ge_non {j : Nat} (hk : k .non M) : GE X Γ M (.Constant .none j pos) k kx := fun S σ hM hE W tk hW Q hQ => of_pe pe_non (hQ .non M S _ hk hM (Grow.refl _) rfl)
theorem ge_str {v : Str} {j : Nat} (hk : k (.str v) M) : GE X Γ M (.Constant (.str v) j pos) k kx := fun S σ hM hE W tk hW Q hQ => of_pe pe_str (hQ (.str v) M S _ hk hM (Grow.refl _) rfl)
/-- a constant of the module -/
def Glob (K : PySem.W.Frag) (mg : Str → Option Value) (x : Str) (d : D) : Prop := ∃ u v, mg x = some u ∧ RelV v u ∧ ∀ S, Rep K S d v
theorem ge_glob {x : Str} (g : Glob X.K X.mg x d) (hk : k d M) (hg : Gl X x := by rfl) (h1 : (x == ("__debug__" : Str)) = false := by decide) : GE X Γ M (.Name x pos) k kx := fun S σ hM hE W tk hW Q hQ => by
  obtain ⟨u, v, hm, r, hr⟩ := g
  exact of_pe (pe_glob hg hm r h1) (hQ d M S v hk hM (Grow.refl _) (hr S))
theorem ev_var (i : Nat) {x : Str} (hN : X.N[i]? = some x := by rfl) (hv : Vis X.env.scope x := by first | exact Or.inl rfl | exact Or.inr (Or.inl rfl) | exact Or.inr (Or.inr rfl)) (hd : Γ[i]? = some (some d) := by rfl)
    (h1 : (x == ("__debug__" : Str)) = false := by decide) (h2 : (x == ("__classdict__" : Str)) = false := by decide) : EV X Γ M (.Name x pos) d := ge_var i ⟨rfl, rfl⟩ hN hv hd h1 h2
theorem ev_int {i : Int} {j : Nat} : EV X Γ M (.Constant (.int i) j pos) (.int i) := ge_int ⟨rfl, rfl⟩
theorem ev_bl {v : Bool} {j : Nat} : EV X Γ M (.Constant (.bool v) j pos) (.bl v) := ge_bl ⟨rfl, rfl⟩
theorem ev_non {j : Nat} : EV X Γ M (.Constant .none j pos) .non := ge_non ⟨rfl, rfl⟩
theorem ev_str {v : Str} {j : Nat} : EV X Γ M (.Constant (.str v) j pos) (.str v) := ge_str ⟨rfl, rfl⟩
theorem ev_glob {x : Str} (g : Glob X.K X.mg x d) (hg : Gl X x := by rfl) (h1 : (x == ("__debug__" : Str)) = false := by decide) : EV X Γ M (.Name x pos) d := ge_glob g ⟨rfl, rfl⟩ hg h1

/-! ### operators -/
/-- what the values' rule r makes of x and y, said of data -/
def Bin (K : PySem.W.Frag) (r : R2) (x y : D) (M : Ms) (k : KD) : Prop := ∀ S vx vy, OkM K S M → Rep K S x vx → Rep K S y vy → ∀ Q, KV K S k Q → r vx vy S.H Q
/-- .. nothing else happens -/
def BinV (K : PySem.W.Frag) (r : R2) (x y : D) (M : Ms) (z : D) : Prop := Bin K r x y M fun d M' => d = z ∧ M' = M
theorem BinV.bin {K : PySem.W.Frag} {r : R2} (h : BinV K r x y M z) (hk : k z M) : Bin K r x y M k := fun S vx vy hM rx ry Q hQ => h S vx vy hM rx ry Q fun d M' S' v ⟨a, b⟩ => by
  rw [a, b]; exact hQ z M S' v hk
theorem ge_bin {op : Operator} {r : R2} (ho : OpR X (binaryOp op) r) (h : GE X Γ M a (fun x M1 => GE X Γ M1 b (fun y M2 => Bin X.K r x y M2 k) kx) kx) : GE X Γ M (.BinOp a op b pos) k kx := fun S σ hM hE W tk hW Q hQ =>
  of_pe (pe_op ho we we) (h S σ hM hE W tk hW _ fun x M1 S1 vx h1 hM1 g1 rx => h1 S1 σ hM1 (hE.grow g1) W tk (hW.grow g1) _ fun y M2 S2 vy h2 hM2 g2 ry =>
    h2 S2 vx vy hM2 (rx.grow g2) ry Q ((hQ.grow g1).grow g2))
theorem ge_cmp {op : CmpOp} {r : R2} (ho : OpR X (compareOp op) r) (hm : behindInMarks op b = false) (h : GE X Γ M a (fun x M1 => GE X Γ M1 b (fun y M2 => Bin X.K r x y M2 k) kx) kx) : GE X Γ M (.Compare a [op] [b] pos) k kx := fun S σ hM hE W tk hW Q hQ =>
  of_pe (pe_cmpR ho we we hm) (h S σ hM hE W tk hW _ fun x M1 S1 vx h1 hM1 g1 rx => h1 S1 σ hM1 (hE.grow g1) W tk (hW.grow g1) _ fun y M2 S2 vy h2 hM2 g2 ry =>
    h2 S2 vx vy hM2 (rx.grow g2) ry Q ((hQ.grow g1).grow g2))
theorem gt_cmp {op : CmpOp} {r : R2} {k : KB} (ho : OpR X (compareOp op) r) (hm : behindInMarks op b = false) (h : GE X Γ M a (fun x M1 => GE X Γ M1 b (fun y M2 => Bin X.K r x y M2 fun d M' => ∃ v, d = .bl v ∧ k v M') kx) kx) : GT X Γ M (.Compare a [op] [b] pos) k kx := fun S σ hM hE W tk hW Q hQ =>
  of_pt (pt_cmpR ho we we hm) (h S σ hM hE W tk hW _ fun x M1 S1 vx h1 hM1 g1 rx => h1 S1 σ hM1 (hE.grow g1) W tk (hW.grow g1) _ fun y M2 S2 vy h2 hM2 g2 ry =>
    h2 S2 vx vy hM2 (rx.grow g2) ry _ fun d M' S3 v ⟨w, e, hk⟩ hM3 g3 r3 => by
      subst e
      exact ⟨w, r3, hQ w M' S3 hk hM3 (g1.trans (g2.trans g3))⟩)
theorem ge_ix {r : R2} (ho : IxR X r) (hs : PlainIx b) (h : GE X Γ M a (fun x M1 => GE X Γ M1 b (fun y M2 => Bin X.K r x y M2 k) kx) kx) : GE X Γ M (.Subscript a b pos) k kx := fun S σ hM hE W tk hW Q hQ =>
  of_pe (pe_ix ho we we hs) (h S σ hM hE W tk hW _ fun x M1 S1 vx h1 hM1 g1 rx => h1 S1 σ hM1 (hE.grow g1) W tk (hW.grow g1) _ fun y M2 S2 vy h2 hM2 g2 ry =>
    h2 S2 vx vy hM2 (rx.grow g2) ry Q ((hQ.grow g1).grow g2))
theorem ev_bin {op : Operator} {r : R2} (ho : OpR X (binaryOp op) r) (ha : EV X Γ M a x) (hb : EV X Γ M b y) (h : BinV X.K r x y M z) : EV X Γ M (.BinOp a op b pos) z := ge_bin ho (ha.ge (hb.ge h))
theorem ev_cmp {op : CmpOp} {r : R2} (ho : OpR X (compareOp op) r) (hm : behindInMarks op b = false) (ha : EV X Γ M a x) (hb : EV X Γ M b y) (h : BinV X.K r x y M z) : EV X Γ M (.Compare a [op] [b] pos) z := ge_cmp ho hm (ha.ge (hb.ge h))
theorem tv_cmp {op : CmpOp} {r : R2} {v : Bool} (ho : OpR X (compareOp op) r) (hm : behindInMarks op b = false) (ha : EV X Γ M a x) (hb : EV X Γ M b y) (h : BinV X.K r x y M (.bl v)) : TV X Γ M (.Compare a [op] [b] pos) v :=
  gt_cmp ho hm (ha.ge (hb.ge (h.bin ⟨v, rfl, rfl, rfl⟩)))
theorem ev_ix {r : R2} (ho : IxR X r) (hs : PlainIx b) (ha : EV X Γ M a x) (hb : EV X Γ M b y) (h : BinV X.K r x y M z) : EV X Γ M (.Subscript a b pos) z := ge_ix ho hs (ha.ge (hb.ge h))

/-! ### tests -/
theorem gt_val {k : KB} (h : GE X Γ M e (fun d M' => ∃ v, d = .bl v ∧ k v M') kx) (he : ∀ whole, isTrue e X.env whole = (do let v ← whole; standAt e.pos; holding [v] (truthy v)) := by intro _; rfl) : GT X Γ M e k kx := fun S σ hM hE W tk hW Q hQ =>
  of_pt (pt_val we he) (h S σ hM hE W tk hW _ fun d M' S' v ⟨w, e, hk⟩ hM' g r => by
    subst e
    exact ⟨w, r, hQ w M' S' hk hM' g⟩)
theorem tv_val {v : Bool} (h : EV X Γ M e (.bl v)) (he : ∀ whole, isTrue e X.env whole = (do let v ← whole; standAt e.pos; holding [v] (truthy v)) := by intro _; rfl) : TV X Γ M e v := gt_val (h.ge ⟨v, rfl, rfl, rfl⟩) he
theorem gt_not {k : KB} (h : GT X Γ M a (fun v M' => k (!v) M') kx) : GT X Γ M (.UnaryOp .Not a pos) k kx := fun S σ hM hE W tk hW Q hQ =>
  of_pt (pt_not wt) (h S σ hM hE W tk hW _ fun v M' S' hk hM' g => hQ (!v) M' S' hk hM' g)
theorem tv_not {v : Bool} (h : TV X Γ M a v) : TV X Γ M (.UnaryOp .Not a pos) (!v) := gt_not (h.gt ⟨rfl, rfl⟩)
theorem gt_bool {k : KB} {op : BoolOp} (h : GP X Γ M (.BoolOp op es pos) k kx) : GT X Γ M (.BoolOp op es pos) k kx := fun S σ hM hE W tk hW Q hQ => of_pt wpw.pt (h S σ hM hE W tk hW Q hQ)
theorem gp_and1 {k : KB} (h : GT X Γ M a k kx) : GP X Γ M (.BoolOp .And [a] pos) k kx := fun S σ hM hE W tk hW Q hQ => of_pw (pw_and1 wt) (h S σ hM hE W tk hW Q hQ)
theorem gp_or1 {k : KB} (h : GT X Γ M a k kx) : GP X Γ M (.BoolOp .Or [a] pos) k kx := fun S σ hM hE W tk hW Q hQ => of_pw (pw_or1 wt) (h S σ hM hE W tk hW Q hQ)
theorem gp_and {k : KB} (h : GT X Γ M a (fun v M1 => (v = true → GP X Γ M1 (.BoolOp .And (b :: es) pos) k kx) ∧ (v = false → k false M1)) kx) : GP X Γ M (.BoolOp .And (a :: b :: es) pos) k kx := fun S σ hM hE W tk hW Q hQ =>
  of_pw (pw_and wt wpw) (h S σ hM hE W tk hW _ fun v M1 S1 h1 hM1 g1 => by
    cases v with
    | true => exact (h1.1 rfl) S1 σ hM1 (hE.grow g1) W tk (hW.grow g1) Q (hQ.grow g1)
    | false => exact hQ false M1 S1 (h1.2 rfl) hM1 g1)
theorem gp_or {k : KB} (h : GT X Γ M a (fun v M1 => (v = false → GP X Γ M1 (.BoolOp .Or (b :: es) pos) k kx) ∧ (v = true → k true M1)) kx) : GP X Γ M (.BoolOp .Or (a :: b :: es) pos) k kx := fun S σ hM hE W tk hW Q hQ =>
  of_pw (pw_or wt wpw) (h S σ hM hE W tk hW _ fun v M1 S1 h1 hM1 g1 => by
    cases v with
    | false => exact (h1.1 rfl) S1 σ hM1 (hE.grow g1) W tk (hW.grow g1) Q (hQ.grow g1)
    | true => exact hQ true M1 S1 (h1.2 rfl) hM1 g1)
theorem tv_bool {op : BoolOp} {v : Bool} (h : PV X Γ M (.BoolOp op es pos) v) : TV X Γ M (.BoolOp op es pos) v := gt_bool h
theorem pv_and1 {v : Bool} (h : TV X Γ M a v) : PV X Γ M (.BoolOp .And [a] pos) v := gp_and1 h
theorem pv_or1 {v : Bool} (h : TV X Γ M a v) : PV X Γ M (.BoolOp .Or [a] pos) v := gp_or1 h
theorem pv_and {v w : Bool} (h : TV X Γ M a v) (h2 : v = true → PV X Γ M (.BoolOp .And (b :: es) pos) w) : PV X Γ M (.BoolOp .And (a :: b :: es) pos) (v && w) := gp_and (h.gt ⟨fun q => (h2 q).gp ⟨by rw [q]; rfl, rfl⟩, fun q => ⟨by rw [q]; rfl, rfl⟩⟩)
theorem pv_or {v w : Bool} (h : TV X Γ M a v) (h2 : v = false → PV X Γ M (.BoolOp .Or (b :: es) pos) w) : PV X Γ M (.BoolOp .Or (a :: b :: es) pos) (v || w) := gp_or (h.gt ⟨fun q => (h2 q).gp ⟨by rw [q]; rfl, rfl⟩, fun q => ⟨by rw [q]; rfl, rfl⟩⟩)
/-- a and b as a value -/
theorem ge_one {op : BoolOp} (h : GE X Γ M a k kx) : GE X Γ M (.BoolOp op [a] pos) k kx := fun S σ hM hE W tk hW Q hQ => of_pe (pe_one we) (h S σ hM hE W tk hW Q hQ)
theorem ge_and (h : GE X Γ M a (fun d M1 => ∃ v, d = .bl v ∧ (v = true → GE X Γ M1 (.BoolOp .And (b :: es) pos) k kx) ∧ (v = false → k (.bl false) M1)) kx) : GE X Γ M (.BoolOp .And (a :: b :: es) pos) k kx := fun S σ hM hE W tk hW Q hQ =>
  of_pe (pe_and we we) (h S σ hM hE W tk hW _ fun d M1 S1 x ⟨v, e, h1, h2⟩ hM1 g1 r => by
    subst e
    refine ⟨v, r, ?_⟩
    cases v with
    | true => exact (h1 rfl) S1 σ hM1 (hE.grow g1) W tk (hW.grow g1) Q (hQ.grow g1)
    | false => exact hQ _ M1 S1 _ (h2 rfl) hM1 g1 rfl)
theorem ge_or (h : GE X Γ M a (fun d M1 => ∃ v, d = .bl v ∧ (v = false → GE X Γ M1 (.BoolOp .Or (b :: es) pos) k kx) ∧ (v = true → k (.bl true) M1)) kx) : GE X Γ M (.BoolOp .Or (a :: b :: es) pos) k kx := fun S σ hM hE W tk hW Q hQ =>
  of_pe (pe_or we we) (h S σ hM hE W tk hW _ fun d M1 S1 x ⟨v, e, h1, h2⟩ hM1 g1 r => by
    subst e
    refine ⟨v, r, ?_⟩
    cases v with
    | false => exact (h1 rfl) S1 σ hM1 (hE.grow g1) W tk (hW.grow g1) Q (hQ.grow g1)
    | true => exact hQ _ M1 S1 _ (h2 rfl) hM1 g1 rfl)
theorem ge_not (h : GE X Γ M a (fun d M1 => ∃ v, d = .bl v ∧ k (.bl (!v)) M1) kx) : GE X Γ M (.UnaryOp .Not a pos) k kx := fun S σ hM hE W tk hW Q hQ =>
  of_pe (pe_not we) (h S σ hM hE W tk hW _ fun d M1 S1 x ⟨v, e, h1⟩ hM1 g1 r => by
    subst e
    exact ⟨v, r, hQ _ M1 S1 _ h1 hM1 g1 rfl⟩)
theorem ev_one {op : BoolOp} (h : EV X Γ M a d) : EV X Γ M (.BoolOp op [a] pos) d := ge_one h
theorem ev_and {v w : Bool} (h : EV X Γ M a (.bl v)) (h2 : v = true → EV X Γ M (.BoolOp .And (b :: es) pos) (.bl w)) : EV X Γ M (.BoolOp .And (a :: b :: es) pos) (.bl (v && w)) :=
  ge_and (h.ge ⟨v, rfl, fun q => (h2 q).ge ⟨by rw [q]; rfl, rfl⟩, fun q => ⟨by rw [q]; rfl, rfl⟩⟩)
theorem ev_or {v w : Bool} (h : EV X Γ M a (.bl v)) (h2 : v = false → EV X Γ M (.BoolOp .Or (b :: es) pos) (.bl w)) : EV X Γ M (.BoolOp .Or (a :: b :: es) pos) (.bl (v || w)) :=
  ge_or (h.ge ⟨v, rfl, fun q => (h2 q).ge ⟨by rw [q]; rfl, rfl⟩, fun q => ⟨by rw [q]; rfl, rfl⟩⟩)
theorem ev_not {v : Bool} (h : EV X Γ M a (.bl v)) : EV X Γ M (.UnaryOp .Not a pos) (.bl (!v)) := ge_not (h.ge ⟨v, rfl, rfl, rfl⟩)
theorem ge_ife (h : GT X Γ M c (fun v M1 => (v = true → GE X Γ M1 a k kx) ∧ (v = false → GE X Γ M1 b k kx)) kx) : GE X Γ M (.IfExp c a b pos) k kx := fun S σ hM hE W tk hW Q hQ =>
  of_pe (pe_ifExp wt we we) (h S σ hM hE W tk hW _ fun v M1 S1 h1 hM1 g1 => by
    cases v with
    | true => exact (h1.1 rfl) S1 σ hM1 (hE.grow g1) W tk (hW.grow g1) Q (hQ.grow g1)
    | false => exact (h1.2 rfl) S1 σ hM1 (hE.grow g1) W tk (hW.grow g1) Q (hQ.grow g1))
theorem ev_ife {v : Bool} (h : TV X Γ M c v) (h1 : v = true → EV X Γ M a x) (h2 : v = false → EV X Γ M b y) : EV X Γ M (.IfExp c a b pos) (if v = true then x else y) :=
  ge_ife (h.gt ⟨fun q => (h1 q).ge ⟨by rw [q]; rfl, rfl⟩, fun q => (h2 q).ge ⟨by rw [q]; rfl, rfl⟩⟩)

/-! ### arguments, displays -/
theorem ga_nil {k : KDs} (hk : k [] M) : GA X Γ M [] k kx := fun S σ hM hE W tk hW Q hQ => of_pa pa_nil (hQ [] M S [] hk hM (Grow.refl _) RepL.nil)
theorem ga_cons {k : KDs} (h : GE X Γ M e (fun d M1 => GA X Γ M1 es (fun ds M2 => k (d :: ds) M2) kx) kx) (hs : starEach (e :: es) X.env = (false, eval e X.env) :: starEach es X.env := by rfl) : GA X Γ M (e :: es) k kx := fun S σ hM hE W tk hW Q hQ =>
  of_pa (pa_cons we wa hs) (h S σ hM hE W tk hW _ fun d M1 S1 x h1 hM1 g1 r => h1 S1 σ hM1 (hE.grow g1) W tk (hW.grow g1) _ fun ds M2 S2 xs h2 hM2 g2 r2 => hQ (d :: ds) M2 S2 _ h2 hM2 (g1.trans g2) (.cons (r.grow g2) r2))
theorem av_nil : AV X Γ M [] [] := ga_nil ⟨rfl, rfl⟩
theorem av_cons {ds : List D} (h : EV X Γ M e d) (hr : AV X Γ M es ds) (hs : starEach (e :: es) X.env = (false, eval e X.env) :: starEach es X.env := by rfl) : AV X Γ M (e :: es) (d :: ds) := ga_cons (h.ge (hr.ga ⟨rfl, rfl⟩)) hs
theorem ge_tup {j : Nat} (h : GA X Γ M es (fun ds M1 => ds.length ≤ 16777216 ∧ k (.tup ds) M1) kx) : GE X Γ M (.Tuple es j pos) k kx := fun S σ hM hE W tk hW Q hQ =>
  of_pe (pe_tup wa) (h S σ hM hE W tk hW _ fun ds M1 S1 xs ⟨hl, hk⟩ hM1 g1 r => ⟨by rw [r.len]; exact hl, fun p hp => by
    obtain ⟨hM2, g2⟩ := new_z (o := .tup xs) hM1 hp
    exact hQ (.tup ds) M1 ⟨S1.as, upd S1.Z p (.tup xs), upd S1.H p (.tup xs)⟩ (.ref p) hk hM2 (g1.trans g2) ⟨p, xs, rfl, SqT.of upd_same, r.grow g2⟩⟩)
theorem ge_lst (h : GA X Γ M es (fun ds M1 => ds.length ≤ 16777216 ∧ k (.lst ds) M1) kx) : GE X Γ M (.List es pos) k kx := fun S σ hM hE W tk hW Q hQ =>
  of_pe (pe_lst wa) (h S σ hM hE W tk hW _ fun ds M1 S1 xs ⟨hl, hk⟩ hM1 g1 r => ⟨by rw [r.len]; exact hl, fun p hp => by
    obtain ⟨hM2, g2⟩ := new_z (o := .lst xs) hM1 hp
    exact hQ (.lst ds) M1 ⟨S1.as, upd S1.Z p (.lst xs), upd S1.H p (.lst xs)⟩ (.ref p) hk hM2 (g1.trans g2) ⟨p, xs, rfl, upd_same, r.grow g2⟩⟩)
/-- a list that may change -/
theorem ge_lstM (h : GA X Γ M es (fun ds M1 => ds.length ≤ 16777216 ∧ ∀ p, k (.hdl p) (M1 ++ [(p, .lst ds)])) kx) : GE X Γ M (.List es pos) k kx := fun S σ hM hE W tk hW Q hQ =>
  of_pe (pe_lst wa) (h S σ hM hE W tk hW _ fun ds M1 S1 xs ⟨hl, hk⟩ hM1 g1 r => ⟨by rw [r.len]; exact hl, fun p hp => by
    obtain ⟨hM2, g2⟩ := new_m (m := .lst ds) (o := .lst xs) hM1 hp (fun g => ⟨hM1.zh.none hp, xs, upd_same, r.grow g⟩)
    exact hQ _ _ ⟨S1.as ++ [p], S1.Z, upd S1.H p (.lst xs)⟩ (.ref p) (hk p) hM2 (g1.trans g2) rfl⟩)
theorem ev_tup {ds : List D} {j : Nat} (h : AV X Γ M es ds) (hl : ds.length ≤ 16777216 := by simp) : EV X Γ M (.Tuple es j pos) (.tup ds) := ge_tup (h.ga ⟨hl, rfl, rfl⟩)
theorem ev_lst {ds : List D} (h : AV X Γ M es ds) (hl : ds.length ≤ 16777216 := by simp) : EV X Γ M (.List es pos) (.lst ds) := ge_lst (h.ga ⟨hl, rfl, rfl⟩)
/-- what was made to change is not changed any more -/
theorem ge_frz (h : GE X Γ M e (fun d M1 => ∃ (j : Nat) (a : Addr) (ds : List D), d = .hdl a ∧ M1[j]? = some (a, MO.lst ds) ∧ k (.lst ds) (M1.eraseIdx j)) kx) : GE X Γ M e k kx := fun S σ hM hE W tk hW Q hQ =>
  h S σ hM hE W tk hW Q fun d M1 S1 v ⟨j, a, ds, e, hj, hk⟩ hM1 g1 r => by
    subst e
    cases r
    obtain ⟨hz, xs, hh, hr⟩ := hM1.at hj
    obtain ⟨hM2, g2⟩ := frz_m hM1 hj hz hh
    have hs : (M1.eraseIdx j).Sublist (M1.set j (a, .gone)) := by
      rw [← List.eraseIdx_set_eq (l := M1) (i := j) (a := (a, MO.gone))]
      exact List.eraseIdx_sublist _ _
    obtain ⟨hM3, g3⟩ := drop_m hM2 hs
    exact hQ (.lst ds) _ ⟨(M1.eraseIdx j).map (·.1), upd S1.Z a (.lst xs), S1.H⟩ (.ref a) hk hM3 (g1.trans (g3 S1 g2)) ⟨a, xs, rfl, upd_same, (sg_mono (S' := ⟨(M1.eraseIdx j).map (·.1), upd S1.Z a (.lst xs), S1.H⟩) (ex_new hz)).2 _ _ hr⟩

/-! ### statements -/
theorem gb_nil (h : E.nx Γ M) : GB X Γ M [] E := fun S σ hM hE W tk De L => of_pb pss_nil (L.nx Γ M S σ h hM (Grow.refl _) hE)
theorem gb_cons (h : GS X Γ M st { E with nx := fun Γ1 M1 => GB X Γ1 M1 rest E }) : GB X Γ M (st :: rest) E := fun S σ hM hE W tk De L =>
  of_pb (pss_cons wst wb) (h S σ hM hE W tk { De with nx := WB X rest De } ⟨fun Γ1 M1 S1 σ1 h1 hM1 g1 e1 => h1 S1 σ1 hM1 e1 W tk De (L.grow g1), L.rt, L.bk, L.ct, L.ex⟩)
theorem gb_one (h : GS X Γ M st E) : GB X Γ M [st] E := fun S σ hM hE W tk De L => of_pb (pss_one wst) (h S σ hM hE W tk De L)
/-- a cut behind a statement -/
theorem gb_cut (J : En → Ms → Prop) (h : GS X Γ M st { E with nx := J }) (hr : ∀ Γ1 M1, J Γ1 M1 → GB X Γ1 M1 rest E) : GB X Γ M (st :: rest) E := fun S σ hM hE W tk De L =>
  of_pb (pss_cons wst wb) (h S σ hM hE W tk { De with nx := WB X rest De } ⟨fun Γ1 M1 S1 σ1 h1 hM1 g1 e1 => hr Γ1 M1 h1 S1 σ1 hM1 e1 W tk De (L.grow g1), L.rt, L.bk, L.ct, L.ex⟩)
theorem LK.kw {K : PySem.W.Frag} {S : Sg} {De : Ends} {W : WX} {σ : L2.St} (L : LK K S E De W) (hE : EnvOk K S σ Γ) : KW K S (fun c f M1 => E.ex c f Γ M1) W σ := fun c f M1 S1 dd h hM1 g r => L.ex c f Γ M1 S1 σ dd h hM1 g (hE.grow g) r
theorem gs_set (i : Nat) {x : Str} {px : Pos} (h : GE X Γ M e (fun d M1 => E.nx (Γ.set i (some d)) M1) (fun c f M1 => E.ex c f Γ M1)) (hN : X.N.Nodup) (hi : X.N[i]? = some x := by rfl) (hx : Loc X.env.scope x := by first | exact Or.inl rfl | exact Or.inr rfl)
    (hs : swapsWith e (some (.Name x px)) pos.line X.env = pure false := by rfl) (hf : X.fn x = true ∨ X.env.scope.names.lookup x = some .local := by first | exact .inl rfl | exact .inr rfl) : GS X Γ M (.Assign [.Name x px] e pos) E := fun S σ hM hE W tk De L =>
  of_ps (ps_set hN hi hx we hs hf) (h S σ hM hE W tk (L.kw hE) _ fun d M1 S1 v h1 hM1 g1 r => L.nx _ M1 S1 _ h1 hM1 g1 ((hE.grow g1).set r))
theorem gs_expr (h : GE X Γ M e (fun _ M1 => E.nx Γ M1) (fun c f M1 => E.ex c f Γ M1)) (hs : swapsWith e none pos.line X.env = pure false := by rfl) : GS X Γ M (.Expr e pos) E := fun S σ hM hE W tk De L =>
  of_ps (ps_expr we hs) (h S σ hM hE W tk (L.kw hE) _ fun d M1 S1 v h1 hM1 g1 r => L.nx _ M1 S1 _ h1 hM1 g1 (hE.grow g1))
theorem gs_ret (h : GE X Γ M e E.rt (fun c f M1 => E.ex c f Γ M1)) : GS X Γ M (.Return (some e) pos) E := fun S σ hM hE W tk De L => of_ps (ps_ret we) (h S σ hM hE W tk (L.kw hE) _ L.rt)
theorem gs_retN (h : E.rt .non M) : GS X Γ M (.Return none pos) E := fun S σ hM hE W tk De L => of_ps ps_retN (L.rt _ M S _ h hM (Grow.refl _) rfl)
theorem gs_pass (h : E.nx Γ M) : GS X Γ M (.Pass pos) E := fun S σ hM hE W tk De L => of_ps ps_pass (L.nx Γ M S σ h hM (Grow.refl _) hE)
theorem gs_break (h : E.bk Γ M) : GS X Γ M (.Break pos) E := fun S σ hM hE W tk De L => of_ps ps_break (L.bk Γ M S σ h hM (Grow.refl _) hE)
theorem gs_continue (h : E.ct Γ M) : GS X Γ M (.Continue pos) E := fun S σ hM hE W tk De L => of_ps ps_continue (L.ct Γ M S σ h hM (Grow.refl _) hE)
theorem gs_if {s1 s2 : List Stmt} (h : GT X Γ M c (fun v M1 => (v = true → GB X Γ M1 s1 E) ∧ (v = false → GB X Γ M1 s2 E)) (fun c f M1 => E.ex c f Γ M1)) : GS X Γ M (.If c s1 s2 pos) E := fun S σ hM hE W tk De L =>
  of_ps (ps_if wt wb wb) (h S σ hM hE W tk (L.kw hE) _ fun v M1 S1 h1 hM1 g1 => by
    cases v with
    | true => exact (h1.1 rfl) S1 σ hM1 (hE.grow g1) W tk De (L.grow g1)
    | false => exact (h1.2 rfl) S1 σ hM1 (hE.grow g1) W tk De (L.grow g1))
end
end PD

set_option Elab.async false
set_option linter.all false
set_option maxRecDepth 100000
set_option maxHeartbeats 4000000
/-! PD: what the operators make of data. -/
namespace PD
open PySem L2
open Evl (Ex ex_rd ex_l ex_t)

/-! ### data as the library's plain data, for == -/
mutual
def py : D → PyData
  | .bl b => .bool b
  | .int i => .int i
  | .str s => .str s
  | .tup ds => .tuple (pys ds)
  | .lst ds => .list (pys ds)
  | .seq ds => .list (pys ds)
  | _ => .none
def pys : List D → List PyData
  | [] => []
  | d :: ds => py d :: pys ds
end
mutual
/-- plain data, at most n deep -/
def sm : Nat → D → Bool
  | _, .non => true
  | _, .bl _ => true
  | _, .int _ => true
  | _, .str s => PyData.canLay0 (.str s)
  | n, .tup ds => match n with | 0 => false | n + 1 => sms n ds
  | n, .lst ds => match n with | 0 => false | n + 1 => sms n ds
  | n, .seq ds => match n with | 0 => false | n + 1 => sms n ds
  | _, _ => false
def sms : Nat → List D → Bool
  | _, [] => true
  | n, d :: ds => sm n d && sms n ds
end
theorem sms_iff : ∀ {n : Nat} {ds : List D}, sms n ds = true ↔ ∀ d ∈ ds, sm n d = true
  | n, [] => by simp [sms]
  | n, d :: ds => by simp [sms, sms_iff (ds := ds)]
theorem pys_map : ∀ ds : List D, pys ds = ds.map py
  | [] => rfl
  | d :: ds => by simp [pys, pys_map ds]
theorem sm_all : ∀ N : Nat, (∀ d, sizeOf d < N → ∀ n, sm n d = true → (py d).canLay0 = true ∧ (py d).depth ≤ n) ∧ ∀ ds : List D, sizeOf ds < N → ∀ n, sms n ds = true → PyData.canLayAll0 (pys ds) = true ∧ PyData.depthAll (pys ds) ≤ n := by
  intro N
  induction N with
  | zero => exact ⟨fun _ h => absurd h (Nat.not_lt_zero _), fun _ h => absurd h (Nat.not_lt_zero _)⟩
  | succ N ih =>
    refine ⟨fun d hd n h => ?_, fun ds hd n h => ?_⟩
    · cases d with
      | non => exact ⟨rfl, Nat.zero_le _⟩
      | bl b => exact ⟨rfl, Nat.zero_le _⟩
      | int i => exact ⟨rfl, Nat.zero_le _⟩
      | str s => simp only [sm] at h; exact ⟨h, Nat.zero_le _⟩
      | tup ds =>
        cases n with
        | zero => simp [sm] at h
        | succ n =>
          simp only [sm] at h
          obtain ⟨h1, h2⟩ := ih.2 ds (by simp at hd; omega) n h
          exact ⟨by simpa only [py, PyData.canLay0] using h1, by simp only [py, PyData.depth]; omega⟩
      | lst ds =>
        cases n with
        | zero => simp [sm] at h
        | succ n =>
          simp only [sm] at h
          obtain ⟨h1, h2⟩ := ih.2 ds (by simp at hd; omega) n h
          exact ⟨by simpa only [py, PyData.canLay0] using h1, by simp only [py, PyData.depth]; omega⟩
      | seq ds =>
        cases n with
        | zero => simp [sm] at h
        | succ n =>
          simp only [sm] at h
          obtain ⟨h1, h2⟩ := ih.2 ds (by simp at hd; omega) n h
          exact ⟨by simpa only [py, PyData.canLay0] using h1, by simp only [py, PyData.depth]; omega⟩
      | dct ks ds => simp [sm] at h
      | ins C fs ds => simp [sm] at h
      | hdl k => simp [sm] at h
      | raw v => simp [sm] at h
    · cases ds with
      | nil => exact ⟨rfl, Nat.zero_le _⟩
      | cons d r =>
        simp only [sms, Bool.and_eq_true] at h
        obtain ⟨a1, a2⟩ := ih.1 d (by simp at hd; omega) n h.1
        obtain ⟨b1, b2⟩ := ih.2 r (by simp at hd; omega) n h.2
        exact ⟨by simp only [pys, PyData.canLayAll0, a1, b1, Bool.and_self], by simp only [pys, PyData.depthAll]; omega⟩
theorem shaped_of {d : D} {n : Nat} (h : sm n d = true) (hn : n ≤ 64) : SeqAt.shaped (py d) = true := by
  obtain ⟨h1, h2⟩ := (sm_all (sizeOf d + 1)).1 d (by omega) n h
  unfold SeqAt.shaped
  rw [h1, decide_eq_true (by omega)]; rfl
section
variable {K : PySem.W.Frag} {S : Sg}
theorem dp_all (zh : Ex S.Z S.H) : ∀ N : Nat, (∀ d, sizeOf d < N → ∀ n v, sm n d = true → Rep K S d v → Dp K S.H v (py d)) ∧ ∀ ds : List D, sizeOf ds < N → ∀ n xs, sms n ds = true → RepL K S ds xs → DpAll K S.H xs (pys ds) := by
  intro N
  induction N with
  | zero => exact ⟨fun _ h => absurd h (Nat.not_lt_zero _), fun _ h => absurd h (Nat.not_lt_zero _)⟩
  | succ N ih =>
    refine ⟨fun d hd n v h r => ?_, fun ds hd n xs h r => ?_⟩
    · cases d with
      | non => cases r; exact .non
      | bl b => cases r; exact .bl b
      | int i => cases r; exact .int i
      | str s => cases r; exact .str s
      | tup ds =>
        obtain ⟨a, xs, rfl, s, r⟩ := r
        cases n with
        | zero => simp [sm] at h
        | succ n => simp only [sm] at h; exact .tup (ex_t zh s) (ih.2 ds (by simp at hd; omega) n xs h r)
      | lst ds =>
        obtain ⟨a, xs, rfl, s, r⟩ := r
        cases n with
        | zero => simp [sm] at h
        | succ n => simp only [sm] at h; exact .lst (SqL.of (zh _ _ s)) (ih.2 ds (by simp at hd; omega) n xs h r)
      | seq ds =>
        obtain ⟨a, xs, rfl, s, r⟩ := r
        cases n with
        | zero => simp [sm] at h
        | succ n => simp only [sm] at h; exact .lst (ex_l zh s) (ih.2 ds (by simp at hd; omega) n xs h r)
      | dct ks ds => simp [sm] at h
      | ins C fs ds => simp [sm] at h
      | hdl k => simp [sm] at h
      | raw v => simp [sm] at h
    · cases ds with
      | nil => have e : xs = [] := r; subst e; exact .nil
      | cons d q =>
        obtain ⟨x, ys, rfl, r1, r2⟩ := r
        simp only [sms, Bool.and_eq_true] at h
        exact .cons (ih.1 d (by simp at hd; omega) n x h.1 r1) (ih.2 q (by simp at hd; omega) n ys h.2 r2)
theorem dp_of {M : Ms} {d : D} {v : V} {n : Nat} (hM : OkM K S M) (h : sm n d = true) (r : Rep K S d v) : Dp K S.H v (py d) := (dp_all hM.zh (sizeOf d + 1)).1 d (by omega) n v h r
end

/-! ### rules that serve several kinds -/
def rAddU (K : PySem.W.Frag) : R2 := fun x y H Q => rI0 (fun i j => .int (i + j)) x y H Q ∨ (∃ i j, x = .str i ∧ y = .str j ∧ i.length + j.length ≤ sizeLine ∧ Q (.str (i ++ j)) H) ∨ rCat x y H Q ∨ rCatA K x y H Q
def CPowX (i j : Int) : Prop := 0 ≤ j ∧ (Builtin.Int.intBits i : Int) * j ≤ 2 ^ 27
def rStrMul : R2 := fun x y H Q => ∃ z k, x = .str z ∧ y = .int k ∧ 0 ≤ k ∧ k ≤ 1000 ∧ z.length ≤ 1000 ∧ Q (.str ⟨(List.replicate k.toNat z.cps).foldl (· ++ ·) #[]⟩) H
def rMulU (K : PySem.W.Frag) : R2 := fun x y H Q => rI CMulX (fun i j => .int (i * j)) x y H Q ∨ rRep x y H Q ∨ rRepT K x y H Q ∨ rStrMul x y H Q
def rEqU (K : PySem.W.Frag) : R2 := fun x y H Q => rEq x y H Q ∨ rEqD K x y H Q
def rNeU (K : PySem.W.Frag) : R2 := fun x y H Q => rNe x y H Q ∨ rNeD K x y H Q
def rInU (K : PySem.W.Frag) : R2 := fun x y H Q => rIn K false x y H Q ∨ (∃ i j, x = .str i ∧ y = .str j ∧ Q (.bl (!(Builtin.Str.occurrences j i 0 j.length 1).isEmpty)) H) ∨ rInD K x y H Q
def rNotInU (K : PySem.W.Frag) : R2 := fun x y H Q => rIn K true x y H Q ∨ (∃ i j, x = .str i ∧ y = .str j ∧ Q (.bl (!(!(Builtin.Str.occurrences j i 0 j.length 1).isEmpty))) H) ∨ rNotInD K x y H Q
section
variable {X : Cx}
theorem op_addU : OpR X (binaryOp .Add) (rAddU X.K) := op_add.or (op_add_str.or (op_cat.or op_catA))
theorem op_powX : OpR X (binaryOp .Pow) (rI CPowX fun i j => .int (i ^ j.toNat)) := opI fun _ _ _ _ _ _ _ hc q => PyProof.Rows.pow_int hc.1 hc.2 q
theorem op_eqU (hu : X.A.units + 64 < cLine) : OpR X (compareOp .Eq) (rEqU X.K) := op_eq.or (op_eqD hu)
theorem op_neU (hu : X.A.units + 64 < cLine) : OpR X (compareOp .NotEq) (rNeU X.K) := op_ne.or (op_neD hu)
theorem op_inU (hu : X.A.units + 65 < cLine) : OpR X (compareOp .In) (rInU X.K) := op_in_seq.or (op_in_str.or (op_inD hu))
theorem op_notInU (hu : X.A.units + 65 < cLine) : OpR X (compareOp .NotIn) (rNotInU X.K) := op_notIn_seq.or (op_notIn_str.or (op_notInD hu))
theorem op_strMul : OpR X (binaryOp .Mult) rStrMul := by
  intro pins s σ H x y v u Q I rx ry h
  obtain ⟨z, k, rfl, rfl, h0, h1, h2, q⟩ := h
  obtain ⟨t, rfl⟩ := rx
  obtain ⟨t', rfl⟩ := ry
  have two : (2 : Int) ^ 63 = 9223372036854775808 := by decide
  refine PySem.P.mul_str (by
    have a1 : ¬ k < -(2 ^ 63 : Int) := by omega
    have a2 : ¬ k ≥ 2 ^ 63 := by omega
    rw [decide_eq_false a1, decide_eq_false a2]; rfl) (fun a _ b => ?_) (fun a _ => ?_) ?_
  · have h3 : (0 : Int) < k := by omega
    have h4 : (2 ^ 63 - 1) / k ≥ (2 ^ 63 - 1) / 1000 := by
      have : (1000 : Int) * ((2 ^ 63 - 1) / 1000) ≤ 2 ^ 63 - 1 := by omega
      refine Int.le_ediv_of_mul_le h3 ?_
      have h6 : (0:Int) ≤ (2 ^ 63 - 1) / 1000 := by omega
      calc (2 ^ 63 - 1) / 1000 * k ≤ (2 ^ 63 - 1) / 1000 * 1000 := Int.mul_le_mul_of_nonneg_left h1 h6
        _ ≤ 2 ^ 63 - 1 := by omega
    have h5 : ((2:Int) ^ 63 - 1) / 1000 > 1000 := by omega
    omega
  · have h3 : z.length * k.toNat ≤ 1000 * 1000 := Nat.mul_le_mul h2 (by omega)
    show decide (z.length * k.toNat > sizeLine) = false
    rw [sizeLine_eq]
    exact decide_eq_false (by omega)
  · by_cases c1 : k < 1
    · rw [if_pos c1]
      have : k = 0 := by omega
      subst this
      exact ⟨by decide, ⟨.str Str.empty, H, I.tok _, ⟨_, rfl⟩, q⟩⟩
    · rw [if_neg c1]
      by_cases c2 : (k == 1 || z.length == 0) = true
      · rw [if_pos c2]
        have e : (⟨(List.replicate k.toNat z.cps).foldl (· ++ ·) #[]⟩ : Str) = z := by
          simp only [Bool.or_eq_true, beq_iff_eq] at c2
          rcases c2 with c | c
          · subst c
            obtain ⟨zc⟩ := z
            simp
          · obtain ⟨zc⟩ := z
            have hz : zc = #[] := by
              have : zc.size = 0 := c
              exact Array.eq_empty_of_size_eq_zero this
            subst hz
            have : ∀ n : Nat, (List.replicate n (#[] : Array Nat)).foldl (· ++ ·) #[] = #[] := by
              intro n
              induction n with
              | zero => rfl
              | succ n ih => simp [List.replicate_succ, ih]
            simp [this]
        rw [e] at q
        exact ⟨.str z, H, I, ⟨_, rfl⟩, q⟩
      · rw [if_neg c2]
        refine ⟨?_, ⟨.str _, H, I.tok _, ⟨_, rfl⟩, q⟩⟩
        rw [sizeLine_eq]
        have e : ∀ (n : Nat) (b : Array Nat), ((List.replicate n z.cps).foldl (· ++ ·) b).size = b.size + n * z.cps.size := by
          intro n
          induction n with
          | zero => intro b; simp
          | succ n ih => intro b; rw [List.replicate_succ, List.foldl_cons, ih, Array.size_append, Nat.succ_mul]; omega
        have e2 := e k.toNat #[]
        have h3 : k.toNat * z.cps.size ≤ 1000 * 1000 := Nat.mul_le_mul (by omega) h2
        show ((List.replicate k.toNat z.cps).foldl (· ++ ·) #[]).size ≤ 16777216
        rw [e2]
        simp only [List.size_toArray, List.length_nil]
        omega
theorem op_mulU : OpR X (binaryOp .Mult) (rMulU X.K) := op_mulX.or (op_rep.or (op_repT.or op_strMul))
end

/-! ### leaves: what an operator makes of data -/
section
variable {K : PySem.W.Frag} {M : Ms} {k : KD} {i j : Int} {s t : Str} {ds es : List D} {x y d : D} {b : Bool}
/-- a rule that keeps the heap and hands back a flat value -/
theorem bin_flat {r : R2} {v : V} (h : ∀ S vx vy, OkM K S M → Rep K S x vx → Rep K S y vy → ∀ Q : VK, Q v S.H → r vx vy S.H Q) (hk : k d M) (hd : ∀ S, Rep K S d v := by intro _; rfl) : Bin K r x y M k := fun S vx vy hM rx ry Q hQ =>
  h S vx vy hM rx ry Q (hQ d M S v hk hM (Grow.refl _) (hd S))
theorem add_int (hk : k (.int (i + j)) M) : Bin K (rAddU K) (.int i) (.int j) M k := bin_flat (v := .int (i + j)) (fun S vx vy _ rx ry Q q => .inl ⟨i, j, rx, ry, q⟩) hk
theorem add_str (hl : s.length + t.length ≤ 16777216) (hk : k (.str (s ++ t)) M) : Bin K (rAddU K) (.str s) (.str t) M k := bin_flat (v := .str (s ++ t)) (fun S vx vy _ rx ry Q q => .inr (.inl ⟨s, t, rx, ry, hl, q⟩)) hk
theorem add_lst (hl : ds.length + es.length ≤ 16777216) (hk : k (.lst (ds ++ es)) M) : Bin K (rAddU K) (.lst ds) (.lst es) M k := fun S vx vy hM rx ry Q hQ => by
  obtain ⟨a, xs, rfl, h1, r1⟩ := rx
  obtain ⟨b, ys, rfl, h2, r2⟩ := ry
  refine .inr (.inr (.inl ⟨a, b, xs, ys, rfl, rfl, hM.zh _ _ h1, hM.zh _ _ h2, by rw [r1.len, r2.len]; exact hl, fun p hp => ?_⟩))
  obtain ⟨hM2, g2⟩ := new_z (o := .lst (xs ++ ys)) hM hp
  exact hQ _ M ⟨S.as, upd S.Z p (.lst (xs ++ ys)), upd S.H p (.lst (xs ++ ys))⟩ (.ref p) hk hM2 g2 ⟨p, _, rfl, upd_same, (r1.app r2).grow g2⟩
theorem add_lstM {p1 : Nat} {h1 : Addr} (e1 : M[p1]? = some (h1, .lst ds)) (hl : ds.length + es.length ≤ 16777216) (hk : k (.lst (ds ++ es)) M) : Bin K (rAddU K) (.hdl h1) (.lst es) M k := fun S vx vy hM rx ry Q hQ => by
  cases rx
  obtain ⟨_, xs, h1', r1⟩ := hM.at e1
  obtain ⟨b, ys, rfl, h2, r2⟩ := ry
  refine .inr (.inr (.inl ⟨h1, b, xs, ys, rfl, rfl, h1', hM.zh _ _ h2, by rw [r1.len, r2.len]; exact hl, fun p hp => ?_⟩))
  obtain ⟨hM2, g2⟩ := new_z (o := .lst (xs ++ ys)) hM hp
  exact hQ _ M ⟨S.as, upd S.Z p (.lst (xs ++ ys)), upd S.H p (.lst (xs ++ ys))⟩ (.ref p) hk hM2 g2 ⟨p, _, rfl, upd_same, (r1.app r2).grow g2⟩
theorem add_tup (hl : ds.length + es.length ≤ 16777216) (hk : k (.tup (ds ++ es)) M) : Bin K (rAddU K) (.tup ds) (.tup es) M k := fun S vx vy hM rx ry Q hQ => by
  obtain ⟨a, xs, rfl, h1, r1⟩ := rx
  obtain ⟨b, ys, rfl, h2, r2⟩ := ry
  have l1 := r1.len
  have l2 := r2.len
  refine .inr (.inr (.inr ⟨a, b, xs, ys, rfl, rfl, ex_t hM.zh h1, ex_t hM.zh h2, by rw [l1, l2]; exact hl, fun e => ?_, fun _ e => ?_, fun _ _ p hp => ?_⟩))
  · have : ds = [] := by cases ds with | nil => rfl | cons _ _ => rw [e] at l1; simp at l1
    subst this
    exact hQ _ M S _ hk hM (Grow.refl _) ⟨b, ys, rfl, h2, r2⟩
  · have : es = [] := by cases es with | nil => rfl | cons _ _ => rw [e] at l2; simp at l2
    subst this
    rw [List.append_nil] at hk
    exact hQ _ M S _ hk hM (Grow.refl _) ⟨a, xs, rfl, h1, r1⟩
  · obtain ⟨hM2, g2⟩ := new_z (o := .tup (xs ++ ys)) hM hp
    exact hQ _ M ⟨S.as, upd S.Z p (.tup (xs ++ ys)), upd S.H p (.tup (xs ++ ys))⟩ (.ref p) hk hM2 g2 ⟨p, _, rfl, SqT.of upd_same, (r1.app r2).grow g2⟩
theorem sub_int (hk : k (.int (i - j)) M) : Bin K (rI0 fun i j => .int (i - j)) (.int i) (.int j) M k := bin_flat (v := .int (i - j)) (fun S vx vy _ rx ry Q q => ⟨i, j, rx, ry, q⟩) hk
theorem mul_int' (hc : CMulX i j) (hk : k (.int (i * j)) M) : Bin K (rMulU K) (.int i) (.int j) M k := bin_flat (v := .int (i * j)) (fun S vx vy _ rx ry Q q => .inl ⟨i, j, rx, ry, hc, q⟩) hk
theorem mul_lst (h1 : -(2 ^ 63) ≤ j) (h2 : j < 2 ^ 63) (hl : ds.length * j.toNat ≤ 16777216) (hk : k (.lst (List.replicate j.toNat ds).flatten) M) : Bin K (rMulU K) (.lst ds) (.int j) M k := fun S vx vy hM rx ry Q hQ => by
  obtain ⟨a, xs, rfl, e1, r1⟩ := rx
  refine .inr (.inl ⟨a, j, xs, rfl, ry, hM.zh _ _ e1, h1, h2, by rw [r1.len]; exact hl, fun p hp => ?_⟩)
  obtain ⟨hM2, g2⟩ := new_z (o := .lst (List.replicate j.toNat xs).flatten) hM hp
  have rr : ∀ n : Nat, RepL K S (List.replicate n ds).flatten (List.replicate n xs).flatten := by
    intro n
    induction n with
    | zero => exact RepL.nil
    | succ n ih => simp only [List.replicate_succ, List.flatten_cons]; exact r1.app ih
  exact hQ _ M ⟨S.as, upd S.Z p (.lst (List.replicate j.toNat xs).flatten), upd S.H p (.lst (List.replicate j.toNat xs).flatten)⟩ (.ref p) hk hM2 g2 ⟨p, _, rfl, upd_same, (rr _).grow g2⟩
theorem mul_tup (h0 : ds ≠ []) (h1 : 2 ≤ j) (h2 : j ≤ 1000) (hl : ds.length ≤ 1000) (hk : k (.tup (List.replicate j.toNat ds).flatten) M) : Bin K (rMulU K) (.tup ds) (.int j) M k := fun S vx vy hM rx ry Q hQ => by
  obtain ⟨a, xs, rfl, e1, r1⟩ := rx
  have l1 := r1.len
  refine .inr (.inr (.inl ⟨a, j, xs, rfl, ry, ex_t hM.zh e1, fun e => h0 (by cases ds with | nil => rfl | cons _ _ => rw [e] at l1; simp at l1), h1, h2, by omega, fun p hp => ?_⟩))
  obtain ⟨hM2, g2⟩ := new_z (o := .tup (List.replicate j.toNat xs).flatten) hM hp
  have rr : ∀ n : Nat, RepL K S (List.replicate n ds).flatten (List.replicate n xs).flatten := by
    intro n
    induction n with
    | zero => exact RepL.nil
    | succ n ih => simp only [List.replicate_succ, List.flatten_cons]; exact r1.app ih
  exact hQ _ M ⟨S.as, upd S.Z p (.tup (List.replicate j.toNat xs).flatten), upd S.H p (.tup (List.replicate j.toNat xs).flatten)⟩ (.ref p) hk hM2 g2 ⟨p, _, rfl, SqT.of upd_same, (rr _).grow g2⟩
theorem mul_str (h1 : 0 ≤ j) (h2 : j ≤ 1000) (hl : s.length ≤ 1000) (hk : k (.str ⟨(List.replicate j.toNat s.cps).foldl (· ++ ·) #[]⟩) M) : Bin K (rMulU K) (.str s) (.int j) M k :=
  bin_flat (v := .str _) (fun S vx vy _ rx ry Q q => .inr (.inr (.inr ⟨s, j, rx, ry, h1, h2, hl, q⟩))) hk
theorem div_int (hc : CDivW i j) (hk : k (.int (i / j)) M) : Bin K (rI CDivW fun i j => .int (i / j)) (.int i) (.int j) M k := bin_flat (v := .int (i / j)) (fun S vx vy _ rx ry Q q => ⟨i, j, rx, ry, hc, q⟩) hk
theorem mod_int (hc : 0 < j) (hk : k (.int (i % j)) M) : Bin K (rI (fun _ j => 0 < j) fun i j => .int (i % j)) (.int i) (.int j) M k := bin_flat (v := .int (i % j)) (fun S vx vy _ rx ry Q q => ⟨i, j, rx, ry, hc, q⟩) hk
theorem pow_int (hc : CPowX i j) (hk : k (.int (i ^ j.toNat)) M) : Bin K (rI CPowX fun i j => .int (i ^ j.toNat)) (.int i) (.int j) M k := bin_flat (v := .int (i ^ j.toNat)) (fun S vx vy _ rx ry Q q => ⟨i, j, rx, ry, hc, q⟩) hk
theorem lt_int (hk : k (.bl (decide (i < j))) M) : Bin K (rI0 fun i j => .bl (decide (i < j))) (.int i) (.int j) M k := bin_flat (v := .bl (decide (i < j))) (fun S vx vy _ rx ry Q q => ⟨i, j, rx, ry, q⟩) hk
theorem le_int (hk : k (.bl (decide (i ≤ j))) M) : Bin K (rI0 fun i j => .bl (decide (i ≤ j))) (.int i) (.int j) M k := bin_flat (v := .bl (decide (i ≤ j))) (fun S vx vy _ rx ry Q q => ⟨i, j, rx, ry, q⟩) hk
theorem gt_int (hk : k (.bl (decide (j < i))) M) : Bin K (rI0 fun i j => .bl (decide (j < i))) (.int i) (.int j) M k := bin_flat (v := .bl (decide (j < i))) (fun S vx vy _ rx ry Q q => ⟨i, j, rx, ry, q⟩) hk
theorem ge_int' (hk : k (.bl (decide (j ≤ i))) M) : Bin K (rI0 fun i j => .bl (decide (j ≤ i))) (.int i) (.int j) M k := bin_flat (v := .bl (decide (j ≤ i))) (fun S vx vy _ rx ry Q q => ⟨i, j, rx, ry, q⟩) hk
/-- ==, flat data -/
theorem eq_int (hk : k (.bl (decide (i = j))) M) : Bin K (rEqU K) (.int i) (.int j) M k := bin_flat (v := .bl (decide (i = j))) (fun S vx vy _ rx ry Q q => by
  cases rx; cases ry
  exact .inl ⟨rfl, by rw [show decide (V.int i = V.int j) = decide (i = j) from by rw [dec_int, Bool.beq_eq_decide_eq]]; exact q⟩) hk
theorem ne_int (hk : k (.bl (!decide (i = j))) M) : Bin K (rNeU K) (.int i) (.int j) M k := bin_flat (v := .bl (!decide (i = j))) (fun S vx vy _ rx ry Q q => by
  cases rx; cases ry
  exact .inl ⟨rfl, by rw [show decide (V.int i = V.int j) = decide (i = j) from by rw [dec_int, Bool.beq_eq_decide_eq]]; exact q⟩) hk
theorem eq_str (hk : k (.bl (decide (s = t))) M) : Bin K (rEqU K) (.str s) (.str t) M k := bin_flat (v := .bl (decide (s = t))) (fun S vx vy _ rx ry Q q => by
  cases rx; cases ry
  exact .inl ⟨rfl, by rw [show decide (V.str s = V.str t) = decide (s = t) from by rw [dec_str]; by_cases h : s = t <;> simp [h]]; exact q⟩) hk
theorem ne_str (hk : k (.bl (!decide (s = t))) M) : Bin K (rNeU K) (.str s) (.str t) M k := bin_flat (v := .bl (!decide (s = t))) (fun S vx vy _ rx ry Q q => by
  cases rx; cases ry
  exact .inl ⟨rfl, by rw [show decide (V.str s = V.str t) = decide (s = t) from by rw [dec_str]; by_cases h : s = t <;> simp [h]]; exact q⟩) hk
/-- ==, data of any kind -/
theorem eq_dat {n m : Nat} (hx : sm n x = true) (hy : sm m y = true) (hk : k (.bl (PyData.eqv (py x) (py y))) M) (hn : n ≤ 64 := by decide) (hm : m ≤ 64 := by decide) : Bin K (rEqU K) x y M k :=
  bin_flat (v := .bl (PyData.eqv (py x) (py y))) (fun S vx vy hM rx ry Q q => .inr ⟨_, _, dp_of hM hx rx, dp_of hM hy ry, shaped_of hx hn, shaped_of hy hm, q⟩) hk
theorem ne_dat {n m : Nat} (hx : sm n x = true) (hy : sm m y = true) (hk : k (.bl (!PyData.eqv (py x) (py y))) M) (hn : n ≤ 64 := by decide) (hm : m ≤ 64 := by decide) : Bin K (rNeU K) x y M k :=
  bin_flat (v := .bl (!PyData.eqv (py x) (py y))) (fun S vx vy hM rx ry Q q => .inr ⟨_, _, dp_of hM hx rx, dp_of hM hy ry, shaped_of hx hn, shaped_of hy hm, q⟩) hk
def isNon : D → Bool
  | .non => true
  | _ => false
theorem rep_non {S : Sg} {v : V} {d : D} (h : Rep K S d v) (hr : ∀ u, d ≠ .raw u) : decide (v = .non) = isNon d := by
  cases d with
  | non => cases h; rfl
  | bl b => cases h; rfl
  | int i => cases h; rfl
  | str s => cases h; rfl
  | tup ds => obtain ⟨a, xs, rfl, _⟩ := h; rfl
  | lst ds => obtain ⟨a, xs, rfl, _⟩ := h; rfl
  | seq ds => obtain ⟨a, xs, rfl, _⟩ := h; rfl
  | dct ks ds => obtain ⟨a, xs, rfl, _⟩ := h; rfl
  | ins C fs ds => obtain ⟨a, dx, xs, rfl, _⟩ := h; rfl
  | hdl a => cases h; rfl
  | raw v => exact absurd rfl (hr v)
theorem is_non (hk : k (.bl (isNon x)) M) (hr : ∀ u, x ≠ .raw u := by intro _ h; cases h) : Bin K rIsN x .non M k := bin_flat (v := .bl (isNon x)) (fun S vx vy _ rx ry Q q => ⟨ry, by rw [rep_non rx hr]; exact q⟩) hk
theorem not_non (hk : k (.bl (!isNon x)) M) (hr : ∀ u, x ≠ .raw u := by intro _ h; cases h) : Bin K rNotN x .non M k := bin_flat (v := .bl (!isNon x)) (fun S vx vy _ rx ry Q q => ⟨ry, by rw [rep_non rx hr]; exact q⟩) hk
/-- items -/
theorem ixN_of {n j : Nat} {i : Int} (h : (0 ≤ i ∧ i = j ∧ j < n) ∨ (i < 0 ∧ i + n = j)) : ixN n i = some j := by
  unfold ixN
  rcases h with ⟨h0, h1, h2⟩ | ⟨h0, h1⟩
  · rw [if_pos h0, if_pos (by omega)]; simp [h1]
  · rw [if_neg (by omega)]
    first
      | (rw [if_pos (by omega)]; congr 1; omega)
      | (split
         · congr 1; omega
         · omega)
theorem ix_tup' {j : Nat} (hi : (0 ≤ i ∧ i = j ∧ j < ds.length) ∨ (i < 0 ∧ i + ds.length = j)) (hd : ds[j]? = some d) (hk : k d M) : Bin K (rIx K) (.tup ds) (.int i) M k := fun S vx vy hM rx ry Q hQ => by
  obtain ⟨a, xs, rfl, h1, r1⟩ := rx
  obtain ⟨x, e, r⟩ := r1.get hd
  refine .inr (.inl ⟨a, xs, i, x, rfl, ry, ex_t hM.zh h1, ?_, hQ d M S x hk hM (Grow.refl _) r⟩)
  unfold atI
  rw [ixN_of (n := xs.length) (j := j) (by rw [r1.len]; exact hi)]; exact e
theorem ix_lst' {j : Nat} (hi : (0 ≤ i ∧ i = j ∧ j < ds.length) ∨ (i < 0 ∧ i + ds.length = j)) (hd : ds[j]? = some d) (hk : k d M) : Bin K (rIx K) (.lst ds) (.int i) M k := fun S vx vy hM rx ry Q hQ => by
  obtain ⟨a, xs, rfl, h1, r1⟩ := rx
  obtain ⟨x, e, r⟩ := r1.get hd
  refine .inl ⟨a, xs, i, x, rfl, ry, SqL.of (hM.zh _ _ h1), ?_, hQ d M S x hk hM (Grow.refl _) r⟩
  unfold atI
  rw [ixN_of (n := xs.length) (j := j) (by rw [r1.len]; exact hi)]; exact e
theorem ix_seq' {j : Nat} (hi : (0 ≤ i ∧ i = j ∧ j < ds.length) ∨ (i < 0 ∧ i + ds.length = j)) (hd : ds[j]? = some d) (hk : k d M) : Bin K (rIx K) (.seq ds) (.int i) M k := fun S vx vy hM rx ry Q hQ => by
  obtain ⟨a, xs, rfl, h1, r1⟩ := rx
  obtain ⟨x, e, r⟩ := r1.get hd
  refine .inl ⟨a, xs, i, x, rfl, ry, ex_l hM.zh h1, ?_, hQ d M S x hk hM (Grow.refl _) r⟩
  unfold atI
  rw [ixN_of (n := xs.length) (j := j) (by rw [r1.len]; exact hi)]; exact e
theorem ix_hdl {j p : Nat} {h : Addr} (hm : M[p]? = some (h, .lst ds)) (hi : (0 ≤ i ∧ i = j ∧ j < ds.length) ∨ (i < 0 ∧ i + ds.length = j)) (hd : ds[j]? = some d) (hk : k d M) : Bin K (rIx K) (.hdl h) (.int i) M k := fun S vx vy hM rx ry Q hQ => by
  cases rx
  obtain ⟨_, xs, h1, r1⟩ := hM.at hm
  obtain ⟨x, e, r⟩ := r1.get hd
  refine .inl ⟨h, xs, i, x, rfl, ry, SqL.of h1, ?_, hQ d M S x hk hM (Grow.refl _) r⟩
  unfold atI
  rw [ixN_of (n := xs.length) (j := j) (by rw [r1.len]; exact hi)]; exact e
theorem ix_str' {j c : Nat} (hi : (0 ≤ i ∧ i = j ∧ j < s.length) ∨ (i < 0 ∧ i + s.length = j)) (hd : s.cps[j]? = some c) (hl : s.length ≤ 16777216) (hk : k (.str ⟨#[c]⟩) M) : Bin K (rIx K) (.str s) (.int i) M k :=
  bin_flat (v := .str ⟨#[c]⟩) (fun S vx vy _ rx ry Q q => .inr (.inr ⟨s, i, c, rx, ry, hl, by
    unfold atI
    rw [ixN_of (n := s.cps.toList.length) (j := j) (by rw [show s.cps.toList.length = s.length from by simp [Str.length]]; exact hi)]
    simpa using hd, q⟩)) hk
end
end PD

set_option Elab.async false
set_option linter.all false
set_option maxRecDepth 100000
set_option maxHeartbeats 4000000
/-! PD: calls, objects. -/
namespace PD
open PySem L2
open Evl (Ex ex_rd ex_l ex_t)

/-! ### built-ins -/
def CallD (K : PySem.W.Frag) (r : List V → Hp → VK → Prop) (ds : List D) (M : Ms) (k : KD) : Prop := ∀ S vs, OkM K S M → RepL K S ds vs → ∀ Q, KV K S k Q → r vs S.H Q
section
variable {X : Cx} {Γ : En} {M : Ms} {e a b c o : Expr} {es : List Expr} {st : Stmt} {rest : List Stmt} {k : KD} {kx : KX} {E : ED} {d x y z : D} {pos apos p : Pos} {id T : String} {nm : Str} {r : List V → Hp → VK → Prop}
theorem ge_callB (hc : CallR X (.builtin id) r) (hm : X.mg nm = none) (hv : bootBuiltins nm = some (.builtin id)) (h : GA X Γ M (e :: es) (fun ds M1 => CallD X.K r ds M1 k) kx) (hg : Gl X nm := by rfl) (hn : nm ≠ "__name__" := by decide) (hdb : (nm == ("__debug__" : Str)) = false := by decide)
    (he : starEach (e :: es) X.env = (false, eval e X.env) :: starEach es X.env := by rfl) (hpl : (backTo pos (starEach es X.env)).any (·.1) = false := by rfl) : GE X Γ M (.Call (.Name nm p) (e :: es) [] pos) k kx := fun S σ hM hE W tk hW Q hQ =>
  of_pe (pe_callB hc hg hm hv wa hn hdb he hpl) (h S σ hM hE W tk hW _ fun ds M1 S1 vs h1 hM1 g1 r1 => h1 S1 vs hM1 r1 Q (hQ.grow g1))
theorem ge_callT (hc : CallR X (.type T) r) (hm : X.mg nm = none) (hv : bootBuiltins nm = some (.type T)) (h : GA X Γ M (e :: es) (fun ds M1 => CallD X.K r ds M1 k) kx) (hg : Gl X nm := by rfl) (hn : nm ≠ "__name__" := by decide) (hdb : (nm == ("__debug__" : Str)) = false := by decide)
    (he : starEach (e :: es) X.env = (false, eval e X.env) :: starEach es X.env := by rfl) (hpl : (backTo pos (starEach es X.env)).any (·.1) = false := by rfl) : GE X Γ M (.Call (.Name nm p) (e :: es) [] pos) k kx := fun S σ hM hE W tk hW Q hQ =>
  of_pe (pe_callTy hc hg hm hv wa hn hdb he hpl) (h S σ hM hE W tk hW _ fun ds M1 S1 vs h1 hM1 g1 r1 => h1 S1 vs hM1 r1 Q (hQ.grow g1))
def CallV (K : PySem.W.Frag) (r : List V → Hp → VK → Prop) (ds : List D) (M : Ms) (z : D) : Prop := CallD K r ds M fun d M' => d = z ∧ M' = M
theorem CallV.cd {K : PySem.W.Frag} {ds : List D} (h : CallV K r ds M z) (hk : k z M) : CallD K r ds M k := fun S vs hM r1 Q hQ => h S vs hM r1 Q fun d M' S' v ⟨q1, q2⟩ => by rw [q1, q2]; exact hQ z M S' v hk
theorem ev_callB {ds : List D} (hc : CallR X (.builtin id) r) (hm : X.mg nm = none) (hv : bootBuiltins nm = some (.builtin id)) (h : AV X Γ M (e :: es) ds) (hr : CallV X.K r ds M z) (hg : Gl X nm := by rfl) (hn : nm ≠ "__name__" := by decide) (hdb : (nm == ("__debug__" : Str)) = false := by decide)
    (he : starEach (e :: es) X.env = (false, eval e X.env) :: starEach es X.env := by rfl) (hpl : (backTo pos (starEach es X.env)).any (·.1) = false := by rfl) : EV X Γ M (.Call (.Name nm p) (e :: es) [] pos) z := ge_callB hc hm hv (h.ga hr) hg hn hdb he hpl
theorem ev_callT {ds : List D} (hc : CallR X (.type T) r) (hm : X.mg nm = none) (hv : bootBuiltins nm = some (.type T)) (h : AV X Γ M (e :: es) ds) (hr : CallV X.K r ds M z) (hg : Gl X nm := by rfl) (hn : nm ≠ "__name__" := by decide) (hdb : (nm == ("__debug__" : Str)) = false := by decide)
    (he : starEach (e :: es) X.env = (false, eval e X.env) :: starEach es X.env := by rfl) (hpl : (backTo pos (starEach es X.env)).any (·.1) = false := by rfl) : EV X Γ M (.Call (.Name nm p) (e :: es) [] pos) z := ge_callT hc hm hv (h.ga hr) hg hn hdb he hpl
end
section
variable {K : PySem.W.Frag} {M : Ms} {k : KD} {i j : Int} {s t : Str} {ds es : List D} {x y d : D} {b : Bool} {r : List V → Hp → VK → Prop}
theorem call_flat {v : V} (h : ∀ S vs, OkM K S M → RepL K S ds vs → ∀ Q : VK, Q v S.H → r vs S.H Q) (hk : k d M) (hd : ∀ S, Rep K S d v := by intro _; rfl) : CallD K r ds M k := fun S vs hM rv Q hQ => h S vs hM rv Q (hQ d M S v hk hM (Grow.refl _) (hd S))
theorem rep1 {S : Sg} {vs : List V} (h : RepL K S [x] vs) : ∃ v, vs = [v] ∧ Rep K S x v := by
  obtain ⟨v, r, rfl, h1, h2⟩ := h
  have e : r = [] := h2
  subst e
  exact ⟨v, rfl, h1⟩
theorem rep2 {S : Sg} {vs : List V} (h : RepL K S [x, y] vs) : ∃ v w, vs = [v, w] ∧ Rep K S x v ∧ Rep K S y w := by
  obtain ⟨v, r, rfl, h1, h2⟩ := h
  obtain ⟨w, rfl, h3⟩ := rep1 h2
  exact ⟨v, w, rfl, h1, h3⟩
def rLen (K : PySem.W.Frag) : List V → Hp → VK → Prop := fun xs H Q => (∃ x n, xs = [x] ∧ LenV K x H n ∧ Q (.int n) H) ∨ (∃ a kvs, xs = [.ref a] ∧ H a = some (.dK kvs) ∧ Q (.int (kvs.length : Nat)) H)
theorem len_str (hl : s.length ≤ 16777216) (hk : k (.int s.length) M) : CallD K (fun xs H Q => ∃ x n, xs = [x] ∧ LenV K x H n ∧ Q (.int (n : Nat)) H) [.str s] M k := call_flat (v := .int (s.length : Nat)) (fun S vs _ rv Q q => by
  obtain ⟨v, rfl, r⟩ := rep1 rv
  cases r
  exact ⟨_, s.length, rfl, ⟨hl, rfl⟩, q⟩) hk
theorem len_tup (hk : k (.int ds.length) M) : CallD K (fun xs H Q => ∃ x n, xs = [x] ∧ LenV K x H n ∧ Q (.int (n : Nat)) H) [.tup ds] M k := call_flat (v := .int (ds.length : Nat)) (fun S vs hM rv Q q => by
  obtain ⟨v, rfl, a, xs, rfl, h, r⟩ := rep1 rv
  exact ⟨_, ds.length, rfl, .inr ⟨xs, ex_t hM.zh h, r.len.symm⟩, q⟩) hk
theorem len_lst (hk : k (.int ds.length) M) : CallD K (fun xs H Q => ∃ x n, xs = [x] ∧ LenV K x H n ∧ Q (.int (n : Nat)) H) [.lst ds] M k := call_flat (v := .int (ds.length : Nat)) (fun S vs hM rv Q q => by
  obtain ⟨v, rfl, a, xs, rfl, h, r⟩ := rep1 rv
  exact ⟨_, ds.length, rfl, .inl ⟨xs, SqL.of (hM.zh _ _ h), r.len.symm⟩, q⟩) hk
theorem len_seq (hk : k (.int ds.length) M) : CallD K (fun xs H Q => ∃ x n, xs = [x] ∧ LenV K x H n ∧ Q (.int (n : Nat)) H) [.seq ds] M k := call_flat (v := .int (ds.length : Nat)) (fun S vs hM rv Q q => by
  obtain ⟨v, rfl, a, xs, rfl, h, r⟩ := rep1 rv
  exact ⟨_, ds.length, rfl, .inl ⟨xs, ex_l hM.zh h, r.len.symm⟩, q⟩) hk
theorem len_hdl {p : Nat} {h : Addr} (hm : M[p]? = some (h, .lst ds)) (hk : k (.int ds.length) M) : CallD K (fun xs H Q => ∃ x n, xs = [x] ∧ LenV K x H n ∧ Q (.int (n : Nat)) H) [.hdl h] M k := call_flat (v := .int (ds.length : Nat)) (fun S vs hM rv Q q => by
  obtain ⟨v, rfl, rfl⟩ := rep1 rv
  obtain ⟨_, xs, h, r⟩ := hM.at hm
  exact ⟨_, ds.length, rfl, .inl ⟨xs, SqL.of h, r.len.symm⟩, q⟩) hk
def rInt1 : List V → Hp → VK → Prop := fun xs H Q => (∃ i, xs = [.int i] ∧ Q (.int i) H) ∨ ∃ k, xs = [.bl k] ∧ Q (.int (if k then 1 else 0)) H
theorem int_int (hk : k (.int i) M) : CallD K rInt1 [.int i] M k := call_flat (v := .int i) (fun S vs _ rv Q q => by
  obtain ⟨v, rfl, r⟩ := rep1 rv
  cases r
  exact .inl ⟨i, rfl, q⟩) hk
theorem int_bl (hk : k (.int (if b then 1 else 0)) M) : CallD K rInt1 [.bl b] M k := call_flat (v := .int (if b then 1 else 0)) (fun S vs _ rv Q q => by
  obtain ⟨v, rfl, r⟩ := rep1 rv
  cases r
  exact .inr ⟨b, rfl, q⟩) hk
def rAbs : List V → Hp → VK → Prop := fun xs H Q => ∃ i, xs = [.int i] ∧ Q (.int (if i < 0 then -i else i)) H
theorem abs_int (hk : k (.int (if i < 0 then -i else i)) M) : CallD K rAbs [.int i] M k := call_flat (v := .int (if i < 0 then -i else i)) (fun S vs _ rv Q q => by
  obtain ⟨v, rfl, r⟩ := rep1 rv
  cases r
  exact ⟨i, rfl, q⟩) hk
def rMin2 : List V → Hp → VK → Prop := fun xs H Q => ∃ i j, xs = [.int i, .int j] ∧ Q (.int (if j < i then j else i)) H
theorem max2_int (hk : k (.int (if j > i then j else i)) M) : CallD K Evl.rMax2 [.int i, .int j] M k := call_flat (v := .int (if j > i then j else i)) (fun S vs _ rv Q q => by
  obtain ⟨v, w, rfl, r1, r2⟩ := rep2 rv
  cases r1; cases r2
  exact ⟨i, j, rfl, q⟩) hk
theorem min2_int (hk : k (.int (if j < i then j else i)) M) : CallD K rMin2 [.int i, .int j] M k := call_flat (v := .int (if j < i then j else i)) (fun S vs _ rv Q q => by
  obtain ⟨v, w, rfl, r1, r2⟩ := rep2 rv
  cases r1; cases r2
  exact ⟨i, j, rfl, q⟩) hk
def rTupOf (K : PySem.W.Frag) : List V → Hp → VK → Prop := fun xs H Q => ∃ p ys, xs = [.ref p] ∧ ((SqL K H p ys ∧ ∀ l, H l = none → Q (.ref l) (upd H l (.tup ys))) ∨ (SqT K H p ys ∧ Q (.ref p) H))
def rLstOf (K : PySem.W.Frag) : List V → Hp → VK → Prop := fun xs H Q => ∃ p ys, xs = [.ref p] ∧ (SqL K H p ys ∨ SqT K H p ys) ∧ ∀ l, H l = none → Q (.ref l) (upd H l (.lst ys))
theorem tup_lst (hk : k (.tup ds) M) : CallD K (rTupOf K) [.lst ds] M k := fun S vs hM rv Q hQ => by
  obtain ⟨v, rfl, a, xs, rfl, h, r⟩ := rep1 rv
  refine ⟨a, xs, rfl, .inl ⟨SqL.of (hM.zh _ _ h), fun l hl => ?_⟩⟩
  obtain ⟨hM2, g2⟩ := new_z (o := .tup xs) hM hl
  exact hQ _ M ⟨S.as, upd S.Z l (.tup xs), upd S.H l (.tup xs)⟩ (.ref l) hk hM2 g2 ⟨l, _, rfl, SqT.of upd_same, r.grow g2⟩
theorem tup_hdl {p : Nat} {h : Addr} (hm : M[p]? = some (h, .lst ds)) (hk : k (.tup ds) M) : CallD K (rTupOf K) [.hdl h] M k := fun S vs hM rv Q hQ => by
  obtain ⟨v, rfl, rfl⟩ := rep1 rv
  obtain ⟨_, xs, h, r⟩ := hM.at hm
  refine ⟨_, xs, rfl, .inl ⟨SqL.of h, fun l hl => ?_⟩⟩
  obtain ⟨hM2, g2⟩ := new_z (o := .tup xs) hM hl
  exact hQ _ M ⟨S.as, upd S.Z l (.tup xs), upd S.H l (.tup xs)⟩ (.ref l) hk hM2 g2 ⟨l, _, rfl, SqT.of upd_same, r.grow g2⟩
theorem tup_tup (hk : k (.tup ds) M) : CallD K (rTupOf K) [.tup ds] M k := fun S vs hM rv Q hQ => by
  obtain ⟨v, rfl, a, xs, rfl, h, r⟩ := rep1 rv
  exact ⟨a, xs, rfl, .inr ⟨ex_t hM.zh h, hQ _ M S _ hk hM (Grow.refl _) ⟨a, xs, rfl, h, r⟩⟩⟩
theorem lst_tup (hk : k (.lst ds) M) : CallD K (rLstOf K) [.tup ds] M k := fun S vs hM rv Q hQ => by
  obtain ⟨v, rfl, a, xs, rfl, h, r⟩ := rep1 rv
  refine ⟨a, xs, rfl, .inr (ex_t hM.zh h), fun l hl => ?_⟩
  obtain ⟨hM2, g2⟩ := new_z (o := .lst xs) hM hl
  exact hQ _ M ⟨S.as, upd S.Z l (.lst xs), upd S.H l (.lst xs)⟩ (.ref l) hk hM2 g2 ⟨l, _, rfl, upd_same, r.grow g2⟩
theorem lst_tupM (hk : ∀ p, k (.hdl p) (M ++ [(p, .lst ds)])) : CallD K (rLstOf K) [.tup ds] M k := fun S vs hM rv Q hQ => by
  obtain ⟨v, rfl, a, xs, rfl, h, r⟩ := rep1 rv
  refine ⟨a, xs, rfl, .inr (ex_t hM.zh h), fun l hl => ?_⟩
  obtain ⟨hM2, g2⟩ := new_m (m := .lst ds) (o := .lst xs) hM hl (fun g => ⟨hM.zh.none hl, xs, upd_same, r.grow g⟩)
  exact hQ _ _ ⟨S.as ++ [l], S.Z, upd S.H l (.lst xs)⟩ (.ref l) (hk l) hM2 g2 rfl
theorem lst_lst (hk : k (.lst ds) M) : CallD K (rLstOf K) [.lst ds] M k := fun S vs hM rv Q hQ => by
  obtain ⟨v, rfl, a, xs, rfl, h, r⟩ := rep1 rv
  refine ⟨a, xs, rfl, .inl (SqL.of (hM.zh _ _ h)), fun l hl => ?_⟩
  obtain ⟨hM2, g2⟩ := new_z (o := .lst xs) hM hl
  exact hQ _ M ⟨S.as, upd S.Z l (.lst xs), upd S.H l (.lst xs)⟩ (.ref l) hk hM2 g2 ⟨l, _, rfl, upd_same, r.grow g2⟩
theorem lst_lstM (hk : ∀ p, k (.hdl p) (M ++ [(p, .lst ds)])) : CallD K (rLstOf K) [.lst ds] M k := fun S vs hM rv Q hQ => by
  obtain ⟨v, rfl, a, xs, rfl, h, r⟩ := rep1 rv
  refine ⟨a, xs, rfl, .inl (SqL.of (hM.zh _ _ h)), fun l hl => ?_⟩
  obtain ⟨hM2, g2⟩ := new_m (m := .lst ds) (o := .lst xs) hM hl (fun g => ⟨hM.zh.none hl, xs, upd_same, r.grow g⟩)
  exact hQ _ _ ⟨S.as ++ [l], S.Z, upd S.H l (.lst xs)⟩ (.ref l) (hk l) hM2 g2 rfl
theorem repBl {S : Sg} : ∀ {bs : List Bool} {xs : List V}, RepL K S (bs.map D.bl) xs → xs = bs.map V.bl
  | [], _, h => h
  | b :: bs, _, h => by
    obtain ⟨x, r, rfl, h1, h2⟩ := h
    cases h1
    rw [repBl h2]; rfl
theorem repInt {S : Sg} : ∀ {bs : List Int} {xs : List V}, RepL K S (bs.map D.int) xs → xs = bs.map V.int
  | [], _, h => h
  | b :: bs, _, h => by
    obtain ⟨x, r, rfl, h1, h2⟩ := h
    cases h1
    rw [repInt h2]; rfl
theorem repStr {S : Sg} : ∀ {bs : List Str} {xs : List V}, RepL K S (bs.map D.str) xs → xs = bs.map V.str
  | [], _, h => h
  | b :: bs, _, h => by
    obtain ⟨x, r, rfl, h1, h2⟩ := h
    cases h1
    rw [repStr h2]; rfl
theorem all_lst {bs : List Bool} (hb : ds = bs.map D.bl) (hk : k (.bl (bs.all id)) M) : CallD K (rAll K) [.lst ds] M k := call_flat (v := .bl (bs.all id)) (fun S vs hM rv Q q => by
  subst hb
  obtain ⟨v, rfl, a, xs, rfl, h, r⟩ := rep1 rv
  rw [repBl r] at h
  exact ⟨a, bs, rfl, SqL.of (hM.zh _ _ h), q⟩) hk
theorem any_lst {bs : List Bool} (hb : ds = bs.map D.bl) (hk : k (.bl (bs.any id)) M) : CallD K (rAny K) [.lst ds] M k := call_flat (v := .bl (bs.any id)) (fun S vs hM rv Q q => by
  subst hb
  obtain ⟨v, rfl, a, xs, rfl, h, r⟩ := rep1 rv
  rw [repBl r] at h
  exact ⟨a, bs, rfl, SqL.of (hM.zh _ _ h), q⟩) hk
theorem sum_lst {bs : List Int} (hb : ds = bs.map D.int) (hk : k (.int bs.sum) M) : CallD K (rSum K) [.lst ds] M k := call_flat (v := .int bs.sum) (fun S vs hM rv Q q => by
  subst hb
  obtain ⟨v, rfl, a, xs, rfl, h, r⟩ := rep1 rv
  rw [repInt r] at h
  exact ⟨a, bs, rfl, SqL.of (hM.zh _ _ h), q⟩) hk
/-- isinstance of built-in classes -/
def tyN : D → Option String
  | .non => some "NoneType"
  | .bl _ => some "bool"
  | .int _ => some "int"
  | .str _ => some "str"
  | .tup _ => some "tuple"
  | .lst _ => some "list"
  | .seq _ => some "list"
  | .dct _ _ => some "dict"
  | _ => none
theorem sqT_ty {H : Hp} {a : Addr} {xs : List V} (h : SqT K H a xs) : TyX K H (.ref a) (.type "tuple") := by
  rcases h with (h | ⟨o, h⟩) | ⟨o, its, n, h, hc, _⟩
  · exact .base (.tup h)
  · exact .fTuple h
  · exact .kTuple h hc
theorem sqL_ty {H : Hp} {a : Addr} {xs : List V} (h : SqL K H a xs) : TyX K H (.ref a) (.type "list") := by
  rcases h with (h | ⟨o, h⟩) | ⟨o, its, n, h, hc, _⟩
  · exact .base (.lst h)
  · exact .base (.frz h)
  · exact .kList h hc
theorem ty_of {S : Sg} {v : V} {t : String} (hM : OkM K S M) (r : Rep K S x v) (h : tyN x = some t) : TyX K S.H v (.type t) := by
  cases x with
  | non => cases r; cases h; exact .base .non
  | bl b => cases r; cases h; exact .base (.bl b)
  | int i => cases r; cases h; exact .base (.int i)
  | str s => cases r; cases h; exact .base (.str s)
  | tup ds => obtain ⟨a, xs, rfl, e, _⟩ := r; cases h; exact sqT_ty (ex_t hM.zh e)
  | lst ds => obtain ⟨a, xs, rfl, e, _⟩ := r; cases h; exact .base (.lst (hM.zh _ _ e))
  | seq ds => obtain ⟨a, xs, rfl, e, _⟩ := r; cases h; exact sqL_ty (ex_l hM.zh e)
  | dct ks ds => obtain ⟨a, xs, rfl, e, _⟩ := r; cases h; exact .base (.dK (hM.zh _ _ e))
  | ins C fs ds => cases h
  | hdl k => cases h
  | raw u => cases h
theorem isi_ty {t c : String} (h : tyN x = some t) (hb : kitB t c = some b) (hk : k (.bl b) M) : CallD K (rIsi K) [x, .raw (.ty c)] M k := call_flat (v := .bl b) (fun S vs hM rv Q q => by
  obtain ⟨v, w, rfl, r1, r2⟩ := rep2 rv
  cases r2
  exact ⟨v, .ty c, .type t, .type c, b, rfl, .ty c, ty_of hM r1 h, kit_ty hb, q⟩) hk
end

/-! ### defs of one's own -/
abbrev RSp := List D → Ms → KD → KX → Prop
/-- a call that is handed the objects at ks: behind it they stand in their places again -/
def CallOk (R : RSp) (ks : List Nat) (ds : List D) (M : Ms) (k : KD) (kx : KX) : Prop := ks.Nodup ∧ (∀ j ∈ ks, j < M.length) ∧
  R ds (pick ks M) (fun d N => (N.take ks.length).map (·.1) = (pick ks M).map (·.1) ∧ k d (merge ks M N)) (fun c f N => (N.take ks.length).map (·.1) = (pick ks M).map (·.1) ∧ kx c f (merge ks M N))
def spD (K : PySem.W.Frag) (R : RSp) : Sp := fun vs H Q E => ∃ S ds M k kx, S.H = H ∧ OkM K S M ∧ RepL K S ds vs ∧ R ds M k kx ∧ KV K S k Q ∧
  ∀ cls fs M' S' dd, kx cls fs M' → OkM K S' M' → Grow S S' → XRep K S' S dd fs → E cls dd S'.H
structure FnD (P : Program) (w : World) (K : PySem.W.Frag) (mg : Str → Option Value) (base : Heap) (j : Nat) (x : Str) (dds : List D) (R : RSp) : Prop where
  ex : ∃ f fd ps ds dvs, mg x = some (.ref f) ∧ PySem.W.keepIn K (.ref f) = true ∧ Binds K fd ps ds ∧ Vals dvs ds ∧ (∀ S, RepL K S dds dvs) ∧ FnOk P w K mg base (L2.CX P w) j f fd ps (spD K R)
/-- m, a method that the class at C has -/
structure MtD (P : Program) (w : World) (K : PySem.W.Frag) (mg : Str → Option Value) (base : Heap) (j : Nat) (C : Addr) (m : Str) (dds : List D) (R : RSp) : Prop where
  cl : Cls K C
  ex : ∃ f fd ps ds dvs, Meth K C m f ∧ Binds K fd ps ds ∧ Vals dvs ds ∧ (∀ S, RepL K S dds dvs) ∧ FnOk P w K mg base (L2.CX P w) j f fd ps (spD K R)
/-- the making of an instance of the class C named x -/
structure MkD (P : Program) (w : World) (K : PySem.W.Frag) (mg : Str → Option Value) (base : Heap) (j : Nat) (C : Addr) (x : Str) (dds : List D) (R : RSp) : Prop where
  cl : Cls K C
  gC : mg x = some (.ref C)
  ex : ∃ f fd ps ds dvs, Mk K C f ∧ Binds K fd ps ds ∧ Vals dvs ds ∧ (∀ S, RepL K S dds dvs) ∧ FnOk P w K mg base (L2.CX P w) j f fd ps (spD K R)
/-- an object, standing or not -/
def ObjD (M : Ms) (d : D) (C : Addr) (fs : List Str) (ds : List D) : Prop := d = .ins C fs ds ∨ ∃ (j : Nat) (a : Addr), d = .hdl a ∧ M[j]? = some (a, MO.ins C fs ds)
theorem ObjD.at {K : PySem.W.Frag} {S : Sg} {M : Ms} {d : D} {C : Addr} {fs : List Str} {ds : List D} {v : V} (o : ObjD M d C fs ds) (hM : OkM K S M) (r : Rep K S d v) :
    ∃ a dx kvs, v = .ref a ∧ S.H a = some (.ins C dx kvs) ∧ kvs.map (·.1) = fs ∧ RepL K S ds (kvs.map (·.2)) := by
  rcases o with rfl | ⟨j, a, rfl, hj⟩
  · obtain ⟨a, dx, kvs, rfl, h, e, r⟩ := r
    exact ⟨a, dx, kvs, rfl, hM.zh _ _ h, e, r⟩
  · cases r
    obtain ⟨_, dx, kvs, h, e, r⟩ := hM.at hj
    exact ⟨a, dx, kvs, rfl, h, e, r⟩
theorem lookup_ix : ∀ {kvs : List (Str × V)} {i : Nat} {f : Str} {v : V}, (kvs.map (·.1)).Nodup → (kvs.map (·.1))[i]? = some f → (kvs.map (·.2))[i]? = some v → kvs.lookup f = some v
  | [], _, _, _, _, h, _ => by simp at h
  | (g, u) :: r, 0, f, v, _, h1, h2 => by
    simp at h1 h2
    subst h1; subst h2
    simp [List.lookup]
  | (g, u) :: r, i + 1, f, v, nd, h1, h2 => by
    have h1' : (r.map (·.1))[i]? = some f := h1
    have h2' : (r.map (·.2))[i]? = some v := h2
    have nd' : g ∉ r.map (·.1) ∧ (r.map (·.1)).Nodup := List.nodup_cons.mp nd
    have hne : f ≠ g := fun e => nd'.1 (by rw [← e]; exact List.mem_of_getElem? h1')
    have hb : (f == g) = false := by simpa using hne
    simp only [List.lookup, hb]
    exact lookup_ix (i := i) nd'.2 h1' h2'
theorem lookup_no : ∀ {kvs : List (Str × V)} {f : Str}, f ∉ kvs.map (·.1) → kvs.lookup f = none
  | [], _, _ => rfl
  | (g, u) :: r, f, h => by
    simp only [List.map_cons, List.mem_cons, not_or] at h
    have hb : (f == g) = false := by simpa using h.1
    simp only [List.lookup, hb]
    exact lookup_no h.2
section
variable {X : Cx} {Γ : En} {M : Ms} {e a b c o : Expr} {es : List Expr} {st : Stmt} {rest : List Stmt} {k : KD} {kx : KX} {E : ED} {d x y z : D} {pos apos p : Pos} {nm m : Str} {j l : Nat} {C : Addr} {dds : List D} {R : RSp}
theorem sp_of {K : PySem.W.Frag} {S' : Sg} {ds : List D} {M' : Ms} {ks : List Nat} {vs : List V} {Q : VK} {W : WX} {σ : L2.St} (hM : OkM K S' M') (rv : RepL K S' ds vs) (h : CallOk R ks ds M' k kx) (hQ : KV K S' k Q) (hW : KW K S' kx W σ) :
    spD K R vs S'.H Q (L2.WE W σ) := by
  obtain ⟨nd, hk, h⟩ := h
  refine ⟨⟨(pick ks M').map (·.1), S'.Z, S'.H⟩, ds, pick ks M', _, _, rfl, pick_ok hM nd, (sg_mono (S := S') (S' := ⟨(pick ks M').map (·.1), S'.Z, S'.H⟩) (Ex.refl _)).2 _ _ rv, h, fun d N S2 v ⟨hn, hd⟩ hN g r => ?_, fun cls fs N S2 dd ⟨hn, hd⟩ hN g r => ?_⟩
  · obtain ⟨a, b⟩ := merge_ok hM nd hk hN g hn
    exact hQ d _ ⟨(merge ks M' N).map (·.1), S2.Z, S2.H⟩ v hd a b ((sg_mono (S := S2) (S' := ⟨(merge ks M' N).map (·.1), S2.Z, S2.H⟩) (Ex.refl _)).1 _ _ r)
  · obtain ⟨a, b⟩ := merge_ok hM nd hk hN g hn
    refine hW cls fs _ ⟨(merge ks M' N).map (·.1), S2.Z, S2.H⟩ dd hd a b (r.re (fun _ h => h) rfl rfl fun x hx => ?_)
    obtain ⟨p, hp, rfl⟩ := List.mem_map.mp hx
    rcases merge_mem hp with h | ⟨j, h, _⟩
    · exact .inl (hN.in h)
    · exact .inr (hM.dom _ (hM.in (List.mem_of_getElem? h)))
theorem ge_call (F : FnD X.prog X.w X.K X.mg X.base j nm dds R) (hr : Room l X.A) (hl : j ≤ l) (h : GA X Γ M (e :: es) (fun ds M1 => ∃ ks, CallOk R ks (ds ++ dds) M1 k kx) kx) (hg : Gl X nm := by rfl) (hdb : (nm == ("__debug__" : Str)) = false := by decide)
    (he : starEach (e :: es) X.env = (false, eval e X.env) :: starEach es X.env := by rfl) (hpl : (backTo pos (starEach es X.env)).any (·.1) = false := by rfl) : GE X Γ M (.Call (.Name nm p) (e :: es) [] pos) k kx := fun S σ hM hE W tk hW Q hQ pins s I => by
  obtain ⟨f, fd, ps, dvl, dvs, hm, hk, hb, hd, hrd, F⟩ := F.ex
  refine wpAny_Call_Name_kw (ld_glob I hg hm ?_ hdb)
  refine PySem.W.callWith_K (h₀ := X.base) I.ok.mod.kin hk (thn (h S σ hM hE W tk hW (fun vs H1 => spD X.K R (vs ++ dvs) H1 Q (L2.WE W σ)) (fun ds M1 S1 vs ⟨ks, h1⟩ hM1 g1 r1 => sp_of hM1 (r1.app (hrd S1)) h1 (hQ.grow g1) (hW.grow g1)) pos pins s I) fun us s1 ⟨vs, H1, I1, r, q⟩ => ⟨I1.kIn, ?_⟩) he hpl
  exact run_fnSD F (hr.mono hl) hb hd (passAt tk σ) I1 r q
theorem ge_call0 (F : FnD X.prog X.w X.K X.mg X.base j nm dds R) (hr : Room l X.A) (hl : j ≤ l) (h : ∃ ks, CallOk R ks dds M k kx) (hg : Gl X nm := by rfl) (hdb : (nm == ("__debug__" : Str)) = false := by decide) : GE X Γ M (.Call (.Name nm p) [] [] pos) k kx := fun S σ hM hE W tk hW Q hQ pins s I => by
  obtain ⟨f, fd, ps, dvl, dvs, hm, hk, hb, hd, hrd, F⟩ := F.ex
  obtain ⟨ks, h⟩ := h
  refine wpAny_Call_Name_kw (ld_glob I hg hm ?_ hdb)
  exact PySem.W.callWith_K0 I.kIn hk (run_fnSD (us := []) (vs := []) F (hr.mono hl) hb hd (passAt tk σ) I .nil (sp_of hM (hrd S) h hQ hW))
theorem ge_meth {pl : Sem Bool} (F : MtD X.prog X.w X.K X.mg X.base j C m dds R) (hr : Room l X.A) (hl : j ≤ l) (h : GE X Γ M o (fun d M1 => ∃ fs ds0, ObjD M1 d C fs ds0 ∧ m ∉ fs ∧ GA X Γ M1 (e :: es) (fun ds M2 => ∃ ks, CallOk R ks (d :: (ds ++ dds)) M2 k kx) kx) kx)
    (hst : starEach (e :: es) X.env = (false, eval e X.env) :: starEach es X.env := by rfl) (hpl : (backTo pos (starEach es X.env)).any (·.1) = false := by rfl)
    (ht : eval (.Call (.Attribute o m apos) (e :: es) [] pos) X.env = (do
      let ov ← eval o X.env
      standAt apos.atName
      let (f, first) ← holding [ov] (getMethod ov m pl)
      callWith pos f first (backTo pos (starEach (e :: es) X.env)) (backToKw pos (keywordEach [] X.env))) := by rfl) : GE X Γ M (.Call (.Attribute o m apos) (e :: es) [] pos) k kx := fun S σ hM hE W tk hW Q hQ pins s I => by
  obtain ⟨f, fd, ps, dvl, dvs, hm, hb, hd, hrd, F'⟩ := F.ex
  refine PySem.W.methodCall_KW (pl := pl) (thn (h S σ hM hE W tk hW (fun x H1 => ∃ a dx fs, x = .ref a ∧ H1 a = some (.ins C dx fs) ∧ fs.lookup m = none ∧ WA X (e :: es) σ H1 fun vs H2 => spD X.K R (x :: (vs ++ dvs)) H2 Q (L2.WE W σ)) (fun d M1 S1 v ⟨fs, ds0, ob, nf, h1⟩ hM1 g1 r1 => by
    obtain ⟨a, dx, kvs, rfl, hh, hf, hrr⟩ := ob.at hM1 r1
    refine ⟨a, dx, kvs, rfl, hh, lookup_no (by rw [hf]; exact nf), ?_⟩
    exact h1 S1 σ hM1 (hE.grow g1) W tk (hW.grow g1) _ fun ds M2 S2 vs ⟨ks, h2⟩ hM2 g2 r2 => sp_of hM2 (.cons (r1.grow g2) (r2.app (hrd S2))) h2 ((hQ.grow g1).grow g2) ((hW.grow g1).grow g2)) pins s I) fun u s1 ⟨x, H1, I1, rx, a, dx, fs, ex, ea, l, q⟩ => ?_) ht
  subst ex
  obtain rfl : u = Value.ref a := rx
  refine getmeth_ok I1 ea F.cl hm l ?_
  refine PySem.W.callWith_K (first := [.ref a]) (h₀ := X.base) I.ok.mod.kin hm.kp (thn (q pos pins s1 I1) fun us s2 ⟨vs, H2, I2, r, q2⟩ => ⟨I2.kIn, ?_⟩) hst hpl
  exact run_fnSD (us := .ref a :: us) (vs := .ref a :: vs) F' (hr.mono hl) hb hd (passAt tk σ) I2 (.cons rfl r) q2
theorem ge_meth0 {pl : Sem Bool} (F : MtD X.prog X.w X.K X.mg X.base j C m dds R) (hr : Room l X.A) (hl : j ≤ l) (h : GE X Γ M o (fun d M1 => ∃ fs ds0, ObjD M1 d C fs ds0 ∧ m ∉ fs ∧ ∃ ks, CallOk R ks (d :: dds) M1 k kx) kx)
    (ht : eval (.Call (.Attribute o m apos) [] [] pos) X.env = (do
      let ov ← eval o X.env
      standAt apos.atName
      let (f, first) ← holding [ov] (getMethod ov m pl)
      callWith pos f first (backTo pos (starEach [] X.env)) (backToKw pos (keywordEach [] X.env))) := by rfl) : GE X Γ M (.Call (.Attribute o m apos) [] [] pos) k kx := fun S σ hM hE W tk hW Q hQ pins s I => by
  obtain ⟨f, fd, ps, dvl, dvs, hm, hb, hd, hrd, F'⟩ := F.ex
  refine PySem.W.methodCall_KW (pl := pl) (thn (h S σ hM hE W tk hW (fun x H1 => ∃ a dx fs, x = .ref a ∧ H1 a = some (.ins C dx fs) ∧ fs.lookup m = none ∧ spD X.K R (x :: dvs) H1 Q (L2.WE W σ)) (fun d M1 S1 v ⟨fs, ds0, ob, nf, ks, h1⟩ hM1 g1 r1 => by
    obtain ⟨a, dx, kvs, rfl, hh, hf, hrr⟩ := ob.at hM1 r1
    exact ⟨a, dx, kvs, rfl, hh, lookup_no (by rw [hf]; exact nf), sp_of hM1 (.cons r1 (hrd S1)) h1 (hQ.grow g1) (hW.grow g1)⟩) pins s I) fun u s1 ⟨x, H1, I1, rx, a, dx, fs, ex, ea, l, q⟩ => ?_) ht
  subst ex
  obtain rfl : u = Value.ref a := rx
  refine getmeth_ok I1 ea F.cl hm l ?_
  exact PySem.W.callWith_K0 (first := [.ref a]) I1.kIn hm.kp (run_fnSD (us := [.ref a]) (vs := [.ref a]) F' (hr.mono hl) hb hd (passAt tk σ) I1 (.cons rfl .nil) q)
/-- o.f -/
theorem ge_fld (i : Nat) {f : Str} (h : GE X Γ M o (fun d M1 => ∃ C fs ds v, Cls X.K C ∧ NoAttr X.K C f ∧ ObjD M1 d C fs ds ∧ fs.Nodup ∧ fs[i]? = some f ∧ ds[i]? = some v ∧ k v M1) kx) (hb : attributeBase o f X.env (eval o X.env) = eval o X.env := by rfl) : GE X Γ M (.Attribute o f pos) k kx := fun S σ hM hE W tk hW Q hQ =>
  of_pe (pe_fld we hb) (h S σ hM hE W tk hW _ fun d M1 S1 v ⟨C, fs, ds, u, cl, na, ob, nd, hf, hi, hk⟩ hM1 g1 r1 => by
    obtain ⟨a, dx, kvs, rfl, hh, he, hrr⟩ := ob.at hM1 r1
    obtain ⟨w, hw, rw'⟩ := hrr.get hi
    exact ⟨a, C, dx, kvs, w, rfl, hh, cl, na, lookup_ix (by rw [he]; exact nd) (by rw [he]; exact hf) hw, hQ u M1 S1 w hk hM1 g1 rw'⟩)
end
end PD

set_option Elab.async false
set_option linter.all false
set_option maxRecDepth 100000
set_option maxHeartbeats 4000000
/-! PD: loops, comprehensions, stores, raising, defs. -/
namespace PD
open PySem L2
open Evl (Ex ex_rd ex_l ex_t)

/-! ### targets -/
section
variable {X : Cx} {Γ : En} {M : Ms} {pos : Pos} {d : D}
theorem gg_name (i : Nat) {x : Str} {k : En → Prop} (h : k (Γ.set i (some d))) (hN : X.N.Nodup) (hi : X.N[i]? = some x := by rfl) (hx : Loc X.env.scope x := by first | exact Or.inl rfl | exact Or.inr rfl)
    (hf : X.fn x = true ∨ X.env.scope.names.lookup x = some .local := by first | exact .inl rfl | exact .inr rfl) : GG X Γ M (.Name x pos) d k := fun S σ hM hE v rv Q hQ pins s u I r =>
  (pg_name hN hi hx hf).run pins s σ S.H v u Q I r (hQ _ _ h (hE.set rv))
/-- a, b, .. = a tuple's items -/
def GGs (X : Cx) (Γ : En) (M : Ms) (ts : List Expr) (ds : List D) (k : En → Prop) : Prop := ∀ S σ, OkM X.K S M → EnvOk X.K S σ Γ → ∀ vs, RepL X.K S ds vs → ∀ Q : L2.St → Hp → Prop, (∀ Γ' σ', k Γ' → EnvOk X.K S σ' Γ' → Q σ' S.H) →
  ∀ (pins : List (Addr × Obj)) (s : Shared) (us : List Value), Inv X pins σ S.H s → Vals vs us → wpAny (model X.prog X.w) X.A (assignInOrder ((assignEach ts X.env).map (·.2)) us) (fun _ s' => ∃ σ' H', Inv X pins σ' H' s' ∧ Q σ' H') X.xe s
def WGs (X : Cx) (ts : List Expr) : TGs := fun vs σ H Q => ∀ (pins : List (Addr × Obj)) (s : Shared) (us : List Value), Inv X pins σ H s → Vals vs us → wpAny (model X.prog X.w) X.A (assignInOrder ((assignEach ts X.env).map (·.2)) us) (fun _ s' => ∃ σ' H', Inv X pins σ' H' s' ∧ Q σ' H') X.xe s
theorem wgs {ts : List Expr} : PGs X ts (WGs X ts) := ⟨fun pins s _ _ _ us _ I r h => h pins s us I r⟩
theorem ggs_nil {k : En → Prop} (h : k Γ) : GGs X Γ M [] [] k := fun S σ hM hE vs rv Q hQ pins s us I r => by
  have e : vs = [] := rv
  subst e
  exact pgs_nil.run pins s σ S.H [] us Q I r ⟨rfl, hQ _ _ h hE⟩
theorem ggs_cons {t : Expr} {ts : List Expr} {ds : List D} {k : En → Prop} (h : GG X Γ M t d fun Γ1 => GGs X Γ1 M ts ds k)
    (hs : (assignEach (t :: ts) X.env).map (·.2) = assign t X.env :: (assignEach ts X.env).map (·.2) := by rfl) : GGs X Γ M (t :: ts) (d :: ds) k := fun S σ hM hE vs rv Q hQ pins s us I r => by
  obtain ⟨x, xs, rfl, r1, r2⟩ := rv
  exact (pgs_cons (X := X) wg wgs hs).run pins s σ S.H (x :: xs) us Q I r ⟨x, xs, rfl, h S σ hM hE x r1 _ fun Γ1 σ1 h1 hE1 => fun pins s us I r => h1 S σ1 hM hE1 xs r2 Q hQ pins s us I r⟩
theorem gg_tup {es : List Expr} {j n : Nat} {ds : List D} {k : En → Prop} (hc : X.calm = true) (h : GGs X Γ M es ds k) (hl : ds.length = n) (hn : (assignEach es X.env).length = n := by rfl) (hst : (assignEach es X.env).findIdx? (·.1) = none := by rfl) :
    GG X Γ M (.Tuple es j pos) (.tup ds) k := fun S σ hM hE v rv Q hQ pins s u I r => by
  obtain ⟨a, xs, rfl, e, r1⟩ := rv
  exact (pg_tup (t := WGs X es) hc wgs hn hst).run pins s σ S.H (.ref a) u Q I r ⟨a, xs, rfl, ex_t hM.zh e, by rw [r1.len]; exact hl, fun pins s us I r => h S σ hM hE xs r1 Q hQ pins s us I r⟩
/-- the value is brought to stand first -/
theorem gg_hdl {t : Expr} {k : En → Prop} {d' : D} (h : GG X Γ M t d' k) (e : d = d') : GG X Γ M t d k := by rw [e]; exact h
theorem gs_asg {tg e : Expr} {E : ED} (h : GE X Γ M e (fun d M1 => GG X Γ M1 tg d fun Γ1 => E.nx Γ1 M1) (fun c f M1 => E.ex c f Γ M1)) (hs : swapsWithSole [tg] e pos.line X.env = pure false := by rfl) (hw : swappedStores [tg] e X.env = pure none := by rfl)
    (h1 : (assignEach [tg] X.env).map (·.2) = [assign tg X.env] := by rfl) : GS X Γ M (.Assign [tg] e pos) E := fun S σ hM hE W tk De L =>
  of_ps (ps_asg we wg hs hw h1) (h S σ hM hE W tk (L.kw hE) _ fun d M1 S1 v hk hM1 g1 r1 => hk S1 σ hM1 (hE.grow g1) v r1 _ fun Γ' σ' q hE' => L.nx _ M1 S1 _ q hM1 g1 hE')
theorem gs_par (i j : Nat) {x y : Str} {a b : Expr} {px py pt : Pos} {kt k2 : Nat} {pt2 : Pos} {E : ED} (hc : X.calm = true) (h : GA X Γ M [a, b] (fun ds M1 => ∃ v w, ds = [v, w] ∧ E.nx ((Γ.set i (some v)).set j (some w)) M1) (fun c f M1 => E.ex c f Γ M1))
    (hN : X.N.Nodup) (hi : X.N[i]? = some x := by rfl) (hj : X.N[j]? = some y := by rfl) (hij : i ≠ j := by decide) (hx : X.env.scope.names.lookup x = some .local := by rfl) (hy : X.env.scope.names.lookup y = some .local := by rfl)
    (hw : swappedStores [.Tuple [.Name x px, .Name y py] kt pt] (.Tuple [a, b] k2 pt2) X.env = pure (some [x, y]) := by rfl)
    (hs : swapsWithSole [.Tuple [.Name x px, .Name y py] kt pt] (.Tuple [a, b] k2 pt2) pos.line X.env = pure false := by rfl) : GS X Γ M (.Assign [.Tuple [.Name x px, .Name y py] kt pt] (.Tuple [a, b] k2 pt2) pos) E := fun S σ hM hE W tk De L =>
  of_ps (ps_par hc hN hi hj hij hx hy wa hw hs) (h S σ hM hE W tk (L.kw hE) _ fun ds M1 S1 vs ⟨v, w, e, hk⟩ hM1 g1 r1 => by
    subst e
    obtain ⟨p, q, rfl, r2, r3⟩ := rep2 r1
    exact ⟨p, q, rfl, L.nx _ M1 S1 _ hk hM1 g1 (((hE.grow g1).set r2).set r3)⟩)
end

/-! ### what is walked -/
def DWalk (K : PySem.W.Frag) (J : It) (n : Nat) (it : Nat → D → Prop) (G : Ms → Prop) (S1 : Sg) : Prop :=
  (∀ i S M, i < n → Grow S1 S → OkM K S M → G M → J.go i S.H) ∧ (∀ S M, Grow S1 S → OkM K S M → G M → J.stop n S.H) ∧
  ∀ i S M x H', i < n → Grow S1 S → OkM K S M → G M → J.yld i S.H x H' → ∃ S' d, S'.H = H' ∧ OkM K S' M ∧ Grow S S' ∧ it i d ∧ Rep K S' d x
abbrev KI := Nat → (Nat → D → Prop) → (Ms → Prop) → Ms → Prop
def WI (X : Cx) (tg iter : Expr) : TI := fun σ H R => ∀ (pins : List (Addr × Obj)) (s : Shared), Inv X pins σ H s → wpAny (model X.prog X.w) X.A (eval iter X.env) (fun v s1 => wpAny (model X.prog X.w) X.A (pyIter v) (PIE X pins σ tg R) X.xe s1) X.xe s
theorem wi {X : Cx} {tg iter : Expr} : PI X tg iter (WI X tg iter) := ⟨fun pins s _ _ _ I h => h pins s I⟩
def GI (X : Cx) (Γ : En) (M : Ms) (tg iter : Expr) (k : KI) (kx : KX) : Prop := ∀ S σ, OkM X.K S M → EnvOk X.K S σ Γ → ∀ W, Takes X W → KW X.K S kx W σ → ∀ R : It → Hp → Prop,
  (∀ n it G M1 S1 J, k n it G M1 → OkM X.K S1 M1 → Grow S S1 → DWalk X.K J n it G S1 → R J S1.H) → WI X tg iter σ S.H R
section
variable {X : Cx} {Γ : En} {M : Ms} {tg e : Expr} {k : KI} {kx : KX} {pos p : Pos}
theorem gi_lst (h : GE X Γ M e (fun d M1 => ∃ ds, d = .lst ds ∧ k ds.length (fun i x => ds[i]? = some x) (fun _ => True) M1) kx) : GI X Γ M tg e k kx := fun S σ hM hE W tk hW R hR pins s I =>
  (pi_list (tg := tg) (we (X := X) (e := e))).run pins s σ S.H R I (h S σ hM hE W tk hW _ fun d M1 S1 v ⟨ds, e, hk⟩ hM1 g1 r1 => by
    subst e
    obtain ⟨a, xs, rfl, hz, r⟩ := r1
    have l := r.len
    refine ⟨a, rfl, ⟨xs, SqL.of (hM1.zh _ _ hz)⟩, hR _ _ _ M1 S1 _ hk hM1 g1 ⟨fun i S2 M2 hi g2 hM2 _ => ?_, fun S2 M2 g2 hM2 _ => ?_, fun i S2 M2 x H' hi g2 hM2 _ y => ?_⟩⟩
    · have h2 : S2.H a = some (.lst xs) := hM2.zh _ _ (g2.zz _ _ hz)
      exact ⟨xs, xs[i]'(by omega), SqL.of h2, by simp [show i < xs.length by omega]⟩
    · have h2 : S2.H a = some (.lst xs) := hM2.zh _ _ (g2.zz _ _ hz)
      exact ⟨xs, SqL.of h2, by omega⟩
    · have h2 : S2.H a = some (.lst xs) := hM2.zh _ _ (g2.zz _ _ hz)
      obtain ⟨d, e1, e2⟩ := r.get' (y.2 xs (SqL.of h2))
      exact ⟨S2, d, y.1.symm, hM2, Grow.refl _, e1, e2.grow g2⟩)
theorem gi_seq (h : GE X Γ M e (fun d M1 => ∃ ds, d = .seq ds ∧ k ds.length (fun i x => ds[i]? = some x) (fun _ => True) M1) kx) : GI X Γ M tg e k kx := fun S σ hM hE W tk hW R hR pins s I =>
  (pi_list (tg := tg) (we (X := X) (e := e))).run pins s σ S.H R I (h S σ hM hE W tk hW _ fun d M1 S1 v ⟨ds, e, hk⟩ hM1 g1 r1 => by
    subst e
    obtain ⟨a, xs, rfl, hz, r⟩ := r1
    have l := r.len
    refine ⟨a, rfl, ⟨xs, ex_l hM1.zh hz⟩, hR _ _ _ M1 S1 _ hk hM1 g1 ⟨fun i S2 M2 hi g2 hM2 _ => ?_, fun S2 M2 g2 hM2 _ => ?_, fun i S2 M2 x H' hi g2 hM2 _ y => ?_⟩⟩
    · exact ⟨xs, xs[i]'(by omega), ex_l hM2.zh (ex_l g2.zz hz), by simp [show i < xs.length by omega]⟩
    · exact ⟨xs, ex_l hM2.zh (ex_l g2.zz hz), by omega⟩
    · obtain ⟨d, e1, e2⟩ := r.get' (y.2 xs (ex_l hM2.zh (ex_l g2.zz hz)))
      exact ⟨S2, d, y.1.symm, hM2, Grow.refl _, e1, e2.grow g2⟩)
theorem gi_tup (h : GE X Γ M e (fun d M1 => ∃ ds, d = .tup ds ∧ k ds.length (fun i x => ds[i]? = some x) (fun _ => True) M1) kx) : GI X Γ M tg e k kx := fun S σ hM hE W tk hW R hR pins s I =>
  (pi_tup (tg := tg) (we (X := X) (e := e))).run pins s σ S.H R I (h S σ hM hE W tk hW _ fun d M1 S1 v ⟨ds, e, hk⟩ hM1 g1 r1 => by
    subst e
    obtain ⟨a, xs, rfl, hz, r⟩ := r1
    have l := r.len
    refine ⟨a, rfl, ⟨xs, ex_t hM1.zh hz⟩, hR _ _ _ M1 S1 _ hk hM1 g1 ⟨fun i S2 M2 hi g2 hM2 _ => ?_, fun S2 M2 g2 hM2 _ => ?_, fun i S2 M2 x H' hi g2 hM2 _ y => ?_⟩⟩
    · exact ⟨xs, xs[i]'(by omega), ex_t hM2.zh (ex_t g2.zz hz), by simp [show i < xs.length by omega]⟩
    · exact ⟨xs, ex_t hM2.zh (ex_t g2.zz hz), by omega⟩
    · obtain ⟨d, e1, e2⟩ := r.get' (y.2 xs (ex_t hM2.zh (ex_t g2.zz hz)))
      exact ⟨S2, d, y.1.symm, hM2, Grow.refl _, e1, e2.grow g2⟩)
/-- a list that may change, and does not while it is walked -/
theorem gi_hdl (h : GE X Γ M e (fun d M1 => ∃ (j : Nat) (a : Addr) (ds : List D), d = .hdl a ∧ M1[j]? = some (a, MO.lst ds) ∧ k ds.length (fun i x => ds[i]? = some x) (fun M => ∃ j : Nat, M[j]? = some (a, .lst ds)) M1) kx) : GI X Γ M tg e k kx := fun S σ hM hE W tk hW R hR pins s I =>
  (pi_list (tg := tg) (we (X := X) (e := e))).run pins s σ S.H R I (h S σ hM hE W tk hW _ fun d M1 S1 v ⟨j, a, ds, e, hj, hk⟩ hM1 g1 r1 => by
    subst e
    cases r1
    obtain ⟨_, xs0, h0, r0⟩ := hM1.at hj
    have at2 : ∀ S2 M2, Grow S1 S2 → OkM X.K S2 M2 → (∃ j : Nat, M2[j]? = some (a, .lst ds)) → ∃ xs, S2.H a = some (.lst xs) ∧ RepL X.K S2 ds xs := fun S2 M2 g2 hM2 ⟨j2, hj2⟩ => by
      obtain ⟨_, xs, h, r⟩ := hM2.at hj2
      exact ⟨xs, h, r⟩
    refine ⟨a, rfl, ⟨xs0, SqL.of h0⟩, hR _ _ _ M1 S1 _ hk hM1 g1 ⟨fun i S2 M2 hi g2 hM2 hj2 => ?_, fun S2 M2 g2 hM2 hj2 => ?_, fun i S2 M2 x H' hi g2 hM2 hj2 y => ?_⟩⟩
    · obtain ⟨xs, h2, r⟩ := at2 S2 M2 g2 hM2 hj2
      have l := r.len
      exact ⟨xs, xs[i]'(by omega), SqL.of h2, by simp [show i < xs.length by omega]⟩
    · obtain ⟨xs, h2, r⟩ := at2 S2 M2 g2 hM2 hj2
      have l := r.len
      exact ⟨xs, SqL.of h2, by omega⟩
    · obtain ⟨xs, h2, r⟩ := at2 S2 M2 g2 hM2 hj2
      obtain ⟨d, e1, e2⟩ := r.get' (y.2 xs (SqL.of h2))
      exact ⟨S2, d, y.1.symm, hM2, Grow.refl _, e1, e2⟩)
theorem walk_rng {K : PySem.W.Frag} {lo : Int} {n : Nat} {S1 : Sg} : DWalk K (Itr lo n) n (fun i d => d = .int (lo + i)) (fun _ => True) S1 :=
  ⟨fun i S M hi _ _ _ => hi, fun S M _ _ _ => Nat.le_refl _, fun i S M x H' hi g hM _ y => ⟨S, .int (lo + i), y.1.symm, hM, Grow.refl _, rfl, y.2⟩⟩
theorem gi_range1 {a : Expr} (hm : X.mg "range" = none) (h : GA X Γ M [a] (fun ds M1 => ∃ j : Int, ds = [.int j] ∧ j < 4611686018427387904 ∧ -4611686018427387904 ≤ j ∧ k j.toNat (fun i d => d = .int (0 + i)) (fun _ => True) M1) kx) (hg : Gl X "range" := by rfl) (hs : starEach [a] X.env = [(false, eval a X.env)] := by rfl) :
    GI X Γ M tg (.Call (.Name "range" p) [a] [] pos) k kx := fun S σ hM hE W tk hW R hR pins s I =>
  (pi_range1 (tg := tg) hg hm wa hs).run pins s σ S.H R I (h S σ hM hE W tk hW _ fun ds M1 S1 vs ⟨j, e, h1, h2, hk⟩ hM1 g1 r1 => by
    subst e
    obtain ⟨v, rfl, r⟩ := rep1 r1
    cases r
    exact ⟨j, rfl, by omega, by omega, hR _ _ _ M1 S1 _ hk hM1 g1 walk_rng⟩)
theorem gi_range2 {a b : Expr} (hm : X.mg "range" = none) (h : GA X Γ M [a, b] (fun ds M1 => ∃ i j : Int, ds = [.int i, .int j] ∧ (-4611686018427387904 ≤ i ∧ i < 4611686018427387904 ∧ -4611686018427387904 ≤ j ∧ j < 4611686018427387904) ∧ k (j - i).toNat (fun t d => d = .int (i + t)) (fun _ => True) M1) kx) (hg : Gl X "range" := by rfl)
    (hs : starEach [a, b] X.env = [(false, eval a X.env), (false, eval b X.env)] := by rfl) (hs2 : starEach [b] X.env = [(false, eval b X.env)] := by rfl) : GI X Γ M tg (.Call (.Name "range" p) [a, b] [] pos) k kx := fun S σ hM hE W tk hW R hR pins s I =>
  (pi_range2 (tg := tg) hg hm wa hs hs2).run pins s σ S.H R I (h S σ hM hE W tk hW _ fun ds M1 S1 vs ⟨i, j, e, h1, hk⟩ hM1 g1 r1 => by
    subst e
    obtain ⟨v, w, rfl, r, r'⟩ := rep2 r1
    cases r; cases r'
    exact ⟨i, j, rfl, ⟨by omega, by omega, by omega, by omega⟩, hR _ _ _ M1 S1 _ hk hM1 g1 walk_rng⟩)
theorem gi_str (h : GE X Γ M e (fun d M1 => ∃ s, d = .str s ∧ k s.cps.size (fun i x => ∃ c, s.cps[i]? = some c ∧ x = .str ⟨#[c]⟩) (fun _ => True) M1) kx) : GI X Γ M tg e k kx := fun S σ hM hE W tk hW R hR pins s I =>
  (pi_str (tg := tg) (we (X := X) (e := e))).run pins s σ S.H R I (h S σ hM hE W tk hW _ fun d M1 S1 v ⟨z, e, hk⟩ hM1 g1 r1 => by
    subst e
    cases r1
    refine ⟨z, rfl, hR _ _ _ M1 S1 _ hk hM1 g1 ⟨fun i S2 M2 hi _ _ _ => hi, fun S2 M2 _ _ _ => Nat.le_refl _, fun i S2 M2 x H' hi g2 hM2 _ y => ?_⟩⟩
    obtain ⟨rfl, c, hc, rfl⟩ := y
    exact ⟨S2, .str ⟨#[c]⟩, rfl, hM2, Grow.refl _, ⟨c, hc, rfl⟩, rfl⟩)
theorem new_pair {K : PySem.W.Frag} {S : Sg} {M : Ms} {T : Addr} {x y : V} {d d' : D} (hM : OkM K S M) (hT : S.H T = none) (r : Rep K S d x) (r' : Rep K S d' y) :
    ∃ S', S'.H = upd S.H T (.tup [x, y]) ∧ OkM K S' M ∧ Grow S S' ∧ Rep K S' (.tup [d, d']) (.ref T) := by
  obtain ⟨hM2, g2⟩ := new_z (o := .tup [x, y]) hM hT
  exact ⟨⟨S.as, upd S.Z T (.tup [x, y]), upd S.H T (.tup [x, y])⟩, rfl, hM2, g2, T, [x, y], rfl, SqT.of upd_same, (RepL.cons r (.one r')).grow g2⟩
theorem gi_enum {es : List Expr} {j : Nat} {tpos : Pos} (hm : X.mg "enumerate" = none) (h : GA X Γ M [e] (fun ds M1 => ∃ xs, ds = [.lst xs] ∧ k xs.length (fun i x => ∃ d, xs[i]? = some d ∧ x = .tup [.int (i : Nat), d]) (fun _ => True) M1) kx) (hg : Gl X "enumerate" := by rfl) (hs : starEach [e] X.env = [(false, eval e X.env)] := by rfl) :
    GI X Γ M (.Tuple es j tpos) (.Call (.Name "enumerate" p) [e] [] pos) k kx := fun S σ hM hE W tk hW R hR pins s I =>
  (pi_enum (elts := es) (kk := j) (tpos := tpos) hg hm wa hs).run pins s σ S.H R I (h S σ hM hE W tk hW _ fun ds M1 S1 vs ⟨ds', e, hk⟩ hM1 g1 r1 => by
    subst e
    obtain ⟨v, rfl, a, xs, rfl, hz, r⟩ := rep1 r1
    have l := r.len
    refine ⟨a, xs, rfl, SqL.of (hM1.zh _ _ hz), hR _ _ _ M1 S1 _ hk hM1 g1 ⟨fun i S2 M2 hi g2 hM2 _ => ?_, fun S2 M2 g2 hM2 _ => ?_, fun i S2 M2 x H' hi g2 hM2 _ y => ?_⟩⟩
    · exact ⟨xs, xs[i]'(by omega), SqL.of (hM2.zh _ _ (g2.zz _ _ hz)), by simp [show i < xs.length by omega]⟩
    · exact ⟨xs, SqL.of (hM2.zh _ _ (g2.zz _ _ hz)), by omega⟩
    · obtain ⟨T, z, rfl, hT, rfl, hx⟩ := y
      obtain ⟨d, e1, e2⟩ := r.get' (hx xs (SqL.of (hM2.zh _ _ (g2.zz _ _ hz))))
      obtain ⟨S', q1, q2, q3, q4⟩ := new_pair (d := .int (i : Nat)) (d' := d) hM2 hT rfl (e2.grow g2)
      exact ⟨S', _, q1, q2, q3, ⟨d, e1, rfl⟩, q4⟩)
theorem gi_zipT {a b : Expr} {es : List Expr} {j : Nat} {tpos : Pos} (hm : X.mg "zip" = none) (h : GA X Γ M [a, b] (fun ds M1 => ∃ xs ys, ds = [.tup xs, .tup ys] ∧ k (min xs.length ys.length) (fun i x => ∃ d d', xs[i]? = some d ∧ ys[i]? = some d' ∧ x = .tup [d, d']) (fun _ => True) M1) kx) (hg : Gl X "zip" := by rfl)
    (hs : starEach [a, b] X.env = (false, eval a X.env) :: starEach [b] X.env := by rfl) (hpl : (backTo pos (starEach [b] X.env)).any (·.1) = false := by rfl) : GI X Γ M (.Tuple es j tpos) (.Call (.Name "zip" p) [a, b] [] pos) k kx := fun S σ hM hE W tk hW R hR pins s I =>
  (RZ.pi_zipA (elts := es) (kk := j) (tpos := tpos) hg hm wa hs hpl).run pins s σ S.H R I (h S σ hM hE W tk hW _ fun ds M1 S1 vs ⟨ds1, ds2, e, hk⟩ hM1 g1 r1 => by
    subst e
    obtain ⟨v, w, rfl, ⟨p1, xs, rfl, hz, r⟩, p2, ys, rfl, hz2, r2⟩ := rep2 r1
    have l := r.len
    have l2 := r2.len
    have t1 : ∀ S2 M2, Grow S1 S2 → OkM X.K S2 M2 → SqT X.K S2.H p1 xs ∧ SqT X.K S2.H p2 ys := fun S2 M2 g2 hM2 => ⟨ex_t hM2.zh (ex_t g2.zz hz), ex_t hM2.zh (ex_t g2.zz hz2)⟩
    refine ⟨p1, p2, xs, ys, rfl, .inr ⟨ex_t hM1.zh hz, ex_t hM1.zh hz2, hR _ _ _ M1 S1 _ hk hM1 g1 ⟨fun i S2 M2 hi g2 hM2 _ => ?_, fun S2 M2 g2 hM2 _ => ?_, fun i S2 M2 x H' hi g2 hM2 _ y => ?_⟩⟩⟩
    · obtain ⟨q1, q2⟩ := t1 S2 M2 g2 hM2
      exact ⟨xs, ys, xs[i]'(by omega), ys[i]'(by omega), q1, q2, by simp [show i < xs.length by omega], by simp [show i < ys.length by omega]⟩
    · obtain ⟨q1, q2⟩ := t1 S2 M2 g2 hM2
      exact ⟨xs, ys, q1, q2, by omega⟩
    · obtain ⟨q1, q2⟩ := t1 S2 M2 g2 hM2
      obtain ⟨T, u, w, rfl, hT, rfl, hx, hy⟩ := y
      obtain ⟨d, e1, e2⟩ := r.get' (hx xs q1)
      obtain ⟨d', e3, e4⟩ := r2.get' (hy ys q2)
      obtain ⟨S', a1, a2, a3, a4⟩ := new_pair hM2 hT (e2.grow g2) (e4.grow g2)
      exact ⟨S', _, a1, a2, a3, ⟨d, d', e1, e3, rfl⟩, a4⟩)
theorem gi_zipL {a b : Expr} {es : List Expr} {j : Nat} {tpos : Pos} (hm : X.mg "zip" = none) (h : GA X Γ M [a, b] (fun ds M1 => ∃ xs ys, ds = [.lst xs, .lst ys] ∧ k (min xs.length ys.length) (fun i x => ∃ d d', xs[i]? = some d ∧ ys[i]? = some d' ∧ x = .tup [d, d']) (fun _ => True) M1) kx) (hg : Gl X "zip" := by rfl)
    (hs : starEach [a, b] X.env = (false, eval a X.env) :: starEach [b] X.env := by rfl) (hpl : (backTo pos (starEach [b] X.env)).any (·.1) = false := by rfl) : GI X Γ M (.Tuple es j tpos) (.Call (.Name "zip" p) [a, b] [] pos) k kx := fun S σ hM hE W tk hW R hR pins s I =>
  (RZ.pi_zipA (elts := es) (kk := j) (tpos := tpos) hg hm wa hs hpl).run pins s σ S.H R I (h S σ hM hE W tk hW _ fun ds M1 S1 vs ⟨ds1, ds2, e, hk⟩ hM1 g1 r1 => by
    subst e
    obtain ⟨v, w, rfl, ⟨p1, xs, rfl, hz, r⟩, p2, ys, rfl, hz2, r2⟩ := rep2 r1
    have l := r.len
    have l2 := r2.len
    have t1 : ∀ S2 M2, Grow S1 S2 → OkM X.K S2 M2 → SqL X.K S2.H p1 xs ∧ SqL X.K S2.H p2 ys := fun S2 M2 g2 hM2 => ⟨SqL.of (hM2.zh _ _ (g2.zz _ _ hz)), SqL.of (hM2.zh _ _ (g2.zz _ _ hz2))⟩
    refine ⟨p1, p2, xs, ys, rfl, .inl ⟨(t1 S1 M1 (Grow.refl _) hM1).1, (t1 S1 M1 (Grow.refl _) hM1).2, hR _ _ _ M1 S1 _ hk hM1 g1 ⟨fun i S2 M2 hi g2 hM2 _ => ?_, fun S2 M2 g2 hM2 _ => ?_, fun i S2 M2 x H' hi g2 hM2 _ y => ?_⟩⟩⟩
    · obtain ⟨q1, q2⟩ := t1 S2 M2 g2 hM2
      exact ⟨xs, ys, xs[i]'(by omega), ys[i]'(by omega), q1, q2, by simp [show i < xs.length by omega], by simp [show i < ys.length by omega]⟩
    · obtain ⟨q1, q2⟩ := t1 S2 M2 g2 hM2
      exact ⟨xs, ys, q1, q2, by omega⟩
    · obtain ⟨q1, q2⟩ := t1 S2 M2 g2 hM2
      obtain ⟨T, u, w, rfl, hT, rfl, hx, hy⟩ := y
      obtain ⟨d, e1, e2⟩ := r.get' (hx xs q1)
      obtain ⟨d', e3, e4⟩ := r2.get' (hy ys q2)
      obtain ⟨S', a1, a2, a3, a4⟩ := new_pair hM2 hT (e2.grow g2) (e4.grow g2)
      exact ⟨S', _, a1, a2, a3, ⟨d, d', e1, e3, rfl⟩, a4⟩)
/-- for .. -/
theorem gs_for {iter : Expr} {body : List Stmt} {E : ED} (hp : PassesOwn (model X.prog X.w) X.A X.env X.xe) (hc : X.calm = true)
    (h : GI X Γ M tg iter (fun n it G M1 => ∃ P : Nat → En → Ms → Prop, P 0 Γ M1 ∧ (∀ i Γ2 M2, i ≤ n → P i Γ2 M2 → G M2) ∧
      (∀ i d Γ2 M2, i < n → it i d → P i Γ2 M2 → GG X Γ2 M2 tg d fun Γ3 => GB X Γ3 M2 body { E with nx := P (i + 1), ct := P (i + 1), bk := E.nx }) ∧ (∀ Γ2 M2, P n Γ2 M2 → E.nx Γ2 M2)) (fun c f M1 => E.ex c f Γ M1))
    (hs : ∀ x, foldedSetIterable iter X.env x = pure x := by intro _; rfl) : GS X Γ M (.For tg iter body [] pos) E := fun S σ hM hE W tk De L =>
  of_ps (ps_for hp hc wi wg wb hs) (h S σ hM hE W tk (L.kw hE) _ fun n it G M1 S1 J ⟨P, p0, pG, pt, pd⟩ hM1 g1 wk => by
    have wk' : Walk J n (fun H => ∃ S M, S.H = H ∧ Grow S1 S ∧ OkM X.K S M ∧ G M) (fun i H x H' => ∀ S M, S.H = H → Grow S1 S → OkM X.K S M → G M → ∃ S' d, S'.H = H' ∧ OkM X.K S' M ∧ Grow S S' ∧ it i d ∧ Rep X.K S' d x) := by
      obtain ⟨w1, w2, w3⟩ := wk
      refine ⟨fun i H hi ⟨S2, M2, e, g2, hM2, hG⟩ => ?_, fun H ⟨S2, M2, e, g2, hM2, hG⟩ => ?_, fun i H x H' hi _ y S2 M2 e g2 hM2 hG => ?_⟩
      · rw [← e]; exact w1 i S2 M2 hi g2 hM2 hG
      · rw [← e]; exact w2 S2 M2 g2 hM2 hG
      · rw [← e] at y; exact w3 i S2 M2 x H' hi g2 hM2 hG y
    refine for_it wk' (fun i σ2 H2 => ∃ S2 Γ2 M2, S2.H = H2 ∧ Grow S1 S2 ∧ OkM X.K S2 M2 ∧ EnvOk X.K S2 σ2 Γ2 ∧ P i Γ2 M2) ⟨S1, Γ, M1, rfl, Grow.refl _, hM1, hE.grow g1, p0⟩ (fun i σ2 H2 hi ⟨S2, Γ2, M2, e, g2, hM2, hE2, hP⟩ => ⟨S2, M2, e, g2, hM2, pG i Γ2 M2 hi hP⟩) ?_ ?_
    · intro i x σ2 H2 H' hi ⟨S2, Γ2, M2, e, g2, hM2, hE2, hP⟩ y
      obtain ⟨S3, d, e3, hM3, g3, hit, r3⟩ := y S2 M2 e g2 hM2 (pG i Γ2 M2 (Nat.le_of_lt hi) hP)
      rw [← e3]
      refine pt i d Γ2 M2 hi hit hP S3 σ2 hM3 (hE2.grow g3) x r3 _ fun Γ4 σ4 hb hE4 => ?_
      have hN : KN X.K S3 (P (i + 1)) (fun σ2 H2 => ∃ S2 Γ2 M2, S2.H = H2 ∧ Grow S1 S2 ∧ OkM X.K S2 M2 ∧ EnvOk X.K S2 σ2 Γ2 ∧ P (i + 1) Γ2 M2) :=
        fun Γ5 M5 S5 σ5 h5 hM5 g5 hE5 => ⟨S5, Γ5, M5, rfl, (g2.trans g3).trans g5, hM5, hE5, h5⟩
      have L3 := L.grow ((g1.trans g2).trans g3)
      exact hb S3 σ4 hM3 hE4 W tk _ ⟨hN, L3.rt, L3.nx, hN, L3.ex⟩
    · rintro σ2 H2 ⟨S2, Γ2, M2, rfl, g2, hM2, hE2, hP⟩
      exact L.nx Γ2 M2 S2 σ2 (pd Γ2 M2 hP) hM2 (g1.trans g2) hE2)
end

/-! ### comprehensions -/
def wipeG (Γ : En) : List Nat → En
  | [] => Γ
  | v :: vs => (wipeG Γ vs).set v none
theorem EnvOk.wipe {K : PySem.W.Frag} {S : Sg} {σ : L2.St} {Γ : En} (h : EnvOk K S σ Γ) : ∀ vs : List Nat, EnvOk K S (wipe σ vs) (wipeG Γ vs)
  | [] => h
  | v :: vs => by
    have ih := EnvOk.wipe h vs
    refine ⟨by simp only [L2.wipe, wipeG, List.length_set]; exact ih.1, fun i d e => ?_⟩
    unfold wipeG at e
    by_cases hi : v = i
    · subst hi
      by_cases hv : v < (wipeG Γ vs).length
      · rw [List.getElem?_set_self hv] at e; cases e
      · rw [List.getElem?_eq_none (by simpa using hv)] at e; cases e
    · rw [List.getElem?_set_ne hi] at e
      obtain ⟨x, h1, h2⟩ := ih.2 i d e
      exact ⟨x, by unfold L2.wipe; rw [List.getElem?_set_ne hi]; exact h1, h2⟩
def WTs (X : Cx) (ifs : List Expr) : TT := fun σ H Q => ∀ (pins : List (Addr × Obj)) (s : Shared), Inv X pins σ H s →
    wpAny (model X.prog X.w) X.A (forIn ifs true fun c r => if r = true then do let ok ← isTrue c X.env (eval c X.env); pure (ForInStep.yield ok) else pure (ForInStep.yield r)) (TP X pins σ Q) X.xe s
/-- the tests of a comprehension: none, or one -/
def GTs (X : Cx) (Γ : En) (M : Ms) (ifs : List Expr) (k : KB) : Prop := ∀ S σ, OkM X.K S M → EnvOk X.K S σ Γ → ∀ Q, KT X.K S k Q → WTs X ifs σ S.H Q
theorem gts_nil {X : Cx} {Γ : En} {M : Ms} {k : KB} (h : k true M) : GTs X Γ M [] k := fun S σ hM hE Q hQ pins s I => pts_nil.run pins s σ S.H Q I (hQ true M S h hM (Grow.refl _))
theorem gts_one {X : Cx} {Γ : En} {M : Ms} {c : Expr} {k : KB} (h : GT X Γ M c k fun _ _ _ => False) : GTs X Γ M [c] k := fun S σ hM hE Q hQ pins s I =>
  (pts_one (wt (X := X) (e := c))).run pins s σ S.H Q I (h S σ hM hE (fun _ _ _ _ => False) takes0 (fun _ _ _ _ _ z => z.elim) Q hQ)
/-- an object that is known but neither stands nor is held by a handle -/
theorem frz_f {K : PySem.W.Frag} {S : Sg} {M : Ms} {a : Addr} {o : HO} (h : OkM K S M) (hz : S.Z a = none) (ho : S.H a = some o) (hn : a ∉ S.as) : OkM K ⟨S.as, upd S.Z a o, S.H⟩ M ∧ (∀ S0, Grow S0 S → S0.H a = none → Grow S0 ⟨S.as, upd S.Z a o, S.H⟩) ∧ ∀ d v, Rep K S d v → Rep K ⟨S.as, upd S.Z a o, S.H⟩ d v := by
  have mono := sg_mono (K := K) (S := S) (S' := ⟨S.as, upd S.Z a o, S.H⟩) (ex_new hz)
  refine ⟨⟨h.len, h.nd, fun b u e => ?_, fun p hp => ?_, h.dom⟩, fun S0 g n0 => ?_, mono.1⟩
  · by_cases q : b = a
    · subst q
      have e' : upd S.Z b o b = some u := e
      rw [upd_same] at e'; cases e'; exact ho
    · have e' : upd S.Z a o b = some u := e
      rw [upd_ne q] at e'; exact h.zh b u e'
  · have hb : p.1 ≠ a := fun z => hn (by rw [← z]; exact h.in hp)
    exact (h.mo p hp).keep (S' := ⟨S.as, upd S.Z a o, S.H⟩) (ex_new hz) (fun e => by show upd S.Z a o p.1 = none; rw [upd_ne hb]; exact e) (fun _ e => e)
  · refine ⟨g.pre, g.zz.trans (ex_new hz), g.keep, g.dom, fun q h1 h2 h3 => ?_⟩
    have : q ≠ a := fun c => h1 (by rw [c]; exact n0)
    show upd S.Z a o q = none
    rw [upd_ne this]; exact g.sep q h1 h2 h3
/-- .. is changed -/
theorem upd_f {K : PySem.W.Frag} {S : Sg} {M : Ms} {a : Addr} {o : HO} (h : OkM K S M) (hz : S.Z a = none) (hn : a ∉ S.as) : OkM K ⟨S.as, S.Z, upd S.H a o⟩ M ∧ (∀ S0, Grow S0 S → S0.H a = none → Grow S0 ⟨S.as, S.Z, upd S.H a o⟩) ∧ (∀ d v, Rep K S d v → Rep K ⟨S.as, S.Z, upd S.H a o⟩ d v) ∧ ∀ ds v, RepL K S ds v → RepL K ⟨S.as, S.Z, upd S.H a o⟩ ds v := by
  have mono := sg_mono (K := K) (S := S) (S' := ⟨S.as, S.Z, upd S.H a o⟩) (Ex.refl _)
  have dm : ∀ q, S.H q ≠ none → upd S.H a o q ≠ none := fun q e => by
    by_cases z : q = a
    · rw [z, upd_same]; simp
    · rw [upd_ne z]; exact e
  refine ⟨⟨h.len, h.nd, fun b u e => ?_, fun p hp => ?_, fun b mb => dm b (h.dom b mb)⟩, fun S0 g n0 => ?_, mono⟩
  · have : b ≠ a := fun z => by rw [z, hz] at e; cases e
    show upd S.H a o b = some u
    rw [upd_ne this]; exact h.zh b u e
  · have hb : p.1 ≠ a := fun z => hn (by rw [← z]; exact h.in hp)
    exact (h.mo p hp).keep (S' := ⟨S.as, S.Z, upd S.H a o⟩) (Ex.refl _) (fun e => e) (fun u e => by show upd S.H a o p.1 = some u; rw [upd_ne hb]; exact e)
  · refine ⟨g.pre, g.zz, fun q u e n => ?_, fun q e => dm q (g.dom q e), g.sep⟩
    have : q ≠ a := fun c => by rw [c, n0] at e; cases e
    show upd S.H a o q = some u
    rw [upd_ne this]; exact g.keep q u e n
section
variable {X : Cx} {Γ : En} {M : Ms} {tg elt iter : Expr} {ifs : List Expr} {scope : Scope} {own : List (Str × Nat)} {k : KD} {kx : KX} {pos p : Pos}
theorem wipe_get : ∀ {σ : L2.St} {vs : List Nat} {j : Nat}, (wipe σ vs)[j]? = if j ∈ vs ∧ j < σ.length then some none else σ[j]?
  | σ, [], j => by simp [wipe]
  | σ, v :: vs, j => by
    have ih := wipe_get (σ := σ) (vs := vs) (j := j)
    unfold L2.wipe
    by_cases q : v = j
    · subst q
      by_cases hl : v < σ.length
      · rw [List.getElem?_set_self (by rw [wipe_length]; exact hl)]
        simp [hl]
      · rw [List.getElem?_eq_none (by rw [List.length_set, wipe_length]; omega), List.getElem?_eq_none (by omega)]
        simp [hl]
    · rw [List.getElem?_set_ne q, ih]
      have : j ≠ v := fun c => q c.symm
      simp [this]
theorem wipe_set {σ : L2.St} {vs : List Nat} {i : Nat} {x : Option V} (h : i ∈ vs) : wipe (σ.set i x) vs = wipe σ vs := by
  apply List.ext_getElem?
  intro j
  rw [wipe_get, wipe_get]
  by_cases q : i = j
  · subst q
    by_cases hl : i < σ.length
    · simp [h, hl]
    · simp [hl]
  · rw [List.getElem?_set_ne q]
    simp
/-- the target of a comprehension: own slots alone -/
def CG (X : Cx) (Γ : En) (M : Ms) (tg : Expr) (d : D) (vs : List Nat) (k : En → Prop) : Prop := ∀ S σ, OkM X.K S M → EnvOk X.K S σ Γ → ∀ v, Rep X.K S d v → ∀ Q : L2.St → Hp → Prop, (∀ Γ' σ', k Γ' → EnvOk X.K S σ' Γ' → wipe σ' vs = wipe σ vs → Q σ' S.H) → WG X tg v σ S.H Q
def CGs (X : Cx) (Γ : En) (M : Ms) (ts : List Expr) (ds : List D) (ws : List Nat) (k : En → Prop) : Prop := ∀ S σ, OkM X.K S M → EnvOk X.K S σ Γ → ∀ vs, RepL X.K S ds vs → ∀ Q : L2.St → Hp → Prop, (∀ Γ' σ', k Γ' → EnvOk X.K S σ' Γ' → wipe σ' ws = wipe σ ws → Q σ' S.H) → WGs X ts vs σ S.H Q
theorem cg_name {d : D} {vs : List Nat} {pos : Pos} (i : Nat) {x : Str} {k : En → Prop} (h : k (Γ.set i (some d))) (hN : X.N.Nodup) (hv : i ∈ vs := by first | decide | simp) (hi : X.N[i]? = some x := by rfl) (hx : Loc X.env.scope x := by first | exact Or.inl rfl | exact Or.inr rfl)
    (hf : X.fn x = true ∨ X.env.scope.names.lookup x = some .local := by first | exact .inl rfl | exact .inr rfl) : CG X Γ M (.Name x pos) d vs k := fun S σ hM hE v rv Q hQ pins s u I r =>
  (pg_name hN hi hx hf).run pins s σ S.H v u Q I r (hQ _ _ h (hE.set rv) (wipe_set hv))
theorem cgs_nil {vs : List Nat} {k : En → Prop} (h : k Γ) : CGs X Γ M [] [] vs k := fun S σ hM hE xs rv Q hQ pins s us I r => by
  have e : xs = [] := rv
  subst e
  exact pgs_nil.run pins s σ S.H [] us Q I r ⟨rfl, hQ _ _ h hE rfl⟩
theorem cgs_cons {d : D} {t : Expr} {ts : List Expr} {ds : List D} {vs : List Nat} {k : En → Prop} (h : CG X Γ M t d vs fun Γ1 => CGs X Γ1 M ts ds vs k)
    (hs : (assignEach (t :: ts) X.env).map (·.2) = assign t X.env :: (assignEach ts X.env).map (·.2) := by rfl) : CGs X Γ M (t :: ts) (d :: ds) vs k := fun S σ hM hE xs rv Q hQ pins s us I r => by
  obtain ⟨x, xs, rfl, r1, r2⟩ := rv
  exact (pgs_cons (X := X) wg wgs hs).run pins s σ S.H (x :: xs) us Q I r ⟨x, xs, rfl, h S σ hM hE x r1 _ fun Γ1 σ1 h1 hE1 w1 => h1 S σ1 hM hE1 xs r2 Q fun Γ2 σ2 h2 hE2 w2 => hQ Γ2 σ2 h2 hE2 (w2.trans w1)⟩
theorem cg_tup {es : List Expr} {j n : Nat} {ds : List D} {vs : List Nat} {pos : Pos} {k : En → Prop} (hc : X.calm = true) (h : CGs X Γ M es ds vs k) (hl : ds.length = n) (hn : (assignEach es X.env).length = n := by rfl) (hst : (assignEach es X.env).findIdx? (·.1) = none := by rfl) :
    CG X Γ M (.Tuple es j pos) (.tup ds) vs k := fun S σ hM hE v rv Q hQ pins s u I r => by
  obtain ⟨a, xs, rfl, e, r1⟩ := rv
  exact (pg_tup (t := WGs X es) hc wgs hn hst).run pins s σ S.H (.ref a) u Q I r ⟨a, xs, rfl, ex_t hM.zh e, by rw [r1.len]; exact hl, h S σ hM hE xs r1 Q hQ⟩
theorem cg_eq {d d' : D} {vs : List Nat} {k : En → Prop} (h : CG X Γ M tg d' vs k) (e : d = d') : CG X Γ M tg d vs k := by rw [e]; exact h
/-- in every block of this scope -/
def Blk (X : Cx) (scope : Scope) (p : Cx → Prop) : Prop := ∀ (s : Shared) (H : Hp) (C : Addr) (cl : List (Str × Addr)) (fp : List Addr), p (X.blk s H scope (compEnvC scope cl C X.env) fp)
/-- the turns of a comprehension: P by the turn, the list made so far, the objects -/
def LcOk (X : Cx) (Γ : En) (tg elt : Expr) (ifs : List Expr) (scope : Scope) (vs : List Nat) (k : KD) (n : Nat) (it : Nat → D → Prop) (G : Ms → Prop) (M1 : Ms) : Prop :=
  ∃ P : Nat → List D → Ms → Prop, P 0 [] M1 ∧ (∀ i acc M2, i ≤ n → P i acc M2 → G M2) ∧
    (∀ i d acc M2, i < n → it i d → P i acc M2 → Blk X scope fun Y => CG Y (wipeG Γ vs) M2 tg d vs fun Γ3 =>
      Blk X scope fun Y => GTs Y Γ3 M2 ifs fun b M3 => (b = true → Blk X scope fun Y => GE Y Γ3 M3 elt (fun y M4 => acc.length < 16777216 ∧ P (i + 1) (acc ++ [y]) M4) (fun _ _ _ => False)) ∧ (b = false → P (i + 1) acc M3)) ∧
    (∀ acc M2, P n acc M2 → k (.lst acc) M2)
/-- readings that serve every block -/
def allE (X : Cx) (scope : Scope) (e : Expr) : TE := fun σ H' Q => ∀ (s : Shared) (H : Hp) (C : Addr) (cl : List (Str × Addr)) (fp : List Addr), WE (X.blk s H scope (compEnvC scope cl C X.env) fp) e σ H' Q
def allTs (X : Cx) (scope : Scope) (ifs : List Expr) : TT := fun σ H' Q => ∀ (s : Shared) (H : Hp) (C : Addr) (cl : List (Str × Addr)) (fp : List Addr), WTs (X.blk s H scope (compEnvC scope cl C X.env) fp) ifs σ H' Q
def allG (X : Cx) (scope : Scope) (tg : Expr) : TG := fun v σ H' Q => ∀ (s : Shared) (H : Hp) (C : Addr) (cl : List (Str × Addr)) (fp : List Addr), WG (X.blk s H scope (compEnvC scope cl C X.env) fp) tg v σ H' Q
theorem wts {X : Cx} {ifs : List Expr} : PTs X ifs (WTs X ifs) := ⟨fun pins s _ _ _ I h => h pins s I⟩
theorem lc_run {n : Nat} {it : Nat → D → Prop} {G : Ms → Prop} {M1 : Ms} {S1 : Sg} {J : It} {σ : L2.St} {Q : VK} {Da : Addr} (hl : LcOk X Γ tg elt ifs scope (own.map (·.2)) k n it G M1) (hM1 : OkM X.K S1 M1) (hE : EnvOk X.K S1 σ Γ) (wk : DWalk X.K J n it G S1) (hQ : KV X.K S1 k Q) (hD : S1.H Da = none) :
    ∃ W : Nat → Nat → Hp → Prop, (∃ m, W 0 m (upd S1.H Da (.lst []))) ∧ ∀ i m H, W i m H → (J.stop i H ∧ Q (.ref Da) H) ∨ (J.go i H ∧ ∃ Nx : Hp → Prop, (∀ H', Nx H' → ∃ m', m' < m ∧ W (i + 1) m' H') ∧
      ∀ x H', J.yld i H x H' → allG X scope tg x (wipe σ (own.map (·.2))) H' fun σ2 H2 => wipe σ2 (own.map (·.2)) = wipe σ (own.map (·.2)) ∧ allTs X scope ifs σ2 H2 fun b H3 =>
        if b = true then allE X scope elt σ2 H3 fun y H4 => ∃ acc, H4 Da = some (.lst acc) ∧ acc.length < sizeLine ∧ Nx (upd H4 Da (.lst (acc ++ [y]))) else Nx H3) := by
  obtain ⟨P, p0, pG, pt, pd⟩ := hl
  have hDz : S1.Z Da = none := hM1.zh.none hD
  have hDa : Da ∉ S1.as := fun m => hM1.dom Da m hD
  have wk' : Walk J n (fun H => ∃ S M, S.H = H ∧ Grow S1 S ∧ OkM X.K S M ∧ G M) (fun i H x H' => ∀ S M, S.H = H → Grow S1 S → OkM X.K S M → G M → ∃ S' d, S'.H = H' ∧ OkM X.K S' M ∧ Grow S S' ∧ it i d ∧ Rep X.K S' d x) := by
    obtain ⟨w1, w2, w3⟩ := wk
    refine ⟨fun i H hi ⟨S2, M2, e, g2, hM2, hG⟩ => ?_, fun H ⟨S2, M2, e, g2, hM2, hG⟩ => ?_, fun i H x H' hi _ y S2 M2 e g2 hM2 hG => ?_⟩
    · rw [← e]; exact w1 i S2 M2 hi g2 hM2 hG
    · rw [← e]; exact w2 S2 M2 g2 hM2 hG
    · rw [← e] at y; exact w3 i S2 M2 x H' hi g2 hM2 hG y
  let Pv : Nat → Hp → Prop := fun i H2 => ∃ S2 M2 acc vs, S2.H = H2 ∧ Grow S1 S2 ∧ OkM X.K S2 M2 ∧ S2.Z Da = none ∧ Da ∉ S2.as ∧ S2.H Da = some (.lst vs) ∧ RepL X.K S2 acc vs ∧ P i acc M2
  refine lc_it wk' Pv ?_ (fun i H2 hi ⟨S2, M2, acc, vs, e, g2, hM2, _, _, _, _, hP⟩ => ⟨S2, M2, e, g2, hM2, pG i acc M2 hi hP⟩) ?_ ?_
  · obtain ⟨a1, a2, _⟩ := upd_f (o := .lst []) hM1 hDz hDa
    exact ⟨⟨S1.as, S1.Z, upd S1.H Da (.lst [])⟩, M1, [], [], rfl, a2 S1 (Grow.refl _) hD, a1, hDz, hDa, upd_same, RepL.nil, p0⟩
  · intro i x H H' hi ⟨S2, M2, acc, vs, e, g2, hM2, z2, n2, h2, r2, hP⟩ y s Hs C cl fp
    obtain ⟨S3, d, e3, hM3, g3, hit, r3⟩ := y S2 M2 e g2 hM2 (pG i acc M2 (Nat.le_of_lt hi) hP)
    rw [← e3]
    have keep : ∀ S', Grow S2 S' → S'.Z Da = none ∧ Da ∉ S'.as ∧ S'.H Da = some (.lst vs) := fun S' g' => by
      exact ⟨g'.sep Da (by rw [h2]; simp) z2 n2, g'.out (by rw [h2]; simp) n2, g'.keep Da _ h2 n2⟩
    refine pt i d acc M2 hi hit hP s Hs C cl fp S3 _ hM3 ((hE.grow (g2.trans g3)).wipe _) x r3 _ fun Γ4 σ4 hb hE4 w4 => ⟨w4.trans ?_, fun s' Hs' C' cl' fp' => ?_⟩
    · apply List.ext_getElem?
      intro j
      rw [wipe_get, wipe_get, wipe_length]
      split <;> rfl
    · refine hb s' Hs' C' cl' fp' S3 σ4 hM3 hE4 _ fun b M5 S5 hk hM5 g5 => ?_
      have g25 := g3.trans g5
      cases b with
      | true =>
        intro s'' Hs'' C'' cl'' fp''
        refine hk.1 rfl s'' Hs'' C'' cl'' fp'' S5 σ4 hM5 (hE4.grow g5) (fun _ _ _ _ => False) takes0 (fun _ _ _ _ _ z => z.elim) _ fun d6 M6 S6 v6 ⟨hl, hP6⟩ hM6 g6 r6 => ?_
        obtain ⟨z6, n6, h6⟩ := keep S6 (g25.trans g6)
        obtain ⟨a1, a2, a3, a4⟩ := upd_f (o := .lst (vs ++ [v6])) hM6 z6 n6
        refine ⟨vs, h6, by rw [r2.len]; exact hl, ⟨S6.as, S6.Z, upd S6.H Da (.lst (vs ++ [v6]))⟩, M6, acc ++ [d6], vs ++ [v6], rfl, a2 S1 (g2.trans (g25.trans g6)) hD, a1, z6, n6, upd_same, a4 _ _ ((r2.grow (g25.trans g6)).app (.one r6)), hP6⟩
      | false =>
        obtain ⟨z5, n5, h5⟩ := keep S5 g25
        exact ⟨S5, M5, acc, vs, rfl, g2.trans g25, hM5, z5, n5, h5, r2.grow g25, hk.2 rfl⟩
  · rintro H2 ⟨S2, M2, acc, vs, rfl, g2, hM2, z2, n2, h2, r2, hP⟩
    obtain ⟨a1, a2, a3⟩ := frz_f hM2 z2 h2 n2
    refine hQ (.lst acc) M2 ⟨S2.as, upd S2.Z Da (.lst vs), S2.H⟩ (.ref Da) (pd acc M2 hP) a1 (a2 S1 g2 hD) ⟨Da, vs, rfl, upd_same, ?_⟩
    exact (sg_mono (K := X.K) (S := S2) (S' := ⟨S2.as, upd S2.Z Da (.lst vs), S2.H⟩) (ex_new z2)).2 _ _ r2
theorem pg_all {tg : Expr} : ∀ (s : Shared) (H : Hp) (C : Addr) (cl : List (Str × Addr)) (fp : List Addr), PG (X.blk s H scope (compEnvC scope cl C X.env) fp) tg (allG X scope tg) := fun s H C cl fp => ⟨fun pins sh σ H' v u Q I r h => h s H C cl fp pins sh u I r⟩
theorem pts_all : ∀ (s : Shared) (H : Hp) (C : Addr) (cl : List (Str × Addr)) (fp : List Addr), PTs (X.blk s H scope (compEnvC scope cl C X.env) fp) ifs (allTs X scope ifs) := fun s H C cl fp => ⟨fun pins sh σ H' Q I h => h s H C cl fp pins sh I⟩
theorem pe_all : ∀ (s : Shared) (H : Hp) (C : Addr) (cl : List (Str × Addr)) (fp : List Addr), PE (X.blk s H scope (compEnvC scope cl C X.env) fp) elt (allE X scope elt) := fun s H C cl fp => ⟨fun pins sh σ H' Q I h => h s H C cl fp pins sh I⟩
/-- [elt for tg in iter if ..] -/
theorem ge_lc (own : List (Str × Nat)) (hc : X.calm = true) (hN : X.N.Nodup) (ok : BlkOk X.N X.env.scope scope own) (h : GI X Γ M tg iter (LcOk X Γ tg elt ifs scope (own.map (·.2)) k) kx)
    (hs : ∀ x, foldedSetIterable iter X.env x = pure x := by intro _; rfl) : GE X Γ M (.ListComp elt [⟨tg, iter, ifs, 0⟩] scope pos) k kx := fun S σ hM hE W tk hW Q hQ =>
  of_pe (pe_lc hc hN wi ok pg_all pts_all pe_all hs) (h S σ hM hE W tk hW _ fun n it G M1 S1 J hl hM1 g1 wk => fun Da hD => lc_run hl hM1 (hE.grow g1) wk (hQ.grow g1) hD)
/-- x = [elt for tg in iter if ..] on one line, x a local that no block captures -/
theorem gs_lc (j : Nat) (own : List (Str × Nat)) {y : Str} {py : Pos} {E : ED} (hc : X.calm = true) (hN : X.N.Nodup) (ok : BlkOk X.N X.env.scope scope own) (h : GI X Γ M tg iter (LcOk X Γ tg elt ifs scope (own.map (·.2)) fun d M1 => E.nx (Γ.set j (some d)) M1) fun c f M1 => E.ex c f Γ M1)
    (hsw : swapsWith (.ListComp elt [⟨tg, iter, ifs, 0⟩] scope pos) (some (.Name y py)) p.line X.env = pure true)
    (hy : X.N[j]? = some y := by rfl) (hyl : X.env.scope.names.lookup y = some .local := by rfl) (hs : ∀ x, foldedSetIterable iter X.env x = pure x := by intro _; rfl) : GS X Γ M (.Assign [.Name y py] (.ListComp elt [⟨tg, iter, ifs, 0⟩] scope pos) p) E := fun S σ hM hE W tk De L =>
  of_ps (ps_setLc hc hN hy hyl hsw wi ok pg_all pts_all pe_all hs) (h S σ hM hE W tk (L.kw hE) _ fun n it G M1 S1 J hl hM1 g1 wk => fun Da hD =>
    lc_run (Q := fun v H' => gName j v σ H' De.nx) hl hM1 (hE.grow g1) wk (fun d M2 S2 v hk hM2 g2 r2 => L.nx _ M2 S2 _ hk hM2 (g1.trans g2) ((hE.grow (g1.trans g2)).set r2)) hD)
end

/-! ### a def -/
theorem fn_ok {P : Program} {w : World} {K : PySem.W.Frag} {mg : Str → Option Value} {base : Heap} {x qual : Str} {st : Stmt} {f : Addr} {fd : FuncData} {N ps : List Str} {j : Nat} {R : RSp} (F : Fun K x qual st f fd) (sc : FnScope N ps (defScope st))
    (len : ∀ ds M k kx, R ds M k kx → ds.length = ps.length)
    (hb : ∀ (cdv : Value) (A : Around) (outer : List Env) (s : Shared) (H : Hp) (E : XK) (ds : List D) (M : Ms) (k : KD) (kx : KX), Room j (A.deeper (PyProof.Rows.envOfC qual (defScope st) s.heap.objs.size f cdv)) → R ds M k kx →
      GB (cxOf (L2.CX P w) P w K mg base N qual (defScope st) f cdv A outer s H E) (ds.map some ++ List.replicate (N.length - ds.length) none) M (defBody st) { nx := fun _ M' => k .non M', rt := k, ex := fun c f _ M' => kx c f M' }) :
    FnOk P w K mg base (L2.CX P w) (j + 1) f fd ps (spD K R) := by
  refine F.okX sc (fun vs H Q E ⟨S, ds, M, k, kx, _, _, r, h, _, _⟩ => by rw [r.len]; exact len _ _ _ _ h) fun cdv A outer s H vs Q E hr ⟨S, ds, M, k, kx, e, hM, r, h, hk, hx⟩ => ?_
  subst e
  refine ⟨WB _ (defBody st), wb, ?_⟩
  have hl := r.len
  have g := hb cdv A outer s S.H E ds M k kx hr h
  refine g S (start N vs) hM ⟨?_, fun i d hi => ?_⟩ (fun cls d _ H' => E cls d H') (takes_of rfl rfl rfl rfl) _ ⟨fun Γ' M' S' σ' a hM' g' hE' => hk .non M' S' .non a hM' g' rfl, hk, fun _ _ _ _ z => z.elim, fun _ _ _ _ z => z.elim, fun cls fs Γ' M' S' σ' dd a hM' g' hE' xr => hx cls fs M' S' dd a hM' g' xr⟩
  · simp [L2.start, hl]
  · have hi2 : i < ds.length := by
      by_cases q : i < ds.length
      · exact q
      · rw [List.getElem?_append_right (by simp; omega)] at hi
        have := List.getElem?_eq_some_iff.mp hi
        obtain ⟨_, h2⟩ := this
        simp at h2
    rw [List.getElem?_append_left (by simpa using hi2)] at hi
    have hd : ds[i]? = some d := by
      rw [List.getElem?_map] at hi
      cases e : ds[i]? with
      | none => rw [e] at hi; cases hi
      | some z => rw [e] at hi; simp at hi; rw [hi]
    obtain ⟨v, h1, h2⟩ := r.get hd
    refine ⟨v, ?_, h2⟩
    unfold L2.start
    rw [List.getElem?_append_left (by simp; rw [hl]; exact hi2), List.getElem?_map, h1]; rfl
end PD

set_option Elab.async false
set_option linter.all false
set_option maxRecDepth 100000
set_option maxHeartbeats 4000000
/-! PD: stores into lists and objects, their methods, new objects. -/
namespace PD
open PySem L2
open Evl (Ex ex_rd ex_l ex_t)
section
variable {X : Cx} {Γ : En} {M : Ms} {e a b c o i : Expr} {es : List Expr} {k : KD} {kx : KX} {E : ED} {d x y z : D} {pos pos' apos p : Pos} {nm m : Str} {j l : Nat} {C : Addr} {dds : List D} {R : RSp}
/-- o[i] = e, o a list that may change -/
theorem gs_seti (h : GE X Γ M e (fun d M1 => GE X Γ M1 o (fun x M2 => GE X Γ M2 i (fun y M3 => ∃ (q : Nat) (a : Addr) (ds : List D) (n : Int) (j : Nat), x = .hdl a ∧ M3[q]? = some (a, MO.lst ds) ∧ y = .int n ∧ ((0 ≤ n ∧ n = j ∧ j < ds.length) ∨ (n < 0 ∧ n + ds.length = j)) ∧ E.nx Γ (M3.set q (a, .lst (ds.set j d))))
      fun c f M1 => E.ex c f Γ M1) fun c f M1 => E.ex c f Γ M1) fun c f M1 => E.ex c f Γ M1)
    (hs : swapsWithSole [.Subscript o i pos'] e pos.line X.env = pure false := by rfl) (hw : swappedStores [.Subscript o i pos'] e X.env = pure none := by rfl) (h1 : (assignEach [.Subscript o i pos'] X.env).map (·.2) = [assign (.Subscript o i pos') X.env] := by rfl)
    (ha : ∀ v, assign (.Subscript o i pos') X.env v = (do
      let ov ← holding [v] (eval o X.env)
      let iv ← holding [v, ov] (eval i X.env)
      standAt pos'
      holding [v, ov, iv] (setItem ov iv v)
      release [v, ov, iv] []) := by intro _; rfl) : GS X Γ M (.Assign [.Subscript o i pos'] e pos) E := fun S σ hM hE W tk De L =>
  of_ps (ps_asg we (pg_sub we we set_list ha) hs hw h1) (h S σ hM hE W tk (L.kw hE) _ fun d M1 S1 v hk hM1 g1 r1 =>
    hk S1 σ hM1 (hE.grow g1) W tk ((L.kw hE).grow g1) _ fun x M2 S2 vx hk2 hM2 g2 rx =>
      hk2 S2 σ hM2 (hE.grow (g1.trans g2)) W tk ((L.kw hE).grow (g1.trans g2)) _ fun y M3 S3 vy ⟨q, a, ds, n, j, ex, hq, ey, hi, hnx⟩ hM3 g3 ry => by
        subst ex; subst ey
        cases rx; cases ry
        obtain ⟨hz, xs, hh, rr⟩ := hM3.at hq
        refine ⟨a, xs, n, j, rfl, rfl, hh, ixN_of (by rw [rr.len]; exact hi), ?_⟩
        obtain ⟨hM4, g4⟩ := set_m (o := .lst (xs.set j v)) (m := .lst (ds.set j d)) hM3 hq hz (fun g => ⟨hz, _, upd_same, (rr.grow g).set j ((r1.grow (g2.trans g3)).grow g)⟩)
        have gg := g1.trans (g2.trans (g3.trans g4))
        exact L.nx _ _ ⟨S3.as, S3.Z, upd S3.H a (.lst (xs.set j v))⟩ σ hnx hM4 gg (hE.grow gg))
theorem putF_ix : ∀ {kvs : List (Str × V)} {i : Nat} {f : Str} {v : V}, (kvs.map (·.1)).Nodup → (kvs.map (·.1))[i]? = some f → (putF f v kvs).map (·.1) = kvs.map (·.1) ∧ (putF f v kvs).map (·.2) = (kvs.map (·.2)).set i v
  | [], _, _, _, _, h => by simp at h
  | (g, u) :: r, 0, f, v, _, h => by
    have e : g = f := by simpa using h
    subst e
    have : putF g v ((g, u) :: r) = (g, v) :: r := by
      show (if g = g then _ else _) = _
      rw [if_pos rfl]
    rw [this]; simp
  | (g, u) :: r, i + 1, f, v, nd, h => by
    have h1' : (r.map (·.1))[i]? = some f := h
    have nd' : g ∉ r.map (·.1) ∧ (r.map (·.1)).Nodup := List.nodup_cons.mp nd
    have hne : ¬ g = f := fun e => nd'.1 (by rw [e]; exact List.mem_of_getElem? h1')
    have : putF f v ((g, u) :: r) = (g, u) :: putF f v r := by
      show (if g = f then _ else _) = _
      rw [if_neg hne]
    obtain ⟨q1, q2⟩ := putF_ix (v := v) nd'.2 h1'
    rw [this]; simp [q1, q2]
theorem putF_new : ∀ {kvs : List (Str × V)} {f : Str} {v : V}, f ∉ kvs.map (·.1) → putF f v kvs = kvs ++ [(f, v)]
  | [], _, _, _ => rfl
  | (g, u) :: r, f, v, h => by
    simp only [List.map_cons, List.mem_cons, not_or] at h
    have hne : ¬ g = f := fun e => h.1 e.symm
    show (if g = f then _ else _) = _
    rw [if_neg hne, putF_new h.2]; rfl
/-- what a store into an attribute makes of the attributes -/
inductive PutA (fs : List Str) (ds : List D) (f : Str) (d : D) : List Str → List D → Prop
  | old (i : Nat) (nd : fs.Nodup) (h : fs[i]? = some f) : PutA fs ds f d fs (ds.set i d)
  | new (h : f ∉ fs) : PutA fs ds f d (fs ++ [f]) (ds ++ [d])
theorem PutA.at {K : PySem.W.Frag} {S : Sg} {fs fs' : List Str} {ds ds' : List D} {f : Str} {kvs : List (Str × V)} {v : V} (h : PutA fs ds f d fs' ds') (hf : kvs.map (·.1) = fs) (hr : RepL K S ds (kvs.map (·.2))) (rv : Rep K S d v) :
    (putF f v kvs).map (·.1) = fs' ∧ RepL K S ds' ((putF f v kvs).map (·.2)) := by
  cases h with
  | old i nd h =>
    obtain ⟨q1, q2⟩ := putF_ix (kvs := kvs) (i := i) (f := f) (v := v) (by rw [hf]; exact nd) (by rw [hf]; exact h)
    exact ⟨by rw [q1, hf], by rw [q2]; exact hr.set i rv⟩
  | new h =>
    have e := putF_new (kvs := kvs) (f := f) (v := v) (by rw [hf]; exact h)
    exact ⟨by rw [e]; simp [hf], by rw [e]; simp only [List.map_append, List.map_cons, List.map_nil]; exact hr.app (.one rv)⟩
/-- o.f = e -/
theorem gs_fld {f : Str} (h : GE X Γ M e (fun d M1 => GE X Γ M1 o (fun x M2 => ∃ (q : Nat) (a C : Addr) (fs fs' : List Str) (ds ds' : List D), x = .hdl a ∧ M2[q]? = some (a, MO.ins C fs ds) ∧ Cls X.K C ∧ NoAttr X.K C f ∧ fs.length < 1000 ∧ PutA fs ds f d fs' ds' ∧ E.nx Γ (M2.set q (a, .ins C fs' ds')))
      fun c f M1 => E.ex c f Γ M1) fun c f M1 => E.ex c f Γ M1) (hs : swapsWith e (some (.Attribute o f pos')) pos.line X.env = pure false := by rfl) : GS X Γ M (.Assign [.Attribute o f pos'] e pos) E := fun S σ hM hE W tk De L =>
  of_ps (ps_fld we we hs) (h S σ hM hE W tk (L.kw hE) _ fun d M1 S1 v hk hM1 g1 r1 =>
    hk S1 σ hM1 (hE.grow g1) W tk ((L.kw hE).grow g1) _ fun x M2 S2 vx ⟨q, a, C, fs, fs', ds, ds', ex, hq, cl, na, hl, pa, hnx⟩ hM2 g2 rx => by
      subst ex
      cases rx
      obtain ⟨hz, dx, kvs, hh, hf, rr⟩ := hM2.at hq
      refine ⟨a, C, dx, kvs, rfl, hh, cl, na, by rw [← hf] at hl; simpa using hl, ?_⟩
      obtain ⟨hM4, g4⟩ := set_m (o := .ins C dx (putF f v kvs)) (m := .ins C fs' ds') hM2 hq hz (fun g => by
        obtain ⟨q1, q2⟩ := pa.at hf (rr.grow g) ((r1.grow g2).grow g)
        exact ⟨hz, dx, _, upd_same, q1, q2⟩)
      have gg := g1.trans (g2.trans g4)
      exact L.nx _ _ ⟨S2.as, S2.Z, upd S2.H a (.ins C dx (putF f v kvs))⟩ σ hnx hM4 gg (hE.grow gg))
/-- o.f op= e -/
theorem gs_fldaug {f : Str} {op : Operator} {rd : R2} (hop : InOp X op rd) (h : GE X Γ M o (fun x M1 => ∃ (C : Addr) (fs : List Str) (ds : List D) (i : Nat) (u : D), ObjD M1 x C fs ds ∧ Cls X.K C ∧ NoAttr X.K C f ∧ fs.Nodup ∧ fs[i]? = some f ∧ ds[i]? = some u ∧
      GE X Γ M1 e (fun y M2 => Bin X.K rd u y M2 fun d M3 => ∃ (q : Nat) (a : Addr) (fs fs' : List Str) (ds ds' : List D), x = .hdl a ∧ M3[q]? = some (a, MO.ins C fs ds) ∧ fs.length < 1000 ∧ PutA fs ds f d fs' ds' ∧ E.nx Γ (M3.set q (a, .ins C fs' ds')))
      fun c f M1 => E.ex c f Γ M1) fun c f M1 => E.ex c f Γ M1) : GS X Γ M (.AugAssign (.Attribute o f pos') op e pos) E := fun S σ hM hE W tk De L =>
  of_ps (ps_fldaug we we hop) (h S σ hM hE W tk (L.kw hE) _ fun x M1 S1 vx ⟨C, fs, ds, i, u, ob, cl, na, nd, hi, hu, hk⟩ hM1 g1 rx => by
    obtain ⟨a, dx, kvs, rfl, hh, hf, rr⟩ := ob.at hM1 rx
    obtain ⟨w, hw, rw'⟩ := rr.get hu
    refine ⟨a, C, dx, kvs, w, rfl, hh, cl, na, lookup_ix (by rw [hf]; exact nd) (by rw [hf]; exact hi) hw, ?_⟩
    refine hk S1 σ hM1 (hE.grow g1) W tk ((L.kw hE).grow g1) _ fun y M2 S2 vy hk2 hM2 g2 ry => ?_
    refine hk2 S2 w vy hM2 (rw'.grow g2) ry _ fun d M3 S3 v ⟨q, a', fs2, fs', ds2, ds', ex, hq, hl, pa, hnx⟩ hM3 g3 r3 => ?_
    have rx3 := (rx.grow g2).grow g3
    rw [ex] at rx3
    have ea : a = a' := by
      have : V.ref a = V.ref a' := rx3
      injection this
    subst ea
    obtain ⟨hz, dx2, kvs2, hh2, hf2, rr2⟩ := hM3.at hq
    refine ⟨dx2, kvs2, hh2, by rw [← hf2] at hl; simpa using hl, ?_⟩
    obtain ⟨hM4, g4⟩ := set_m (o := .ins C dx2 (putF f v kvs2)) (m := .ins C fs' ds') hM3 hq hz (fun g => by
      obtain ⟨q1, q2⟩ := pa.at hf2 (rr2.grow g) (r3.grow g)
      exact ⟨hz, dx2, _, upd_same, q1, q2⟩)
    have gg := g1.trans (g2.trans (g3.trans g4))
    exact L.nx _ _ ⟨S3.as, S3.Z, upd S3.H a (.ins C dx2 (putF f v kvs2))⟩ σ hnx hM4 gg (hE.grow gg))
theorem in_addU : InOp X .Add rAdd := in_add
theorem aug_add {K : PySem.W.Frag} {n t : Int} (hk : k (.int (n + t)) M) : Bin K rAdd (.int n) (.int t) M k := bin_flat (v := .int (n + t)) (fun S vx vy _ rx ry Q q => ⟨n, t, rx, ry, q⟩) hk
/-- x op= e, x a name -/
theorem gs_aug (i : Nat) {x : Str} {op : Operator} {ti : TIp} (ho : PIp X op ti) (hd : Γ[i]? = some (some d)) (h : GE X Γ M e (fun y M1 => Bin X.K ti d y M1 fun z M2 => E.nx (Γ.set i (some z)) M2) (fun c f M1 => E.ex c f Γ M1)) (hN : X.N.Nodup) (hi : X.N[i]? = some x := by rfl) (hx : Loc X.env.scope x := by first | exact Or.inl rfl | exact Or.inr rfl)
    (hf : X.fn x = true ∨ X.env.scope.names.lookup x = some .local := by first | exact .inl rfl | exact .inr rfl) : GS X Γ M (.AugAssign (.Name x pos') op e pos) E := fun S σ hM hE W tk De L =>
  of_ps (ps_aug hN hi hx we ho hf) (by
    obtain ⟨v, e1, r⟩ := hE.2 i d hd
    exact ⟨v, e1, h S σ hM hE W tk (L.kw hE) _ fun y M1 S1 vy hk hM1 g1 ry => hk S1 v vy hM1 (r.grow g1) ry _ fun z M2 S2 vz hk2 hM2 g2 rz => L.nx _ M2 S2 _ hk2 hM2 (g1.trans g2) ((hE.grow (g1.trans g2)).set rz)⟩)
theorem aug_int {K : PySem.W.Frag} {n t : Int} {f : Int → Int → Int} (hk : k (.int (f n t)) M) : Bin K (ipI f) (.int n) (.int t) M k := bin_flat (v := .int (f n t)) (fun S vx vy _ rx ry Q q => ⟨n, t, rx, ry, q⟩) hk
/-- l.append(e) -/
theorem ge_append (h : GE X Γ M o (fun x M1 => (∃ (q : Nat) (a : Addr) (ds : List D), x = .hdl a ∧ M1[q]? = some (a, MO.lst ds)) ∧ GE X Γ M1 e (fun y M2 => ∃ (q : Nat) (a : Addr) (ds : List D), x = .hdl a ∧ M2[q]? = some (a, MO.lst ds) ∧ ds.length < 16777216 ∧ k .non (M2.set q (a, .lst (ds ++ [y])))) kx) kx)
    (hbase : attributeBase o "append" X.env (eval o X.env) = eval o X.env := by rfl)
    (hfew : ((backTo p (starEach [e] X.env)).all (fun x => !x.1) && (backToKw p (keywordEach [] X.env)).all (fun x => x.1.isSome) && decide ([e].length + ([] : List Keyword).length + (if ([] : List Keyword).isEmpty then 0 else 1) < 30)) = true := by rfl)
    (hline : (apos.endLine == p.line) = true := by rfl) (hs : starEach [e] X.env = (false, eval e X.env) :: starEach [] X.env := by rfl) (hplain : (backTo p (starEach [] X.env)).any (·.1) = false := by rfl) :
    GE X Γ M (.Call (.Attribute o "append" apos) [e] [] p) k kx := fun S σ hM hE W tk hW Q hQ =>
  of_pe (pe_bm PySem.F.plainAttrs_list PySem.F.slot_list_append PySem.F.type_list_append mt_append we (pa_cons we pa_nil hs) hbase hfew hline hs hplain) (h S σ hM hE W tk hW _ fun x M1 S1 vx ⟨⟨q0, a0, ds0, ex0, hq0⟩, hk⟩ hM1 g1 rx => by
    subst ex0
    cases rx
    obtain ⟨_, xs0, hh0, _⟩ := hM1.at hq0
    refine ⟨.inl ⟨rfl, _, SqL.of hh0⟩, hk S1 σ hM1 (hE.grow g1) W tk (hW.grow g1) _ fun y M2 S2 vy ⟨q, a, ds, ex, hq, hl, hk2⟩ hM2 g2 ry => ?_⟩
    cases ex
    obtain ⟨hz, xs, hh, rr⟩ := hM2.at hq
    refine ⟨a0, xs, vy, rfl, rfl, hh, by rw [rr.len]; exact hl, ?_⟩
    obtain ⟨hM3, g3⟩ := set_m (o := .lst (xs ++ [vy])) (m := .lst (ds ++ [y])) hM2 hq hz (fun g => ⟨hz, _, upd_same, (rr.grow g).app (.one (ry.grow g))⟩)
    exact hQ .non _ ⟨S2.as, S2.Z, upd S2.H a0 (.lst (xs ++ [vy]))⟩ .non hk2 hM3 (g1.trans (g2.trans g3)) rfl)
/-- l.extend(e), e a list that stands -/
theorem ge_extend (h : GE X Γ M o (fun x M1 => (∃ (q : Nat) (a : Addr) (ds : List D), x = .hdl a ∧ M1[q]? = some (a, MO.lst ds)) ∧ GE X Γ M1 e (fun y M2 => ∃ (q : Nat) (a : Addr) (ds es : List D), x = .hdl a ∧ M2[q]? = some (a, MO.lst ds) ∧ y = .lst es ∧ ds.length + es.length ≤ 16777216 ∧ k .non (M2.set q (a, .lst (ds ++ es)))) kx) kx)
    (hbase : attributeBase o "extend" X.env (eval o X.env) = eval o X.env := by rfl)
    (hfew : ((backTo p (starEach [e] X.env)).all (fun x => !x.1) && (backToKw p (keywordEach [] X.env)).all (fun x => x.1.isSome) && decide ([e].length + ([] : List Keyword).length + (if ([] : List Keyword).isEmpty then 0 else 1) < 30)) = true := by rfl)
    (hline : (apos.endLine == p.line) = true := by rfl) (hs : starEach [e] X.env = (false, eval e X.env) :: starEach [] X.env := by rfl) (hplain : (backTo p (starEach [] X.env)).any (·.1) = false := by rfl) :
    GE X Γ M (.Call (.Attribute o "extend" apos) [e] [] p) k kx := fun S σ hM hE W tk hW Q hQ =>
  of_pe (pe_bm PySem.F.plainAttrs_list PySem.F.slot_list_extend PySem.F.type_list_extend mt_extend we (pa_cons we pa_nil hs) hbase hfew hline hs hplain) (h S σ hM hE W tk hW _ fun x M1 S1 vx ⟨⟨q0, a0, ds0, ex0, hq0⟩, hk⟩ hM1 g1 rx => by
    subst ex0
    cases rx
    obtain ⟨_, xs0, hh0, _⟩ := hM1.at hq0
    refine ⟨.inl ⟨rfl, _, SqL.of hh0⟩, hk S1 σ hM1 (hE.grow g1) W tk (hW.grow g1) _ fun y M2 S2 vy ⟨q, a, ds, es, ex, hq, ey, hl, hk2⟩ hM2 g2 ry => ?_⟩
    cases ex
    subst ey
    obtain ⟨b, ys, rfl, hb, rb⟩ := ry
    obtain ⟨hz, xs, hh, rr⟩ := hM2.at hq
    refine ⟨a0, b, xs, ys, rfl, rfl, hh, hM2.zh _ _ hb, by rw [rr.len, rb.len]; exact hl, ?_⟩
    obtain ⟨hM3, g3⟩ := set_m (o := .lst (xs ++ ys)) (m := .lst (ds ++ es)) hM2 hq hz (fun g => ⟨hz, _, upd_same, (rr.grow g).app (rb.grow g)⟩)
    exact hQ .non _ ⟨S2.as, S2.Z, upd S2.H a0 (.lst (xs ++ ys))⟩ .non hk2 hM3 (g1.trans (g2.trans g3)) rfl)
/-- what may change is looked at no more -/
theorem gb_drop {sts : List Stmt} {M' : Ms} (hs : M'.Sublist M) (h : GB X Γ M' sts E) : GB X Γ M sts E := fun S σ hM hE W tk De L => by
  obtain ⟨a, b⟩ := drop_m hM hs
  have g := b S (Grow.refl _)
  exact h ⟨M'.map (·.1), S.Z, S.H⟩ σ a (hE.grow g) W tk De (L.grow g)
theorem ge_drop (h : GE X Γ M e (fun d M1 => ∃ M2, M2.Sublist M1 ∧ k d M2) kx) : GE X Γ M e k kx := fun S σ hM hE W tk hW Q hQ =>
  h S σ hM hE W tk hW Q fun d M1 S1 v ⟨M2, hs, hk⟩ hM1 g1 r => by
    obtain ⟨a, b⟩ := drop_m hM1 hs
    exact hQ d M2 ⟨M2.map (·.1), S1.Z, S1.H⟩ v hk a (b S g1) ((sg_mono (S := S1) (S' := ⟨M2.map (·.1), S1.Z, S1.H⟩) (Ex.refl _)).1 _ _ r)
/-! ### new objects -/
theorem new_ins {K : PySem.W.Frag} {S : Sg} {M : Ms} {x dx C : Addr} (h : OkM K S M) (hx : S.H x = none) (hdx : S.H dx = none) (ne : dx ≠ x) :
    OkM K ⟨S.as ++ [x], S.Z, upd (upd S.H dx (.own x)) x (.ins C dx [])⟩ (M ++ [(x, .ins C [] [])]) ∧ Grow S ⟨S.as ++ [x], S.Z, upd (upd S.H dx (.own x)) x (.ins C dx [])⟩ := by
  have hz : S.Z dx = none := h.zh.none hdx
  have nd : dx ∉ S.as := fun m => h.dom dx m hdx
  obtain ⟨a1, a2, _⟩ := upd_f (o := .own x) h hz nd
  have g1 := a2 S (Grow.refl _) hdx
  have hx1 : (⟨S.as, S.Z, upd S.H dx (.own x)⟩ : Sg).H x = none := by show upd S.H dx (.own x) x = none; rw [upd_ne (Ne.symm ne)]; exact hx
  obtain ⟨b1, b2⟩ := new_m (o := .ins C dx []) (m := .ins C [] []) a1 hx1 (fun g => ⟨a1.zh.none hx1, dx, [], upd_same, rfl, RepL.nil⟩)
  exact ⟨b1, g1.trans b2⟩
/-- how a code ends that keeps its promise, as its caller sees it -/
theorem ends_of {pins : List (Addr × Obj)} {σ : L2.St} {H : Hp} {s : Shared} {Q : VK} {CX : CXT} {EX : XK} (pass : PassesAt CX X σ EX) (inv : L2.Inv X pins σ H s) (r : Result) (t : Shared) : CR CX X.stack X.prog X.w H s Q EX r t →
    match r with | .ok (.ret u) => EP X pins σ Q u t | .ok _ => False | .error er => X.xe er t := by
  intro c
  rcases r with er | fl
  · exact pass _ _ _ _ _ inv c
  · cases fl <;> first | exact inv.after c | exact c
/-- an instance is made, __init__ bound by whatever its arguments are: all the values bound, vals what they stand for -/
theorem maker {pins : List (Addr × Obj)} {σ : L2.St} {H : Hp} {s : Shared} {Q : VK} {us all : List Value} {kw : List (Str × Value)} {vals : List V} {f : Addr} {fd : FuncData} {ps : List Str} {sp : Sp} {CX : CXT} {kk : Nat} {EX : XK} (mk : Mk X.K C f) (F : FnOk X.prog X.w X.K X.mg X.base CX kk f fd ps sp) (room : Room (kk + 1) X.A) (pass : PassesAt CX X σ EX) (inv : L2.Inv X pins σ H s)
    (bound : ∀ t : Shared, X.K.In t.heap → BindsTo t fd ⟨.ref (s.heap.objs.size + 1) :: us, kw⟩ (ps.zip all)) (stand : Vals vals all)
    (told : sp vals (upd (upd H s.heap.objs.size (.own (s.heap.objs.size + 1))) (s.heap.objs.size + 1) (.ins C s.heap.objs.size [])) (fun v H2 => v = .non ∧ Q (.ref (s.heap.objs.size + 1)) H2) EX) :
    wpAny (model X.prog X.w) X.A (call (.ref C) us kw) (EP X pins σ Q) X.xe s := by
  have made := L2.Inv.made (C := C) inv
  apply wpAny_call
  apply make_map inv.kIn mk.makes mk.init (beq_iff_eq.mp mk.fn)
  refine codeAny_mono (F.run _ X.stack _ _ _ all vals _ EX (room.make C us kw) (made.env0.make C us kw) (bound _ made.kIn) stand told) fun r t c => ?_
  have e := ends_of pass made r t c
  rcases r with er | fl
  · exact e
  · cases fl <;> first
      | exact e.elim
      | (obtain ⟨_, H3, inv3, rel, isNone, q⟩ := e
         subst isNone
         exact ⟨rel, .ref (s.heap.objs.size + 1), H3, inv3, rfl, q⟩)
/-- the two names that a making takes are new -/
theorem fresh_two {pins : List (Addr × Obj)} {σ : L2.St} {H : Hp} {s : Shared} (inv : L2.Inv X pins σ H s) {p : Addr → Addr → Prop} (h : ∀ x dx, H x = none → H dx = none → dx ≠ x → p x dx) : p (s.heap.objs.size + 1) s.heap.objs.size :=
  h _ _ (inv.hok.fresh (Nat.le_add_right _ 1)) (inv.hok.fresh (Nat.le_refl _)) (Nat.succ_ne_self _).symm
/-- .. by position, what is raised wished for at the slots -/
theorem run_makeS {pins : List (Addr × Obj)} {σ : L2.St} {H : Hp} {s : Shared} {Q : VK} {us : List Value} {vs : List V} {f : Addr} {fd : FuncData} {ps : List Str} {dvl : List Value} {dvs : List V} {sp : Sp} {CX : CXT} {kk : Nat} {EE : L2.St → XK} (Mm : Mk X.K C f) (F : FnOk X.prog X.w X.K X.mg X.base CX kk f fd ps sp) (hr : Room (kk + 1) X.A) (hb : Binds X.K fd ps dvl) (hd : Vals dvs dvl)
    (hx : PassesAt CX X σ (EE σ)) (I : L2.Inv X pins σ H s) (r : Vals vs us) (h : ∀ x dx, H x = none → H dx = none → dx ≠ x → sp (.ref x :: (vs ++ dvs)) (upd (upd H dx (.own x)) x (.ins C dx [])) (fun v H2 => v = .non ∧ Q (.ref x) H2) (EE σ)) :
    wpAny (model X.prog X.w) X.A (call (.ref C) us) (EP X pins σ Q) X.xe s := by
  have told := fresh_two I h
  have stand : Vals (V.ref (s.heap.objs.size + 1) :: (vs ++ dvs)) (Value.ref (s.heap.objs.size + 1) :: (us ++ dvl)) := .cons rfl (r.append hd)
  have few := stand.length.symm.trans (F.len _ _ _ _ told)
  exact maker Mm F hr hx I (fun t kin => hb t (.ref (s.heap.objs.size + 1) :: us) kin few) stand told
theorem mk_of {S : Sg} {ds : List D} {vs dvs : List V} {ks : List Nat} {Q : VK} {W : WX} {σ : L2.St} (hM : OkM X.K S M) (rv : RepL X.K S ds vs) (hrd : ∀ S, RepL X.K S dds dvs) (hQ : KV X.K S k Q) (hW : KW X.K S kx W σ)
    (h : ∀ x, CallOk R (ks ++ [M.length]) (.hdl x :: (ds ++ dds)) (M ++ [(x, .ins C [] [])]) (fun d M2 => d = .non ∧ k (.hdl x) M2) kx) {x dx : Addr} (hx : S.H x = none) (hdx : S.H dx = none) (ne : dx ≠ x) :
    spD X.K R (.ref x :: (vs ++ dvs)) (upd (upd S.H dx (.own x)) x (.ins C dx [])) (fun v H2 => v = .non ∧ Q (.ref x) H2) (L2.WE W σ) := by
  obtain ⟨a, g⟩ := new_ins (C := C) hM hx hdx ne
  refine sp_of (S' := ⟨S.as ++ [x], S.Z, upd (upd S.H dx (.own x)) x (.ins C dx [])⟩) a (RepL.cons (d := .hdl x) rfl ((rv.app (hrd S)).grow g)) (h x) (fun d M' S' v ⟨e, hk⟩ hM' g' r => ?_) (hW.grow g)
  subst e
  exact ⟨r, hQ (.hdl x) M' S' (.ref x) hk hM' (g.trans g') rfl⟩
/-- C(..): behind it the object stands last of what may change -/
theorem ge_make (F : MkD X.prog X.w X.K X.mg X.base j C nm dds R) (hr : Room l X.A) (hl : j + 1 ≤ l) (h : GA X Γ M (e :: es) (fun ds M1 => ∃ ks, ∀ x, CallOk R (ks ++ [M1.length]) (.hdl x :: (ds ++ dds)) (M1 ++ [(x, .ins C [] [])]) (fun d M2 => d = .non ∧ k (.hdl x) M2) kx) kx) (hg : Gl X nm := by rfl) (hdb : (nm == ("__debug__" : Str)) = false := by decide)
    (he : starEach (e :: es) X.env = (false, eval e X.env) :: starEach es X.env := by rfl) (hpl : (backTo pos (starEach es X.env)).any (·.1) = false := by rfl) : GE X Γ M (.Call (.Name nm p) (e :: es) [] pos) k kx := fun S σ hM hE W tk hW Q hQ pins s I => by
  obtain ⟨f, fd, ps, dvl, dvs, Mm, hb, hd, hrd, F'⟩ := F.ex
  refine wpAny_Call_Name_kw (ld_glob I hg F.gC ?_ hdb)
  refine PySem.W.callWith_K (h₀ := X.base) I.ok.mod.kin Mm.kp (thn (h S σ hM hE W tk hW (fun vs H1 => ∀ x dx, H1 x = none → H1 dx = none → dx ≠ x → spD X.K R (.ref x :: (vs ++ dvs)) (upd (upd H1 dx (.own x)) x (.ins C dx [])) (fun v H2 => v = .non ∧ Q (.ref x) H2) (L2.WE W σ))
    (fun ds M1 S1 vs ⟨ks, h1⟩ hM1 g1 r1 x dx hx hdx ne => mk_of hM1 r1 hrd (hQ.grow g1) (hW.grow g1) h1 hx hdx ne) pos pins s I) fun us s1 ⟨vs, H1, I1, r, q⟩ => ⟨I1.kIn, ?_⟩) he hpl
  exact run_makeS (EE := L2.WE W) Mm F' (hr.mono hl) hb hd (passAt tk σ) I1 r q
theorem ge_make0 (F : MkD X.prog X.w X.K X.mg X.base j C nm dds R) (hr : Room l X.A) (hl : j + 1 ≤ l) (h : ∃ ks, ∀ x, CallOk R (ks ++ [M.length]) (.hdl x :: dds) (M ++ [(x, .ins C [] [])]) (fun d M2 => d = .non ∧ k (.hdl x) M2) kx) (hg : Gl X nm := by rfl) (hdb : (nm == ("__debug__" : Str)) = false := by decide) : GE X Γ M (.Call (.Name nm p) [] [] pos) k kx := fun S σ hM hE W tk hW Q hQ pins s I => by
  obtain ⟨f, fd, ps, dvl, dvs, Mm, hb, hd, hrd, F'⟩ := F.ex
  obtain ⟨ks, h⟩ := h
  refine wpAny_Call_Name_kw (ld_glob I hg F.gC ?_ hdb)
  exact PySem.W.callWith_K0 I.kIn Mm.kp (run_makeS (us := []) (vs := []) (EE := L2.WE W) Mm F' (hr.mono hl) hb hd (passAt tk σ) I .nil fun x dx hx hdx ne => mk_of (ds := []) hM RepL.nil hrd hQ hW h hx hdx ne)
/-- an object is not changed any more -/
theorem ge_frzI (h : GE X Γ M e (fun d M1 => ∃ (j : Nat) (a C : Addr) (fs : List Str) (ds : List D), d = .hdl a ∧ M1[j]? = some (a, MO.ins C fs ds) ∧ k (.ins C fs ds) (M1.eraseIdx j)) kx) : GE X Γ M e k kx := fun S σ hM hE W tk hW Q hQ =>
  h S σ hM hE W tk hW Q fun d M1 S1 v ⟨j, a, C, fs, ds, e, hj, hk⟩ hM1 g1 r => by
    subst e
    cases r
    obtain ⟨hz, dx, xs, hh, hf, hr⟩ := hM1.at hj
    obtain ⟨hM2, g2⟩ := frz_m hM1 hj hz hh
    have hs : (M1.eraseIdx j).Sublist (M1.set j (a, .gone)) := by
      rw [← List.eraseIdx_set_eq (l := M1) (i := j) (a := (a, MO.gone))]
      exact List.eraseIdx_sublist _ _
    obtain ⟨hM3, g3⟩ := drop_m hM2 hs
    exact hQ (.ins C fs ds) _ ⟨(M1.eraseIdx j).map (·.1), upd S1.Z a (.ins C dx xs), S1.H⟩ (.ref a) hk hM3 (g1.trans (g3 S1 g2)) ⟨a, dx, xs, rfl, upd_same, hf, (sg_mono (S := S1) (S' := ⟨(M1.eraseIdx j).map (·.1), upd S1.Z a (.ins C dx xs), S1.H⟩) (ex_new hz)).2 _ _ hr⟩
end
end PD

set_option Elab.async false
set_option linter.all false
set_option maxRecDepth 100000
set_option maxHeartbeats 4000000
/-! PD: classes as values, isinstance, in, exceptions raised. -/
namespace PD
open PySem L2
open Evl (Ex ex_rd ex_l ex_t)
theorem b_abs : bootBuiltins "abs" = some (.builtin "abs") := by decide +kernel
theorem b_all : bootBuiltins "all" = some (.builtin "all") := by decide +kernel
theorem b_any : bootBuiltins "any" = some (.builtin "any") := by decide +kernel
theorem b_sum : bootBuiltins "sum" = some (.builtin "sum") := by decide +kernel
theorem b_str : bootBuiltins "str" = some (.type "str") := by decide +kernel
theorem b_tuple : bootBuiltins "tuple" = some (.type "tuple") := by decide +kernel
theorem b_list : bootBuiltins "list" = some (.type "list") := by decide +kernel
theorem b_int : bootBuiltins "int" = some (.type "int") := by decide +kernel
theorem b_bool : bootBuiltins "bool" = some (.type "bool") := by decide +kernel
def isStrD : D → Bool | .str _ => true | _ => false
def isTupD : D → Bool | .tup _ => true | _ => false
def isLstD : D → Bool | .lst _ => true | .seq _ => true | _ => false
def isIntD : D → Bool | .int _ => true | .bl _ => true | _ => false
def isBlD : D → Bool | .bl _ => true | _ => false
def isS (s : Str) : D → Bool | .str t => decide (t = s) | _ => false
/-- its type is known -/
def kn (d : D) : Bool := (tyN d).isSome
section
variable {X : Cx} {Γ : En} {M : Ms} {e a b c o i : Expr} {es : List Expr} {k : KD} {kx : KX} {E : ED} {d x y z : D} {pos pos' apos p : Pos} {nm m : Str} {j l : Nat} {C : Addr} {T : String}
theorem ge_ty (hm : X.mg nm = none) (hv : bootBuiltins nm = some (.type T)) (hk : k (.raw (.ty T)) M) (hg : Gl X nm := by rfl) (hn : nm ≠ "__name__" := by decide) (hd : (nm == ("__debug__" : Str)) = false := by decide) : GE X Γ M (.Name nm pos) k kx := fun S σ hM hE W tk hW Q hQ =>
  of_pe (pe_bltn (v := .ty T) hg hm hv rfl hn hd) (hQ (.raw (.ty T)) M S _ hk hM (Grow.refl _) rfl)
theorem ev_ty (hm : X.mg nm = none) (hv : bootBuiltins nm = some (.type T)) (hg : Gl X nm := by rfl) (hn : nm ≠ "__name__" := by decide) (hd : (nm == ("__debug__" : Str)) = false := by decide) : EV X Γ M (.Name nm pos) (.raw (.ty T)) := ge_ty hm hv ⟨rfl, rfl⟩ hg hn hd
theorem ge_cls (hm : X.mg nm = some (.ref C)) (hk : k (.raw (.ref C)) M) (hg : Gl X nm := by rfl) (hd : (nm == ("__debug__" : Str)) = false := by decide) : GE X Γ M (.Name nm pos) k kx := fun S σ hM hE W tk hW Q hQ =>
  of_pe (pe_glob (v := .ref C) hg hm rfl hd) (hQ (.raw (.ref C)) M S _ hk hM (Grow.refl _) rfl)
theorem ev_cls (hm : X.mg nm = some (.ref C)) (hg : Gl X nm := by rfl) (hd : (nm == ("__debug__" : Str)) = false := by decide) : EV X Γ M (.Name nm pos) (.raw (.ref C)) := ge_cls hm ⟨rfl, rfl⟩ hg hd
end
section
variable {K : PySem.W.Frag} {M : Ms} {k : KD} {s : Str} {ds : List D} {d x y : D}
theorem tyN_mem {t : String} (h : tyN d = some t) : t ∈ ["NoneType", "bool", "int", "str", "tuple", "list", "dict"] := by
  cases d <;> simp [tyN] at h <;> subst h <;> decide
theorem isi_of {c : String} (g : String → Bool) (hg : ∀ t ∈ ["NoneType", "bool", "int", "str", "tuple", "list", "dict"], kitB t c = some (g t)) (h : kn d = true) {b : Bool} (hb : ∀ t, tyN d = some t → b = g t) (hk : k (.bl b) M) : CallD K (rIsi K) [d, .raw (.ty c)] M k := by
  cases e : tyN d with
  | none => simp [kn, e] at h
  | some t => exact isi_ty e (by rw [hb t e]; exact hg t (tyN_mem e)) hk
theorem isi_str (h : kn d = true) (hk : k (.bl (isStrD d)) M) : CallD K (rIsi K) [d, .raw (.ty "str")] M k := isi_of (fun t => t == "str") (by decide +kernel) h (fun t e => by cases d <;> simp [tyN] at e <;> subst e <;> rfl) hk
theorem isi_tup (h : kn d = true) (hk : k (.bl (isTupD d)) M) : CallD K (rIsi K) [d, .raw (.ty "tuple")] M k := isi_of (fun t => t == "tuple") (by decide +kernel) h (fun t e => by cases d <;> simp [tyN] at e <;> subst e <;> rfl) hk
theorem isi_lst (h : kn d = true) (hk : k (.bl (isLstD d)) M) : CallD K (rIsi K) [d, .raw (.ty "list")] M k := isi_of (fun t => t == "list") (by decide +kernel) h (fun t e => by cases d <;> simp [tyN] at e <;> subst e <;> rfl) hk
theorem isi_bool (h : kn d = true) (hk : k (.bl (isBlD d)) M) : CallD K (rIsi K) [d, .raw (.ty "bool")] M k := isi_of (fun t => t == "bool") (by decide +kernel) h (fun t e => by cases d <;> simp [tyN] at e <;> subst e <;> rfl) hk
theorem isi_int (h : kn d = true) (hk : k (.bl (isIntD d)) M) : CallD K (rIsi K) [d, .raw (.ty "int")] M k := isi_of (fun t => t == "int" || t == "bool") (by decide +kernel) h (fun t e => by cases d <;> simp [tyN] at e <;> subst e <;> rfl) hk
def strsD (ds : List D) : Bool := ds.all isStrD
theorem strs_flat {S : Sg} : ∀ {ds : List D} {xs : List V}, strsD ds = true → RepL K S ds xs → xs.all flatV = true ∧ ∀ s, inV (.str s) xs = ds.any (isS s)
  | [], xs, _, r => by have e : xs = [] := r; subst e; exact ⟨rfl, fun _ => rfl⟩
  | d :: ds, xs, h, r => by
    obtain ⟨x, q, rfl, r1, r2⟩ := r
    simp only [strsD, List.all_cons, Bool.and_eq_true] at h
    obtain ⟨a, b⟩ := strs_flat (ds := ds) h.2 r2
    cases d <;> first | (simp [isStrD] at h; done) | skip
    case str t =>
      cases r1
      refine ⟨by simp [flatV, a], fun s => ?_⟩
      have := b s
      unfold inV at this ⊢
      simp only [List.any_cons, this, isS]
      congr 1
theorem in_strs (h : strsD ds = true) (hk : k (.bl (ds.any (isS s))) M) : Bin K (rInU K) (.str s) (.tup ds) M k := bin_flat (v := .bl (ds.any (isS s))) (fun S vx vy hM rx ry Q q => by
  cases rx
  obtain ⟨a, xs, rfl, e, r⟩ := ry
  obtain ⟨h1, h2⟩ := strs_flat h r
  exact .inl ⟨a, xs, rfl, .inr (ex_t hM.zh e), rfl, h1, by rw [h2 s]; exact q⟩) hk
theorem in_strsL (h : strsD ds = true) (hk : k (.bl (ds.any (isS s))) M) : Bin K (rInU K) (.str s) (.lst ds) M k := bin_flat (v := .bl (ds.any (isS s))) (fun S vx vy hM rx ry Q q => by
  cases rx
  obtain ⟨a, xs, rfl, e, r⟩ := ry
  obtain ⟨h1, h2⟩ := strs_flat h r
  exact .inl ⟨a, xs, rfl, .inl (SqL.of (hM.zh _ _ e)), rfl, h1, by rw [h2 s]; exact q⟩) hk
theorem ni_strs (h : strsD ds = true) (hk : k (.bl (!ds.any (isS s))) M) : Bin K (rNotInU K) (.str s) (.tup ds) M k := bin_flat (v := .bl (!ds.any (isS s))) (fun S vx vy hM rx ry Q q => by
  cases rx
  obtain ⟨a, xs, rfl, e, r⟩ := ry
  obtain ⟨h1, h2⟩ := strs_flat h r
  exact .inl ⟨a, xs, rfl, .inr (ex_t hM.zh e), rfl, h1, by rw [h2 s]; exact q⟩) hk
theorem ni_strsL (h : strsD ds = true) (hk : k (.bl (!ds.any (isS s))) M) : Bin K (rNotInU K) (.str s) (.lst ds) M k := bin_flat (v := .bl (!ds.any (isS s))) (fun S vx vy hM rx ry Q q => by
  cases rx
  obtain ⟨a, xs, rfl, e, r⟩ := ry
  obtain ⟨h1, h2⟩ := strs_flat h r
  exact .inl ⟨a, xs, rfl, .inl (SqL.of (hM.zh _ _ e)), rfl, h1, by rw [h2 s]; exact q⟩) hk
theorem ni_strsH {p : Nat} {q : Addr} (hm : M[p]? = some (q, .lst ds)) (h : strsD ds = true) (hk : k (.bl (!ds.any (isS s))) M) : Bin K (rNotInU K) (.str s) (.hdl q) M k := bin_flat (v := .bl (!ds.any (isS s))) (fun S vx vy hM rx ry Q q => by
  cases rx; cases ry
  obtain ⟨_, xs, e, r⟩ := hM.at hm
  obtain ⟨h1, h2⟩ := strs_flat h r
  exact .inl ⟨_, xs, rfl, .inl (SqL.of e), rfl, h1, by rw [h2 s]; exact q⟩) hk
theorem in_strsH {p : Nat} {q : Addr} (hm : M[p]? = some (q, .lst ds)) (h : strsD ds = true) (hk : k (.bl (ds.any (isS s))) M) : Bin K (rInU K) (.str s) (.hdl q) M k := bin_flat (v := .bl (ds.any (isS s))) (fun S vx vy hM rx ry Q q => by
  cases rx; cases ry
  obtain ⟨_, xs, e, r⟩ := hM.at hm
  obtain ⟨h1, h2⟩ := strs_flat h r
  exact .inl ⟨_, xs, rfl, .inl (SqL.of e), rfl, h1, by rw [h2 s]; exact q⟩) hk
end

/-! ### slices -/
section
variable {K : PySem.W.Frag} {M : Ms}
def cutD (ds : List D) (lo hi : Option Int) : List D := (ds.drop (HT.sIx ds.length 0 lo)).take (HT.sIx ds.length ds.length hi - HT.sIx ds.length 0 lo)
theorem RepL.cut {S : Sg} {ds : List D} {xs : List V} (lo hi : Option Int) (r : RepL K S ds xs) : RepL K S (cutD ds lo hi) (cutV xs lo hi) := by
  unfold cutD cutV
  rw [r.len]
  exact (r.drop _).take _
end

/-! ### exceptions -/
/-- an exception class with an __init__ that stores its one argument under f -/
structure ExD (P : Program) (w : World) (K : PySem.W.Frag) (mg : Str → Option Value) (base : Heap) (x : Str) (C : Addr) (f : Str) : Prop where
  gC : mg x = some (.ref C)
  T : OexC K C
  no : PySem.W.findIn K (.ref C) f = some none
  ex : ∃ fI fd, PySem.W.findIn K (.ref C) "__init__" = some (some (.ref fI)) ∧ PySem.W.typeIn K (.ref fI) = some (.type "function") ∧ Binds K fd ["self", f] [] ∧
    FnOk P w K mg base (L2.CX P w) 1 fI fd ["self", f] (fun vs H Q _ => ∃ (a : Addr) (y : V), vs = [.ref a, y] ∧ H a = some (exo a C none) ∧ ∀ dx, H dx = none → dx ≠ a → Q .non (upd (upd H dx (exd dx [(f, y)])) a (exo a C (some dx))))
/-- self.f = f, as the __init__ of such a class -/
theorem ex_init {P : Program} {w : World} {K : PySem.W.Frag} {mg : Str → Option Value} {base : Heap} {C fI : Addr} {fd : FuncData} {f qual : Str} {st : Stmt} {p1 p2 p3 p4 : Pos} (F : Fun K "__init__" qual st fI fd) (sc : FnScope ["self", f] ["self", f] (defScope st)) (T : OexC K C) (no : PySem.W.findIn K (.ref C) f = some none)
    (hbd : defBody st = [.Assign [.Attribute (.Name "self" p1) f p2] (.Name f p3) p4]) (h0 : (defScope st).names.lookup ("self" : Str) = some .local) (h1 : (defScope st).names.lookup f = some .local) (hd1 : (f == ("__debug__" : Str)) = false) (hd2 : (f == ("__classdict__" : Str)) = false)
    (hs : ∀ X : Cx, swapsWith (.Name f p3) (some (.Attribute (.Name "self" p1) f p2)) p4.line X.env = pure false) :
    FnOk P w K mg base (L2.CX P w) 1 fI fd ["self", f] (fun vs H Q _ => ∃ (a : Addr) (y : V), vs = [.ref a, y] ∧ H a = some (exo a C none) ∧ ∀ dx, H dx = none → dx ≠ a → Q .non (upd (upd H dx (exd dx [(f, y)])) a (exo a C (some dx)))) := by
  refine F.okX sc (fun vs H Q E h => ?_) (fun cdv A outer s H vs Q E hr h => ?_)
  · obtain ⟨a, y, rfl, _⟩ := h
    rfl
  · obtain ⟨a, y, rfl, ha, k⟩ := h
    rw [hbd]
    refine ⟨_, pss_one (ps_ost (pe_var (i := 0) rfl (.inl h0)) (pe_var (i := 1) rfl (.inl h1) hd1 hd2) (hs _)), ?_⟩
    exact ⟨y, rfl, .ref a, rfl, a, C, rfl, T, no, .inl ⟨ha, fun dx n ne => k dx n ne⟩⟩
section
variable {X : Cx} {Γ : En} {M : Ms} {e : Expr} {E : ED} {pos pos' p p2 : Pos} {nm f : Str} {l : Nat} {C : Addr}
/-- raise C(e), C with one field -/
theorem gs_raise1 (F : ExD X.prog X.w X.K X.mg X.base nm C f) (hc : X.calm = true) (hr : Room l X.A) (hl : 2 ≤ l) (h : GE X Γ M e (fun d M1 => E.ex (.ref C) [(f, d)] Γ M1) (fun c f M1 => E.ex c f Γ M1)) (hg : Gl X nm := by rfl) (hdb : (nm == ("__debug__" : Str)) = false := by decide)
    (he : starEach [e] X.env = (false, eval e X.env) :: starEach [] X.env := by rfl) (hpl : (backTo pos (starEach [] X.env)).any (·.1) = false := by rfl) : GS X Γ M (.Raise (some (.Call (.Name nm p) [e] [] pos)) none pos') E := fun S σ hM hE W tk De L => by
  obtain ⟨fI, fd, iC, tI, hb, F1⟩ := F.ex
  refine of_ps (ps_raise hc tk (pmk_oex (ds := []) (dvs := []) F.T iC tI F1 (hr.mono hl) hb .nil passL hg F.gC (pa_cons we pa_nil he) hdb he hpl)) ?_
  refine h S σ hM hE W tk (L.kw hE) _ fun d M1 S1 v hk hM1 g1 r1 => ?_
  refine ⟨by show 1 ≤ 1000; decide, fun a ha => ⟨a, v, rfl, upd_same, fun dx hdx ne => ?_⟩⟩
  have hdx1 : S1.H dx = none := by rw [upd_ne ne] at hdx; exact hdx
  refine ⟨rfl, dx, [(f, v)], upd_same, ?_, hdx1, ?_⟩
  · rw [upd_ne ne, upd_same]
  · have hz : S1.Z dx = none := hM1.zh.none hdx1
    have hna : dx ∉ S1.as := fun m => hM1.dom dx m hdx1
    obtain ⟨a1, a2, a3, _⟩ := upd_f (o := .xd [(f, v)]) hM1 hz hna
    have eH : upd (del (upd (upd (upd S1.H a (exo a C none)) dx (exd dx [(f, v)])) a (exo a C (some dx))) a) dx (.xd [(f, v)]) = upd S1.H dx (.xd [(f, v)]) := by
      funext b
      by_cases q : b = dx
      · rw [q, upd_same, upd_same]
      · rw [upd_ne q, upd_ne q]
        by_cases q2 : b = a
        · rw [q2, del_same]; exact ha.symm
        · rw [del_ne q2, upd_ne q2, upd_ne q, upd_ne q2]
    rw [eH]
    have g2 := a2 S1 (Grow.refl _) hdx1
    exact L.ex (.ref C) [(f, d)] Γ M1 ⟨S1.as, S1.Z, upd S1.H dx (.xd [(f, v)])⟩ σ (some dx) hk a1 (g1.trans g2) (hE.grow (g1.trans g2)) ⟨by simp, g1.back _ hdx1, hz, hna, [(f, v)], upd_same, rfl, .one (a3 _ _ r1)⟩
/-- an exception class without an __init__ of its own -/
structure ExP (K : PySem.W.Frag) (mg : Str → Option Value) (x : Str) (C : Addr) : Prop where
  gC : mg x = some (.ref C)
  xC : PySem.W.excIn K C [.type "ValueError", .type "Exception", .type "BaseException", .type "object"] "ValueError.__new__" = true
  kC : PySem.W.keepIn K (.ref C) = true
  sC : PySem.W.subIn K (.ref C) (.type "BaseException") = some true
  tC : PySem.W.typeIn K (.ref C) = some (.type "type")
theorem gs_raise0 {m : Str} {j : Nat} (F : ExP X.K X.mg nm C) (hc : X.calm = true) (h : E.ex (.ref C) [] Γ M) (hg : Gl X nm := by rfl) (hdb : (nm == ("__debug__" : Str)) = false := by decide) : GS X Γ M (.Raise (some (.Call (.Name nm p) [.Constant (.str m) j p2] [] pos)) none pos') E := fun S σ hM hE W tk De L =>
  of_ps (ps_raise hc tk (pmk_own PySem.F.excBase_ValueError F.xC F.gC F.kC (raises_own F.sC F.tC) hg hdb)) (L.ex (.ref C) [] Γ M S σ none h hM (Grow.refl _) hE rfl)
end
end PD

set_option Elab.async false
set_option linter.all false
set_option maxRecDepth 100000
set_option maxHeartbeats 4000000
/-! PD: more leaves. -/
namespace PD
open PySem L2
open Evl (Ex ex_rd ex_l ex_t)
section
variable {K : PySem.W.Frag} {M : Ms} {k : KD} {i : Int} {s : Str} {ds : List D} {d x y : D}
theorem ix_lstAny (h0 : 0 ≤ i) (h1 : i < ds.length) (hk : ∀ d, d ∈ ds → ds[i.toNat]? = some d → k d M) : Bin K (rIx K) (.lst ds) (.int i) M k := by
  have hl : i.toNat < ds.length := by omega
  exact ix_lst' (j := i.toNat) (d := ds[i.toNat]) (.inl ⟨h0, by omega, hl⟩) (by simp [hl]) (hk _ (List.getElem_mem hl) (by simp [hl]))
theorem ix_tupAny (h0 : 0 ≤ i) (h1 : i < ds.length) (hk : ∀ d, d ∈ ds → ds[i.toNat]? = some d → k d M) : Bin K (rIx K) (.tup ds) (.int i) M k := by
  have hl : i.toNat < ds.length := by omega
  exact ix_tup' (j := i.toNat) (d := ds[i.toNat]) (.inl ⟨h0, by omega, hl⟩) (by simp [hl]) (hk _ (List.getElem_mem hl) (by simp [hl]))
theorem ix_seqAny (h0 : 0 ≤ i) (h1 : i < ds.length) (hk : ∀ d, d ∈ ds → ds[i.toNat]? = some d → k d M) : Bin K (rIx K) (.seq ds) (.int i) M k := by
  have hl : i.toNat < ds.length := by omega
  exact ix_seq' (j := i.toNat) (d := ds[i.toNat]) (.inl ⟨h0, by omega, hl⟩) (by simp [hl]) (hk _ (List.getElem_mem hl) (by simp [hl]))
theorem ix_hdlAny {p : Nat} {q : Addr} (hm : M[p]? = some (q, .lst ds)) (h0 : 0 ≤ i) (h1 : i < ds.length) (hk : ∀ d, d ∈ ds → ds[i.toNat]? = some d → k d M) : Bin K (rIx K) (.hdl q) (.int i) M k := by
  have hl : i.toNat < ds.length := by omega
  exact ix_hdl hm (j := i.toNat) (d := ds[i.toNat]) (.inl ⟨h0, by omega, hl⟩) (by simp [hl]) (hk _ (List.getElem_mem hl) (by simp [hl]))
theorem nb300 (i : Int) (h0 : 0 ≤ i) (h1 : i < 1000000000000000000000000000000000000000000000000000000000000000000000000) : i.natAbs < 2 ^ 250 := by
  have : (1000000000000000000000000000000000000000000000000000000000000000000000000 : Int) < 2 ^ 250 := by decide
  have e : ((2 ^ 250 : Nat) : Int) = 2 ^ 250 := by decide
  omega
theorem powx {i : Int} {j b : Nat} (hi : i.natAbs < 2 ^ b) (hb : b * j ≤ 134217728) (h0 : 0 < b) : CPowX i (j : Int) := by
  refine ⟨by omega, ?_⟩
  have h := PySem.Flt.log2_lt_of h0 hi
  have e : (2 : Int) ^ 27 = 134217728 := by decide
  have q : Builtin.Int.intBits i ≤ b := by
    unfold Builtin.Int.intBits
    split <;> omega
  have q2 : Builtin.Int.intBits i * j ≤ b * j := Nat.mul_le_mul_right j q
  rw [e]
  have q3 : ((Builtin.Int.intBits i * j : Nat) : Int) ≤ 134217728 := by omega
  rw [Int.natCast_mul] at q3
  exact q3
theorem mulx {i j : Int} (h0 : 0 ≤ i) (h1 : i < 1000000000000000000000000000000000000000000000000000000000000000000000000) (h2 : 0 ≤ j) (h3 : j < 1000000000000000000000000000000000000000000000000000000000000000000000000) : CMulX i j := mulx_ok (nb300 i h0 h1) (nb300 j h2 h3) (by decide)
theorem divx {i j : Int} (h0 : 0 < j) (h1 : j < 1000000000000000000000000000000000000000000000000000000000000000000000000) : CDivW i j := wide_div (b := 250) h0 (nb300 j (by omega) h1) (by decide) (by decide)
theorem pow4 {i : Int} {n : Nat} (h0 : 0 ≤ i) (h1 : i < 1000000000000000000000000000000000000000000000000000000000000000000000000) (hn : n ≤ 100) : CPowX i (n : Int) := powx (nb300 i h0 h1) (by omega) (by decide)
theorem units65 {l : Nat} {A : Around} (hr : Room l A) : A.units + 65 < cLine := by have := hr.un; omega
end
end PD

set_option Elab.async false
set_option linter.all false
set_option maxRecDepth 100000
set_option maxHeartbeats 4000000
/-! PD: calls with keywords, slices, lists that may change compared. -/
namespace PD
open PySem L2
open Evl (Ex ex_rd ex_l ex_t)
/-- the items chosen of three lists: (0, i) of the first, (1, i) of the second, else of the third -/
def selL {α : Type} (sel : List (Nat × Nat)) (us its ws : List α) : List α := sel.filterMap fun p => (match p.1 with | 0 => us | 1 => its | _ => ws)[p.2]?
theorem vals_at {vs : List V} {us : List Value} (h : Vals vs us) (i : Nat) : (∃ v u, vs[i]? = some v ∧ us[i]? = some u ∧ RelV v u) ∨ (vs[i]? = none ∧ us[i]? = none) := by
  induction h generalizing i with
  | nil => exact .inr ⟨by simp, by simp⟩
  | cons r _ ih =>
    cases i with
    | zero => exact .inl ⟨_, _, rfl, rfl, r⟩
    | succ i => simpa using ih i
theorem vals_sel {vs ds zs : List V} {us its ws : List Value} (h1 : Vals vs us) (h2 : Vals ds its) (h3 : Vals zs ws) : ∀ sel, Vals (selL sel vs ds zs) (selL sel us its ws)
  | [] => .nil
  | (s, i) :: sel => by
    have ih := vals_sel h1 h2 h3 sel
    unfold selL at ih ⊢
    have key : ∀ {a : List V} {b : List Value}, Vals a b → Vals (a[i]?.toList ++ sel.filterMap fun p => (match p.1 with | 0 => vs | 1 => ds | _ => zs)[p.2]?) (b[i]?.toList ++ sel.filterMap fun p => (match p.1 with | 0 => us | 1 => its | _ => ws)[p.2]?) := fun {a b} h => by
      rcases vals_at h i with ⟨v, u, e1, e2, r⟩ | ⟨e1, e2⟩
      · rw [e1, e2]; exact .cons r ih
      · rw [e1, e2]; exact ih
    have red : ∀ {α : Type} (f : Nat × Nat → Option α) (p : Nat × Nat) (l : List (Nat × Nat)), (p :: l).filterMap f = (f p).toList ++ l.filterMap f := fun f p l => by
      cases e : f p <;> simp [List.filterMap_cons, e]
    rw [red, red]
    match s with
    | 0 => exact key h1
    | 1 => exact key h2
    | (n + 2) => exact key h3
theorem repl_sel {K : PySem.W.Frag} {S : Sg} {vs ds zs : List V} {us its ws : List D} (h1 : RepL K S us vs) (h2 : RepL K S its ds) (h3 : RepL K S ws zs) : ∀ sel, RepL K S (selL sel us its ws) (selL sel vs ds zs)
  | [] => RepL.nil
  | (s, i) :: sel => by
    have ih := repl_sel h1 h2 h3 sel
    unfold selL at ih ⊢
    have key : ∀ {a : List V} {b : List D}, RepL K S b a → RepL K S (b[i]?.toList ++ sel.filterMap fun p => (match p.1 with | 0 => us | 1 => its | _ => ws)[p.2]?) (a[i]?.toList ++ sel.filterMap fun p => (match p.1 with | 0 => vs | 1 => ds | _ => zs)[p.2]?) := fun {a b} h => by
      cases e : b[i]? with
      | some d =>
        obtain ⟨x, e2, r⟩ := h.get e
        rw [e2]; exact .cons r ih
      | none =>
        cases e2 : a[i]? with
        | none => exact ih
        | some x =>
          obtain ⟨d, e3, _⟩ := h.get' e2
          rw [e] at e3; cases e3
    have red : ∀ {α : Type} (f : Nat × Nat → Option α) (p : Nat × Nat) (l : List (Nat × Nat)), (p :: l).filterMap f = (f p).toList ++ l.filterMap f := fun f p l => by
      cases e : f p <;> simp [List.filterMap_cons, e]
    rw [red, red]
    match s with
    | 0 => exact key h1
    | 1 => exact key h2
    | (n + 2) => exact key h3
/-- a call with n values and the keywords ks -/
structure KwB (K : PySem.W.Frag) (fd : FuncData) (ps : List Str) (n : Nat) (ks : List Str) (sel : List (Nat × Nat)) (dds : List D) : Prop where
  ex : ∃ g gV, KBn K fd ps n ks g gV ∧ ∀ S ds es vs zs, RepL K S ds vs → RepL K S es zs → RepL K S (selL sel ds dds es) (gV vs zs)
theorem FunD.kwB {K : PySem.W.Frag} {x qual : Str} {params : Arguments} {body : List Stmt} {scope : Scope} {dvs : List V} {kws : List (Str × V)} {f : Addr} {fd : FuncData} {ps : List Str} (F : FunD K x qual params body scope dvs kws f fd) (n : Nat) (ks : List Str) (sel : List (Nat × Nat)) {dds : List D} (hd : dvs ≠ []) (hr : ∀ S, RepL K S dds dvs)
    (h : ∀ (T : Addr) (kV doc pm : Value) (an : Option Addr) (cdv ct : Value) (us its ws : List Value), us.length = n → its.length = dvs.length → ws.length = ks.length →
      ∃ k, bindArgs (PySem.W.fnOf x qual params body scope (.ref T) kV doc pm an cdv ct) ⟨us, ks.zip ws⟩ = seqItems? (.ref T) >>= k ∧ k (some its.toArray) = pure (ps.zip (selL sel us its ws))) : KwB K fd ps n ks sel dds := by
  obtain ⟨its, hk⟩ := F.kbindsD n ks (fun us its ws => selL sel us its ws) hd (fun r1 r2 r3 => vals_sel r1 r2 r3 sel) h
  exact ⟨_, _, hk, fun S ds es vs zs r1 r2 => repl_sel r1 (hr S) r2 sel⟩
theorem Fun.kwB {K : PySem.W.Frag} {x qual : Str} {st : Stmt} {f : Addr} {fd : FuncData} {ps : List Str} (F : Fun K x qual st f fd) (n : Nat) (ks : List Str) (sel : List (Nat × Nat))
    (h : ∀ (kV doc pm : Value) (an : Option Addr) (cdv ct : Value) (us ws : List Value), us.length = n → ws.length = ks.length →
      bindArgs (PySem.W.fnOf x qual (defArgs st) (defBody st) (defScope st) .none kV doc pm an cdv ct) ⟨us, ks.zip ws⟩ = pure (ps.zip (selL sel us [] ws))) : KwB K fd ps n ks sel [] := by
  obtain ⟨oc, od, kV, doc, pm, an, cdv, ct, osl, rfl, lk, hcd⟩ := F.ex
  exact ⟨_, _, ⟨fun s us ws _ l1 l2 => .of_eq (h kV doc pm an cdv ct us ws l1 l2), fun r1 r2 => vals_sel r1 .nil r2 sel⟩, fun S ds es vs zs r1 r2 => repl_sel r1 RepL.nil r2 sel⟩
structure FnK (P : Program) (w : World) (K : PySem.W.Frag) (mg : Str → Option Value) (base : Heap) (j : Nat) (x : Str) (n : Nat) (ks : List Str) (sel : List (Nat × Nat)) (dds : List D) (R : RSp) : Prop where
  ex : ∃ f fd ps, mg x = some (.ref f) ∧ PySem.W.keepIn K (.ref f) = true ∧ KwB K fd ps n ks sel dds ∧ FnOk P w K mg base (L2.CX P w) j f fd ps (spD K R)
structure MtK (P : Program) (w : World) (K : PySem.W.Frag) (mg : Str → Option Value) (base : Heap) (j : Nat) (C : Addr) (m : Str) (n : Nat) (ks : List Str) (sel : List (Nat × Nat)) (dds : List D) (R : RSp) : Prop where
  cl : Cls K C
  ex : ∃ f fd ps, Meth K C m f ∧ KwB K fd ps n ks sel dds ∧ FnOk P w K mg base (L2.CX P w) j f fd ps (spD K R)
structure MkK (P : Program) (w : World) (K : PySem.W.Frag) (mg : Str → Option Value) (base : Heap) (j : Nat) (C : Addr) (x : Str) (n : Nat) (ks : List Str) (sel : List (Nat × Nat)) (dds : List D) (R : RSp) : Prop where
  cl : Cls K C
  gC : mg x = some (.ref C)
  ex : ∃ f fd ps, Mk K C f ∧ KwB K fd ps n ks sel dds ∧ FnOk P w K mg base (L2.CX P w) j f fd ps (spD K R)
/-! ### keywords' values -/
def WK (X : Cx) (kws : List Keyword) : TA := fun σ H Q => ∀ (pos : Pos) (pins : List (Addr × Obj)) (s : Shared), Inv X pins σ H s → wpAny (model X.prog X.w) X.A (evalAll ((backToKw pos (keywordEach kws X.env)).map (·.2))) (AP X pins σ Q) X.xe s
theorem wk {X : Cx} {kws : List Keyword} : PK X kws (WK X kws) := ⟨fun pos pins s _ _ _ I h => h pos pins s I⟩
def GK (X : Cx) (Γ : En) (M : Ms) (kws : List Keyword) (k : KDs) (kx : KX) : Prop := ∀ S σ, OkM X.K S M → EnvOk X.K S σ Γ → ∀ W, Takes X W → KW X.K S kx W σ → ∀ Q, KA X.K S k Q → WK X kws σ S.H Q
section
variable {X : Cx} {Γ : En} {M : Ms} {e o : Expr} {es : List Expr} {kws : List Keyword} {ks : List Str} {sel : List (Nat × Nat)} {k : KD} {kx : KX} {E : ED} {d x y z : D} {pos apos p kpos : Pos} {nm m : Str} {j l n : Nat} {C : Addr} {dds : List D} {R : RSp} {kn : Option Str}
theorem gk_nil {k : KDs} (hk : k [] M) : GK X Γ M [] k kx := fun S σ hM hE W tk hW Q hQ pos pins s I => pk_nil.run pos pins s σ S.H Q I (hQ [] M S [] hk hM (Grow.refl _) RepL.nil)
theorem gk_cons {k : KDs} (h : GE X Γ M e (fun d M1 => GK X Γ M1 kws (fun ds M2 => k (d :: ds) M2) kx) kx) : GK X Γ M (⟨kn, e, kpos⟩ :: kws) k kx := fun S σ hM hE W tk hW Q hQ pos pins s I =>
  (pk_cons (nm := kn) (kpos := kpos) (we (X := X) (e := e)) (wk (X := X) (kws := kws))).run pos pins s σ S.H Q I (h S σ hM hE W tk hW _ fun d M1 S1 v h1 hM1 g1 r1 => h1 S1 σ hM1 (hE.grow g1) W tk (hW.grow g1) _ fun ds M2 S2 vs h2 hM2 g2 r2 =>
    hQ (d :: ds) M2 S2 (v :: vs) h2 hM2 (g1.trans g2) (.cons (r1.grow g2) r2))
theorem gk_of_ga {k : KDs} (v : EV X Γ M e d) (h : GK X Γ M kws (fun ds M2 => k (d :: ds) M2) kx) : GK X Γ M (⟨kn, e, kpos⟩ :: kws) k kx := gk_cons (v.ge h)
theorem run_fnNS {pins : List (Addr × Obj)} {σ : L2.St} {H : Hp} {s : Shared} {Q : VK} {us ws : List Value} {vs zs : List V} {f : Addr} {fd : FuncData} {ps : List Str} {sp : Sp} {CX : CXT} {kk : Nat} {EE : L2.St → XK} {g : List Value → List Value → List Value} {gV : List V → List V → List V} (F : FnOk X.prog X.w X.K X.mg X.base CX kk f fd ps sp) (hr : Room kk X.A) (hb : KBn X.K fd ps n ks g gV) (hx : PassesAt CX X σ (EE σ))
    (I : L2.Inv X pins σ H s) (r : Vals vs us) (rz : Vals zs ws) (l1 : vs.length = n) (l2 : zs.length = ks.length) (h : sp (gV vs zs) H Q (EE σ)) : wpAny (model X.prog X.w) X.A (call (.ref f) us (ks.zip ws)) (EP X pins σ Q) X.xe s :=
  wpAny_call (codeAny_mono (F.run _ X.stack s H _ (g us ws) _ Q _ hr I.env0 (hb.to s us ws I.kIn (by rw [← l1, r.length]) (by rw [← l2, rz.length])) (hb.rel r rz) h) (ends_of hx I))
theorem run_makeNS {pins : List (Addr × Obj)} {σ : L2.St} {H : Hp} {s : Shared} {Q : VK} {us ws : List Value} {vs zs : List V} {f : Addr} {fd : FuncData} {ps : List Str} {sp : Sp} {CX : CXT} {kk : Nat} {EE : L2.St → XK} {g : List Value → List Value → List Value} {gV : List V → List V → List V} (Mm : Mk X.K C f) (F : FnOk X.prog X.w X.K X.mg X.base CX kk f fd ps sp) (hr : Room (kk + 1) X.A) (hb : KBn X.K fd ps (n + 1) ks g gV)
    (hx : PassesAt CX X σ (EE σ)) (I : L2.Inv X pins σ H s) (r : Vals vs us) (rz : Vals zs ws) (l1 : vs.length = n) (l2 : zs.length = ks.length) (h : ∀ x dx, H x = none → H dx = none → dx ≠ x → sp (gV (.ref x :: vs) zs) (upd (upd H dx (.own x)) x (.ins C dx [])) (fun v H2 => v = .non ∧ Q (.ref x) H2) (EE σ)) :
    wpAny (model X.prog X.w) X.A (call (.ref C) us (ks.zip ws)) (EP X pins σ Q) X.xe s :=
  have self : Vals (.ref (s.heap.objs.size + 1) :: vs) (.ref (s.heap.objs.size + 1) :: us) := .cons rfl r
  maker Mm F hr hx I (fun t kin => hb.to t _ ws kin (by rw [← self.length, List.length_cons, l1]) (by rw [← l2, rz.length])) (hb.rel self rz) (fresh_two I h)
/-- what both kinds of argument leave -/
def Got (R : RSp) (sel : List (Nat × Nat)) (dds : List D) (n m : Nat) (ds zs : List D) (M : Ms) (k : KD) (kx : KX) : Prop := ds.length = n ∧ zs.length = m ∧ ∃ ks, CallOk R ks (selL sel ds dds zs) M k kx
/-- f(e, .., k = v, ..) -/
theorem ge_callK (F : FnK X.prog X.w X.K X.mg X.base j nm n ks sel dds R) (hr : Room l X.A) (hl : j ≤ l) (h : GA X Γ M (e :: es) (fun ds M1 => GK X Γ M1 kws (fun zs M2 => Got R sel dds n ks.length ds zs M2 k kx) kx) kx) (hall : (backToKw pos (keywordEach kws X.env)).all (·.1.isSome) = true := by rfl) (hks : (backToKw pos (keywordEach kws X.env)).filterMap (·.1) = ks := by rfl) (hg : Gl X nm := by rfl)
    (hdb : (nm == ("__debug__" : Str)) = false := by decide) (he : starEach (e :: es) X.env = (false, eval e X.env) :: starEach es X.env := by rfl) (hpl : ((backTo pos (starEach (e :: es) X.env)).any (·.1) || (backToKw pos (keywordEach kws X.env)).any (·.1.isNone)) = false := by rfl) : GE X Γ M (.Call (.Name nm p) (e :: es) kws pos) k kx := fun S σ hM hE W tk hW Q hQ pins s I => by
  obtain ⟨f, fd, ps, hm, hk, ⟨g, gV, hb, hrep⟩, F⟩ := F.ex
  refine wpAny_Call_Name_kw (ld_glob I hg hm ?_ hdb)
  refine PySem.W.callWith_KW (h₀ := X.base) I.ok.mod.kin hk hall (thn (h S σ hM hE W tk hW (fun vs H1 => WK X kws σ H1 fun zs H2 => vs.length = n ∧ zs.length = ks.length ∧ spD X.K R (gV vs zs) H2 Q (L2.WE W σ)) (fun ds M1 S1 vs h1 hM1 g1 r1 =>
    h1 S1 σ hM1 (hE.grow g1) W tk (hW.grow g1) _ fun zs M2 S2 ws ⟨q1, q2, kk, q3⟩ hM2 g2 r2 => ⟨r1.len.trans q1, r2.len.trans q2, sp_of hM2 (hrep S2 _ _ _ _ (r1.grow g2) r2) q3 ((hQ.grow g1).grow g2) ((hW.grow g1).grow g2)⟩) pos pins s I) fun us s1 ⟨vs, H1, I1, r, q⟩ => ?_) hpl he
  refine thn (q pos pins s1 I1) fun ws s2 ⟨zs, H2, I2, rz, l1, l2, q2⟩ => ⟨I2.kIn, ?_⟩
  rw [hks]
  exact run_fnNS (EE := L2.WE W) F (hr.mono hl) hb (passAt tk σ) I2 r rz l1 l2 q2
/-- C(e, .., k = v, ..) -/
theorem ge_makeK (F : MkK X.prog X.w X.K X.mg X.base j C nm (n + 1) ks sel dds R) (hr : Room l X.A) (hl : j + 1 ≤ l) (h : GA X Γ M (e :: es) (fun ds M1 => GK X Γ M1 kws (fun zs M2 => ds.length = n ∧ zs.length = ks.length ∧ ∃ kk, ∀ x, CallOk R (kk ++ [M2.length]) (selL sel (.hdl x :: ds) dds zs) (M2 ++ [(x, .ins C [] [])]) (fun d M3 => d = .non ∧ k (.hdl x) M3) kx) kx) kx)
    (hall : (backToKw pos (keywordEach kws X.env)).all (·.1.isSome) = true := by rfl) (hks : (backToKw pos (keywordEach kws X.env)).filterMap (·.1) = ks := by rfl) (hg : Gl X nm := by rfl)
    (hdb : (nm == ("__debug__" : Str)) = false := by decide) (he : starEach (e :: es) X.env = (false, eval e X.env) :: starEach es X.env := by rfl) (hpl : ((backTo pos (starEach (e :: es) X.env)).any (·.1) || (backToKw pos (keywordEach kws X.env)).any (·.1.isNone)) = false := by rfl) : GE X Γ M (.Call (.Name nm p) (e :: es) kws pos) k kx := fun S σ hM hE W tk hW Q hQ pins s I => by
  obtain ⟨f, fd, ps, Mm, ⟨g, gV, hb, hrep⟩, F'⟩ := F.ex
  refine wpAny_Call_Name_kw (ld_glob I hg F.gC ?_ hdb)
  refine PySem.W.callWith_KW (h₀ := X.base) I.ok.mod.kin Mm.kp hall (thn (h S σ hM hE W tk hW (fun vs H1 => WK X kws σ H1 fun zs H2 => vs.length = n ∧ zs.length = ks.length ∧ ∀ x dx, H2 x = none → H2 dx = none → dx ≠ x → spD X.K R (gV (.ref x :: vs) zs) (upd (upd H2 dx (.own x)) x (.ins C dx [])) (fun v H3 => v = .non ∧ Q (.ref x) H3) (L2.WE W σ)) (fun ds M1 S1 vs h1 hM1 g1 r1 =>
    h1 S1 σ hM1 (hE.grow g1) W tk (hW.grow g1) _ fun zs M2 S2 ws ⟨q1, q2, kk, q3⟩ hM2 g2 r2 => ⟨r1.len.trans q1, r2.len.trans q2, fun x dx hx hdx ne => by
      obtain ⟨a, gg⟩ := new_ins (C := C) hM2 hx hdx ne
      refine sp_of (S' := ⟨S2.as ++ [x], S2.Z, upd (upd S2.H dx (.own x)) x (.ins C dx [])⟩) a (hrep _ _ _ _ _ (RepL.cons (d := .hdl x) rfl ((r1.grow g2).grow gg)) (r2.grow gg)) (q3 x) (fun d M' S' v ⟨e, hk⟩ hM' g' r => ?_) (((hW.grow g1).grow g2).grow gg)
      subst e
      exact ⟨r, hQ (.hdl x) M' S' (.ref x) hk hM' (((g1.trans g2).trans gg).trans g') rfl⟩⟩) pos pins s I) fun us s1 ⟨vs, H1, I1, r, q⟩ => ?_) hpl he
  refine thn (q pos pins s1 I1) fun ws s2 ⟨zs, H2, I2, rz, l1, l2, q2⟩ => ⟨I2.kIn, ?_⟩
  rw [hks]
  exact run_makeNS (EE := L2.WE W) Mm F' (hr.mono hl) hb (passAt tk σ) I2 r rz l1 l2 q2
/-- C(k = v, ..) -/
theorem ge_makeK0 (F : MkK X.prog X.w X.K X.mg X.base j C nm 1 ks sel dds R) (hr : Room l X.A) (hl : j + 1 ≤ l) (h : GK X Γ M kws (fun zs M2 => zs.length = ks.length ∧ ∃ kk, ∀ x, CallOk R (kk ++ [M2.length]) (selL sel [.hdl x] dds zs) (M2 ++ [(x, .ins C [] [])]) (fun d M3 => d = .non ∧ k (.hdl x) M3) kx) kx)
    (hall : (backToKw pos (keywordEach kws X.env)).all (·.1.isSome) = true := by rfl) (hks : (backToKw pos (keywordEach kws X.env)).filterMap (·.1) = ks := by rfl) (hg : Gl X nm := by rfl)
    (hdb : (nm == ("__debug__" : Str)) = false := by decide) (hpl : ((backTo pos (starEach [] X.env)).any (·.1) || (backToKw pos (keywordEach kws X.env)).any (·.1.isNone)) = false := by rfl) : GE X Γ M (.Call (.Name nm p) [] kws pos) k kx := fun S σ hM hE W tk hW Q hQ pins s I => by
  obtain ⟨f, fd, ps, Mm, ⟨g, gV, hb, hrep⟩, F'⟩ := F.ex
  refine wpAny_Call_Name_kw (ld_glob I hg F.gC ?_ hdb)
  refine PySem.W.callWith_KW0 (h₀ := X.base) I.ok.mod.kin Mm.kp hall ?_ hpl
  refine thn (h S σ hM hE W tk hW (fun zs H2 => zs.length = ks.length ∧ ∀ x dx, H2 x = none → H2 dx = none → dx ≠ x → spD X.K R (gV (.ref x :: []) zs) (upd (upd H2 dx (.own x)) x (.ins C dx [])) (fun v H3 => v = .non ∧ Q (.ref x) H3) (L2.WE W σ)) (fun zs M2 S2 ws ⟨q2, kk, q3⟩ hM2 g2 r2 => ⟨r2.len.trans q2, fun x dx hx hdx ne => by
      obtain ⟨a, gg⟩ := new_ins (C := C) hM2 hx hdx ne
      refine sp_of (S' := ⟨S2.as ++ [x], S2.Z, upd (upd S2.H dx (.own x)) x (.ins C dx [])⟩) a (hrep _ _ _ _ _ (RepL.cons (d := .hdl x) rfl RepL.nil) (r2.grow gg)) (q3 x) (fun d M' S' v ⟨e, hk⟩ hM' g' r => ?_) ((hW.grow g2).grow gg)
      subst e
      exact ⟨r, hQ (.hdl x) M' S' (.ref x) hk hM' ((g2.trans gg).trans g') rfl⟩⟩) pos pins s I) fun ws s2 ⟨zs, H2, I2, rz, l2, q2⟩ => ⟨I2.kIn, ?_⟩
  rw [hks]
  exact run_makeNS (us := []) (vs := []) (EE := L2.WE W) Mm F' (hr.mono hl) hb (passAt tk σ) I2 .nil rz rfl l2 q2
/-- o.m(e, .., k = v, ..) -/
theorem ge_methK {pl : Sem Bool} (F : MtK X.prog X.w X.K X.mg X.base j C m (n + 1) ks sel dds R) (hr : Room l X.A) (hl : j ≤ l)
    (h : GE X Γ M o (fun d M1 => ∃ fs ds0, ObjD M1 d C fs ds0 ∧ m ∉ fs ∧ GA X Γ M1 (e :: es) (fun ds M2 => GK X Γ M2 kws (fun zs M3 => ds.length = n ∧ zs.length = ks.length ∧ ∃ kk, CallOk R kk (selL sel (d :: ds) dds zs) M3 k kx) kx) kx) kx)
    (hall : (backToKw pos (keywordEach kws X.env)).all (·.1.isSome) = true := by rfl) (hks : (backToKw pos (keywordEach kws X.env)).filterMap (·.1) = ks := by rfl)
    (hst : starEach (e :: es) X.env = (false, eval e X.env) :: starEach es X.env := by rfl) (hpl : ((backTo pos (starEach (e :: es) X.env)).any (·.1) || (backToKw pos (keywordEach kws X.env)).any (·.1.isNone)) = false := by rfl)
    (ht : eval (.Call (.Attribute o m apos) (e :: es) kws pos) X.env = (do
      let ov ← eval o X.env
      standAt apos.atName
      let (f, first) ← holding [ov] (getMethod ov m pl)
      callWith pos f first (backTo pos (starEach (e :: es) X.env)) (backToKw pos (keywordEach kws X.env))) := by rfl) : GE X Γ M (.Call (.Attribute o m apos) (e :: es) kws pos) k kx := fun S σ hM hE W tk hW Q hQ pins s I => by
  obtain ⟨f, fd, ps, hm, ⟨g, gV, hb, hrep⟩, F'⟩ := F.ex
  refine PySem.W.methodCall_KW (pl := pl) (thn (h S σ hM hE W tk hW (fun x H1 => ∃ a dx fs, x = .ref a ∧ H1 a = some (.ins C dx fs) ∧ fs.lookup m = none ∧ WA X (e :: es) σ H1 fun vs H2 => WK X kws σ H2 fun zs H3 => vs.length = n ∧ zs.length = ks.length ∧ spD X.K R (gV (x :: vs) zs) H3 Q (L2.WE W σ)) (fun d M1 S1 v ⟨fs, ds0, ob, nf, h1⟩ hM1 g1 r1 => by
    obtain ⟨a, dx, kvs, rfl, hh, hf, hrr⟩ := ob.at hM1 r1
    refine ⟨a, dx, kvs, rfl, hh, lookup_no (by rw [hf]; exact nf), ?_⟩
    refine h1 S1 σ hM1 (hE.grow g1) W tk (hW.grow g1) _ fun ds M2 S2 vs h2 hM2 g2 r2 => h2 S2 σ hM2 ((hE.grow g1).grow g2) W tk ((hW.grow g1).grow g2) _ fun zs M3 S3 ws ⟨q1, q2, kk, q3⟩ hM3 g3 r3 => ⟨r2.len.trans q1, r3.len.trans q2, ?_⟩
    exact sp_of hM3 (hrep S3 _ _ _ _ (.cons ((r1.grow g2).grow g3) (r2.grow g3)) r3) q3 (((hQ.grow g1).grow g2).grow g3) (((hW.grow g1).grow g2).grow g3)) pins s I) fun u s1 ⟨x, H1, I1, rx, a, dx, fs, ex, ea, l, q⟩ => ?_) ht
  subst ex
  obtain rfl : u = Value.ref a := rx
  refine getmeth_ok I1 ea F.cl hm l ?_
  refine PySem.W.callWith_KW (first := [.ref a]) (h₀ := X.base) I.ok.mod.kin hm.kp hall (thn (q pos pins s1 I1) fun us s2 ⟨vs, H2, I2, r, q2⟩ => ?_) hpl hst
  refine thn (q2 pos pins s2 I2) fun ws s3 ⟨zs, H3, I3, rz, l1, l2, q3⟩ => ⟨I3.kIn, ?_⟩
  rw [hks]
  exact run_fnNS (us := .ref a :: us) (vs := .ref a :: vs) (EE := L2.WE W) F' (hr.mono hl) hb (passAt tk σ) I3 (.cons rfl r) rz (congrArg Nat.succ l1) l2 q3
/-- o.m(k = v, ..) -/
theorem ge_methK0 {pl : Sem Bool} (F : MtK X.prog X.w X.K X.mg X.base j C m 1 ks sel dds R) (hr : Room l X.A) (hl : j ≤ l)
    (h : GE X Γ M o (fun d M1 => ∃ fs ds0, ObjD M1 d C fs ds0 ∧ m ∉ fs ∧ GK X Γ M1 kws (fun zs M3 => zs.length = ks.length ∧ ∃ kk, CallOk R kk (selL sel [d] dds zs) M3 k kx) kx) kx)
    (hall : (backToKw pos (keywordEach kws X.env)).all (·.1.isSome) = true := by rfl) (hks : (backToKw pos (keywordEach kws X.env)).filterMap (·.1) = ks := by rfl)
    (hpl : ((backTo pos (starEach [] X.env)).any (·.1) || (backToKw pos (keywordEach kws X.env)).any (·.1.isNone)) = false := by rfl)
    (ht : eval (.Call (.Attribute o m apos) [] kws pos) X.env = (do
      let ov ← eval o X.env
      standAt apos.atName
      let (f, first) ← holding [ov] (getMethod ov m pl)
      callWith pos f first (backTo pos (starEach [] X.env)) (backToKw pos (keywordEach kws X.env))) := by rfl) : GE X Γ M (.Call (.Attribute o m apos) [] kws pos) k kx := fun S σ hM hE W tk hW Q hQ pins s I => by
  obtain ⟨f, fd, ps, hm, ⟨g, gV, hb, hrep⟩, F'⟩ := F.ex
  refine PySem.W.methodCall_KW (pl := pl) (thn (h S σ hM hE W tk hW (fun x H1 => ∃ a dx fs, x = .ref a ∧ H1 a = some (.ins C dx fs) ∧ fs.lookup m = none ∧ WK X kws σ H1 fun zs H3 => zs.length = ks.length ∧ spD X.K R (gV [x] zs) H3 Q (L2.WE W σ)) (fun d M1 S1 v ⟨fs, ds0, ob, nf, h1⟩ hM1 g1 r1 => by
    obtain ⟨a, dx, kvs, rfl, hh, hf, hrr⟩ := ob.at hM1 r1
    refine ⟨a, dx, kvs, rfl, hh, lookup_no (by rw [hf]; exact nf), ?_⟩
    refine h1 S1 σ hM1 (hE.grow g1) W tk (hW.grow g1) _ fun zs M3 S3 ws ⟨q2, kk, q3⟩ hM3 g3 r3 => ⟨r3.len.trans q2, ?_⟩
    exact sp_of hM3 (hrep S3 _ _ _ _ (.cons (r1.grow g3) RepL.nil) r3) q3 ((hQ.grow g1).grow g3) ((hW.grow g1).grow g3)) pins s I) fun u s1 ⟨x, H1, I1, rx, a, dx, fs, ex, ea, l, q⟩ => ?_) ht
  subst ex
  obtain rfl : u = Value.ref a := rx
  refine getmeth_ok I1 ea F.cl hm l ?_
  refine PySem.W.callWith_KW0 (first := [.ref a]) (h₀ := X.base) I.ok.mod.kin hm.kp hall ?_ hpl
  refine thn (q pos pins s1 I1) fun ws s3 ⟨zs, H3, I3, rz, l2, q3⟩ => ⟨I3.kIn, ?_⟩
  rw [hks]
  exact run_fnNS (us := [.ref a]) (vs := [.ref a]) (EE := L2.WE W) F' (hr.mono hl) hb (passAt tk σ) I3 (.cons rfl .nil) rz rfl l2 q3
end
/-! ### a def with defaults -/
theorem fn_okD {P : Program} {w : World} {K : PySem.W.Frag} {mg : Str → Option Value} {base : Heap} {x qual : Str} {params : Arguments} {body : List Stmt} {scope : Scope} {dvs : List V} {kws : List (Str × V)} {f : Addr} {fd : FuncData} {N ps : List Str} {j : Nat} {R : RSp} (F : FunD K x qual params body scope dvs kws f fd) (sc : FnScope N ps scope)
    (len : ∀ ds M k kx, R ds M k kx → ds.length = ps.length)
    (hb : ∀ (cdv : Value) (A : Around) (outer : List Env) (s : Shared) (H : Hp) (E : XK) (ds : List D) (M : Ms) (k : KD) (kx : KX), Room j (A.deeper (PyProof.Rows.envOfC qual scope s.heap.objs.size f cdv)) → R ds M k kx →
      GB (cxOf (L2.CX P w) P w K mg base N qual scope f cdv A outer s H E) (ds.map some ++ List.replicate (N.length - ds.length) none) M body { nx := fun _ M' => k .non M', rt := k, ex := fun c f _ M' => kx c f M' }) :
    FnOk P w K mg base (L2.CX P w) (j + 1) f fd ps (spD K R) := by
  refine FunD.ok F sc (fun vs H Q E ⟨S, ds, M, k, kx, _, _, r, h, _, _⟩ => by rw [r.len]; exact len _ _ _ _ h) fun cdv A outer s H vs Q E hr ⟨S, ds, M, k, kx, e, hM, r, h, hk, hx⟩ => ?_
  subst e
  refine ⟨WB _ body, wb, ?_⟩
  have hl := r.len
  have g := hb cdv A outer s S.H E ds M k kx hr h
  refine g S (start N vs) hM ⟨?_, fun i d hi => ?_⟩ (fun cls d _ H' => E cls d H') (takes_of rfl rfl rfl rfl) _ ⟨fun Γ' M' S' σ' a hM' g' hE' => hk .non M' S' .non a hM' g' rfl, hk, fun _ _ _ _ z => z.elim, fun _ _ _ _ z => z.elim, fun cls fs Γ' M' S' σ' dd a hM' g' hE' xr => hx cls fs M' S' dd a hM' g' xr⟩
  · simp [L2.start, hl]
  · have hi2 : i < ds.length := by
      by_cases q : i < ds.length
      · exact q
      · rw [List.getElem?_append_right (by simp; omega)] at hi
        have := List.getElem?_eq_some_iff.mp hi
        obtain ⟨_, h2⟩ := this
        simp at h2
    rw [List.getElem?_append_left (by simpa using hi2)] at hi
    have hd : ds[i]? = some d := by
      rw [List.getElem?_map] at hi
      cases e : ds[i]? with
      | none => rw [e] at hi; cases hi
      | some z => rw [e] at hi; simp at hi; rw [hi]
    obtain ⟨v, h1, h2⟩ := r.get hd
    refine ⟨v, ?_, h2⟩
    unfold L2.start
    rw [List.getElem?_append_left (by simp; rw [hl]; exact hi2), List.getElem?_map, h1]; rfl
/-! ### slices -/
def WO (X : Cx) (e : Option Expr) : TO := fun σ H Q => ∀ (pins : List (Addr × Obj)) (s : Shared), Inv X pins σ H s → wpAny (model X.prog X.w) X.A (evalPart e X.env) (fun u s' => ∃ o H', Inv X pins σ H' s' ∧ IsPart u o ∧ Q o H') X.xe s
theorem wo {X : Cx} {e : Option Expr} : PO X e (WO X e) := ⟨fun pins s _ _ _ I h => h pins s I⟩
def GO (X : Cx) (Γ : En) (M : Ms) (e : Option Expr) (k : Option Int → Ms → Prop) (kx : KX) : Prop := ∀ S σ, OkM X.K S M → EnvOk X.K S σ Γ → ∀ W, Takes X W → KW X.K S kx W σ → ∀ Q : Option Int → Hp → Prop, (∀ o M' S', k o M' → OkM X.K S' M' → Grow S S' → Q o S'.H) → WO X e σ S.H Q
def Sl (K : PySem.W.Frag) (r : V → Option Int → Option Int → Hp → VK → Prop) (x : D) (lo hi : Option Int) (M : Ms) (k : KD) : Prop := ∀ S vx, OkM K S M → Rep K S x vx → ∀ Q, KV K S k Q → r vx lo hi S.H Q
section
variable {X : Cx} {Γ : En} {M : Ms} {e : Expr} {lo hi : Option Expr} {k : KD} {kx : KX} {pos p2 : Pos} {r : V → Option Int → Option Int → Hp → VK → Prop}
theorem go_none {k : Option Int → Ms → Prop} (h : k none M) : GO X Γ M none k kx := fun S σ hM hE W tk hW Q hQ pins s I => po_none.run pins s σ S.H Q I (hQ none M S h hM (Grow.refl _))
theorem go_some {k : Option Int → Ms → Prop} (h : GE X Γ M e (fun d M1 => ∃ i, d = .int i ∧ k (some i) M1) kx) : GO X Γ M (some e) k kx := fun S σ hM hE W tk hW Q hQ pins s I =>
  (po_some (we (X := X) (e := e))).run pins s σ S.H Q I (h S σ hM hE W tk hW _ fun d M1 S1 v ⟨i, e1, h1⟩ hM1 g1 r1 => by
    subst e1; cases r1
    exact ⟨i, rfl, hQ (some i) M1 S1 h1 hM1 g1⟩)
theorem ge_slice (hr : SlR X r) (h : GE X Γ M e (fun x M1 => GO X Γ M1 lo (fun l M2 => GO X Γ M2 hi (fun u M3 => Sl X.K r x l u M3 k) kx) kx) kx) : GE X Γ M (.Subscript e (.Slice lo hi none p2) pos) k kx := fun S σ hM hE W tk hW Q hQ =>
  of_pe (pe_slice hr we wo wo) (h S σ hM hE W tk hW _ fun x M1 S1 vx h1 hM1 g1 r1 => h1 S1 σ hM1 (hE.grow g1) W tk (hW.grow g1) _ fun l M2 S2 h2 hM2 g2 => h2 S2 σ hM2 ((hE.grow g1).grow g2) W tk ((hW.grow g1).grow g2) _ fun u M3 S3 h3 hM3 g3 =>
    h3 S3 vx hM3 ((r1.grow g2).grow g3) Q (((hQ.grow g1).grow g2).grow g3))
end
section
variable {K : PySem.W.Frag} {M : Ms} {k : KD} {ds : List D} {lo hi : Option Int}
theorem cutD_all (h : HT.sIx ds.length 0 lo = 0 ∧ HT.sIx ds.length ds.length hi = ds.length) : cutD ds lo hi = ds := by
  unfold cutD
  rw [h.1, h.2]
  simp
theorem sl_tupD (hk : k (.tup (cutD ds lo hi)) M) : Sl K (rSlA K) (.tup ds) lo hi M k := fun S vx hM rx Q hQ => by
  obtain ⟨a, xs, rfl, h1, r1⟩ := rx
  refine ⟨a, xs, rfl, ex_t hM.zh h1, fun q => ?_, fun _ p hp => ?_⟩
  · have e : cutD ds lo hi = ds := cutD_all (by rw [← r1.len]; exact q)
    rw [e] at hk
    exact hQ _ M S _ hk hM (Grow.refl _) ⟨a, xs, rfl, h1, r1⟩
  · obtain ⟨a1, g1⟩ := new_z (o := .tup (cutV xs lo hi)) hM hp
    exact hQ _ M _ (.ref p) hk a1 g1 ⟨p, _, rfl, .inl (.inl upd_same), (r1.grow g1).cut lo hi⟩
theorem sl_lstD (hk : k (.lst (cutD ds lo hi)) M) : Sl K (rSlL K) (.lst ds) lo hi M k := fun S vx hM rx Q hQ => by
  obtain ⟨a, xs, rfl, h1, r1⟩ := rx
  refine ⟨a, xs, rfl, SqL.of (hM.zh _ _ h1), fun p hp => ?_⟩
  obtain ⟨a1, g1⟩ := new_z (o := .lst (cutV xs lo hi)) hM hp
  exact hQ _ M _ (.ref p) hk a1 g1 ⟨p, _, rfl, upd_same, (r1.grow g1).cut lo hi⟩
theorem sl_hdlD {p : Nat} {h : Addr} (hm : M[p]? = some (h, .lst ds)) (hk : k (.lst (cutD ds lo hi)) M) : Sl K (rSlL K) (.hdl h) lo hi M k := fun S vx hM rx Q hQ => by
  cases rx
  obtain ⟨_, xs, h1, r1⟩ := hM.at hm
  refine ⟨h, xs, rfl, SqL.of h1, fun p hp => ?_⟩
  obtain ⟨a1, g1⟩ := new_z (o := .lst (cutV xs lo hi)) hM hp
  exact hQ _ M _ (.ref p) hk a1 g1 ⟨p, _, rfl, upd_same, (r1.grow g1).cut lo hi⟩
theorem sl_strD {s : Str} (hl : s.length ≤ 16777216) (hk : k (.str (cutS s lo hi)) M) : Sl K rSlS (.str s) lo hi M k := fun S vx hM rx Q hQ => by
  cases rx
  exact ⟨s, rfl, hl, hQ _ M S _ hk hM (Grow.refl _) rfl⟩
/-- a list that may change, compared -/
theorem dp_hdl {S : Sg} {n p : Nat} {h : Addr} (hM : OkM K S M) (hm : M[p]? = some (h, .lst ds)) (hs : sm n (.lst ds) = true) : Dp K S.H (.ref h) (py (.lst ds)) := by
  obtain ⟨hz, xs, hh, hr⟩ := hM.at hm
  obtain ⟨hM2, g2⟩ := frz_m hM hm hz hh
  exact dp_of (S := ⟨S.as, upd S.Z h (.lst xs), S.H⟩) hM2 hs ⟨h, xs, rfl, upd_same, hr.grow g2⟩
theorem ne_hdl {n m p : Nat} {h : Addr} {y : D} (hm : M[p]? = some (h, .lst ds)) (hx : sm n (.lst ds) = true) (hy : sm m y = true) (hk : k (.bl (!PyData.eqv (py (.lst ds)) (py y))) M) (hn : n ≤ 64 := by decide) (hmm : m ≤ 64 := by decide) : Bin K (rNeU K) (.hdl h) y M k :=
  bin_flat (v := .bl (!PyData.eqv (py (.lst ds)) (py y))) (fun S vx vy hM rx ry Q q => by cases rx; exact .inr ⟨_, _, dp_hdl hM hm hx, dp_of hM hy ry, shaped_of hx hn, shaped_of hy hmm, q⟩) hk
theorem eq_hdl {n m p : Nat} {h : Addr} {y : D} (hm : M[p]? = some (h, .lst ds)) (hx : sm n (.lst ds) = true) (hy : sm m y = true) (hk : k (.bl (PyData.eqv (py (.lst ds)) (py y))) M) (hn : n ≤ 64 := by decide) (hmm : m ≤ 64 := by decide) : Bin K (rEqU K) (.hdl h) y M k :=
  bin_flat (v := .bl (PyData.eqv (py (.lst ds)) (py y))) (fun S vx vy hM rx ry Q q => by cases rx; exact .inr ⟨_, _, dp_hdl hM hm hx, dp_of hM hy ry, shaped_of hx hn, shaped_of hy hmm, q⟩) hk
end
end PD

set_option Elab.async false
set_option linter.all false
set_option maxRecDepth 100000
set_option maxHeartbeats 4000000
/-! PD: methods of built-in values. -/
namespace PD
open PySem L2
open Evl (Ex ex_rd ex_l ex_t)
def BmD (K : PySem.W.Frag) (r : V → List V → Hp → VK → Prop) (x : D) (ds : List D) (M : Ms) (k : KD) : Prop := ∀ S vx vs, OkM K S M → Rep K S x vx → RepL K S ds vs → ∀ Q, KV K S k Q → r vx vs S.H Q
def TyD (K : PySem.W.Frag) (T : String) (x : D) (M : Ms) : Prop := ∀ S v, OkM K S M → Rep K S x v → tyV K T v S.H
section
variable {X : Cx} {Γ : En} {M : Ms} {e o : Expr} {es : List Expr} {k : KD} {kx : KX} {d x y z : D} {pos apos p cpos : Pos} {T id : String} {name : Str} {r : V → List V → Hp → VK → Prop}
theorem ge_bm (pa : PlainAttrs T) (slot : Slot T name id) (hty : typeOf (.builtin id) = pure (.type "method_descriptor")) (hm : MtR X id r) (h : GE X Γ M o (fun x M1 => TyD X.K T x M1 ∧ GA X Γ M1 (e :: es) (fun ds M2 => BmD X.K r x ds M2 k) kx) kx)
    (hbase : attributeBase o name X.env (eval o X.env) = eval o X.env := by rfl)
    (hfew : ((backTo cpos (starEach (e :: es) X.env)).all (fun x => !x.1) && (backToKw cpos (keywordEach [] X.env)).all (fun x => x.1.isSome)
      && decide ((e :: es).length + ([] : List Keyword).length + (if ([] : List Keyword).isEmpty then 0 else 1) < 30)) = true := by rfl)
    (hline : (apos.endLine == cpos.line) = true := by rfl) (hs : starEach (e :: es) X.env = (false, eval e X.env) :: starEach es X.env := by rfl) (hplain : (backTo cpos (starEach es X.env)).any (·.1) = false := by rfl) :
    GE X Γ M (.Call (.Attribute o name apos) (e :: es) [] cpos) k kx := fun S σ hM hE W tk hW Q hQ =>
  of_pe (pe_bm pa slot hty hm we wa hbase hfew hline hs hplain) (h S σ hM hE W tk hW _ fun x M1 S1 vx ⟨ty, h1⟩ hM1 g1 rx => ⟨ty S1 vx hM1 rx, h1 S1 σ hM1 (hE.grow g1) W tk (hW.grow g1) _ fun ds M2 S2 vs h2 hM2 g2 r2 =>
    h2 S2 vx vs hM2 (rx.grow g2) r2 Q ((hQ.grow g1).grow g2)⟩)
theorem ge_bm0 (pa : PlainAttrs T) (slot : Slot T name id) (hty : typeOf (.builtin id) = pure (.type "method_descriptor")) (hm : MtR X id r) (h : GE X Γ M o (fun x M1 => TyD X.K T x M1 ∧ BmD X.K r x [] M1 k) kx)
    (hbase : attributeBase o name X.env (eval o X.env) = eval o X.env := by rfl) (hline : (apos.endLine == cpos.line) = true := by rfl) : GE X Γ M (.Call (.Attribute o name apos) [] [] cpos) k kx := fun S σ hM hE W tk hW Q hQ =>
  of_pe (pe_bm0 pa slot hty hm we hbase hline) (h S σ hM hE W tk hW _ fun x M1 S1 vx ⟨ty, h1⟩ hM1 g1 rx => ⟨ty S1 vx hM1 rx, h1 S1 vx [] hM1 rx RepL.nil Q (hQ.grow g1)⟩)
end
/-- a tuple of strings that the top left under the name x -/
def GlobR (K : PySem.W.Frag) (mg : Str → Option Value) (x : Str) (ys : List Str) : Prop := ∃ a, mg x = some (.ref a) ∧ (∃ o, K.lookup a = some o ∧ o.cls = .type "tuple" ∧ o.dict = none) ∧ ∀ H, SqT K H a (ys.map V.str)
theorem repl_strs {K : PySem.W.Frag} {S : Sg} : ∀ ys : List Str, RepL K S (ys.map D.str) (ys.map V.str)
  | [] => RepL.nil
  | _ :: r => .cons rfl (repl_strs r)
theorem GlobR.glob {K : PySem.W.Frag} {mg : Str → Option Value} {x : Str} {ys : List Str} (g : GlobR K mg x ys) : Glob K mg x (.tup (ys.map D.str)) := by
  obtain ⟨a, h1, _, h3⟩ := g
  exact ⟨.ref a, .ref a, h1, rfl, fun S => ⟨a, _, rfl, h3 S.Z, repl_strs ys⟩⟩
section
variable {X : Cx} {Γ : En} {M : Ms} {e o : Expr} {k : KD} {kx : KX} {pos apos p cpos : Pos} {nm : Str} {ys : List Str}
/-- NAME.index(e), NAME a tuple of strings that the top left -/
theorem ge_gindex (g : GlobR X.K X.mg nm ys) (h : GE X Γ M e (fun y M1 => ∃ (z : Str) (j : Nat), y = .str z ∧ ys[j]? = some z ∧ (∀ m, m < j → ys[m]? ≠ some z) ∧ k (.int (j : Nat)) M1) kx) (hg : Gl X nm := by rfl) (h1 : (nm == ("__debug__" : Str)) = false := by decide)
    (hbase : attributeBase (.Name nm p) "index" X.env (eval (.Name nm p) X.env) = eval (.Name nm p) X.env := by rfl)
    (hfew : ((backTo cpos (starEach (e :: []) X.env)).all (fun x => !x.1) && (backToKw cpos (keywordEach [] X.env)).all (fun x => x.1.isSome)
      && decide ((e :: []).length + ([] : List Keyword).length + (if ([] : List Keyword).isEmpty then 0 else 1) < 30)) = true := by rfl)
    (hline : (apos.endLine == cpos.line) = true := by rfl) (hs : starEach (e :: []) X.env = (false, eval e X.env) :: starEach [] X.env := by rfl) (hplain : (backTo cpos (starEach [] X.env)).any (·.1) = false := by rfl) :
    GE X Γ M (.Call (.Attribute (.Name nm p) "index" apos) [e] [] cpos) k kx := by
  obtain ⟨a, g1, g2, g3⟩ := g
  refine ge_bm PySem.F.plainAttrs_tuple PySem.F.slot_tuple_index PySem.F.type_tuple_index mt_tup_index (ge_glob (d := .raw (.ref a)) ⟨.ref a, .ref a, g1, rfl, fun S => rfl⟩ ⟨fun S v hM r => ?_, ga_cons (h.mono (fun y M1 ⟨z, j, e, hj, hno, hk⟩ => ga_nil fun S vx vs hM rx rv Q hQ => ?_) fun _ _ _ q => q) hs⟩ hg h1) hbase hfew hline hs hplain
  · cases r
    exact .inr (.inl ⟨rfl, g2⟩)
  · cases rx
    subst e
    obtain ⟨v, rfl, rfl⟩ := rep1 rv
    exact ⟨a, ys, z, j, rfl, rfl, g3 _, hj, hno, hQ _ _ S _ hk hM (Grow.refl _) rfl⟩
end
end PD
namespace PD
open PySem L2
open Evl (Ex ex_rd ex_l ex_t)
theorem gb_eq {X : Cx} {Γ : En} {M M' : Ms} {sts : List Stmt} {E : ED} (e : M = M') (h : GB X Γ M' sts E) : GB X Γ M sts E := by rw [e]; exact h
theorem ge_eqM {X : Cx} {Γ : En} {M M' : Ms} {e : Expr} {k : KD} {kx : KX} (q : M = M') (h : GE X Γ M' e k kx) : GE X Γ M e k kx := by rw [q]; exact h
end PD
namespace PD
open PySem L2
open Evl (Ex ex_rd ex_l ex_t)
theorem repl_ints {K : PySem.W.Frag} {S : Sg} : ∀ ys : List Int, RepL K S (ys.map D.int) (ys.map V.int)
  | [] => RepL.nil
  | _ :: r => .cons rfl (repl_ints r)
/-- the law's own def: a list of ints is handed in -/
theorem fn_top {P : Program} {w : World} {K : PySem.W.Frag} {mg : Str → Option Value} {base : Heap} {CX : CXT} {n k : Nat} {fa : Addr} {fd : FuncData} {x : Str} {R : RSp} (F : FnOk P w K mg base CX k fa fd [x] (spD K R))
    (h : ∀ ns : List Int, ns.length ≤ n → R [.seq (ns.map D.int)] [] (fun d _ => d = .bl true) (fun _ _ _ => False)) :
    FnOk P w K mg base CX k fa fd [x] (fun vs H Q E => ∃ (a : Addr) (ns : List Int), vs = [.ref a] ∧ ns.length ≤ n ∧ SqL K H a (ns.map V.int) ∧ Q = (fun v _ => v = .bl true) ∧ E = fun _ _ _ => False) :=
  F.imp fun vs H Q E ⟨a, ns, e1, hl, hS, e2, e3⟩ => by
    subst e1; subst e2; subst e3
    exact ⟨⟨[], H, H⟩, [.seq (ns.map D.int)], [], _, _, rfl, ⟨rfl, List.nodup_nil, Ex.refl _, fun _ h => (nomatch h), fun _ h => (nomatch h)⟩, .cons ⟨a, _, rfl, hS, repl_ints ns⟩ RepL.nil, h ns hl, fun d M' S' v e _ _ r => by rw [e] at r; exact r, fun _ _ _ _ _ e _ _ _ => e⟩
end PD

set_option Elab.async false
set_option linter.all false
set_option maxRecDepth 100000
set_option maxHeartbeats 4000000
/-! PD: starred items, joins, f-strings. -/
namespace PD
open PySem L2
open Evl (Ex ex_rd ex_l ex_t)
/-- d holds the items ds, one behind the other -/
inductive SeqD (M : Ms) : D → List D → Prop
  | tup {ds : List D} : SeqD M (.tup ds) ds
  | lst {ds : List D} : SeqD M (.lst ds) ds
  | seq {ds : List D} : SeqD M (.seq ds) ds
  | hdl {ds : List D} {h : Addr} (p : Nat) (hm : M[p]? = some (h, .lst ds)) : SeqD M (.hdl h) ds
theorem SeqD.at {K : PySem.W.Frag} {S : Sg} {M : Ms} {d : D} {ds : List D} {v : V} (h : SeqD M d ds) (hM : OkM K S M) (r : Rep K S d v) : ∃ a xs, v = .ref a ∧ (SqT K S.H a xs ∨ SqL K S.H a xs) ∧ RepL K S ds xs := by
  cases h with
  | tup => obtain ⟨a, xs, rfl, h, rr⟩ := r; exact ⟨a, xs, rfl, .inl (ex_t hM.zh h), rr⟩
  | lst => obtain ⟨a, xs, rfl, h, rr⟩ := r; exact ⟨a, xs, rfl, .inr (SqL.of (hM.zh _ _ h)), rr⟩
  | seq => obtain ⟨a, xs, rfl, h, rr⟩ := r; exact ⟨a, xs, rfl, .inr (ex_l hM.zh h), rr⟩
  | hdl p hm =>
    cases r
    obtain ⟨_, xs, h1, r1⟩ := hM.at hm
    exact ⟨_, xs, rfl, .inr (SqL.of h1), r1⟩
section
variable {X : Cx} {Γ : En} {M : Ms} {e o : Expr} {es : List Expr} {k : KD} {kx : KX} {d x y z : D} {pos apos p cpos : Pos}
theorem ga_star {k : KDs} (h : GE X Γ M e (fun d M1 => ∃ ds, SeqD M1 d ds ∧ GA X Γ M1 es (fun ys M2 => k (ds ++ ys) M2) kx) kx) (hs : starEach (.Starred e p :: es) X.env = (true, eval e X.env) :: starEach es X.env := by rfl) : GA X Γ M (.Starred e p :: es) k kx := fun S σ hM hE W tk hW Q hQ =>
  of_pa (StX.pa_star we wa hs) (h S σ hM hE W tk hW _ fun d M1 S1 v ⟨ds, sq, h1⟩ hM1 g1 r1 => by
    obtain ⟨a, xs, rfl, h2, rr⟩ := sq.at hM1 r1
    exact ⟨a, xs, rfl, h2, h1 S1 σ hM1 (hE.grow g1) W tk (hW.grow g1) _ fun ys M2 S2 vs hk hM2 g2 r2 => hQ _ M2 S2 _ hk hM2 (g1.trans g2) ((rr.grow g2).app r2)⟩)
/-- parts of an f-string, acc told so far -/
def GJ (X : Cx) (Γ : En) (kx : KX) : Ms → List Expr → Str → (Str → Ms → Prop) → Prop
  | M, [], acc, k => k acc M
  | M, e :: es, acc, k => GE X Γ M e (fun d M1 => ∃ y : Str, d = .str y ∧ (acc ++ y).length ≤ 16777216 ∧ GJ X Γ kx M1 es (acc ++ y) k) kx
theorem gj_run {X : Cx} {Γ : En} {kx : KX} {S0 : Sg} : ∀ (es : List Expr) (M : Ms) (acc : Str) (k : Str → Ms → Prop) (S : Sg) (σ : L2.St), GJ X Γ kx M es acc k → OkM X.K S M → Grow S0 S → EnvOk X.K S σ Γ → ∀ W, Takes X W → KW X.K S kx W σ → ∀ Q : Str → Hp → Prop, (∀ s M' S', k s M' → OkM X.K S' M' → Grow S0 S' → Q s S'.H) →
    tJs (es.map (WE X)) acc σ S.H Q
  | [], M, acc, k, S, σ, h, hM, g, hE, W, tk, hW, Q, hQ => hQ acc M S h hM g
  | e :: es, M, acc, k, S, σ, h, hM, g, hE, W, tk, hW, Q, hQ => h S σ hM hE W tk hW _ fun d M1 S1 v ⟨y, e1, hl, h1⟩ hM1 g1 r1 => by
    subst e1; cases r1
    exact ⟨y, rfl, hl, gj_run es M1 (acc ++ y) k S1 σ h1 hM1 (g.trans g1) (hE.grow g1) W tk (hW.grow g1) Q hQ⟩
theorem pj_all : ∀ es : List Expr, PJ X es (es.map (WE X))
  | [] => .nil
  | _ :: es => .cons we (pj_all es)
theorem ge_fstr {v1 v2 : Expr} {rest : List Expr} (h : GJ X Γ kx M (v1 :: v2 :: rest) Str.empty (fun s M1 => k (.str s) M1)) : GE X Γ M (.JoinedStr (v1 :: v2 :: rest) pos) k kx := fun S σ hM hE W tk hW Q hQ =>
  of_pe (pe_joined (pj_all (v1 :: v2 :: rest))) (gj_run (S0 := S) (v1 :: v2 :: rest) M Str.empty _ S σ h hM (Grow.refl _) hE W tk hW (fun out H1 => Q (.str out) H1) fun s M' S' hk hM' g => hQ (.str s) M' S' (.str s) hk hM' g rfl)
theorem ge_fmtS (h : GE X Γ M e (fun d M1 => ∃ s : Str, d = .str s ∧ s.length ≤ 16777216 ∧ k (.str s) M1) kx) : GE X Γ M (.FormattedValue e (-1) none pos) k kx := fun S σ hM hE W tk hW Q hQ =>
  of_pe (pe_fmt we) (h S σ hM hE W tk hW _ fun d M1 S1 v ⟨s, e1, hl, h1⟩ hM1 g1 r1 => by
    subst e1; cases r1
    exact .inl ⟨s, rfl, hl, hQ (.str s) M1 S1 _ h1 hM1 g1 rfl⟩)
theorem ge_fmtI (h : GE X Γ M e (fun d M1 => ∃ i : Int, d = .int i ∧ i.natAbs.log2 < 1920 ∧ k (.str (toString i)) M1) kx) : GE X Γ M (.FormattedValue e (-1) none pos) k kx := fun S σ hM hE W tk hW Q hQ =>
  of_pe (pe_fmt we) (h S σ hM hE W tk hW _ fun d M1 S1 v ⟨i, e1, hl, h1⟩ hM1 g1 r1 => by
    subst e1; cases r1
    exact .inr ⟨i, rfl, hl, hQ (.str (toString i)) M1 S1 _ h1 hM1 g1 rfl⟩)
/-- s.join(xs) -/
theorem ge_join (h : GE X Γ M o (fun x M1 => ∃ a : Str, x = .str a ∧ GE X Γ M1 e (fun y M2 => ∃ ys : List Str, SeqD M2 y (ys.map D.str) ∧ (ys.map (·.length)).sum + ys.length * a.length ≤ 16777216 ∧ k (.str (Txt.join a ys)) M2) kx) kx)
    (hbase : attributeBase o "join" X.env (eval o X.env) = eval o X.env := by rfl)
    (hfew : ((backTo cpos (starEach (e :: []) X.env)).all (fun x => !x.1) && (backToKw cpos (keywordEach [] X.env)).all (fun x => x.1.isSome)
      && decide ((e :: []).length + ([] : List Keyword).length + (if ([] : List Keyword).isEmpty then 0 else 1) < 30)) = true := by rfl)
    (hline : (apos.endLine == cpos.line) = true := by rfl) (hs : starEach (e :: []) X.env = (false, eval e X.env) :: starEach [] X.env := by rfl) (hplain : (backTo cpos (starEach [] X.env)).any (·.1) = false := by rfl) :
    GE X Γ M (.Call (.Attribute o "join" apos) [e] [] cpos) k kx :=
  ge_bm PySem.F.plainAttrs_str PySem.F.slot_str_join PySem.F.type_str_join mt_join (h.mono (fun x M1 ⟨a, e1, h1⟩ => by
    subst e1
    refine ⟨fun S v _ r => by cases r; exact rfl, ga_cons (h1.mono (fun y M2 ⟨ys, sq, hl, hk⟩ => ga_nil fun S vx vs hM rx rv Q hQ => ?_) fun _ _ _ q => q) hs⟩
    cases rx
    obtain ⟨v, rfl, ru⟩ := rep1 rv
    obtain ⟨p, xs, rfl, h2, rr⟩ := sq.at hM ru
    have := repStr rr
    subst this
    exact ⟨a, p, ys, rfl, rfl, h2.symm, hl, hQ _ _ S _ hk hM (Grow.refl _) rfl⟩) fun _ _ _ q => q) hbase hfew hline hs hplain
/-- isinstance(e, (T1, T2)) -/
theorem ge_isiT2 {nm1 nm2 : Str} {T1 T2 : String} {j : Nat} {ptup p1 p2 : Pos} (hm : X.mg "isinstance" = none) (m1 : X.mg nm1 = none) (v1 : bootBuiltins nm1 = some (.type T1)) (m2 : X.mg nm2 = none) (v2 : bootBuiltins nm2 = some (.type T2))
    (h : GE X Γ M e (fun d M1 => ∃ t b1 b2, tyN d = some t ∧ kitB t T1 = some b1 ∧ kitB t T2 = some b2 ∧ k (.bl (b1 || b2)) M1) kx) (g0 : Gl X "isinstance" := by rfl) (g1 : Gl X nm1 := by rfl) (g2 : Gl X nm2 := by rfl) (n1' : nm1 ≠ "__name__" := by decide) (n2' : nm2 ≠ "__name__" := by decide) (d1 : (nm1 == ("__debug__" : Str)) = false := by decide) (d2 : (nm2 == ("__debug__" : Str)) = false := by decide)
    (he : starEach [e, .Tuple [.Name nm1 p1, .Name nm2 p2] j ptup] X.env = (false, eval e X.env) :: starEach [.Tuple [.Name nm1 p1, .Name nm2 p2] j ptup] X.env := by rfl) (hpl : (backTo pos (starEach [.Tuple [.Name nm1 p1, .Name nm2 p2] j ptup] X.env)).any (·.1) = false := by rfl)
    (he2 : starEach [.Tuple [.Name nm1 p1, .Name nm2 p2] j ptup] X.env = (false, eval (.Tuple [.Name nm1 p1, .Name nm2 p2] j ptup) X.env) :: starEach [] X.env := by rfl)
    (he3 : starEach [.Name nm1 p1, .Name nm2 p2] X.env = (false, eval (.Name nm1 p1) X.env) :: starEach [.Name nm2 p2] X.env := by rfl) (he4 : starEach [.Name nm2 p2] X.env = (false, eval (.Name nm2 p2) X.env) :: starEach [] X.env := by rfl) :
    GE X Γ M (.Call (.Name "isinstance" p) [e, .Tuple [.Name nm1 p1, .Name nm2 p2] j ptup] [] pos) k kx := fun S σ hM hE W tk hW Q hQ =>
  of_pe (pe_callB call_isiT g0 hm PyProof.Rows.boot_isinstance (pa_cons we (pa_cons (pe_tup (pa_cons (pe_bltn (v := .ty T1) g1 m1 v1 rfl n1' d1) (pa_cons (pe_bltn (v := .ty T2) g2 m2 v2 rfl n2' d2) pa_nil he4) he3)) pa_nil he2) he) (by decide) (by decide) he hpl)
    (h S σ hM hE W tk hW _ fun d M1 S1 v ⟨t, b1, b2, ht, q1, q2, hk⟩ hM1 g r => by
      refine ⟨by show 2 ≤ 16777216; decide, fun q hq => ?_⟩
      obtain ⟨hM2, g2⟩ := new_z (o := .tup [V.ty T1, V.ty T2]) hM1 hq
      refine ⟨v, q, [V.ty T1, V.ty T2], .type t, [.type T1, .type T2], b1 || b2, rfl, upd_same, .cons (.ty T1) (.cons (.ty T2) .nil), ty_of hM2 (r.grow g2) ht, ?_, hQ (.bl (b1 || b2)) M1 _ _ hk hM2 (g.trans g2) rfl⟩
      unfold PySem.W.kitAny
      rw [kit_ty q1]
      cases b1
      · show PySem.W.kitAny _ _ _ = _
        unfold PySem.W.kitAny
        rw [kit_ty q2]
        cases b2 <;> rfl
      · rfl)
end
section
variable {K : PySem.W.Frag} {M : Ms} {k : KD} {i j : Int}
theorem mulS_int (hc : CMul i j) (hk : k (.int (i * j)) M) : Bin K (rI CMul fun i j => .int (i * j)) (.int i) (.int j) M k := bin_flat (v := .int (i * j)) (fun S vx vy _ rx ry Q q => ⟨i, j, rx, ry, hc, q⟩) hk
end
section
variable {X : Cx} {Γ : En} {M : Ms} {e : Expr} {k : KD} {kx : KX} {i : Int} {pos : Pos}
theorem ge_neg (h : GE X Γ M e (fun d M1 => ∃ i, d = .int i ∧ k (.int (-i)) M1) kx) : GE X Γ M (.UnaryOp .USub e pos) k kx := fun S σ hM hE W tk hW Q hQ =>
  of_pe (pe_un un_neg we) (h S σ hM hE W tk hW _ fun d M1 S1 v ⟨i, e1, hk⟩ hM1 g1 r => by
    subst e1; cases r
    exact ⟨i, rfl, hQ (.int (-i)) M1 S1 _ hk hM1 g1 rfl⟩)
theorem ev_neg (h : EV X Γ M e (.int i)) : EV X Γ M (.UnaryOp .USub e pos) (.int (-i)) := ge_neg (h.ge ⟨i, rfl, rfl, rfl⟩)
end
theorem join_len (a : Str) (ys : List Str) : (Txt.join a ys).length ≤ (ys.map (·.length)).sum + ys.length * a.length := by
  rw [show Txt.join a ys = Str.join a ys from PySem.StrLaws.glued_eq_join a ys]
  exact PySem.StrLaws.join_length_le a ys
theorem empty_app (s : Str) : Str.empty ++ s = s := PySem.Str.empty_append s
/-- f(k = v, ..) -/
theorem ge_callK0 {X : Cx} {Γ : En} {M : Ms} {kws : List Keyword} {ks : List Str} {sel : List (Nat × Nat)} {k : KD} {kx : KX} {pos p : Pos} {nm : Str} {j l : Nat} {dds : List D} {R : RSp} (F : FnK X.prog X.w X.K X.mg X.base j nm 0 ks sel dds R) (hr : Room l X.A) (hl : j ≤ l) (h : GK X Γ M kws (fun zs M2 => zs.length = ks.length ∧ ∃ kk, CallOk R kk (selL sel [] dds zs) M2 k kx) kx)
    (hall : (backToKw pos (keywordEach kws X.env)).all (·.1.isSome) = true := by rfl) (hks : (backToKw pos (keywordEach kws X.env)).filterMap (·.1) = ks := by rfl) (hg : Gl X nm := by rfl)
    (hdb : (nm == ("__debug__" : Str)) = false := by decide) (hpl : ((backTo pos (starEach [] X.env)).any (·.1) || (backToKw pos (keywordEach kws X.env)).any (·.1.isNone)) = false := by rfl) : GE X Γ M (.Call (.Name nm p) [] kws pos) k kx := fun S σ hM hE W tk hW Q hQ pins s I => by
  obtain ⟨f, fd, ps, hm, hk, ⟨g, gV, hb, hrep⟩, F⟩ := F.ex
  refine wpAny_Call_Name_kw (ld_glob I hg hm ?_ hdb)
  refine PySem.W.callWith_KW0 (h₀ := X.base) I.ok.mod.kin hk hall ?_ hpl
  refine thn (h S σ hM hE W tk hW (fun zs H2 => zs.length = ks.length ∧ spD X.K R (gV [] zs) H2 Q (L2.WE W σ)) (fun zs M2 S2 ws ⟨q2, kk, q3⟩ hM2 g2 r2 => ⟨r2.len.trans q2, sp_of hM2 (hrep S2 _ _ _ _ RepL.nil r2) q3 (hQ.grow g2) (hW.grow g2)⟩) pos pins s I) fun ws s2 ⟨zs, H2, I2, rz, l2, q2⟩ => ⟨I2.kIn, ?_⟩
  rw [hks]
  exact run_fnNS (us := []) (vs := []) (EE := L2.WE W) F (hr.mono hl) hb (passAt tk σ) I2 .nil rz rfl l2 q2
end PD

set_option Elab.async false
set_option linter.all false
set_option maxRecDepth 100000
set_option maxHeartbeats 4000000
/-! PD: dicts. -/
namespace PD
open PySem L2
open Evl (Ex ex_rd ex_l ex_t)
def kD : Key → D
  | .inl i => .int i
  | .inr s => .str s
/-- a dict, standing or not -/
inductive DctD (M : Ms) : D → List Key → List D → Prop
  | dct {ks : List Key} {ds : List D} : DctD M (.dct ks ds) ks ds
  | hdl {ks : List Key} {ds : List D} {h : Addr} (p : Nat) (hm : M[p]? = some (h, .dct ks ds)) : DctD M (.hdl h) ks ds
  | lck {ks : List Key} {ds : List D} {h : Addr} {u : HO} (p : Nat) (hm : M[p]? = some (h, .lck u ks ds)) : DctD M (.hdl h) ks ds
theorem DctD.at {K : PySem.W.Frag} {S : Sg} {M : Ms} {d : D} {ks : List Key} {ds : List D} {v : V} (h : DctD M d ks ds) (hM : OkM K S M) (r : Rep K S d v) : ∃ a kvs, v = .ref a ∧ Rd S.H a (.dK kvs) ∧ kvs.map (·.1) = ks ∧ RepL K S ds (kvs.map (·.2)) := by
  cases h with
  | dct => obtain ⟨a, kvs, rfl, h, e, rr⟩ := r; exact ⟨a, kvs, rfl, .inl (hM.zh _ _ h), e, rr⟩
  | hdl p hm =>
    cases r
    obtain ⟨_, kvs, h1, e, r1⟩ := hM.at hm
    exact ⟨_, kvs, rfl, .inl h1, e, r1⟩
  | lck p hm =>
    cases r
    obtain ⟨_, h1, od, kvs, e0, e, r1⟩ := hM.at hm
    exact ⟨_, kvs, rfl, .inr ⟨od, by rw [h1, e0]⟩, e, r1⟩
theorem dget_rd {H : Hp} {a : Addr} {kvs : List (Key × V)} {k : Key} (e : Rd H a (.dK kvs)) : DGet H a (kV k) (valV kvs k) := .inl ⟨kvs, k, e, rfl, rfl⟩
def valK : List Key → List D → Key → Option D
  | q :: ks, d :: ds, k => if q = k then some d else valK ks ds k
  | _, _, _ => none
/-- .. with a value at a key -/
def putDs : List Key → List D → Key → D → List D
  | q :: ks, d :: ds, k, y => (if q = k then y else d) :: putDs ks ds k y
  | _, ds, _, _ => ds
theorem valK_at {K : PySem.W.Frag} {S : Sg} : ∀ {kvs : List (Key × V)} {ds : List D} {k : Key}, RepL K S ds (kvs.map (·.2)) → (∀ d, valK (kvs.map (·.1)) ds k = some d → ∃ v, valV kvs k = some v ∧ Rep K S d v) ∧ (valK (kvs.map (·.1)) ds k = none → valV kvs k = none)
  | [], ds, k, r => by
    cases ds with
    | nil => exact ⟨fun d h => (nomatch h), fun _ => rfl⟩
    | cons d ds => obtain ⟨x, q, e, _⟩ := r; cases e
  | (q, u) :: kvs, [], k, r => by cases r
  | (q, u) :: kvs, d :: ds, k, r => by
    obtain ⟨x, xs, e, rx, rr⟩ := r
    have e1 : u = x ∧ kvs.map (·.2) = xs := by simpa using e
    obtain ⟨rfl, rfl⟩ := e1
    have ih := valK_at (k := k) rr
    simp only [List.map_cons, valK]
    by_cases h : q = k
    · rw [if_pos h, valV_pos (p := (q, u)) h]
      exact ⟨fun d' e => ⟨u, rfl, by cases e; exact rx⟩, fun e => (nomatch e)⟩
    · rw [if_neg h, valV_neg (p := (q, u)) h]
      exact ih
theorem put_maps {kvs : List (Key × V)} {k : Key} {v : V} : (kvs.map fun kv => if kv.1 = k then (kv.1, v) else kv).map (·.1) = kvs.map (·.1) := by
  rw [List.map_map]
  apply List.map_congr_left
  intro p _
  by_cases h : p.1 = k <;> simp [h]
theorem put_reps {K : PySem.W.Frag} {S : Sg} {k : Key} {v : V} {d : D} (rv : Rep K S d v) : ∀ {kvs : List (Key × V)} {ds : List D}, RepL K S ds (kvs.map (·.2)) → RepL K S (putDs (kvs.map (·.1)) ds k d) ((kvs.map fun kv => if kv.1 = k then (kv.1, v) else kv).map (·.2))
  | [], ds, r => by cases ds <;> exact r
  | (q, u) :: kvs, [], r => by cases r
  | (q, u) :: kvs, d' :: ds, r => by
    obtain ⟨x, xs, e, rx, rr⟩ := r
    have e1 : u = x ∧ kvs.map (·.2) = xs := by simpa using e
    obtain ⟨rfl, rfl⟩ := e1
    have ih := put_reps (k := k) rv rr
    simp only [List.map_cons, putDs]
    by_cases h : q = k
    · rw [if_pos h, if_pos h]; exact .cons rv ih
    · rw [if_neg h, if_neg h]; exact .cons rx ih
/-- what a store at a key makes of keys and values -/
inductive PutK (ks : List Key) (ds : List D) (k : Key) (d : D) : List Key → List D → Prop
  | old (h : k ∈ ks) : PutK ks ds k d ks (putDs ks ds k d)
  | new (h : k ∉ ks) : PutK ks ds k d (ks ++ [k]) (ds ++ [d])
theorem PutK.at {K : PySem.W.Frag} {S : Sg} {ks ks' : List Key} {ds ds' : List D} {k : Key} {d : D} {kvs : List (Key × V)} {v : V} (h : PutK ks ds k d ks' ds') (hf : kvs.map (·.1) = ks) (hr : RepL K S ds (kvs.map (·.2))) (rv : Rep K S d v) :
    (putK kvs k v).map (·.1) = ks' ∧ RepL K S ds' ((putK kvs k v).map (·.2)) := by
  subst hf
  unfold putK
  cases h with
  | old h =>
    have e : (kvs.any fun kv => decide (kv.1 = k)) = true := by
      obtain ⟨p, hp, e⟩ := List.mem_map.mp h
      exact List.any_eq_true.mpr ⟨p, hp, by simpa using e⟩
    rw [if_pos e]
    exact ⟨put_maps, put_reps rv hr⟩
  | new h =>
    have e : ¬ (kvs.any fun kv => decide (kv.1 = k)) = true := fun z => by
      obtain ⟨p, hp, e⟩ := List.any_eq_true.mp z
      exact h (List.mem_map.mpr ⟨p, hp, by simpa using e⟩)
    rw [if_neg e, List.map_append, List.map_append]
    exact ⟨rfl, hr.app (.one rv)⟩
theorem rep_kD {K : PySem.W.Frag} {S : Sg} {k : Key} {v : V} (r : Rep K S (kD k) v) : v = kV k := by cases k <;> exact r
def WC (X : Cx) (op : CmpOp) (a b : Expr) : TE := fun σ H Q => ∀ (pins : List (Addr × Obj)) (s : Shared), Inv X pins σ H s → True
section
variable {X : Cx} {Γ : En} {M : Ms} {e o i : Expr} {k : KD} {kx : KX} {d x y z : D} {pos pos' p : Pos} {E : ED}
/-- o[i], o a dict -/
theorem ge_dget (hu : X.A.units + 1 < cLine) (hs : NoSl i) (h : GE X Γ M o (fun x M1 => GE X Γ M1 i (fun y M2 => ∃ ks ds q d, DctD M2 x ks ds ∧ y = kD q ∧ valK ks ds q = some d ∧ k d M2) kx) kx) : GE X Γ M (.Subscript o i pos) k kx := fun S σ hM hE W tk hW Q hQ =>
  of_pe (pe_dget hu we we hs) (h S σ hM hE W tk hW _ fun x M1 S1 vx h1 hM1 g1 rx => h1 S1 σ hM1 (hE.grow g1) W tk (hW.grow g1) _ fun y M2 S2 vy ⟨ks, ds, q, d, hd, e1, hv, hk⟩ hM2 g2 ry => by
    subst e1
    have ey := rep_kD ry
    subst ey
    obtain ⟨a, kvs, rfl, hh, e2, rr⟩ := hd.at hM2 (rx.grow g2)
    subst e2
    obtain ⟨v, hvv, rv⟩ := (valK_at rr).1 d hv
    exact ⟨a, v, rfl, by rw [← hvv]; exact dget_rd hh, hQ d M2 S2 v hk hM2 (g1.trans g2) rv⟩)
theorem ge_din (hu : X.A.units + 1 < cLine) (h : GE X Γ M i (fun y M1 => GE X Γ M1 o (fun x M2 => ∃ ks ds q, DctD M2 x ks ds ∧ y = kD q ∧ k (.bl (valK ks ds q).isSome) M2) kx) kx) (hb : behindInMarks .In o = false := by first | exact nobehind _ (by decide) (by decide) | rfl) : GE X Γ M (.Compare i [.In] [o] pos) k kx := fun S σ hM hE W tk hW Q hQ =>
  of_pe (pe_cmp (pc_din hu we we) hb) (h S σ hM hE W tk hW _ fun y M1 S1 vy h1 hM1 g1 ry => h1 S1 σ hM1 (hE.grow g1) W tk (hW.grow g1) _ fun x M2 S2 vx ⟨ks, ds, q, hd, e1, hk⟩ hM2 g2 rx => by
    subst e1
    have ey := rep_kD ry
    subst ey
    obtain ⟨a, kvs, rfl, hh, e2, rr⟩ := hd.at hM2 rx
    subst e2
    have eo : (valV kvs q).isSome = (valK (kvs.map (·.1)) ds q).isSome := by
      cases e : valK (kvs.map (·.1)) ds q with
      | none => rw [(valK_at rr).2 e]; rfl
      | some d => obtain ⟨v, hv, _⟩ := (valK_at rr).1 d e; rw [hv]; rfl
    refine ⟨a, valV kvs q, rfl, dget_rd hh, ?_⟩
    rw [eo]
    exact hQ _ M2 S2 _ hk hM2 (g1.trans g2) rfl)
theorem ge_dnotin (hu : X.A.units + 1 < cLine) (h : GE X Γ M i (fun y M1 => GE X Γ M1 o (fun x M2 => ∃ ks ds q, DctD M2 x ks ds ∧ y = kD q ∧ k (.bl (!(valK ks ds q).isSome)) M2) kx) kx) (hb : behindInMarks .NotIn o = false := by first | exact nobehind _ (by decide) (by decide) | rfl) : GE X Γ M (.Compare i [.NotIn] [o] pos) k kx := fun S σ hM hE W tk hW Q hQ =>
  of_pe (pe_cmp (pc_dnotin hu we we) hb) (h S σ hM hE W tk hW _ fun y M1 S1 vy h1 hM1 g1 ry => h1 S1 σ hM1 (hE.grow g1) W tk (hW.grow g1) _ fun x M2 S2 vx ⟨ks, ds, q, hd, e1, hk⟩ hM2 g2 rx => by
    subst e1
    have ey := rep_kD ry
    subst ey
    obtain ⟨a, kvs, rfl, hh, e2, rr⟩ := hd.at hM2 rx
    subst e2
    have eo : (valV kvs q).isSome = (valK (kvs.map (·.1)) ds q).isSome := by
      cases e : valK (kvs.map (·.1)) ds q with
      | none => rw [(valK_at rr).2 e]; rfl
      | some d => obtain ⟨v, hv, _⟩ := (valK_at rr).1 d e; rw [hv]; rfl
    refine ⟨a, valV kvs q, rfl, dget_rd hh, ?_⟩
    rw [eo]
    exact hQ _ M2 S2 _ hk hM2 (g1.trans g2) rfl)
/-- o[i] = e, o a dict that may change -/
theorem gs_dput (hu : X.A.units + 1 < cLine) (h : GE X Γ M e (fun d M1 => GE X Γ M1 o (fun x M2 => GE X Γ M2 i (fun y M3 => ∃ (j : Nat) (a : Addr) (ks ks' : List Key) (ds ds' : List D) (q : Key), x = .hdl a ∧ M3[j]? = some (a, MO.dct ks ds) ∧ y = kD q ∧ ks.length < 16777216 ∧ PutK ks ds q d ks' ds' ∧ E.nx Γ (M3.set j (a, .dct ks' ds')))
    (fun c f M1 => E.ex c f Γ M1)) (fun c f M1 => E.ex c f Γ M1)) (fun c f M1 => E.ex c f Γ M1)) (hs : swapsWith e (some (.Subscript o i pos')) pos.line X.env = pure false := by rfl) : GS X Γ M (.Assign [.Subscript o i pos'] e pos) E := fun S σ hM hE W tk De L =>
  of_ps (ps_dput hu we we we hs) (h S σ hM hE W tk (L.kw hE) _ fun d M1 S1 v h1 hM1 g1 rv => h1 S1 σ hM1 (hE.grow g1) W tk ((L.kw hE).grow g1) _ fun x M2 S2 vx h2 hM2 g2 rx => h2 S2 σ hM2 ((hE.grow g1).grow g2) W tk (((L.kw hE).grow g1).grow g2) _ fun y M3 S3 vy ⟨j, a, ks, ks', ds, ds', q, e1, hj, e2, hl, hp, hk⟩ hM3 g3 ry => by
    subst e1; subst e2
    have ey := rep_kD ry
    subst ey
    have ex : vx = .ref a := rx
    subst ex
    obtain ⟨hz, kvs, hh, e3, rr⟩ := hM3.at hj
    have hl2 : kvs.length < sizeLine := by rw [← e3, List.length_map] at hl; exact hl
    obtain ⟨p1, p2⟩ := hp.at e3 rr ((rv.grow g2).grow g3)
    obtain ⟨hM4, g4⟩ := set_m (o := .dK (putK kvs q v)) (m := .dct ks' ds') hM3 hj hz (fun g => ⟨hz, _, upd_same, p1, p2.grow g⟩)
    have gg := ((g1.trans g2).trans g3).trans g4
    exact ⟨a, _, rfl, .inl ⟨kvs, q, hh, rfl, hl2, rfl⟩, L.nx Γ _ ⟨S3.as, S3.Z, upd S3.H a (.dK (putK kvs q v))⟩ σ hk hM4 gg (hE.grow gg)⟩)
end
section
variable {K : PySem.W.Frag} {M : Ms} {k : KD} {x : D} {ks : List Key} {ds : List D}
/-- dict(d): a copy -/
theorem dct_of (h : DctD M x ks ds) (hk : k (.dct ks ds) M) : CallD K (fun xs H Q => ∃ (a : Addr) (kvs : List (Key × V)), xs = [.ref a] ∧ Rd H a (.dK kvs) ∧ ∀ p, H p = none → Q (.ref p) (upd H p (.dK kvs))) [x] M k := fun S vs hM rv Q hQ => by
  obtain ⟨v, rfl, r⟩ := rep1 rv
  obtain ⟨a, kvs, rfl, hh, e, rr⟩ := h.at hM r
  refine ⟨a, kvs, rfl, hh, fun l hl => ?_⟩
  obtain ⟨hM2, g2⟩ := new_z (o := .dK kvs) hM hl
  exact hQ _ M ⟨S.as, upd S.Z l (.dK kvs), upd S.H l (.dK kvs)⟩ (.ref l) hk hM2 g2 ⟨l, kvs, rfl, upd_same, e, rr.grow g2⟩
end
end PD

set_option Elab.async false
set_option linter.all false
set_option maxRecDepth 100000
set_option maxHeartbeats 4000000
/-! PD: chained comparisons, tuples stored into attributes. -/
namespace PD
open PySem L2
open Evl (Ex ex_rd ex_l ex_t)
section
variable {X : Cx} {Γ : En} {M : Ms} {a b c e o : Expr} {k : KD} {kx : KX} {pos : Pos} {op op' : CmpOp} {r r' : R2}
/-- a op b op' c -/
theorem ge_chain (ho : OpR X (compareOp op) r) (ho' : OpR X (compareOp op') r') (h : GE X Γ M a (fun x M1 => GE X Γ M1 b (fun y M2 => Bin X.K r x y M2 fun z M3 => ∃ v, z = .bl v ∧ (v = true → GE X Γ M3 c (fun w M4 => Bin X.K r' y w M4 k) kx) ∧ (v = false → k (.bl false) M3)) kx) kx) (hm : lastMarks [op, op'] [b, c] = false := by rfl) : GE X Γ M (.Compare a [op, op'] [b, c] pos) k kx := fun S σ hM hE W tk hW Q hQ =>
  of_pe (pe_chain ho ho' we we we (hm := hm)) (h S σ hM hE W tk hW _ fun x M1 S1 vx h1 hM1 g1 rx => h1 S1 σ hM1 (hE.grow g1) W tk (hW.grow g1) _ fun y M2 S2 vy h2 hM2 g2 ry => h2 S2 vx vy hM2 (rx.grow g2) ry _ fun z M3 S3 vz ⟨v, e1, q1, q2⟩ hM3 g3 rz => by
    subst e1; cases rz
    have g := (g1.trans g2).trans g3
    refine ⟨v, rfl, ?_⟩
    cases v
    · exact hQ _ M3 S3 _ (q2 rfl) hM3 g rfl
    · exact q1 rfl S3 σ hM3 (hE.grow g) W tk (hW.grow g) _ fun w M4 S4 vw h4 hM4 g4 rw' => h4 S4 vy vw hM4 ((ry.grow g3).grow g4) rw' Q (hQ.grow (g.trans g4)))
end
/-! ### attributes as targets -/
def gFld (K : PySem.W.Frag) (to : TE) (f : Str) : TG := fun v σ H Q => to σ H fun x H1 => ∃ a C dx fs, x = .ref a ∧ H1 a = some (.ins C dx fs) ∧ Cls K C ∧ NoAttr K C f ∧ fs.length < 1000 ∧ Q σ (upd H1 a (.ins C dx (putF f v fs)))
theorem pg_fld {X : Cx} {o : Expr} {to : TE} {f : Str} {pos : Pos} (ho : PE X o to) : PG X (.Attribute o f pos) (gFld X.K to f) := by
  refine ⟨fun pins s σ H v u Q I r h => ?_⟩
  rw [assign_Attribute]
  refine wpAny_bind (wpAny_holding (thn (ho.run pins s σ H _ I h) fun ov s1 ⟨x, H1, I1, r1, a, C, dx, fs, ex, ea, c, n, l, q1⟩ => ?_))
  subst ex
  obtain rfl : ov = Value.ref a := r1
  refine wpAny_bind (wpAny_standAt (wpAny_bind (wpAny_holding (setattr_ok I1 ea c n l r fun s3 I3 => ?_))))
  exact wpAny_release ⟨σ, _, I3, q1⟩
section
variable {X : Cx} {Γ : En} {M : Ms} {e o1 o2 : Expr} {E : ED} {f1 f2 : Str} {pos p1 p2 pt : Pos} {kt : Nat}
/-- o1.f1, o2.f2 = e -/
theorem gs_fld2 (hc : X.calm = true) (h : GE X Γ M e (fun d M1 => ∃ u v, d = .tup [u, v] ∧ GE X Γ M1 o1 (fun x M2 => ∃ (q : Nat) (a C : Addr) (fs fs' : List Str) (ds ds' : List D), x = .hdl a ∧ M2[q]? = some (a, MO.ins C fs ds) ∧ Cls X.K C ∧ NoAttr X.K C f1 ∧ fs.length < 1000 ∧ PutA fs ds f1 u fs' ds' ∧
      GE X Γ (M2.set q (a, .ins C fs' ds')) o2 (fun x M3 => ∃ (q : Nat) (a C : Addr) (fs fs' : List Str) (ds ds' : List D), x = .hdl a ∧ M3[q]? = some (a, MO.ins C fs ds) ∧ Cls X.K C ∧ NoAttr X.K C f2 ∧ fs.length < 1000 ∧ PutA fs ds f2 v fs' ds' ∧ E.nx Γ (M3.set q (a, .ins C fs' ds')))
      fun c f M1 => E.ex c f Γ M1) fun c f M1 => E.ex c f Γ M1) fun c f M1 => E.ex c f Γ M1)
    (hs : swapsWithSole [.Tuple [.Attribute o1 f1 p1, .Attribute o2 f2 p2] kt pt] e pos.line X.env = pure false := by rfl) (hw : swappedStores [.Tuple [.Attribute o1 f1 p1, .Attribute o2 f2 p2] kt pt] e X.env = pure none := by rfl)
    (h1 : (assignEach [.Tuple [.Attribute o1 f1 p1, .Attribute o2 f2 p2] kt pt] X.env).map (·.2) = [assign (.Tuple [.Attribute o1 f1 p1, .Attribute o2 f2 p2] kt pt) X.env] := by rfl)
    (h2 : (assignEach (.Attribute o1 f1 p1 :: [.Attribute o2 f2 p2]) X.env).map (·.2) = assign (.Attribute o1 f1 p1) X.env :: (assignEach [.Attribute o2 f2 p2] X.env).map (·.2) := by rfl) (h3 : (assignEach (.Attribute o2 f2 p2 :: []) X.env).map (·.2) = assign (.Attribute o2 f2 p2) X.env :: (assignEach [] X.env).map (·.2) := by rfl)
    (hn : (assignEach [.Attribute o1 f1 p1, .Attribute o2 f2 p2] X.env).length = 2 := by rfl) (hst : (assignEach [.Attribute o1 f1 p1, .Attribute o2 f2 p2] X.env).findIdx? (·.1) = none := by rfl) :
    GS X Γ M (.Assign [.Tuple [.Attribute o1 f1 p1, .Attribute o2 f2 p2] kt pt] e pos) E := fun S σ hM hE W tk De L =>
  of_ps (ps_asg we (pg_tup hc (pgs_cons (pg_fld we) (pgs_cons (pg_fld we) pgs_nil h3) h2) hn hst) hs hw h1) (h S σ hM hE W tk (L.kw hE) _ fun d M1 S1 w ⟨u, v, e1, h1⟩ hM1 g1 rd => by
    subst e1
    obtain ⟨t, xs, rfl, ht, rr⟩ := rd
    obtain ⟨x1, xs1, e2, ru, rr⟩ := rr
    obtain ⟨x2, xs2, e3, rv, rr⟩ := rr
    have rr' : xs2 = [] := rr
    subst rr'; subst e3; subst e2
    refine ⟨t, [x1, x2], rfl, ex_t hM1.zh ht, rfl, x1, [x2], rfl, ?_⟩
    refine h1 S1 σ hM1 (hE.grow g1) W tk ((L.kw hE).grow g1) _ fun x M2 S2 vx ⟨q, a, C, fs, fs', ds, ds', ex, hq, cl, na, hl, pa, hnx⟩ hM2 g2 rx => ?_
    subst ex
    have ex : vx = .ref a := rx
    subst ex
    obtain ⟨hz, dx, kvs, hh, hf, rrr⟩ := hM2.at hq
    refine ⟨a, C, dx, kvs, rfl, hh, cl, na, by rw [← hf] at hl; simpa using hl, x2, [], rfl, ?_⟩
    obtain ⟨hM3, g3⟩ := set_m (o := .ins C dx (putF f1 x1 kvs)) (m := .ins C fs' ds') hM2 hq hz (fun g => by
      obtain ⟨q1, q2⟩ := pa.at hf (rrr.grow g) ((ru.grow g2).grow g)
      exact ⟨hz, dx, _, upd_same, q1, q2⟩)
    have g13 := (g1.trans g2).trans g3
    refine hnx ⟨S2.as, S2.Z, upd S2.H a (.ins C dx (putF f1 x1 kvs))⟩ σ hM3 (hE.grow g13) W tk ((L.kw hE).grow g13) _ fun x M4 S4 vx ⟨q, a, C, fs, fs', ds, ds', ex, hq, cl, na, hl, pa, hnx⟩ hM4 g4 rx => ?_
    subst ex
    have ex : vx = .ref a := rx
    subst ex
    obtain ⟨hz, dx, kvs, hh, hf, rrr⟩ := hM4.at hq
    refine ⟨a, C, dx, kvs, rfl, hh, cl, na, by rw [← hf] at hl; simpa using hl, ?_⟩
    obtain ⟨hM5, g5⟩ := set_m (o := .ins C dx (putF f2 x2 kvs)) (m := .ins C fs' ds') hM4 hq hz (fun g => by
      obtain ⟨q1, q2⟩ := pa.at hf (rrr.grow g) ((((rv.grow g2).grow g3).grow g4).grow g)
      exact ⟨hz, dx, _, upd_same, q1, q2⟩)
    have gg := (g13.trans g4).trans g5
    exact ⟨rfl, L.nx _ _ ⟨S4.as, S4.Z, upd S4.H a (.ins C dx (putF f2 x2 kvs))⟩ σ hnx hM5 gg (hE.grow gg)⟩)
end
end PD

set_option Elab.async false
set_option linter.all false
set_option maxRecDepth 100000
set_option maxHeartbeats 4000000
/-! PD: dict comprehensions. -/
namespace PD
open PySem L2
open Evl (Ex ex_rd ex_l ex_t)
/-- what stands in the heap is taken among what may change -/
theorem adopt_m {K : PySem.W.Frag} {S : Sg} {M : Ms} {p : Addr} {m : MO} (h : OkM K S M) (hp : S.H p ≠ none) (hn : p ∉ S.as) (hm : MRep K S p m) :
    OkM K ⟨S.as ++ [p], S.Z, S.H⟩ (M ++ [(p, m)]) ∧ ∀ S0, Grow S0 S → S0.H p = none → Grow S0 ⟨S.as ++ [p], S.Z, S.H⟩ := by
  refine ⟨⟨by simp [h.len], ?_, h.zh, fun q hq => ?_, fun a ma => ?_⟩, fun S0 g n0 => ⟨fun a m => ?_, g.zz, g.keep, g.dom, g.sep⟩⟩
  · rw [List.nodup_append]
    exact ⟨h.nd, by simp, fun a ha b hb => by simp at hb; subst hb; exact fun e => hn (by rw [← e]; exact ha)⟩
  · rcases List.mem_append.mp hq with hq | hq
    · exact (h.mo q hq).keep (S' := ⟨S.as ++ [p], S.Z, S.H⟩) (Ex.refl _) (fun e => e) (fun _ e => e)
    · have e : q = (p, m) := by simpa using hq
      subst e
      exact hm.keep (S' := ⟨S.as ++ [p], S.Z, S.H⟩) (Ex.refl _) (fun e => e) (fun _ e => e)
  · rcases List.mem_append.mp ma with ma | ma
    · exact h.dom a ma
    · have ea : a = p := by simpa using ma
      rw [ea]; exact hp
  · rcases List.mem_append.mp m with m | m
    · exact g.pre a m
    · have ea : a = p := by simpa using m
      rw [ea]; exact .inr n0
section
variable {X : Cx} {Γ : En} {M : Ms} {kx vx tg iter : Expr} {ifs : List Expr} {scope : Scope} {pos : Pos} {k : KD} {kk : KX}
def DcOk (X : Cx) (Γ : En) (tg kx vx : Expr) (ifs : List Expr) (scope : Scope) (vs : List Nat) (k : KD) (n : Nat) (it : Nat → D → Prop) (G : Ms → Prop) (M1 : Ms) : Prop :=
  ∃ P : Nat → List Key → List D → Ms → Prop, P 0 [] [] M1 ∧ (∀ i ks ds M2, i ≤ n → P i ks ds M2 → G M2) ∧
    (∀ i d ks ds M2, i < n → it i d → P i ks ds M2 → Blk X scope fun Y => CG Y (wipeG Γ vs) M2 tg d vs fun Γ3 =>
      Blk X scope fun Y => GTs Y Γ3 M2 ifs fun b M3 => (b = true → Blk X scope fun Y => GE Y Γ3 M3 kx (fun y M4 => Blk X scope fun Y => GE Y Γ3 M4 vx (fun z M5 => ∃ q ks' ds', y = kD q ∧ ks.length < 16777216 ∧ PutK ks ds q z ks' ds' ∧ P (i + 1) ks' ds' M5) (fun _ _ _ => False)) (fun _ _ _ => False)) ∧ (b = false → P (i + 1) ks ds M3)) ∧
    (∀ ks ds M2, P n ks ds M2 → ∀ a, k (.hdl a) (M2 ++ [(a, .dct ks ds)]))
theorem dc_run {own : List (Str × Nat)} {n : Nat} {it : Nat → D → Prop} {G : Ms → Prop} {M1 : Ms} {S1 : Sg} {J : It} {σ : L2.St} {Q : VK} {Da : Addr} (hl : DcOk X Γ tg kx vx ifs scope (own.map (·.2)) k n it G M1) (hM1 : OkM X.K S1 M1) (hE : EnvOk X.K S1 σ Γ) (wk : DWalk X.K J n it G S1) (hQ : KV X.K S1 k Q) (hD : S1.H Da = none) :
    ∃ W : Nat → Nat → Hp → Prop, (∃ m, W 0 m (upd S1.H Da (.dK []))) ∧ ∀ i m H, W i m H → (J.stop i H ∧ Q (.ref Da) H) ∨ (J.go i H ∧ ∃ Nx : Hp → Prop, (∀ H', Nx H' → ∃ m', m' < m ∧ W (i + 1) m' H') ∧
      ∀ x H', J.yld i H x H' → allG X scope tg x (wipe σ (own.map (·.2))) H' fun σ2 H2 => wipe σ2 (own.map (·.2)) = wipe σ (own.map (·.2)) ∧ allTs X scope ifs σ2 H2 fun b H3 =>
        if b = true then allE X scope kx σ2 H3 fun y H4 => allE X scope vx σ2 H4 fun z H5 => ∃ kvs k, y = kV k ∧ H5 Da = some (.dK kvs) ∧ kvs.length < sizeLine ∧ Nx (upd H5 Da (.dK (putK kvs k z))) else Nx H3) := by
  obtain ⟨P, p0, pG, pt, pd⟩ := hl
  have hDz : S1.Z Da = none := hM1.zh.none hD
  have hDa : Da ∉ S1.as := fun m => hM1.dom Da m hD
  have wk' : Walk J n (fun H => ∃ S M, S.H = H ∧ Grow S1 S ∧ OkM X.K S M ∧ G M) (fun i H x H' => ∀ S M, S.H = H → Grow S1 S → OkM X.K S M → G M → ∃ S' d, S'.H = H' ∧ OkM X.K S' M ∧ Grow S S' ∧ it i d ∧ Rep X.K S' d x) := by
    obtain ⟨w1, w2, w3⟩ := wk
    refine ⟨fun i H hi ⟨S2, M2, e, g2, hM2, hG⟩ => ?_, fun H ⟨S2, M2, e, g2, hM2, hG⟩ => ?_, fun i H x H' hi _ y S2 M2 e g2 hM2 hG => ?_⟩
    · rw [← e]; exact w1 i S2 M2 hi g2 hM2 hG
    · rw [← e]; exact w2 S2 M2 g2 hM2 hG
    · rw [← e] at y; exact w3 i S2 M2 x H' hi g2 hM2 hG y
  let Pv : Nat → Hp → Prop := fun i H2 => ∃ S2 M2 ks ds kvs, S2.H = H2 ∧ Grow S1 S2 ∧ OkM X.K S2 M2 ∧ S2.Z Da = none ∧ Da ∉ S2.as ∧ S2.H Da = some (.dK kvs) ∧ kvs.map (·.1) = ks ∧ RepL X.K S2 ds (kvs.map (·.2)) ∧ P i ks ds M2
  have walks : ∀ i H2, i ≤ n → Pv i H2 → ∃ S M, S.H = H2 ∧ Grow S1 S ∧ OkM X.K S M ∧ G M := fun i H2 hi ⟨S2, M2, ks, ds, kvs, e, g2, hM2, _, _, _, _, _, hP⟩ => ⟨S2, M2, e, g2, hM2, pG i ks ds M2 hi hP⟩
  suffices parts : Pv 0 (upd S1.H Da (.dK [])) ∧ (∀ i x H H', i < n → Pv i H → (∀ S M, S.H = H → Grow S1 S → OkM X.K S M → G M → ∃ S' d, S'.H = H' ∧ OkM X.K S' M ∧ Grow S S' ∧ it i d ∧ Rep X.K S' d x) → allG X scope tg x (wipe σ (own.map (·.2))) H' fun σ2 H2 => wipe σ2 (own.map (·.2)) = wipe σ (own.map (·.2)) ∧ allTs X scope ifs σ2 H2 fun b H3 =>
      if b = true then allE X scope kx σ2 H3 fun y H4 => allE X scope vx σ2 H4 fun z H5 => ∃ kvs k, y = kV k ∧ H5 Da = some (.dK kvs) ∧ kvs.length < sizeLine ∧ Pv (i + 1) (upd H5 Da (.dK (putK kvs k z))) else Pv (i + 1) H3) ∧ (∀ H2, Pv n H2 → Q (.ref Da) H2) by
    obtain ⟨first, turn, last⟩ := parts
    refine ⟨fun i m H2 => i + m = n ∧ Pv i H2, ⟨n, Nat.zero_add n, first⟩, fun i m H2 ⟨left, here⟩ => ?_⟩
    have seen := walks i H2 (by omega) here
    cases m with
    | zero =>
      obtain rfl : i = n := left
      exact .inl ⟨wk'.stops H2 seen, last H2 here⟩
    | succ m =>
      have more : i < n := by omega
      exact .inr ⟨wk'.goes i H2 more seen, Pv (i + 1), fun H3 there => ⟨m, Nat.lt_succ_self m, by omega, there⟩, fun x H3 y => turn i x H2 H3 more here (wk'.yields i H2 x H3 more seen y)⟩
  refine ⟨?_, ?_, ?_⟩
  · obtain ⟨a1, a2, _⟩ := upd_f (o := .dK []) hM1 hDz hDa
    exact ⟨⟨S1.as, S1.Z, upd S1.H Da (.dK [])⟩, M1, [], [], [], rfl, a2 S1 (Grow.refl _) hD, a1, hDz, hDa, upd_same, rfl, RepL.nil, p0⟩
  · intro i x H H' hi ⟨S2, M2, ks, ds, kvs, e, g2, hM2, z2, n2, h2, f2, r2, hP⟩ y s Hs C cl fp
    obtain ⟨S3, d, e3, hM3, g3, hit, r3⟩ := y S2 M2 e g2 hM2 (pG i ks ds M2 (Nat.le_of_lt hi) hP)
    rw [← e3]
    have keep : ∀ S', Grow S2 S' → S'.Z Da = none ∧ Da ∉ S'.as ∧ S'.H Da = some (.dK kvs) := fun S' g' => by
      exact ⟨g'.sep Da (by rw [h2]; simp) z2 n2, g'.out (by rw [h2]; simp) n2, g'.keep Da _ h2 n2⟩
    refine pt i d ks ds M2 hi hit hP s Hs C cl fp S3 _ hM3 ((hE.grow (g2.trans g3)).wipe _) x r3 _ fun Γ4 σ4 hb hE4 w4 => ⟨w4.trans ?_, fun s' Hs' C' cl' fp' => ?_⟩
    · apply List.ext_getElem?
      intro j
      rw [wipe_get, wipe_get, wipe_length]
      split <;> rfl
    · refine hb s' Hs' C' cl' fp' S3 σ4 hM3 hE4 _ fun b M5 S5 hk hM5 g5 => ?_
      have g25 := g3.trans g5
      cases b with
      | true =>
        intro s'' Hs'' C'' cl'' fp''
        refine hk.1 rfl s'' Hs'' C'' cl'' fp'' S5 σ4 hM5 (hE4.grow g5) (fun _ _ _ _ => False) takes0 (fun _ _ _ _ _ z => z.elim) _ fun y6 M6 S6 v6 h6 hM6 g6 r6 => ?_
        intro s3 Hs3 C3 cl3 fp3
        refine h6 s3 Hs3 C3 cl3 fp3 S6 σ4 hM6 ((hE4.grow g5).grow g6) (fun _ _ _ _ => False) takes0 (fun _ _ _ _ _ z => z.elim) _ fun z7 M7 S7 v7 ⟨q, ks', ds', e7, hl7, p7, hP7⟩ hM7 g7 r7 => ?_
        subst e7
        have ey := rep_kD r6
        subst ey
        obtain ⟨zz, nn, hh⟩ := keep S7 ((g25.trans g6).trans g7)
        obtain ⟨a1, a2, a3, a4⟩ := upd_f (o := .dK (putK kvs q v7)) hM7 zz nn
        obtain ⟨q1, q2⟩ := p7.at f2 (r2.grow ((g25.trans g6).trans g7)) r7
        refine ⟨kvs, q, rfl, hh, by rw [← f2, List.length_map] at hl7; exact hl7, ⟨S7.as, S7.Z, upd S7.H Da (.dK (putK kvs q v7))⟩, M7, ks', ds', putK kvs q v7, rfl, a2 S1 (g2.trans ((g25.trans g6).trans g7)) hD, a1, zz, nn, upd_same, q1, a4 _ _ q2, hP7⟩
      | false =>
        obtain ⟨z5, n5, h5⟩ := keep S5 g25
        exact ⟨S5, M5, ks, ds, kvs, rfl, g2.trans g25, hM5, z5, n5, h5, f2, r2.grow g25, hk.2 rfl⟩
  · rintro H2 ⟨S2, M2, ks, ds, kvs, rfl, g2, hM2, z2, n2, h2, f2, r2, hP⟩
    obtain ⟨a1, a2⟩ := adopt_m (m := .dct ks ds) hM2 (by rw [h2]; simp) n2 ⟨z2, kvs, h2, f2, r2⟩
    exact hQ (.hdl Da) _ ⟨S2.as ++ [Da], S2.Z, S2.H⟩ (.ref Da) (pd ks ds M2 hP Da) a1 (a2 S1 g2 hD) rfl
/-- {kx: vx for tg in iter if ..}: it may change afterwards -/
theorem ge_dc (own : List (Str × Nat)) (hc : X.calm = true) (hN : X.N.Nodup) (ok : BlkOk X.N X.env.scope scope own) (h : GI X Γ M tg iter (DcOk X Γ tg kx vx ifs scope (own.map (·.2)) k) kk)
    (hs : ∀ x, foldedSetIterable iter X.env x = pure x := by intro _; rfl) : GE X Γ M (.DictComp kx vx [⟨tg, iter, ifs, 0⟩] scope pos) k kk := fun S σ hM hE W tk hW Q hQ =>
  of_pe (pe_dc hc hN wi ok pg_all pts_all pe_all pe_all hs) (h S σ hM hE W tk hW _ fun n it G M1 S1 J hl hM1 g1 wk => fun Da hD => dc_run hl hM1 (hE.grow g1) wk (hQ.grow g1) hD)
end
section
variable {X : Cx} {Γ : En} {M : Ms} {e : Expr} {k : KD} {kx : KX}
/-- a dict is not changed any more -/
theorem ge_frzD (h : GE X Γ M e (fun d M1 => ∃ (j : Nat) (a : Addr) (ks : List Key) (ds : List D), d = .hdl a ∧ M1[j]? = some (a, MO.dct ks ds) ∧ k (.dct ks ds) (M1.eraseIdx j)) kx) : GE X Γ M e k kx := fun S σ hM hE W tk hW Q hQ =>
  h S σ hM hE W tk hW Q fun d M1 S1 v ⟨j, a, ks, ds, e, hj, hk⟩ hM1 g1 r => by
    subst e
    cases r
    obtain ⟨hz, kvs, hh, hf, hr⟩ := hM1.at hj
    obtain ⟨hM2, g2⟩ := frz_m hM1 hj hz hh
    have hs : (M1.eraseIdx j).Sublist (M1.set j (a, .gone)) := by
      rw [← List.eraseIdx_set_eq (l := M1) (i := j) (a := (a, MO.gone))]
      exact List.eraseIdx_sublist _ _
    obtain ⟨hM3, g3⟩ := drop_m hM2 hs
    exact hQ (.dct ks ds) _ ⟨(M1.eraseIdx j).map (·.1), upd S1.Z a (.dK kvs), S1.H⟩ (.ref a) hk hM3 (g1.trans (g3 S1 g2)) ⟨a, kvs, rfl, upd_same, hf, (sg_mono (S := S1) (S' := ⟨(M1.eraseIdx j).map (·.1), upd S1.Z a (.dK kvs), S1.H⟩) (ex_new hz)).2 _ _ hr⟩
end
end PD

set_option Elab.async false
set_option linter.all false
set_option maxRecDepth 100000
set_option maxHeartbeats 4000000
/-! PD: the store in another order, calls that are handed a part of it. -/
namespace PD
open PySem L2
open Evl (Ex ex_rd ex_l ex_t)
theorem perm_m {K : PySem.W.Frag} {S : Sg} {M M' : Ms} (h : OkM K S M) (hp : M.Perm M') : OkM K ⟨M'.map (·.1), S.Z, S.H⟩ M' ∧ ∀ S0, Grow S0 S → Grow S0 ⟨M'.map (·.1), S.Z, S.H⟩ := by
  have pm : (M.map (·.1)).Perm (M'.map (·.1)) := hp.map _
  have mem : ∀ a, a ∈ M'.map (·.1) ↔ a ∈ S.as := fun a => by rw [h.len]; exact pm.symm.mem_iff
  refine ⟨⟨rfl, pm.nodup_iff.mp (by rw [← h.len]; exact h.nd), h.zh, fun p hq => (h.mo p (hp.symm.mem_iff.mp hq)).keep (S' := ⟨M'.map (·.1), S.Z, S.H⟩) (Ex.refl _) (fun e => e) (fun _ e => e), fun a ha => h.dom a ((mem a).mp ha)⟩, fun S0 g => ⟨fun a ha => g.pre a ((mem a).mp ha), g.zz, g.keep, g.dom, g.sep⟩⟩
section
variable {X : Cx} {Γ : En} {M M' : Ms} {e : Expr} {k : KD} {kx : KX} {E : ED} {sts : List Stmt}
theorem gb_perm (hp : M.Perm M') (h : GB X Γ M' sts E) : GB X Γ M sts E := fun S σ hM hE W tk De L => by
  obtain ⟨a, b⟩ := perm_m hM hp
  have g := b S (Grow.refl _)
  exact h ⟨M'.map (·.1), S.Z, S.H⟩ σ a (hE.grow g) W tk De (L.grow g)
theorem ge_perm (h : GE X Γ M e (fun d M1 => ∃ M2, M1.Perm M2 ∧ k d M2) kx) : GE X Γ M e k kx := fun S σ hM hE W tk hW Q hQ =>
  h S σ hM hE W tk hW Q fun d M1 S1 v ⟨M2, hp, hk⟩ hM1 g1 r => by
    obtain ⟨a, b⟩ := perm_m hM1 hp
    exact hQ d M2 ⟨M2.map (·.1), S1.Z, S1.H⟩ v hk a (b S g1) ((sg_mono (S := S1) (S' := ⟨M2.map (·.1), S1.Z, S1.H⟩) (Ex.refl _)).1 _ _ r)
end
theorem pick_one {M : Ms} {j : Nat} {p : Addr × MO} (h : M[j]? = some p) : pick [j] M = [p] := by simp [pick, h]
theorem merge_one {M : Ms} {j : Nat} {p : Addr × MO} : merge [j] M [p] = M.set j p := by simp [merge]
/-- a call that is handed one object -/
theorem callOk1 {R : RSp} {ds : List D} {M : Ms} {j : Nat} {p : Addr × MO} {k : KD} {kx : KX} (h : M[j]? = some p) (hR : R ds [p] (fun d N => (N.take 1).map (·.1) = [p.1] ∧ k d (merge [j] M N)) (fun c f N => (N.take 1).map (·.1) = [p.1] ∧ kx c f (merge [j] M N))) : CallOk R [j] ds M k kx := by
  refine ⟨by simp, fun i hi => by rw [List.mem_singleton.mp hi]; exact (List.getElem?_eq_some_iff.mp h).1, ?_⟩
  rw [pick_one h]
  exact hR
theorem fm_congr {α β : Type} {f g : α → Option β} : ∀ {l : List α}, (∀ x ∈ l, f x = g x) → l.filterMap f = l.filterMap g
  | [], _ => rfl
  | a :: l, h => by rw [List.filterMap_cons, List.filterMap_cons, h a (by simp), fm_congr fun x hx => h x (by simp [hx])]
theorem pick_range : ∀ {A B : Ms}, pick (List.range A.length) (A ++ B) = A := fun {A B} => by
  unfold pick
  apply List.ext_getElem?
  intro i
  have e : ((List.range A.length).filterMap fun x => (A ++ B)[x]?) = (List.range A.length).filterMap fun x => A[x]? := by
    refine fm_congr fun x hx => ?_
    rw [List.getElem?_append_left (List.mem_range.mp hx)]
  rw [e]
  have e2 : ((List.range A.length).filterMap fun x => A[x]?) = A := by
    induction A with
    | nil => rfl
    | cons a A ih =>
      rw [List.length_cons, List.range_succ_eq_map, List.filterMap_cons]
      simp only [List.getElem?_cons_zero, List.filterMap_map]
      congr 1
      have : ((fun x => (a :: A)[x]?) ∘ Nat.succ) = fun x => A[x]? := by funext x; simp
      rw [this]
      exact ih (by
        refine fm_congr fun x hx => ?_
        rw [List.getElem?_append_left (List.mem_range.mp hx)])
  rw [e2]
theorem merge_pre : ∀ {pre A B N : Ms}, A.length ≤ N.length → merge ((List.range A.length).map (· + pre.length)) (pre ++ A ++ B) N = pre ++ N.take A.length ++ B ++ N.drop A.length
  | pre, [], B, N, _ => by simp [merge]
  | pre, a :: A, B, [], h => by simp at h
  | pre, a :: A, B, p :: N, h => by
    rw [List.length_cons, List.range_succ_eq_map, List.map_cons, List.map_map]
    simp only [merge, Nat.zero_add]
    have e1 : (pre ++ (a :: A) ++ B).set pre.length p = (pre ++ [p]) ++ A ++ B := by
      rw [List.append_assoc, List.set_append_right _ _ (Nat.le_refl _)]
      simp
    have e2 : ((fun x => x + pre.length) ∘ Nat.succ) = fun x => x + (pre ++ [p]).length := by funext x; simp; omega
    rw [e1, e2, merge_pre (pre := pre ++ [p]) (by simpa using h)]
    simp
theorem merge_range {A B N : Ms} (h : A.length ≤ N.length) : merge (List.range A.length) (A ++ B) N = N.take A.length ++ B ++ N.drop A.length := by
  have := merge_pre (pre := []) (B := B) h
  simpa using this
/-- a call that is handed the first objects -/
theorem callOkPre {R : RSp} {ds : List D} {A B : Ms} {k : KD} {kx : KX} (hR : R ds A (fun d N => (N.take (List.range A.length).length).map (·.1) = A.map (·.1) ∧ k d (merge (List.range A.length) (A ++ B) N)) (fun c f N => (N.take (List.range A.length).length).map (·.1) = A.map (·.1) ∧ kx c f (merge (List.range A.length) (A ++ B) N))) : CallOk R (List.range A.length) ds (A ++ B) k kx := by
  refine ⟨List.nodup_range, fun j hj => by have := List.mem_range.mp hj; simp; omega, ?_⟩
  rw [pick_range]
  exact hR
end PD

set_option Elab.async false
set_option linter.all false
set_option maxRecDepth 100000
set_option maxHeartbeats 4000000
/-! PD: list comprehensions whose list may change afterwards. -/
namespace PD
open PySem L2
open Evl (Ex ex_rd ex_l ex_t)
section
variable {X : Cx} {Γ : En} {M : Ms} {elt tg iter : Expr} {ifs : List Expr} {scope : Scope} {pos : Pos} {k : KD} {kx : KX} {own : List (Str × Nat)}
def LcOkM (X : Cx) (Γ : En) (tg elt : Expr) (ifs : List Expr) (scope : Scope) (vs : List Nat) (k : KD) (n : Nat) (it : Nat → D → Prop) (G : Ms → Prop) (M1 : Ms) : Prop :=
  ∃ P : Nat → List D → Ms → Prop, P 0 [] M1 ∧ (∀ i acc M2, i ≤ n → P i acc M2 → G M2) ∧
    (∀ i d acc M2, i < n → it i d → P i acc M2 → Blk X scope fun Y => CG Y (wipeG Γ vs) M2 tg d vs fun Γ3 =>
      Blk X scope fun Y => GTs Y Γ3 M2 ifs fun b M3 => (b = true → Blk X scope fun Y => GE Y Γ3 M3 elt (fun y M4 => acc.length < 16777216 ∧ P (i + 1) (acc ++ [y]) M4) (fun _ _ _ => False)) ∧ (b = false → P (i + 1) acc M3)) ∧
    (∀ acc M2, P n acc M2 → ∀ a, k (.hdl a) (M2 ++ [(a, .lst acc)]))
theorem lc_runM {own : List (Str × Nat)} {n : Nat} {it : Nat → D → Prop} {G : Ms → Prop} {M1 : Ms} {S1 : Sg} {J : It} {σ : L2.St} {Q : VK} {Da : Addr} (hl : LcOkM X Γ tg elt ifs scope (own.map (·.2)) k n it G M1) (hM1 : OkM X.K S1 M1) (hE : EnvOk X.K S1 σ Γ) (wk : DWalk X.K J n it G S1) (hQ : KV X.K S1 k Q) (hD : S1.H Da = none) :
    ∃ W : Nat → Nat → Hp → Prop, (∃ m, W 0 m (upd S1.H Da (.lst []))) ∧ ∀ i m H, W i m H → (J.stop i H ∧ Q (.ref Da) H) ∨ (J.go i H ∧ ∃ Nx : Hp → Prop, (∀ H', Nx H' → ∃ m', m' < m ∧ W (i + 1) m' H') ∧
      ∀ x H', J.yld i H x H' → allG X scope tg x (wipe σ (own.map (·.2))) H' fun σ2 H2 => wipe σ2 (own.map (·.2)) = wipe σ (own.map (·.2)) ∧ allTs X scope ifs σ2 H2 fun b H3 =>
        if b = true then allE X scope elt σ2 H3 fun y H4 => ∃ acc, H4 Da = some (.lst acc) ∧ acc.length < sizeLine ∧ Nx (upd H4 Da (.lst (acc ++ [y]))) else Nx H3) := by
  obtain ⟨P, p0, pG, pt, pd⟩ := hl
  have hDz : S1.Z Da = none := hM1.zh.none hD
  have hDa : Da ∉ S1.as := fun m => hM1.dom Da m hD
  have wk' : Walk J n (fun H => ∃ S M, S.H = H ∧ Grow S1 S ∧ OkM X.K S M ∧ G M) (fun i H x H' => ∀ S M, S.H = H → Grow S1 S → OkM X.K S M → G M → ∃ S' d, S'.H = H' ∧ OkM X.K S' M ∧ Grow S S' ∧ it i d ∧ Rep X.K S' d x) := by
    obtain ⟨w1, w2, w3⟩ := wk
    refine ⟨fun i H hi ⟨S2, M2, e, g2, hM2, hG⟩ => ?_, fun H ⟨S2, M2, e, g2, hM2, hG⟩ => ?_, fun i H x H' hi _ y S2 M2 e g2 hM2 hG => ?_⟩
    · rw [← e]; exact w1 i S2 M2 hi g2 hM2 hG
    · rw [← e]; exact w2 S2 M2 g2 hM2 hG
    · rw [← e] at y; exact w3 i S2 M2 x H' hi g2 hM2 hG y
  let Pv : Nat → Hp → Prop := fun i H2 => ∃ S2 M2 acc vs, S2.H = H2 ∧ Grow S1 S2 ∧ OkM X.K S2 M2 ∧ S2.Z Da = none ∧ Da ∉ S2.as ∧ S2.H Da = some (.lst vs) ∧ RepL X.K S2 acc vs ∧ P i acc M2
  refine lc_it wk' Pv ?_ (fun i H2 hi ⟨S2, M2, acc, vs, e, g2, hM2, _, _, _, _, hP⟩ => ⟨S2, M2, e, g2, hM2, pG i acc M2 hi hP⟩) ?_ ?_
  · obtain ⟨a1, a2, _⟩ := upd_f (o := .lst []) hM1 hDz hDa
    exact ⟨⟨S1.as, S1.Z, upd S1.H Da (.lst [])⟩, M1, [], [], rfl, a2 S1 (Grow.refl _) hD, a1, hDz, hDa, upd_same, RepL.nil, p0⟩
  · intro i x H H' hi ⟨S2, M2, acc, vs, e, g2, hM2, z2, n2, h2, r2, hP⟩ y s Hs C cl fp
    obtain ⟨S3, d, e3, hM3, g3, hit, r3⟩ := y S2 M2 e g2 hM2 (pG i acc M2 (Nat.le_of_lt hi) hP)
    rw [← e3]
    have keep : ∀ S', Grow S2 S' → S'.Z Da = none ∧ Da ∉ S'.as ∧ S'.H Da = some (.lst vs) := fun S' g' => by
      exact ⟨g'.sep Da (by rw [h2]; simp) z2 n2, g'.out (by rw [h2]; simp) n2, g'.keep Da _ h2 n2⟩
    refine pt i d acc M2 hi hit hP s Hs C cl fp S3 _ hM3 ((hE.grow (g2.trans g3)).wipe _) x r3 _ fun Γ4 σ4 hb hE4 w4 => ⟨w4.trans ?_, fun s' Hs' C' cl' fp' => ?_⟩
    · apply List.ext_getElem?
      intro j
      rw [wipe_get, wipe_get, wipe_length]
      split <;> rfl
    · refine hb s' Hs' C' cl' fp' S3 σ4 hM3 hE4 _ fun b M5 S5 hk hM5 g5 => ?_
      have g25 := g3.trans g5
      cases b with
      | true =>
        intro s'' Hs'' C'' cl'' fp''
        refine hk.1 rfl s'' Hs'' C'' cl'' fp'' S5 σ4 hM5 (hE4.grow g5) (fun _ _ _ _ => False) takes0 (fun _ _ _ _ _ z => z.elim) _ fun d6 M6 S6 v6 ⟨hl, hP6⟩ hM6 g6 r6 => ?_
        obtain ⟨z6, n6, h6⟩ := keep S6 (g25.trans g6)
        obtain ⟨a1, a2, a3, a4⟩ := upd_f (o := .lst (vs ++ [v6])) hM6 z6 n6
        refine ⟨vs, h6, by rw [r2.len]; exact hl, ⟨S6.as, S6.Z, upd S6.H Da (.lst (vs ++ [v6]))⟩, M6, acc ++ [d6], vs ++ [v6], rfl, a2 S1 (g2.trans (g25.trans g6)) hD, a1, z6, n6, upd_same, a4 _ _ ((r2.grow (g25.trans g6)).app (.one r6)), hP6⟩
      | false =>
        obtain ⟨z5, n5, h5⟩ := keep S5 g25
        exact ⟨S5, M5, acc, vs, rfl, g2.trans g25, hM5, z5, n5, h5, r2.grow g25, hk.2 rfl⟩
  · rintro H2 ⟨S2, M2, acc, vs, rfl, g2, hM2, z2, n2, h2, r2, hP⟩
    obtain ⟨a1, a2⟩ := adopt_m (m := .lst acc) hM2 (by rw [h2]; simp) n2 ⟨z2, vs, h2, r2⟩
    exact hQ (.hdl Da) _ ⟨S2.as ++ [Da], S2.Z, S2.H⟩ (.ref Da) (pd acc M2 hP Da) a1 (a2 S1 g2 hD) rfl
/-- [elt for tg in iter if ..]: the list may change afterwards -/
theorem ge_lcM (own : List (Str × Nat)) (hc : X.calm = true) (hN : X.N.Nodup) (ok : BlkOk X.N X.env.scope scope own) (h : GI X Γ M tg iter (LcOkM X Γ tg elt ifs scope (own.map (·.2)) k) kx)
    (hs : ∀ x, foldedSetIterable iter X.env x = pure x := by intro _; rfl) : GE X Γ M (.ListComp elt [⟨tg, iter, ifs, 0⟩] scope pos) k kx := fun S σ hM hE W tk hW Q hQ =>
  of_pe (pe_lc hc hN wi ok pg_all pts_all pe_all hs) (h S σ hM hE W tk hW _ fun n it G M1 S1 J hl hM1 g1 wk => fun Da hD => lc_runM hl hM1 (hE.grow g1) wk (hQ.grow g1) hD)
end
end PD

set_option Elab.async false
set_option linter.all false
set_option maxRecDepth 100000
set_option maxHeartbeats 4000000
/-! PD: calls that are handed a part of the store whole: they may leave fewer entries, or others in their place. -/
namespace PD
open PySem L2
open Evl (Ex ex_rd ex_l ex_t)
theorem part_ok {K : PySem.W.Frag} {S S2 : Sg} {A B N : Ms} (h : OkM K S (B ++ A)) (h2 : OkM K S2 N) (g : Grow ⟨A.map (·.1), S.Z, S.H⟩ S2) :
    OkM K ⟨(B ++ N).map (·.1), S2.Z, S2.H⟩ (B ++ N) ∧ ∀ S0, Grow S0 S → Grow S0 ⟨(B ++ N).map (·.1), S2.Z, S2.H⟩ := by
  have nd := h.nd
  rw [h.len, List.map_append, List.nodup_append] at nd
  obtain ⟨ndB, _, apart⟩ := nd
  have inS : ∀ a, a ∈ S.as ↔ a ∈ B.map (·.1) ∨ a ∈ A.map (·.1) := fun a => by rw [h.len, List.map_append, List.mem_append]
  have N2 : ∀ a ∈ N.map (·.1), a ∈ A.map (·.1) ∨ S.H a = none := fun a ha => g.pre a (by rw [h2.len]; exact ha)
  have away : ∀ a ∈ B.map (·.1), a ∉ A.map (·.1) := fun a hb hc => apart a hb a hc rfl
  have live : ∀ a ∈ B.map (·.1), S.H a ≠ none := fun a hb => h.dom a ((inS a).mpr (.inl hb))
  have out : ∀ q, q ∉ S.as → q ∉ A.map (·.1) := fun q n m => n ((inS q).mpr (.inr m))
  refine ⟨⟨rfl, ?_, h2.zh, fun p hp => ?_, fun a ha => ?_⟩, fun S0 g0 => Grow.trans g0 ⟨fun a ha => ?_, g.zz, fun q o e n => g.keep q o e (out q n), g.dom, fun q e z n => g.sep q e z (out q n)⟩⟩
  · show ((B ++ N).map (·.1)).Nodup
    rw [List.map_append, List.nodup_append]
    refine ⟨ndB, by rw [← h2.len]; exact h2.nd, fun a hb c hc e => ?_⟩
    subst e
    rcases N2 a hc with q | q
    · exact away a hb q
    · exact live a hb q
  · rcases List.mem_append.mp hp with hb | hb
    · have hb1 : p.1 ∈ B.map (·.1) := List.mem_map_of_mem hb
      exact (h.mo p (List.mem_append_left _ hb)).keep (S' := ⟨(B ++ N).map (·.1), S2.Z, S2.H⟩) g.zz (fun z => g.sep p.1 (live p.1 hb1) z (away p.1 hb1)) (fun o e => g.keep p.1 o e (away p.1 hb1))
    · exact (h2.mo p hb).keep (S' := ⟨(B ++ N).map (·.1), S2.Z, S2.H⟩) (Ex.refl _) (fun e => e) (fun _ e => e)
  · have ha2 : a ∈ B.map (·.1) ∨ a ∈ N.map (·.1) := by rw [← List.mem_append, ← List.map_append]; exact ha
    rcases ha2 with hb | hb
    · exact g.dom a (live a hb)
    · exact h2.dom a (by rw [h2.len]; exact hb)
  · have ha2 : a ∈ B.map (·.1) ∨ a ∈ N.map (·.1) := by rw [← List.mem_append, ← List.map_append]; exact ha
    rcases ha2 with hb | hb
    · exact .inl ((inS a).mpr (.inl hb))
    · exact (N2 a hb).elim (fun q => .inl ((inS a).mpr (.inr q))) .inr
/-- a call is handed A, and N comes back -/
def Hand (R : RSp) (ds : List D) (M : Ms) (k : KD) (kx : KX) : Prop := ∃ A B : Ms, M.Perm (B ++ A) ∧ R ds A (fun d N => k d (B ++ N)) (fun c f N => kx c f (B ++ N))
theorem Hand.of {R : RSp} {ds : List D} {M : Ms} {k : KD} {kx : KX} (A B : Ms) (hp : M.Perm (B ++ A)) (h : R ds A (fun d N => k d (B ++ N)) (fun c f N => kx c f (B ++ N))) : Hand R ds M k kx := ⟨A, B, hp, h⟩
theorem Hand.all {R : RSp} {ds : List D} {M : Ms} {k : KD} {kx : KX} (h : R ds M k kx) : Hand R ds M k kx := ⟨M, [], .refl _, h⟩
theorem Hand.cut {R : RSp} {ds : List D} {M A : Ms} {k : KD} {kx : KX} (n : Nat) (e : M.drop n = A) (h : R ds A (fun d N => k d (M.take n ++ N)) (fun c f N => kx c f (M.take n ++ N))) : Hand R ds M k kx := ⟨A, M.take n, by rw [← e, List.take_append_drop], h⟩
theorem Hand.none {R : RSp} {ds : List D} {M : Ms} {k : KD} {kx : KX} (h : R ds [] (fun d N => k d (M ++ N)) (fun c f N => kx c f (M ++ N))) : Hand R ds M k kx := ⟨[], M, by rw [List.append_nil], h⟩
section
variable {R : RSp} {k : KD} {kx : KX}
theorem sp_ofF {K : PySem.W.Frag} {S' : Sg} {ds : List D} {M' : Ms} {vs : List V} {Q : VK} {W : WX} {σ : L2.St} (hM : OkM K S' M') (rv : RepL K S' ds vs) (h : Hand R ds M' k kx) (hQ : KV K S' k Q) (hW : KW K S' kx W σ) :
    spD K R vs S'.H Q (L2.WE W σ) := by
  obtain ⟨A, B, hp, h⟩ := h
  have hp0 := hp
  obtain ⟨p1, p2⟩ := perm_m hM hp
  obtain ⟨d1, _⟩ := drop_m p1 (List.sublist_append_right B A)
  refine ⟨⟨A.map (·.1), S'.Z, S'.H⟩, ds, A, _, _, rfl, d1, (sg_mono (S := S') (S' := ⟨A.map (·.1), S'.Z, S'.H⟩) (Ex.refl _)).2 _ _ rv, h, fun d N S2 v hd hN g r => ?_, fun cls fs N S2 dd hd hN g r => ?_⟩
  · obtain ⟨a, b⟩ := part_ok p1 hN g
    exact hQ d _ ⟨(B ++ N).map (·.1), S2.Z, S2.H⟩ v hd a (b _ (p2 _ (Grow.refl _))) ((sg_mono (S := S2) (S' := ⟨(B ++ N).map (·.1), S2.Z, S2.H⟩) (Ex.refl _)).1 _ _ r)
  · obtain ⟨a, b⟩ := part_ok p1 hN g
    refine hW cls fs _ ⟨(B ++ N).map (·.1), S2.Z, S2.H⟩ dd hd a (b _ (p2 _ (Grow.refl _))) (r.re (fun _ h => h) rfl rfl fun x hx => ?_)
    obtain ⟨p, hp, rfl⟩ := List.mem_map.mp hx
    rcases List.mem_append.mp hp with h | h
    · exact .inr (hM.dom _ (hM.in (hp0.mem_iff.mpr (List.mem_append_left _ h))))
    · exact .inl (hN.in h)
end
section
variable {X : Cx} {Γ : En} {M : Ms} {e a b c o i : Expr} {es : List Expr} {k : KD} {kx : KX} {E : ED} {d x y z : D} {pos pos' apos p : Pos} {nm m : Str} {j l : Nat} {C : Addr} {dds : List D} {R : RSp}
theorem ge_callF (F : FnD X.prog X.w X.K X.mg X.base j nm dds R) (hr : Room l X.A) (hl : j ≤ l) (h : GA X Γ M (e :: es) (fun ds M1 => Hand R (ds ++ dds) M1 k kx) kx) (hg : Gl X nm := by rfl) (hdb : (nm == ("__debug__" : Str)) = false := by decide)
    (he : starEach (e :: es) X.env = (false, eval e X.env) :: starEach es X.env := by rfl) (hpl : (backTo pos (starEach es X.env)).any (·.1) = false := by rfl) : GE X Γ M (.Call (.Name nm p) (e :: es) [] pos) k kx := fun S σ hM hE W tk hW Q hQ pins s I => by
  obtain ⟨f, fd, ps, dvl, dvs, hm, hk, hb, hd, hrd, F⟩ := F.ex
  refine wpAny_Call_Name_kw (ld_glob I hg hm ?_ hdb)
  refine PySem.W.callWith_K (h₀ := X.base) I.ok.mod.kin hk (thn (h S σ hM hE W tk hW (fun vs H1 => spD X.K R (vs ++ dvs) H1 Q (L2.WE W σ)) (fun ds M1 S1 vs h1 hM1 g1 r1 => sp_ofF hM1 (r1.app (hrd S1)) h1 (hQ.grow g1) (hW.grow g1)) pos pins s I) fun us s1 ⟨vs, H1, I1, r, q⟩ => ⟨I1.kIn, ?_⟩) he hpl
  exact run_fnSD F (hr.mono hl) hb hd (passAt tk σ) I1 r q
theorem ge_call0F (F : FnD X.prog X.w X.K X.mg X.base j nm dds R) (hr : Room l X.A) (hl : j ≤ l) (h : Hand R dds M k kx) (hg : Gl X nm := by rfl) (hdb : (nm == ("__debug__" : Str)) = false := by decide) : GE X Γ M (.Call (.Name nm p) [] [] pos) k kx := fun S σ hM hE W tk hW Q hQ pins s I => by
  obtain ⟨f, fd, ps, dvl, dvs, hm, hk, hb, hd, hrd, F⟩ := F.ex
  refine wpAny_Call_Name_kw (ld_glob I hg hm ?_ hdb)
  exact PySem.W.callWith_K0 I.kIn hk (run_fnSD (us := []) (vs := []) F (hr.mono hl) hb hd (passAt tk σ) I .nil (sp_ofF hM (hrd S) h hQ hW))
theorem ge_methF {pl : Sem Bool} (F : MtD X.prog X.w X.K X.mg X.base j C m dds R) (hr : Room l X.A) (hl : j ≤ l) (h : GE X Γ M o (fun d M1 => ∃ fs ds0, ObjD M1 d C fs ds0 ∧ m ∉ fs ∧ GA X Γ M1 (e :: es) (fun ds M2 => Hand R (d :: (ds ++ dds)) M2 k kx) kx) kx)
    (hst : starEach (e :: es) X.env = (false, eval e X.env) :: starEach es X.env := by rfl) (hpl : (backTo pos (starEach es X.env)).any (·.1) = false := by rfl)
    (ht : eval (.Call (.Attribute o m apos) (e :: es) [] pos) X.env = (do
      let ov ← eval o X.env
      standAt apos.atName
      let (f, first) ← holding [ov] (getMethod ov m pl)
      callWith pos f first (backTo pos (starEach (e :: es) X.env)) (backToKw pos (keywordEach [] X.env))) := by rfl) : GE X Γ M (.Call (.Attribute o m apos) (e :: es) [] pos) k kx := fun S σ hM hE W tk hW Q hQ pins s I => by
  obtain ⟨f, fd, ps, dvl, dvs, hm, hb, hd, hrd, F'⟩ := F.ex
  refine PySem.W.methodCall_KW (pl := pl) (thn (h S σ hM hE W tk hW (fun x H1 => ∃ a dx fs, x = .ref a ∧ H1 a = some (.ins C dx fs) ∧ fs.lookup m = none ∧ WA X (e :: es) σ H1 fun vs H2 => spD X.K R (x :: (vs ++ dvs)) H2 Q (L2.WE W σ)) (fun d M1 S1 v ⟨fs, ds0, ob, nf, h1⟩ hM1 g1 r1 => by
    obtain ⟨a, dx, kvs, rfl, hh, hf, hrr⟩ := ob.at hM1 r1
    refine ⟨a, dx, kvs, rfl, hh, lookup_no (by rw [hf]; exact nf), ?_⟩
    exact h1 S1 σ hM1 (hE.grow g1) W tk (hW.grow g1) _ fun ds M2 S2 vs h2 hM2 g2 r2 => sp_ofF hM2 (.cons (r1.grow g2) (r2.app (hrd S2))) h2 ((hQ.grow g1).grow g2) ((hW.grow g1).grow g2)) pins s I) fun u s1 ⟨x, H1, I1, rx, a, dx, fs, ex, ea, l, q⟩ => ?_) ht
  subst ex
  obtain rfl : u = Value.ref a := rx
  refine getmeth_ok I1 ea F.cl hm l ?_
  refine PySem.W.callWith_K (first := [.ref a]) (h₀ := X.base) I.ok.mod.kin hm.kp (thn (q pos pins s1 I1) fun us s2 ⟨vs, H2, I2, r, q2⟩ => ⟨I2.kIn, ?_⟩) hst hpl
  exact run_fnSD (us := .ref a :: us) (vs := .ref a :: vs) F' (hr.mono hl) hb hd (passAt tk σ) I2 (.cons rfl r) q2
theorem ge_meth0F {pl : Sem Bool} (F : MtD X.prog X.w X.K X.mg X.base j C m dds R) (hr : Room l X.A) (hl : j ≤ l) (h : GE X Γ M o (fun d M1 => ∃ fs ds0, ObjD M1 d C fs ds0 ∧ m ∉ fs ∧ Hand R (d :: dds) M1 k kx) kx)
    (ht : eval (.Call (.Attribute o m apos) [] [] pos) X.env = (do
      let ov ← eval o X.env
      standAt apos.atName
      let (f, first) ← holding [ov] (getMethod ov m pl)
      callWith pos f first (backTo pos (starEach [] X.env)) (backToKw pos (keywordEach [] X.env))) := by rfl) : GE X Γ M (.Call (.Attribute o m apos) [] [] pos) k kx := fun S σ hM hE W tk hW Q hQ pins s I => by
  obtain ⟨f, fd, ps, dvl, dvs, hm, hb, hd, hrd, F'⟩ := F.ex
  refine PySem.W.methodCall_KW (pl := pl) (thn (h S σ hM hE W tk hW (fun x H1 => ∃ a dx fs, x = .ref a ∧ H1 a = some (.ins C dx fs) ∧ fs.lookup m = none ∧ spD X.K R (x :: dvs) H1 Q (L2.WE W σ)) (fun d M1 S1 v ⟨fs, ds0, ob, nf, h1⟩ hM1 g1 r1 => by
    obtain ⟨a, dx, kvs, rfl, hh, hf, hrr⟩ := ob.at hM1 r1
    exact ⟨a, dx, kvs, rfl, hh, lookup_no (by rw [hf]; exact nf), sp_ofF hM1 (.cons r1 (hrd S1)) h1 (hQ.grow g1) (hW.grow g1)⟩) pins s I) fun u s1 ⟨x, H1, I1, rx, a, dx, fs, ex, ea, l, q⟩ => ?_) ht
  subst ex
  obtain rfl : u = Value.ref a := rx
  refine getmeth_ok I1 ea F.cl hm l ?_
  exact PySem.W.callWith_K0 (first := [.ref a]) I1.kIn hm.kp (run_fnSD (us := [.ref a]) (vs := [.ref a]) F' (hr.mono hl) hb hd (passAt tk σ) I1 (.cons rfl .nil) q)
theorem mk_ofF {S : Sg} {ds : List D} {vs dvs : List V} {Q : VK} {W : WX} {σ : L2.St} (hM : OkM X.K S M) (rv : RepL X.K S ds vs) (hrd : ∀ S, RepL X.K S dds dvs) (hQ : KV X.K S k Q) (hW : KW X.K S kx W σ)
    (h : ∀ x, Hand R (.hdl x :: (ds ++ dds)) (M ++ [(x, .ins C [] [])]) (fun d M2 => d = .non ∧ k (.hdl x) M2) kx) {x dx : Addr} (hx : S.H x = none) (hdx : S.H dx = none) (ne : dx ≠ x) :
    spD X.K R (.ref x :: (vs ++ dvs)) (upd (upd S.H dx (.own x)) x (.ins C dx [])) (fun v H2 => v = .non ∧ Q (.ref x) H2) (L2.WE W σ) := by
  obtain ⟨a, g⟩ := new_ins (C := C) hM hx hdx ne
  refine sp_ofF (S' := ⟨S.as ++ [x], S.Z, upd (upd S.H dx (.own x)) x (.ins C dx [])⟩) a (RepL.cons (d := .hdl x) rfl ((rv.app (hrd S)).grow g)) (h x) (fun d M' S' v ⟨e, hk⟩ hM' g' r => ?_) (hW.grow g)
  subst e
  exact ⟨r, hQ (.hdl x) M' S' (.ref x) hk hM' (g.trans g') rfl⟩
theorem ge_makeF (F : MkD X.prog X.w X.K X.mg X.base j C nm dds R) (hr : Room l X.A) (hl : j + 1 ≤ l) (h : GA X Γ M (e :: es) (fun ds M1 => ∀ x, Hand R (.hdl x :: (ds ++ dds)) (M1 ++ [(x, .ins C [] [])]) (fun d M2 => d = .non ∧ k (.hdl x) M2) kx) kx) (hg : Gl X nm := by rfl) (hdb : (nm == ("__debug__" : Str)) = false := by decide)
    (he : starEach (e :: es) X.env = (false, eval e X.env) :: starEach es X.env := by rfl) (hpl : (backTo pos (starEach es X.env)).any (·.1) = false := by rfl) : GE X Γ M (.Call (.Name nm p) (e :: es) [] pos) k kx := fun S σ hM hE W tk hW Q hQ pins s I => by
  obtain ⟨f, fd, ps, dvl, dvs, Mm, hb, hd, hrd, F'⟩ := F.ex
  refine wpAny_Call_Name_kw (ld_glob I hg F.gC ?_ hdb)
  refine PySem.W.callWith_K (h₀ := X.base) I.ok.mod.kin Mm.kp (thn (h S σ hM hE W tk hW (fun vs H1 => ∀ x dx, H1 x = none → H1 dx = none → dx ≠ x → spD X.K R (.ref x :: (vs ++ dvs)) (upd (upd H1 dx (.own x)) x (.ins C dx [])) (fun v H2 => v = .non ∧ Q (.ref x) H2) (L2.WE W σ))
    (fun ds M1 S1 vs h1 hM1 g1 r1 x dx hx hdx ne => mk_ofF hM1 r1 hrd (hQ.grow g1) (hW.grow g1) h1 hx hdx ne) pos pins s I) fun us s1 ⟨vs, H1, I1, r, q⟩ => ⟨I1.kIn, ?_⟩) he hpl
  exact run_makeS (EE := L2.WE W) Mm F' (hr.mono hl) hb hd (passAt tk σ) I1 r q
theorem ge_make0F (F : MkD X.prog X.w X.K X.mg X.base j C nm dds R) (hr : Room l X.A) (hl : j + 1 ≤ l) (h : ∀ x, Hand R (.hdl x :: dds) (M ++ [(x, .ins C [] [])]) (fun d M2 => d = .non ∧ k (.hdl x) M2) kx) (hg : Gl X nm := by rfl) (hdb : (nm == ("__debug__" : Str)) = false := by decide) : GE X Γ M (.Call (.Name nm p) [] [] pos) k kx := fun S σ hM hE W tk hW Q hQ pins s I => by
  obtain ⟨f, fd, ps, dvl, dvs, Mm, hb, hd, hrd, F'⟩ := F.ex
  refine wpAny_Call_Name_kw (ld_glob I hg F.gC ?_ hdb)
  exact PySem.W.callWith_K0 I.kIn Mm.kp (run_makeS (us := []) (vs := []) (EE := L2.WE W) Mm F' (hr.mono hl) hb hd (passAt tk σ) I .nil fun x dx hx hdx ne => mk_ofF (ds := []) hM RepL.nil hrd hQ hW h hx hdx ne)
end
section
variable {K : PySem.W.Frag} {M : Ms} {k : KD} {ds : List D}
theorem lst_hdl {p : Nat} {h : Addr} (hm : M[p]? = some (h, .lst ds)) (hk : k (.lst ds) M) : CallD K (rLstOf K) [.hdl h] M k := fun S vs hM rv Q hQ => by
  obtain ⟨v, rfl, rfl⟩ := rep1 rv
  obtain ⟨_, xs, h, r⟩ := hM.at hm
  refine ⟨_, xs, rfl, .inl (SqL.of h), fun l hl => ?_⟩
  obtain ⟨hM2, g2⟩ := new_z (o := .lst xs) hM hl
  exact hQ _ M ⟨S.as, upd S.Z l (.lst xs), upd S.H l (.lst xs)⟩ (.ref l) hk hM2 g2 ⟨l, _, rfl, upd_same, r.grow g2⟩
theorem in_signs {s t : Str} (hk : k (.bl (!(Builtin.Str.occurrences t s 0 t.length 1).isEmpty)) M) : Bin K (rInU K) (.str s) (.str t) M k :=
  bin_flat (v := .bl (!(Builtin.Str.occurrences t s 0 t.length 1).isEmpty)) (fun S vx vy _ rx ry Q q => by cases rx; cases ry; exact .inr (.inl ⟨s, t, rfl, rfl, q⟩)) hk
end
theorem ge_callK0F {X : Cx} {Γ : En} {M : Ms} {kws : List Keyword} {ks : List Str} {sel : List (Nat × Nat)} {k : KD} {kx : KX} {pos p : Pos} {nm : Str} {j l : Nat} {dds : List D} {R : RSp} (F : FnK X.prog X.w X.K X.mg X.base j nm 0 ks sel dds R) (hr : Room l X.A) (hl : j ≤ l) (h : GK X Γ M kws (fun zs M2 => zs.length = ks.length ∧ Hand R (selL sel [] dds zs) M2 k kx) kx)
    (hall : (backToKw pos (keywordEach kws X.env)).all (·.1.isSome) = true := by rfl) (hks : (backToKw pos (keywordEach kws X.env)).filterMap (·.1) = ks := by rfl) (hg : Gl X nm := by rfl)
    (hdb : (nm == ("__debug__" : Str)) = false := by decide) (hpl : ((backTo pos (starEach [] X.env)).any (·.1) || (backToKw pos (keywordEach kws X.env)).any (·.1.isNone)) = false := by rfl) : GE X Γ M (.Call (.Name nm p) [] kws pos) k kx := fun S σ hM hE W tk hW Q hQ pins s I => by
  obtain ⟨f, fd, ps, hm, hk, ⟨g, gV, hb, hrep⟩, F⟩ := F.ex
  refine wpAny_Call_Name_kw (ld_glob I hg hm ?_ hdb)
  refine PySem.W.callWith_KW0 (h₀ := X.base) I.ok.mod.kin hk hall ?_ hpl
  refine thn (h S σ hM hE W tk hW (fun zs H2 => zs.length = ks.length ∧ spD X.K R (gV [] zs) H2 Q (L2.WE W σ)) (fun zs M2 S2 ws ⟨q2, q3⟩ hM2 g2 r2 => ⟨r2.len.trans q2, sp_ofF hM2 (hrep S2 _ _ _ _ RepL.nil r2) q3 (hQ.grow g2) (hW.grow g2)⟩) pos pins s I) fun ws s2 ⟨zs, H2, I2, rz, l2, q2⟩ => ⟨I2.kIn, ?_⟩
  rw [hks]
  exact run_fnNS (us := []) (vs := []) (EE := L2.WE W) F (hr.mono hl) hb (passAt tk σ) I2 .nil rz rfl l2 q2
end PD

set_option Elab.async false
set_option linter.all false
set_option maxRecDepth 100000
set_option maxHeartbeats 4000000
/-! PD: x = [..] as a list that may change; xs == [] whatever the items are. -/
namespace PySem.SeqAt
open AutoSeq1 (wpAny_loadPart')
open MeetsSeq MeetsSeq2 MeetsSeq3 SeqRoads2
variable {prog : Program} {w : World}
theorem sizes_apart (p q : Addr) (as bs : Array Value) (i j : Nat) (e1 e2 : Option Addr) (z1 z2 : Array (Option Value)) (far : (as.size != bs.size) = true) :
    MeetsIn prog w (Builtin.«list.__eq__» ⟨[.ref p, .ref q], []⟩)
      (fun A R s => (s.heap.get? p = some ⟨.type "list", e1, .seq as i, z1⟩ ∧ s.heap.get? q = some ⟨.type "list", e2, .seq bs j, z2⟩) ∧ R (.ok (.ret (.bool false))) s) := by
  intro A R s h
  obtain ⟨hp, g, d, tk, os⟩ := s
  obtain ⟨⟨h1, h2⟩, h3⟩ := h
  have sb := AutoSeq1.sub_list_list
  wp_walk using wpAny_loadPart' h1, wpAny_loadPart' h2
  exact h3
theorem apart_run {A : Around} {s : Shared} {p q : Addr} {as bs : Array Value} (hp : s.heap.IsList p as) (hq : s.heap.IsList q bs) (far : (as.size != bs.size) = true) (hu : A.units < cLine) (E Q : Value → Shared → Prop) (h : Q (.bool false) s) :
    wpAny (model prog w) A (richCompare .Eq (.ref p) (.ref q)) Q E s := by
  obtain ⟨⟨c1, d1, x1, z1⟩, o1, k1, i, y1⟩ := id hp
  obtain ⟨⟨c2, d2, x2, z2⟩, o2, k2, j, y2⟩ := id hq
  simp only at k1 y1 k2 y2
  subst k1 y1 k2 y2
  exact wpAny_richCompare_same_room (op := .Eq) ⟨_, o1, rfl⟩ ⟨_, o2, rfl⟩ F.slot_list_eq (call_meetsIn F.slot_list_eq ⟨_, o1, rfl⟩ F.entry_list_eq (F.args_list_eq_2 _ _) (sizes_apart p q as bs i j d1 d2 z1 z2 far)
    ⟨⟨o1, o2⟩, show Value.bool false ≠ Value.notImplemented ∧ Q (.bool false) s from ⟨(fun x => nomatch x), h⟩⟩) hu
end PySem.SeqAt
namespace PD
open PySem L2
open Evl (Ex ex_rd ex_l ex_t)
/-- xs == [] -/
def rEmp (K : PySem.W.Frag) : R2 := fun x y H Q => ∃ a b xs, x = .ref a ∧ y = .ref b ∧ SqL K H a xs ∧ SqL K H b [] ∧ Q (.bl xs.isEmpty) H
theorem op_emp {X : Cx} (hu : X.A.units + 1 < cLine) : OpR X (compareOp .Eq) (rEmp X.K) := by
  intro pins s σ H x y v u Q I rx ry h
  obtain ⟨a, b, xs, rfl, rfl, h1, h2, q⟩ := h
  cases (show v = Value.ref a from rx)
  cases (show u = Value.ref b from ry)
  obtain ⟨us, r1, p1, _⟩ := I.list h1
  obtain ⟨ws, r2, p2, _⟩ := I.list h2
  cases r2
  cases xs with
  | nil =>
    cases r1
    exact SeqAt.rcP_lists (e := fun _ => true) p1.isList p2.isList rfl (by omega) (fun j g1 g2 => absurd g1 (by simp)) _ _ ⟨.bl true, H, I, rfl, q⟩
  | cons x xs =>
    cases r1
    exact SeqAt.apart_run p1.isList p2.isList (by simp) (by omega) _ _ ⟨.bl false, H, I, rfl, q⟩
theorem eq_emp {K : PySem.W.Frag} {M : Ms} {k : KD} {ds : List D} (hk : k (.bl ds.isEmpty) M) : Bin K (rEmp K) (.lst ds) (.lst []) M k := fun S vx vy hM rx ry Q hQ => by
  obtain ⟨a, xs, rfl, h1, r1⟩ := rx
  obtain ⟨b, ys, rfl, h2, r2⟩ := ry
  have e2 : ys = [] := r2
  subst e2
  have e1 : xs.isEmpty = ds.isEmpty := by have := r1.len; cases xs <;> cases ds <;> simp_all
  exact ⟨a, b, xs, rfl, rfl, SqL.of (hM.zh _ _ h1), SqL.of (hM.zh _ _ h2), by rw [e1]; exact hQ _ M S _ hk hM (Grow.refl _) rfl⟩
section
variable {X : Cx} {Γ : En} {M : Ms} {tg iter elt : Expr} {ifs : List Expr} {scope : Scope} {pos p : Pos}
theorem gs_lcM (j : Nat) (own : List (Str × Nat)) {y : Str} {py : Pos} {E : ED} (hc : X.calm = true) (hN : X.N.Nodup) (ok : BlkOk X.N X.env.scope scope own) (h : GI X Γ M tg iter (LcOkM X Γ tg elt ifs scope (own.map (·.2)) fun d M1 => E.nx (Γ.set j (some d)) M1) fun c f M1 => E.ex c f Γ M1)
    (hsw : swapsWith (.ListComp elt [⟨tg, iter, ifs, 0⟩] scope pos) (some (.Name y py)) p.line X.env = pure true)
    (hy : X.N[j]? = some y := by rfl) (hyl : X.env.scope.names.lookup y = some .local := by rfl) (hs : ∀ x, foldedSetIterable iter X.env x = pure x := by intro _; rfl) : GS X Γ M (.Assign [.Name y py] (.ListComp elt [⟨tg, iter, ifs, 0⟩] scope pos) p) E := fun S σ hM hE W tk De L =>
  of_ps (ps_setLc hc hN hy hyl hsw wi ok pg_all pts_all pe_all hs) (h S σ hM hE W tk (L.kw hE) _ fun n it G M1 S1 J hl hM1 g1 wk => fun Da hD =>
    lc_runM (Q := fun v H' => gName j v σ H' De.nx) hl hM1 (hE.grow g1) wk (fun d M2 S2 v hk hM2 g2 r2 => L.nx _ M2 S2 _ hk hM2 (g1.trans g2) ((hE.grow (g1.trans g2)).set r2)) hD)
end
theorem k_eq {k : KD} {d d' : D} {M M' : Ms} (h : k d M) (e1 : d = d') (e2 : M = M') : k d' M' := e1 ▸ e2 ▸ h
end PD

set_option Elab.async false
set_option linter.all false
set_option maxRecDepth 100000
set_option maxHeartbeats 4000000
/-! PD: len(set(xs)), xs a fresh list of texts, one at most. -/
namespace PD
open PySem L2
open Evl (Ex ex_rd ex_l ex_t)
theorem ge_lenset {X : Cx} {Γ : En} {M : Ms} {a : Expr} {p p2 q pos : Pos} {k : KD} {kx : KX} (hm : X.mg "len" = none) (hm2 : X.mg "set" = none) (hc : X.calm = true)
    (h : GE X Γ M a (fun d M1 => ∃ xs : List Str, d = .lst (xs.map D.str) ∧ xs.Nodup ∧ xs.length ≤ 1 ∧ k (.int xs.length) M1) kx) (hg : Gl X "len" := by rfl) (hg2 : Gl X "set" := by rfl)
    (na : starEach [a] X.env = (false, eval a X.env) :: starEach [] X.env := by rfl) : GE X Γ M (.Call (.Name "len" p) [.Call (.Name "set" p2) [a] [] q] [] pos) k kx := fun S σ hM hE W tk hW Q hQ =>
  of_pe (pe_lenSet hc hg hm hg2 hm2 we na) (h S σ hM hE W tk hW _ fun d M1 S1 v ⟨xs, e, _, hl, hk⟩ hM1 g1 r1 => by
    subst e
    obtain ⟨b, ys, rfl, hz, r⟩ := r1
    cases repStr r
    exact ⟨b, xs, rfl, .inl (SqL.of (hM1.zh _ _ hz)), hl, hQ _ M1 S1 _ hk hM1 g1 rfl⟩)
/-- a test a op b op' c -/
theorem gt_chain {X : Cx} {Γ : En} {M : Ms} {a b c : Expr} {pos : Pos} {op op' : CmpOp} {r r' : R2} {k : KB} {kx : KX} (ho : OpR X (compareOp op) r) (ho' : OpR X (compareOp op') r') (h : GE X Γ M a (fun x M1 => GE X Γ M1 b (fun y M2 => Bin X.K r x y M2 fun z M3 => ∃ v, z = .bl v ∧ (v = true → GE X Γ M3 c (fun w M4 => Bin X.K r' y w M4 fun d M5 => ∃ u, d = .bl u ∧ k u M5) kx) ∧ (v = false → k false M3)) kx) kx) (hm : lastMarks [op, op'] [b, c] = false := by rfl) : GT X Γ M (.Compare a [op, op'] [b, c] pos) k kx := fun S σ hM hE W tk hW Q hQ =>
  of_pt (pt_chain ho ho' we we we (hm := hm)) (h S σ hM hE W tk hW _ fun x M1 S1 vx h1 hM1 g1 rx => h1 S1 σ hM1 (hE.grow g1) W tk (hW.grow g1) _ fun y M2 S2 vy h2 hM2 g2 ry => h2 S2 vx vy hM2 (rx.grow g2) ry _ fun z M3 S3 vz ⟨v, e1, q1, q2⟩ hM3 g3 rz => by
    subst e1; cases rz
    have g := (g1.trans g2).trans g3
    refine ⟨v, rfl, ?_⟩
    cases v
    · exact ⟨false, rfl, hQ false M3 S3 (q2 rfl) hM3 g⟩
    · exact q1 rfl S3 σ hM3 (hE.grow g) W tk (hW.grow g) _ fun w M4 S4 vw h4 hM4 g4 rw' => h4 S4 vy vw hM4 ((ry.grow g3).grow g4) rw' _ fun d M5 S5 v5 ⟨u, e5, q5⟩ hM5 g5 r5 => by
        subst e5; cases r5
        exact ⟨u, rfl, hQ u M5 S5 q5 hM5 ((g.trans g4).trans g5)⟩)
theorem b_dict : bootBuiltins "dict" = some (.type "dict") := by kernel_rfl
theorem seen_at {K : PySem.W.Frag} {S : Sg} {kvs : List (Key × V)} {ds : List D} {q : Key} (rr : RepL K S ds (kvs.map (·.2))) : (valV kvs q).isSome = (valK (kvs.map (·.1)) ds q).isSome := by
  obtain ⟨h1, h2⟩ := valK_at (k := q) rr
  cases e : valK (kvs.map (·.1)) ds q with
  | some d => obtain ⟨v, hv, _⟩ := h1 d e; simp [hv]
  | none => simp [h2 e]
theorem gt_din {X : Cx} {Γ : En} {M : Ms} {i o : Expr} {pos : Pos} {k : KB} {kx : KX} (hu : X.A.units + 1 < cLine) (h : GE X Γ M i (fun y M1 => GE X Γ M1 o (fun x M2 => ∃ ks ds q, DctD M2 x ks ds ∧ y = kD q ∧ k ((valK ks ds q).isSome) M2) kx) kx) (hb : behindInMarks .In o = false := by first | exact nobehind _ (by decide) (by decide) | rfl) : GT X Γ M (.Compare i [.In] [o] pos) k kx := fun S σ hM hE W tk hW Q hQ =>
  of_pt (pt_cmp (pc_din hu we we) hb) (h S σ hM hE W tk hW _ fun y M1 S1 vy h1 hM1 g1 ry => h1 S1 σ hM1 (hE.grow g1) W tk (hW.grow g1) _ fun x M2 S2 vx ⟨ks, ds, q, hd, e1, hk⟩ hM2 g2 rx => by
    subst e1
    obtain rfl := rep_kD ry
    obtain ⟨a, kvs, rfl, hh, e2, rr⟩ := hd.at hM2 rx
    subst e2
    refine ⟨a, valV kvs q, rfl, dget_rd hh, _, rfl, ?_⟩
    rw [seen_at rr]
    exact hQ _ M2 S2 hk hM2 (g1.trans g2))
theorem gt_dnotin {X : Cx} {Γ : En} {M : Ms} {i o : Expr} {pos : Pos} {k : KB} {kx : KX} (hu : X.A.units + 1 < cLine) (h : GE X Γ M i (fun y M1 => GE X Γ M1 o (fun x M2 => ∃ ks ds q, DctD M2 x ks ds ∧ y = kD q ∧ k (!(valK ks ds q).isSome) M2) kx) kx) (hb : behindInMarks .NotIn o = false := by first | exact nobehind _ (by decide) (by decide) | rfl) : GT X Γ M (.Compare i [.NotIn] [o] pos) k kx := fun S σ hM hE W tk hW Q hQ =>
  of_pt (pt_cmp (pc_dnotin hu we we) hb) (h S σ hM hE W tk hW _ fun y M1 S1 vy h1 hM1 g1 ry => h1 S1 σ hM1 (hE.grow g1) W tk (hW.grow g1) _ fun x M2 S2 vx ⟨ks, ds, q, hd, e1, hk⟩ hM2 g2 rx => by
    subst e1
    obtain rfl := rep_kD ry
    obtain ⟨a, kvs, rfl, hh, e2, rr⟩ := hd.at hM2 rx
    subst e2
    refine ⟨a, valV kvs q, rfl, dget_rd hh, _, rfl, ?_⟩
    rw [seen_at rr]
    exact hQ _ M2 S2 hk hM2 (g1.trans g2))
end PD

set_option Elab.async false
set_option linter.all false
set_option maxRecDepth 100000
set_option maxHeartbeats 4000000
/-! PD: lists that are no longer changed, known by their names; isinstance of a list that may change. -/
namespace PD
open PySem L2
open Evl (Ex ex_rd ex_l ex_t)
theorem isi_hdl {K : PySem.W.Frag} {M : Ms} {k : KD} {h : Addr} {ds : List D} {c : String} {b : Bool} {p : Nat} (hm : M[p]? = some (h, .lst ds)) (hb : kitB "list" c = some b) (hk : k (.bl b) M) : CallD K (rIsi K) [.hdl h, .raw (.ty c)] M k := fun S vs hM rv Q hQ => by
  obtain ⟨v, w, rfl, r1, r2⟩ := rep2 rv
  cases r1; cases r2
  obtain ⟨_, xs, hh, _⟩ := hM.at hm
  exact ⟨.ref h, .ty c, .type "list", .type c, b, rfl, .ty c, .base (.lst hh), kit_ty hb, hQ _ M S _ hk hM (Grow.refl _) rfl⟩
/-- the entry at j is not changed any more -/
theorem frz_at {K : PySem.W.Frag} {S : Sg} {M : Ms} {j : Nat} {a : Addr} {ds : List D} (hM : OkM K S M) (hj : M[j]? = some (a, MO.lst ds)) :
    ∃ S', S'.H = S.H ∧ OkM K S' (M.eraseIdx j) ∧ Grow S S' ∧ ∃ xs, S'.Z a = some (.lst xs) ∧ RepL K S' ds xs := by
  obtain ⟨hz, xs, hh, hr⟩ := hM.at hj
  obtain ⟨hM2, g2⟩ := frz_m hM hj hz hh
  have hs : (M.eraseIdx j).Sublist (M.set j (a, .gone)) := by
    have e : (M.set j (a, MO.gone)).eraseIdx j = M.eraseIdx j := List.eraseIdx_set_eq
    rw [← e]
    exact List.eraseIdx_sublist _ _
  obtain ⟨hM3, g3⟩ := drop_m hM2 hs
  have g := g3 S g2
  exact ⟨⟨(M.eraseIdx j).map (·.1), upd S.Z a (.lst xs), S.H⟩, rfl, hM3, g, xs, upd_same, hr.grow g⟩
/-- a variable's list is not changed any more -/
theorem gb_frzV {X : Cx} {Γ : En} {M : Ms} {sts : List Stmt} {E : ED} (i j : Nat) {a : Addr} {ds : List D} (hi : Γ[i]? = some (some (.hdl a))) (hj : M[j]? = some (a, MO.lst ds)) (h : GB X (Γ.set i (some (.lst ds))) (M.eraseIdx j) sts E) : GB X Γ M sts E := fun S σ hM hE W tk De L => by
  obtain ⟨S', e, hM', g, xs, hz, hr⟩ := frz_at hM hj
  obtain ⟨v, hv, rv⟩ := hE.2 i _ hi
  have rv2 : v = .ref a := rv
  subst rv2
  have hE2 : EnvOk X.K S' (σ.set i (some (.ref a))) (Γ.set i (some (.lst ds))) := (hE.grow g).set ⟨a, xs, rfl, hz, hr⟩
  have es : σ.set i (some (.ref a)) = σ := by
    refine List.ext_getElem? fun q => ?_
    rw [List.getElem?_set]
    by_cases h : i = q
    · subst h
      have hl := (List.getElem?_eq_some_iff.mp hv).1
      rw [if_pos rfl, if_pos hl, hv]
    · rw [if_neg h]
  rw [es] at hE2
  have := h S' σ hM' hE2 W tk De (L.grow g)
  rw [e] at this
  exact this
end PD

set_option Elab.async false
set_option linter.all false
set_option maxRecDepth 100000
set_option maxHeartbeats 4000000
/-! PD: the set of the texts of a list, all unlike; its size. -/
namespace PT
open PySem PySem.Spec PyProof.Rows
section
variable {prog : Program} {w : World} {A : Around} {R : Result → Shared → Prop} {I S : Addr} {fp wr : List Addr} {G : Array GenState → Array GenState → Prop} {n : Nat} {P : Nat → Value → Prop} {St : Nat → Shared → Prop} {xs : List Str}
abbrev Holds (prog : Program) (w : World) (h : Heap) (S : Addr) (ys : List Str) : Prop := h.SetOf (PySem.strKind prog w) S (fun z => decide (z ∈ ys)) ys.length
theorem Holds.on {h h' : Heap} {ys : List Str} (a : Holds prog w h S ys) (same : ∀ o, h.get? S = some o → h'.get? S = some o) : Holds prog w h' S ys := by
  obtain ⟨o, es, ep, tb, ho, more⟩ := a
  exact ⟨o, es, ep, tb, same o ho, more⟩
theorem Holds.snoc {h : Heap} {ys : List Str} {y : Str} (a : h.SetOf (PySem.strKind prog w) S (fun z => decide (z ∈ ys) || decide (z = y)) (if decide (y ∈ ys) = true then ys.length else ys.length + 1)) (new : y ∉ ys) : Holds prog w h S (ys ++ [y]) :=
  SetOf_congr a (fun z => by by_cases q : z = y <;> simp [q]) (by simp [new])
/-- the loop that puts the texts in, from the i-th on -/
theorem fill (W : WalksS prog w A.in1 I fp wr G n P St) (apart : S ∉ fp) (len : xs.length = n) (nd : xs.Nodup) (small : n + 1 < scanBound) (told : ∀ i v, P i v → ∃ t, v = .str (xs.getD i Str.empty) t) :
    ∀ (m i : Nat) (s : Shared), i + m = n → St i s → Holds prog w s.heap S (xs.take i) → (∀ t, Moved (S :: wr) G s t → Holds prog w t.heap S xs → R (.ok (.ret .none)) t) →
      codeAny (model prog w) A (.builtin "set.update.loop" ⟨[.ref S, .ref I], []⟩) R s := by
  have free : S ∉ wr := fun z => apart (W.sub _ z)
  have wide : ∀ b ∈ wr, b ∈ S :: wr := fun b z => List.mem_cons_of_mem _ z
  intro m
  induction m with
  | zero =>
    intro i s e at' have' fin
    refine codeAny_builtin F.entry_set_update_loop ?_
    rw [Around.under_plainId F.plain_set_update_loop _]
    have ei : i = n := e
    subst ei
    show wpAny _ A.in1 (pyNext (.ref I) >>= _) _ _ s
    refine wpAny_bind (W.done s _ _ at' fun t moved => ?_)
    show wpAny _ A.in1 (ret Value.none) _ _ t
    rw [← len, List.take_length] at have'
    exact wpAny_pure (fin t (moved.mono wide) (have'.on fun o => moved.heap S o free))
  | succ m more =>
    intro i s e at' have' fin
    have il : i < n := by omega
    have ix : i < xs.length := by omega
    refine codeAny_builtin F.entry_set_update_loop ?_
    rw [Around.under_plainId F.plain_set_update_loop _]
    show wpAny _ A.in1 (pyNext (.ref I) >>= _) _ _ s
    refine wpAny_bind (W.item i s _ _ il at' fun v t pv at2 moved => ?_)
    obtain ⟨tk, rfl⟩ := told i v pv
    have y : xs.getD i Str.empty = xs[i] := by rw [List.getD_eq_getElem?_getD, List.getElem?_eq_getElem ix]; rfl
    rw [y]
    have lt : (xs.take i).length = i := by rw [List.length_take]; omega
    have fresh : xs[i] ∉ xs.take i := fun z => by
      obtain ⟨j, hj, ej⟩ := List.getElem_of_mem z
      rw [lt] at hj
      rw [List.getElem_take] at ej
      have := (List.getElem_inj nd).mp ej
      omega
    have grown : xs.take (i + 1) = xs.take i ++ [xs[i]] := by rw [List.take_add_one, List.getElem?_eq_getElem ix]; rfl
    show wpAny _ A.in1 (holding [Value.str xs[i] tk] (setAdd S (.str xs[i] tk)) >>= _) _ _ t
    refine wpAny_bind (wpAny_holding ?_)
    unfold setAdd
    refine wpAny_holding (wpAny_bind ((PySem.strKind prog w).pyHash (k := xs[i]) (strKind_is _ _ _ _) ?_))
    refine wpAny_setAddHashed_of (knd := PySem.strKind prog w) (s := { t with toks := t.toks + 1 }) (strKind_is _ _ _ _) rfl (have'.on fun o => moved.heap S o free) (by rw [lt]; omega) fun h' same in2 => ?_
    have in3 : Holds prog w h' S (xs.take (i + 1)) := by rw [grown]; exact Holds.snoc in2 fresh
    refine wpAny_pure ⟨plainId_quiet F.plain_set_update_loop _, more (i + 1) _ (by omega) (W.frame _ t _ _ at2 (Nat.le_succ _) fun b hb o eo => ?_) in3 fun t2 moved2 all => fin t2 ?_ all⟩
    · rw [same.2 b fun q : b = S => apart (by rw [← q]; exact hb)]; exact eo
    · refine Moved.trans W.gtrans ((moved.mono wide).then_heap (Nat.le_succ _) fun b o hb eo => ?_) moved2
      rw [same.2 b fun q : b = S => hb (by rw [q]; exact List.mem_cons_self)]; exact eo
end
section
variable {prog : Program} {w : World} {A : Around} {E : Value → Shared → Prop} {s : Shared}
abbrev emptySet (led : Bool) : Obj := { cls := .type "set", dict := none, data := .set #[] 0 (.fresh 0 0 led) }
theorem set_texts {l : Addr} {us : Array Value} {xs : List Str} {Q : Value → Shared → Prop} (calm : A.handled = none) (ls : s.heap.IsList l us) (tx : StrsAre us.toList xs) (nd : xs.Nodup) (small : xs.length + 1 < scanBound)
    (ok : ∀ (h' : Heap) (tk : Nat), Holds prog w h' s.heap.objs.size xs → (∀ b o, b < s.heap.objs.size → s.heap.get? b = some o → h'.get? b = some o) → Q (.ref s.heap.objs.size) { s with heap := h', toks := tk }) :
    wpAny (model prog w) A (call (.type "set") [.ref l]) Q E s := by
  obtain ⟨c, tl, way⟩ := PySem.F.called_set.mro
  have b1 := PySem.F.called_set.made
  have b2 := PySem.F.called_set.sub
  have b3 := PySem.F.called_set.notType
  have b4 := PySem.F.called_set.canCreate
  have b5 := PySem.F.typeCall_set_1 (.ref l)
  refine wpAny_call (codeAny_of_tree ?_)
  show wpAny _ _ (callAny (.type "set") _) _ _ _
  refine wpAny_pure ⟨Code.quiet_builtin _ (by decide +kernel), codeAny_builtin PySem.F.entry_type_call ?_⟩
  rw [Around.under_plain (weight_type_call_type "set" [.ref l] []) rfl]
  repeat (any_goals (first | assumption | wp_step))
  refine codeAny_mono (code_set_new_1 (.ref l) (E := E) (Q₁ := fun v t => ∃ led : Bool, v = .ref s.heap.objs.size ∧ t = { s with heap := s.heap.push (emptySet led) }) fun led => ⟨led, rfl, rfl⟩) fun r t hr => ?_
  match r, hr with
  | .error e, hr => exact hr
  | .ok .next, hr => exact hr.elim
  | .ok .brk, hr => exact hr.elim
  | .ok .cont, hr => exact hr.elim
  | .ok (.ret v), ⟨led, e1, e2⟩ =>
  subst e1 e2
  have here : (s.heap.push (emptySet led)).get? s.heap.objs.size = some (emptySet led) := Heap.get?_push_size _ rfl
  have kind : Shared.TypeIs { s with heap := s.heap.push (emptySet led) } (.ref s.heap.objs.size) "set" := ⟨_, here, rfl⟩
  have b6 := PySem.F.called_set.init.lookup
  have b7 := PySem.F.called_set.init.bind (.ref s.heap.objs.size)
  repeat (any_goals (first | assumption | wp_step))
  refine codeAny_mono (codeAny_call_builtin (R := wants (fun v t => v = .none ∧ ∃ h' tk, t = { s with heap := h', toks := tk } ∧ Holds prog w h' s.heap.objs.size xs ∧ ∀ b o, b < s.heap.objs.size → s.heap.get? b = some o → h'.get? b = some o) E)
    PySem.F.called_set.init.plain PySem.F.entry_set_init (check_set_init_1 kind ?_)) fun r t hr => ?_
  · obtain ⟨⟨c0, d0, x0, z0⟩, got, ec, k0, ed⟩ := ls
    simp only at ec ed
    subst ec ed
    have lower : l < s.heap.objs.size := Heap.lt_size got
    have got2 := Heap.get?_push_of_some (emptySet led) got
    have isl : (s.heap.push (emptySet led)).IsList l us := ⟨_, got2, rfl, k0, rfl⟩
    have a1 := PySem.F.sub_list_set
    have a2 := PySem.F.sub_list_frozenset
    have a3 : (Value.type "list" == Value.type "dict") = false := by decide
    unfold Builtin.«set.__init__» noKeywords Builtin.Frozenset.updateFrom
    generalize hPI : pyIter = PI
    wp_walk
    subst hPI
    refine wpAny_pyIter_list isl (wpAny_bind (wpAny_runValue ?_))
    have size1 : (s.heap.push (emptySet led)).objs.size = s.heap.objs.size + 1 := Heap.size_push ..
    have off : l ≠ (s.heap.push (emptySet led)).objs.size := by rw [size1]; exact Nat.ne_of_lt (Nat.lt_succ_of_lt lower)
    have calm3 : A.in1.in1.in1.handled = none := by simp [calm]
    have len : xs.length = us.size := by rw [← StrsAre.len_eq tx, Array.length_toList]
    refine fill ((Walks.list calm3 _ l off us).toS) (S := s.heap.objs.size) (by rw [size1]; simp only [List.mem_cons, List.not_mem_nil, or_false, not_or]; exact ⟨Nat.ne_of_lt (Nat.lt_succ_self _), Nat.ne_of_gt lower⟩) len nd (by omega) (fun i v hv => SS.strs_at tx i v (by rw [Array.getElem?_toList]; exact hv)) us.size 0 _ (by omega)
      ⟨⟨_, Heap.get?_push_size _ rfl, rfl, rfl⟩, isl.push _⟩ ?_ fun t moved all => ?_
    · exact SetOf_congr ((setObjOf_fresh (knd := PySem.strKind prog w) led).setOf (Heap.get?_push_of_some _ here) (by omega)) (fun _ => by simp) rfl
    · obtain ⟨h', g', d', tk', os'⟩ := t
      obtain rfl : g' = s.gens := moved.gens
      obtain rfl : d' = s.drawn := moved.drawn
      obtain rfl : os' = s.os := moved.os
      show wpAny _ _ _ _ _ _
      refine wpAny_pure ?_
      show wpAny _ _ (ret Value.none) _ _ _
      exact wpAny_pure ⟨rfl, h', tk', rfl, all, fun b o hb e => moved.heap b o (by rw [size1]; simp only [List.mem_cons, List.not_mem_nil, or_false, not_or]; exact ⟨Nat.ne_of_lt hb, Nat.ne_of_lt (Nat.lt_succ_of_lt hb)⟩) (Heap.get?_push_of_some _ (Heap.get?_push_of_some _ e))⟩
  · match r, hr with
    | .error e, hr => exact hr
    | .ok .next, hr => exact hr.elim
    | .ok .brk, hr => exact hr.elim
    | .ok .cont, hr => exact hr.elim
    | .ok (.ret v), ⟨e1, h', tk, e2, all, keep⟩ =>
    subst e1 e2
    repeat (any_goals (first | assumption | wp_step))
    exact ok _ _ all keep
end
end PT
namespace PD
open PySem L2
open Evl (Ex ex_rd ex_l ex_t)
open PySem.Spec PyProof.Rows
/-- len(set(e)), e a fresh list of unlike texts -/
theorem ge_lensetN {X : Cx} {Γ : En} {M : Ms} {a : Expr} {p p2 q pos : Pos} {k : KD} {kx : KX} (hm : X.mg "len" = none) (hm2 : X.mg "set" = none) (hc : X.calm = true)
    (h : GE X Γ M a (fun d M1 => ∃ xs : List Str, d = .lst (xs.map D.str) ∧ xs.Nodup ∧ xs.length ≤ 1000 ∧ k (.int xs.length) M1) kx) (hg : Gl X "len" := by rfl) (hg2 : Gl X "set" := by rfl)
    (na : starEach [a] X.env = (false, eval a X.env) :: starEach [] X.env := by rfl) : GE X Γ M (.Call (.Name "len" p) [.Call (.Name "set" p2) [a] [] q] [] pos) k kx := fun S σ hM hE W tk hW Q hQ pins s I => by
  refine Call_ (ld_blt I hg hm boot_len (callWith_builtin1 (args_cons (Call_ (ld_blt I hg2 hm2 boot_set (callWith_type1 (args_cons (thn (h S σ hM hE W tk hW (fun x H1 => ∃ b, ∃ xs : List Str, x = .ref b ∧ SqL X.K H1 b (xs.map V.str) ∧ xs.Nodup ∧ xs.length ≤ 1000 ∧ Q (.int xs.length) H1)
    (fun d M1 S1 v ⟨xs, e, nd, hl, hk⟩ hM1 g1 r1 => ?_) pins s I) fun v s1 ⟨x, H1, I1, r1, b, xs, ex, hq, nd, hl, q1⟩ => args_nil ?_) na) na rfl))) rfl) rfl rfl))
  · subst e
    obtain ⟨b, ys, rfl, hz, r⟩ := r1
    cases repStr r
    exact ⟨b, xs, rfl, SqL.of (hM1.zh _ _ hz), nd, hl, hQ _ M1 S1 _ hk hM1 g1 rfl⟩
  · subst ex
    cases r1
    obtain ⟨its, r, pl, _⟩ := I1.list hq
    refine PT.set_texts (I1.ok.hd hc) pl.isList (by simpa using strsAre_of r) nd (by unfold scanBound; omega) fun h' tk2 all keep => args_nil ?_
    obtain ⟨o, es, ep, t, ho, hex, hd, _, _, _, hf, hn⟩ := all
    have I2 : Inv X pins σ H1 { s1 with heap := h', toks := tk2 } := I1.kept fun b o e => keep b o (Heap.lt_size e) e
    exact call_len_set ho hex hd hf (by rw [hn]; omega) ⟨.int xs.length, H1, I2.tok _, ⟨_, by rw [hn]⟩, q1⟩
end PD

set_option Elab.async false
set_option linter.all false
set_option maxRecDepth 100000
set_option maxHeartbeats 4000000
/-! PD: three names stored at once, {} as a dict that may change. -/
namespace PD
open PySem L2
open Evl (Ex ex_rd ex_l ex_t)
section
variable {X : Cx} {Γ : En} {M : Ms} {k : KD} {kx : KX} {pos : Pos}
theorem rep3 {K : PySem.W.Frag} {S : Sg} {x y z : D} {vs : List V} (h : RepL K S [x, y, z] vs) : ∃ u v w, vs = [u, v, w] ∧ Rep K S x u ∧ Rep K S y v ∧ Rep K S z w := by
  obtain ⟨u, r1, rfl, hu, h1⟩ := h
  obtain ⟨v, r2, rfl, hv, h2⟩ := h1
  obtain ⟨w, r3, rfl, hw, h3⟩ := h2
  have e : r3 = [] := h3
  subst e
  exact ⟨u, v, w, rfl, hu, hv, hw⟩
theorem gs_par3 (i j l : Nat) {x y z : Str} {a b c : Expr} {px py pz pt : Pos} {kt k2 : Nat} {pt2 : Pos} {E : ED} (hc : X.calm = true) (h : GA X Γ M [a, b, c] (fun ds M1 => ∃ u v w, ds = [u, v, w] ∧ E.nx (((Γ.set i (some u)).set j (some v)).set l (some w)) M1) (fun c f M1 => E.ex c f Γ M1))
    (hN : X.N.Nodup) (hi : X.N[i]? = some x := by rfl) (hj : X.N[j]? = some y := by rfl) (hl : X.N[l]? = some z := by rfl) (hij : i ≠ j := by decide) (hil : i ≠ l := by decide) (hjl : j ≠ l := by decide)
    (hx : X.env.scope.names.lookup x = some .local := by rfl) (hy : X.env.scope.names.lookup y = some .local := by rfl) (hz : X.env.scope.names.lookup z = some .local := by rfl)
    (hw : swappedStores [.Tuple [.Name x px, .Name y py, .Name z pz] kt pt] (.Tuple [a, b, c] k2 pt2) X.env = pure (some [x, y, z]) := by rfl)
    (hs : swapsWithSole [.Tuple [.Name x px, .Name y py, .Name z pz] kt pt] (.Tuple [a, b, c] k2 pt2) pos.line X.env = pure false := by rfl) : GS X Γ M (.Assign [.Tuple [.Name x px, .Name y py, .Name z pz] kt pt] (.Tuple [a, b, c] k2 pt2) pos) E := fun S σ hM hE W tk De L =>
  of_ps (ps_par3 hc hN hi hj hl hij hil hjl hx hy hz wa hw hs) (h S σ hM hE W tk (L.kw hE) _ fun ds M1 S1 vs ⟨u, v, w, e, hk⟩ hM1 g1 r1 => by
    subst e
    obtain ⟨p, q, t, rfl, r2, r3, r4⟩ := rep3 r1
    exact ⟨p, q, t, rfl, L.nx _ M1 S1 _ hk hM1 g1 ((((hE.grow g1).set r2).set r3).set r4)⟩)
theorem ge_dnew (h : ∀ p, k (.hdl p) (M ++ [(p, .dct [] [])])) : GE X Γ M (.Dict [] [] pos) k kx := fun S σ hM hE W tk hW Q hQ =>
  of_pe pe_dnewK fun p hp => by
    obtain ⟨a, g⟩ := new_m (m := .dct [] []) (o := .dK []) hM hp (fun g => ⟨hM.zh.none hp, [], upd_same, rfl, RepL.nil⟩)
    exact hQ _ _ ⟨S.as ++ [p], S.Z, upd S.H p (.dK [])⟩ (.ref p) (h p) a g rfl
end
end PD

set_option Elab.async false
set_option linter.all false
set_option maxRecDepth 100000
set_option maxHeartbeats 4000000
/-! PD: dicts written out; pop. -/
namespace PD
open PySem L2
open Evl (Ex ex_rd ex_l ex_t)
section
variable {X : Cx} {Γ : En} {kx : KX} {pos : Pos}
/-- the pairs of a display, from the left -/
def GPs (X : Cx) (Γ : En) (kx : KX) : List (Expr × Expr) → Ms → (List (D × D) → Ms → Prop) → Prop
  | [], M, k => k [] M
  | (a, b) :: r, M, k => GE X Γ M a (fun x M1 => GE X Γ M1 b (fun y M2 => GPs X Γ kx r M2 fun ps M3 => k ((x, y) :: ps) M3) kx) kx
theorem RepL.erase {K : PySem.W.Frag} {S : Sg} : ∀ {ds : List D} {xs : List V} (i : Nat), RepL K S ds xs → RepL K S (ds.eraseIdx i) (xs.eraseIdx i)
  | [], _, _, h => by have e : _ = [] := h; subst e; exact .nil
  | d :: ds, _, 0, h => by obtain ⟨x, r, rfl, h1, h2⟩ := h; exact h2
  | d :: ds, _, i + 1, h => by obtain ⟨x, r, rfl, h1, h2⟩ := h; exact .cons h1 (RepL.erase i h2)
def RepP (K : PySem.W.Frag) (S : Sg) : List (D × D) → List (V × V) → Prop
  | [], vs => vs = []
  | (x, y) :: ps, vs => ∃ u v r, vs = (u, v) :: r ∧ Rep K S x u ∧ Rep K S y v ∧ RepP K S ps r
theorem RepP.grow {K : PySem.W.Frag} {S S' : Sg} (g : Grow S S') : ∀ {ps : List (D × D)} {vs : List (V × V)}, RepP K S ps vs → RepP K S' ps vs
  | [], _, h => h
  | (x, y) :: ps, _, ⟨u, v, r, e, h1, h2, h3⟩ => ⟨u, v, r, e, h1.grow g, h2.grow g, RepP.grow g h3⟩
theorem gps_run : ∀ (ps : List (Expr × Expr)) (M : Ms) (k : List (D × D) → Ms → Prop) (S0 S : Sg) (σ : L2.St), GPs X Γ kx ps M k → OkM X.K S M → Grow S0 S → EnvOk X.K S σ Γ → ∀ W, Takes X W → KW X.K S kx W σ → ∀ Q : List (V × V) → Hp → Prop, (∀ ds M' S' vs, k ds M' → OkM X.K S' M' → Grow S0 S' → RepP X.K S' ds vs → Q vs S'.H) →
    tPairs (ps.map fun p => (WE X p.1, WE X p.2)) σ S.H Q
  | [], M, k, S0, S, σ, h, hM, g, hE, W, tk, hW, Q, hQ => hQ [] M S [] h hM g rfl
  | (a, b) :: r, M, k, S0, S, σ, h, hM, g, hE, W, tk, hW, Q, hQ => h S σ hM hE W tk hW _ fun x M1 S1 u h1 hM1 g1 ru => h1 S1 σ hM1 (hE.grow g1) W tk (hW.grow g1) _ fun y M2 S2 v h2 hM2 g2 rv =>
    gps_run r M2 _ S2 S2 σ h2 hM2 (Grow.refl _) ((hE.grow g1).grow g2) W tk ((hW.grow g1).grow g2) _ fun ds M' S' vs hk hM' gg r' =>
      hQ ((x, y) :: ds) M' S' ((u, v) :: vs) hk hM' ((g.trans (g1.trans g2)).trans gg) ⟨u, v, vs, rfl, (ru.grow g2).grow gg, rv.grow gg, r'⟩
theorem pps_all : ∀ ps : List (Expr × Expr), PPs X pos (ps.map fun p => some p.1) (ps.map (·.2)) (ps.map fun p => (WE X p.1, WE X p.2))
  | [] => pps_nil
  | (a, b) :: r => pps_cons we we (pps_all r)
theorem repP_keys {K : PySem.W.Frag} {S : Sg} : ∀ {qs : List (Key × D)} {vs : List (V × V)}, RepP K S (qs.map fun q => (kD q.1, q.2)) vs → ∃ kvs : List (Key × V), vs = kvs.map (fun kv => (kV kv.1, kv.2)) ∧ kvs.map (·.1) = qs.map (·.1) ∧ RepL K S (qs.map (·.2)) (kvs.map (·.2))
  | [], vs, h => by
    have e : vs = [] := h
    exact ⟨[], e, rfl, RepL.nil⟩
  | (q, d) :: qs, vs, h => by
    obtain ⟨u, v, r, e, h1, h2, h3⟩ := h
    obtain ⟨kvs, e1, e2, e3⟩ := repP_keys h3
    have eu : u = kV q := rep_kD h1
    exact ⟨(q, v) :: kvs, by rw [e, e1, eu]; rfl, by rw [List.map_cons, List.map_cons, e2], .cons h2 e3⟩
theorem putK_new {kvs : List (Key × V)} {k : Key} {v : V} (h : k ∉ kvs.map (·.1)) : putK kvs k v = kvs ++ [(k, v)] := by
  have : ∀ kv ∈ kvs, ¬ kv.1 = k := fun kv hm e => h (e ▸ List.mem_map_of_mem hm)
  unfold putK
  rw [if_neg (by
    intro z
    first
      | exact absurd z (by simpa using h)
      | (simp at z; obtain ⟨a, ha⟩ := z; exact this _ ha rfl))]
theorem mergeK_new : ∀ {more kvs : List (Key × V)}, (kvs.map (·.1) ++ more.map (·.1)).Nodup → mergeK kvs more = kvs ++ more
  | [], kvs, _ => by simp [mergeK]
  | (k, v) :: r, kvs, h => by
    have hk : k ∉ kvs.map (·.1) := fun m => (List.nodup_append.mp h).2.2 k m k (by simp) rfl
    have e : mergeK kvs ((k, v) :: r) = mergeK (putK kvs k v) r := rfl
    rw [e, putK_new hk, mergeK_new (by simpa using h)]
    simp
/-- a dict written out, its keys unlike: it may change -/
theorem ge_disp {M : Ms} {k : KD} {keys : List (Option Expr)} {values : List Expr} (ps : List (Expr × Expr)) (ek : keys = ps.map fun p => some p.1) (ev : values = ps.map (·.2)) (h0 : ps ≠ []) (h15 : ps.length ≤ 15)
    (h : ∀ p, GPs X Γ kx ps (M ++ [(p, .dct [] [])]) fun ds M1 => ∃ (j : Nat) (qs : List (Key × D)), M1[j]? = some (p, .dct [] []) ∧ ds = qs.map (fun q => (kD q.1, q.2)) ∧ qs.length ≤ 15 ∧ (qs.map (·.1)).Nodup ∧ k (.hdl p) (M1.set j (p, .dct (qs.map (·.1)) (qs.map (·.2))))) :
    GE X Γ M (.Dict keys values pos) k kx := fun S σ hM hE W tk hW Q hQ => by
  subst ek ev
  refine of_pe (pe_disp (pps_all ps) (by simp) (by simp) (by simpa using h0) (by simpa using h15)) fun p hp => ?_
  obtain ⟨hM1, g1⟩ := new_m (o := .dK []) (m := .dct [] []) hM hp fun g => ⟨hM.zh.none hp, [], upd_same, rfl, RepL.nil⟩
  refine gps_run ps _ _ S ⟨S.as ++ [p], S.Z, upd S.H p (.dK [])⟩ σ (h p) hM1 g1 (hE.grow g1) W tk (hW.grow g1) _ fun ds M2 S2 vs ⟨j, qs, hj, e, hl, nd, hk⟩ hM2 g2 r2 => ?_
  subst e
  obtain ⟨kvs, e1, e2, e3⟩ := repP_keys r2
  obtain ⟨hz, kv0, hh, hf, hr⟩ := hM2.at hj
  have e0 : kv0 = [] := by simpa using hf
  subst e0
  refine ⟨hh, kvs, e1, by rw [← List.length_map (f := (·.1)), e2, List.length_map]; exact hl, ?_⟩
  have em : mergeK [] kvs = kvs := by rw [mergeK_new (by simpa [e2] using nd)]; rfl
  rw [em]
  obtain ⟨hM3, g3⟩ := set_m (o := .dK kvs) (m := .dct (qs.map (·.1)) (qs.map (·.2))) hM2 hj hz fun g => ⟨hz, kvs, upd_same, e2, e3.grow g⟩
  exact hQ (.hdl p) _ ⟨S2.as, S2.Z, upd S2.H p (.dK kvs)⟩ (.ref p) hk hM3 (g2.trans g3) rfl
variable {M : Ms} {e o : Expr} {k : KD} {p apos : Pos}
/-- l.pop(i), l a list that may change -/
theorem ge_popAt (h : GE X Γ M o (fun x M1 => (∃ (q : Nat) (a : Addr) (ds : List D), x = .hdl a ∧ M1[q]? = some (a, MO.lst ds)) ∧ GE X Γ M1 e (fun y M2 => ∃ (q : Nat) (a : Addr) (ds : List D) (i j : Nat) (d : D), x = .hdl a ∧ M2[q]? = some (a, MO.lst ds) ∧ y = .int (i : Int) ∧ j = i ∧ j < 16777216 ∧ ds[j]? = some d ∧ k d (M2.set q (a, .lst (ds.eraseIdx j)))) kx) kx)
    (hbase : attributeBase o "pop" X.env (eval o X.env) = eval o X.env := by rfl)
    (hfew : ((backTo p (starEach [e] X.env)).all (fun x => !x.1) && (backToKw p (keywordEach [] X.env)).all (fun x => x.1.isSome) && decide ([e].length + ([] : List Keyword).length + (if ([] : List Keyword).isEmpty then 0 else 1) < 30)) = true := by rfl)
    (hline : (apos.endLine == p.line) = true := by rfl) (hs : starEach [e] X.env = (false, eval e X.env) :: starEach [] X.env := by rfl) (hplain : (backTo p (starEach [] X.env)).any (·.1) = false := by rfl) :
    GE X Γ M (.Call (.Attribute o "pop" apos) [e] [] p) k kx := fun S σ hM hE W tk hW Q hQ =>
  of_pe (pe_bm PySem.F.plainAttrs_list PySem.F.slot_list_pop PySem.F.type_list_pop mt_popAt we (pa_cons we pa_nil hs) hbase hfew hline hs hplain) (h S σ hM hE W tk hW _ fun x M1 S1 vx ⟨⟨q0, a0, ds0, ex0, hq0⟩, hk⟩ hM1 g1 rx => by
    subst ex0
    cases rx
    obtain ⟨_, xs0, hh0, _⟩ := hM1.at hq0
    refine ⟨.inl ⟨rfl, _, SqL.of hh0⟩, hk S1 σ hM1 (hE.grow g1) W tk (hW.grow g1) _ fun y M2 S2 vy ⟨q, a, ds, i, j, d, ex, hq, ey, ej, hj9, hj, hk2⟩ hM2 g2 ry => ?_⟩
    cases ex
    subst ej ey
    cases ry
    obtain ⟨hz, xs, hh, rr⟩ := hM2.at hq
    obtain ⟨v, hv, rv⟩ := rr.get hj
    have hl := (List.getElem?_eq_some_iff.mp hv).1
    refine ⟨a0, xs, (j : Int), j, v, rfl, rfl, hh, by omega, by omega, ?_, hv, ?_⟩
    · have h0 : ¬ ((j : Int) < 0) := by omega
      have h1 : (j : Int) < (xs.length : Int) := by omega
      simp [seqIndex?, h0, hl]
    obtain ⟨hM3, g3⟩ := set_m (o := .lst (xs.eraseIdx j)) (m := .lst (ds.eraseIdx j)) hM2 hq hz (fun g => ⟨hz, _, upd_same, (rr.grow g).erase j⟩)
    exact hQ d _ ⟨S2.as, S2.Z, upd S2.H a0 (.lst (xs.eraseIdx j))⟩ v hk2 hM3 (g1.trans (g2.trans g3)) (rv.grow g3))
end
end PD

set_option Elab.async false
set_option linter.all false
set_option maxRecDepth 100000
set_option maxHeartbeats 4000000
/-! PD: == by a class's own def. -/
namespace PD
open PySem L2
open Evl (Ex ex_rd ex_l ex_t)
def noW : WX := fun _ _ _ _ => False
/-- x an instance of the class at C, y any value; sp is what the own == promises -/
def rOwnI (K : PySem.W.Frag) (C : Addr) (sp : Sp) : R2 := fun x y H Q => ∃ a b dx dy fs gs, x = .ref a ∧ y = .ref b ∧ H a = some (.ins C dx fs) ∧ H b = some (.ins C dy gs) ∧ sp [x, y] H (fun v H' => ∃ t, v = .bl t ∧ Q v H') (fun _ _ _ => False)
theorem op_ownI {X : Cx} {j l : Nat} {C : Addr} {R : RSp} (F : MtD X.prog X.w X.K X.mg X.base j C "__eq__" [] R) (hr : Room l X.A) (hl : j ≤ l) : OpR X (compareOp .Eq) (rOwnI X.K C (spD X.K R)) := by
  intro pins s σ H x y v u Q I rx ry h
  obtain ⟨a, b, dx, dy, fs, gs, rfl, rfl, ha, hb', hs⟩ := h
  cases rx
  cases ry
  obtain ⟨f, fd, ps, dvl, dvs, hm, hb, hd, hrd, F'⟩ := F.ex
  have e0 : dvs = [] := hrd ⟨[], H, H⟩
  subst e0
  have r0 := hr.mono hl
  obtain ⟨mA, J, _⟩ := ins_get I.hok ha
  obtain ⟨mB, J', _⟩ := ins_get I.hok hb'
  obtain ⟨od, J, _⟩ := J.look
  obtain ⟨od', J', _⟩ := J'.look
  obtain ⟨m, hF⟩ := I.fr
  refine PySem.W.cmp_K (op := .Eq) (tb := .ref C) r0.units0 hF I.ok.mod.kin J J'.type (by simp [PySem.W.notFirst]) hm.at_ hm.fn ?_
  refine wpAny_mono (run_fnSD (us := [.ref a, .ref b]) (vs := [.ref a, .ref b]) (E := L2.WE noW) F' r0 hb hd (passAt takes0 σ) I (.cons rfl (.cons rfl .nil)) hs) (fun w s' hq => ?_) fun _ _ z => z
  obtain ⟨z, H', I', rz, t, ez, q⟩ := hq
  subst ez
  obtain rfl : w = .bool t := rz
  exact ⟨.bl t, H', I', rfl, q⟩
theorem own_ok {K : PySem.W.Frag} {C : Addr} {R : RSp} {x y : D} {fs gs : List Str} {ds es : List D} {M : Ms} {k : KD} (ox : ObjD M x C fs ds) (oy : ObjD M y C gs es) (hbl : ∀ d M', k d M' → ∃ t, d = .bl t) (h : Hand R [x, y] M k fun _ _ _ => False) : Bin K (rOwnI K C (spD K R)) x y M k := fun S vx vy hM rx ry Q hQ => by
  obtain ⟨a, dx, kvs, rfl, ha, _, _⟩ := ox.at hM rx
  obtain ⟨b, dy, kvs2, rfl, hb, _, _⟩ := oy.at hM ry
  refine ⟨a, b, dx, dy, kvs, kvs2, rfl, rfl, ha, hb, ?_⟩
  have := sp_ofF (S' := S) (vs := [V.ref a, V.ref b]) (Q := fun v H' => ∃ t, v = .bl t ∧ Q v H') (W := noW) (σ := []) hM (.cons rx (.one ry)) h (fun d M' S' v hk hM' g r => by obtain ⟨t, e⟩ := hbl d M' hk; subst e; exact ⟨t, r, hQ _ M' S' v hk hM' g r⟩) (fun _ _ _ _ _ z => z.elim)
  exact this
/-- what isinstance asks of an own class -/
structure IsC (K : PySem.W.Frag) (C : Addr) : Prop where
  cl : Cls K C
  ha : PySem.W.findIn K (.ref C) "__class__" = some (some (.builtin "object.__class__"))
  hn : PySem.W.specialIn K (.builtin "object.__class__") "__get__" = some (some (.builtin "getset_descriptor.__get__"))
  htk : PySem.W.takesIn K (.builtin "object.__class__") = some true
  hm : PySem.W.mroIn K C (.type "object") = some true
theorem isi_own {K : PySem.W.Frag} {C : Addr} (ic : IsC K C) {x : D} {M : Ms} {k : KD} {fs : List Str} {ds : List D} (o : ObjD M x C fs ds) (hk : k (.bl true) M) : CallD K (rIsi K) [x, .raw (.ref C)] M k := call_flat (v := .bl true) (fun S vs hM rv Q q => by
  obtain ⟨v, w, rfl, r1, r2⟩ := rep2 rv
  cases r2
  obtain ⟨a, dx, kvs, rfl, ha, _, _⟩ := o.at hM r1
  exact ⟨.ref a, .ref C, .ref C, .ref C, true, rfl, .own C, .base (.ins ha ic.cl ic.ha ic.hn ic.htk ic.hm), by simp [PySem.W.kitOne], q⟩) hk
end PD

set_option Elab.async false
set_option linter.all false
set_option maxRecDepth 100000
set_option maxHeartbeats 4000000
/-! PW: a def's reading as a predicate (what must hold ahead so that it ends well), put together from parts; the syntax is met once, by CE, CS ..; the walk is over the reading alone. -/
namespace PD
open PySem L2
abbrev WpE := En → Ms → KD → KX → Prop
abbrev WpT := En → Ms → KB → KX → Prop
abbrev WpA := En → Ms → KDs → KX → Prop
abbrev WpS := En → Ms → ED → Prop
structure CE (X : Cx) (e : Expr) (w : WpE) : Prop where
  run : ∀ {Γ M k kx}, w Γ M k kx → GE X Γ M e k kx
structure CT (X : Cx) (e : Expr) (w : WpT) : Prop where
  run : ∀ {Γ M k kx}, w Γ M k kx → GT X Γ M e k kx
structure CP (X : Cx) (e : Expr) (w : WpT) : Prop where
  run : ∀ {Γ M k kx}, w Γ M k kx → GP X Γ M e k kx
structure CA (X : Cx) (es : List Expr) (w : WpA) : Prop where
  run : ∀ {Γ M k kx}, w Γ M k kx → GA X Γ M es k kx
structure CK (X : Cx) (kws : List Keyword) (w : WpA) : Prop where
  run : ∀ {Γ M k kx}, w Γ M k kx → GK X Γ M kws k kx
structure CS (X : Cx) (st : Stmt) (w : WpS) : Prop where
  run : ∀ {Γ M E}, w Γ M E → GS X Γ M st E
structure Cb (X : Cx) (sts : List Stmt) (w : WpS) : Prop where
  run : ∀ {Γ M E}, w Γ M E → GB X Γ M sts E
/-- p, and then q -/
structure Sd (p q : Prop) : Prop where
  h : p
  g : q
/-- a test's two ways -/
structure Br (v : Bool) (p q : Prop) : Prop where
  t : v = true → p
  f : v = false → q
/-- the list at a handle -/
inductive HL (M : Ms) (a : Addr) (f : Nat → List D → Prop) : Prop
  | mk (p : Nat) (ds : List D) (e : M[p]? = some (a, MO.lst ds)) (g : f p ds)
/-- a dict, standing or not -/
inductive HD (M : Ms) (d : D) (f : List Key → List D → Prop) : Prop
  | mk (ks : List Key) (ds : List D) (e : DctD M d ks ds) (g : f ks ds)
inductive HDm (M : Ms) (d : D) (f : Nat → Addr → List Key → List D → Prop) : Prop
  | mk (p : Nat) (a : Addr) (ks : List Key) (ds : List D) (e1 : d = .hdl a) (e : M[p]? = some (a, MO.dct ks ds)) (g : f p a ks ds)
/-- an object, standing or not -/
inductive HI (M : Ms) (d : D) (C : Addr) (f : List Str → List D → Prop) : Prop
  | mk (fs : List Str) (ds : List D) (e : ObjD M d C fs ds) (g : f fs ds)
inductive HIm (M : Ms) (d : D) (C : Addr) (f : Nat → Addr → List Str → List D → Prop) : Prop
  | mk (p : Nat) (a : Addr) (fs : List Str) (ds : List D) (e1 : d = .hdl a) (e : M[p]? = some (a, MO.ins C fs ds)) (g : f p a fs ds)
/-- one item of a list, told -/
inductive It1 (ds : List D) (i : Int) (f : D → Prop) : Prop
  | mk (j : Nat) (d : D) (hi : (0 ≤ i ∧ i = j ∧ j < ds.length) ∨ (i < 0 ∧ i + ds.length = j)) (hd : ds[j]? = some d) (g : f d)
theorem It1.any {ds : List D} {i : Int} {f : D → Prop} (h0 : 0 ≤ i) (h1 : i < ds.length) (g : ∀ d, d ∈ ds → ds[i.toNat]? = some d → f d) : It1 ds i f := by
  have h2 : i.toNat < ds.length := by omega
  have e : ds[i.toNat]? = some ds[i.toNat] := List.getElem?_eq_getElem h2
  exact .mk i.toNat _ (.inl ⟨h0, by omega, h2⟩) e (g _ (List.getElem_mem h2) e)
theorem It1.nat {ds : List D} {i : Nat} {d : D} {f : D → Prop} (h : ds[i]? = some d) (g : f d) : It1 ds (i : Int) f :=
  .mk i d (.inl ⟨by omega, rfl, (List.getElem?_eq_some_iff.mp h).1⟩) h g
theorem It1.last {ds : List D} {d : D} {f : D → Prop} (h : ds.getLast? = some d) (g : f d) : It1 ds (-1) f := by
  have hl : 0 < ds.length := by cases ds with
    | nil => cases h
    | cons a l => simp
  exact .mk (ds.length - 1) d (.inr ⟨by omega, by omega⟩) (by rw [← List.getLast?_eq_getElem?]; exact h) g

theorem strsD_map (l : List Str) : strsD (l.map D.str) = true := by simp [strsD, isStrD]
/-! ### names, constants -/
def nthG : List (Option D) → Nat → Option D
  | [], _ => none
  | o :: _, 0 => o
  | _ :: r, n + 1 => nthG r n
theorem nthG_at : ∀ {Γ : En} {i : Nat} {d : D}, nthG Γ i = some d → Γ[i]? = some (some d)
  | [], _, _, h => by cases h
  | o :: _, 0, d, h => by have e : o = some d := h; simp [e]
  | _ :: r, i + 1, d, h => by simpa using nthG_at (Γ := r) (i := i) h
/-- the environment with a value at a place, told as a list in full -/
def setK : En → Nat → D → (En → Prop) → Prop
  | [], _, _, f => f []
  | _ :: r, 0, d, f => f (some d :: r)
  | o :: r, n + 1, d, f => setK r n d fun r' => f (o :: r')
theorem setK_eq : ∀ {Γ : En} {i : Nat} {d : D} {f : En → Prop}, setK Γ i d f → f (Γ.set i (some d))
  | [], _, _, _, h => h
  | _ :: _, 0, _, _, h => h
  | _ :: r, n + 1, _, _, h => setK_eq (Γ := r) (i := n) h
def delK : En → Nat → (En → Prop) → Prop
  | [], _, f => f []
  | _ :: r, 0, f => f (none :: r)
  | o :: r, n + 1, f => delK r n fun r' => f (o :: r')
theorem delK_eq : ∀ {Γ : En} {i : Nat} {f : En → Prop}, delK Γ i f → f (Γ.set i none)
  | [], _, _, h => h
  | _ :: _, 0, _, h => h
  | _ :: r, n + 1, _, h => delK_eq (Γ := r) (i := n) h
/-- the objects with another one at a place -/
def setM : Ms → Nat → Addr × MO → (Ms → Prop) → Prop
  | [], _, _, f => f []
  | _ :: r, 0, x, f => f (x :: r)
  | o :: r, n + 1, x, f => setM r n x fun r' => f (o :: r')
theorem setM_eq : ∀ {M : Ms} {i : Nat} {x : Addr × MO} {f : Ms → Prop}, setM M i x f ↔ f (M.set i x)
  | [], _, _, _ => Iff.rfl
  | _ :: _, 0, _, _ => Iff.rfl
  | _ :: r, n + 1, _, _ => setM_eq (M := r) (i := n)
def startK : Nat → List D → (En → Prop) → Prop
  | 0, [], f => f []
  | 0, d :: ds, f => f (some d :: ds.map some)
  | n + 1, [], f => startK n [] fun r => f (none :: r)
  | n + 1, d :: ds, f => startK n ds fun r => f (some d :: r)
theorem startK_eq : ∀ {n : Nat} {ds : List D} {f : En → Prop}, startK n ds f → f (ds.map some ++ List.replicate (n - ds.length) none)
  | 0, [], f, h => h
  | 0, d :: ds, f, h => by simpa using (show f (some d :: ds.map some) from h)
  | n + 1, [], f, h => by
    have := startK_eq (n := n) (ds := []) h
    simpa [List.replicate_succ] using this
  | n + 1, d :: ds, f, h => by
    have := startK_eq (n := n) (ds := ds) h
    simpa using this
theorem fr1 {M : Ms} {p : Addr × MO} : (M ++ [p]).Perm (p :: M) := List.perm_append_singleton _ _
def gotG (o : Option D) (k : D → Prop) : Prop := match o with
  | some d => k d
  | none => False
def wVar (i : Nat) : WpE := fun Γ M k _ => gotG (nthG Γ i) fun d => k d M
def wLit (d : D) : WpE := fun _ M k _ => k d M
section
variable {X : Cx} {e a b c : Expr} {es : List Expr} {st : Stmt} {sts : List Stmt} {pos p : Pos} {wa wb wc w : WpE}
theorem CE.var (i : Nat) {x : Str} (hN : X.N[i]? = some x := by rfl) (hv : Vis X.env.scope x := by first | exact Or.inl rfl | exact Or.inr (Or.inl rfl) | exact Or.inr (Or.inr rfl))
    (h1 : (x == ("__debug__" : Str)) = false := by decide) (h2 : (x == ("__classdict__" : Str)) = false := by decide) : CE X (.Name x pos) (wVar i) := ⟨fun {Γ M k kx} h => by
  unfold wVar at h
  cases q : nthG Γ i with
  | none => rw [q] at h; exact h.elim
  | some d => rw [q] at h; exact ge_var i h hN hv (nthG_at q) h1 h2⟩
theorem CE.int {i : Int} {j : Nat} : CE X (.Constant (.int i) j pos) (wLit (.int i)) := ⟨fun h => ge_int h⟩
theorem CE.bl {v : Bool} {j : Nat} : CE X (.Constant (.bool v) j pos) (wLit (.bl v)) := ⟨fun h => ge_bl h⟩
theorem CE.non {j : Nat} : CE X (.Constant .none j pos) (wLit .non) := ⟨fun h => ge_non h⟩
theorem CE.str {v : Str} {j : Nat} : CE X (.Constant (.str v) j pos) (wLit (.str v)) := ⟨fun h => ge_str h⟩
theorem CE.glob {x : Str} {d : D} (g : Glob X.K X.mg x d) (hg : Gl X x := by rfl) (h1 : (x == ("__debug__" : Str)) = false := by decide) : CE X (.Name x pos) (wLit d) := ⟨fun h => ge_glob g h hg h1⟩
theorem CE.neg {i : Int} {j : Nat} {p : Pos} : CE X (.UnaryOp .USub (.Constant (.int i) j p) pos) (wLit (.int (-i))) := ⟨fun h => ge_neg (ge_int ⟨i, rfl, h⟩)⟩
def wNeg (a : WpE) : WpE := fun Γ M k kx => a Γ M (fun x M1 => match x with
  | .int i => k (.int (-i)) M1
  | _ => False) kx
theorem CE.negE (ha : CE X a wa) : CE X (.UnaryOp .USub a pos) (wNeg wa) := ⟨fun h => ge_neg (GE.mono (ha.run h) (fun d M1 h1 => by
  cases d <;> first | exact h1.elim | exact ⟨_, rfl, h1⟩) fun _ _ _ z => z)⟩

/-! ### operators -/
def opAdd : D → D → Ms → KD → Prop
  | .int i, .int j, M, k => k (.int (i + j)) M
  | .str s, .str t, M, k => Sd (s.length + t.length ≤ 16777216) (k (.str (s ++ t)) M)
  | .lst a, .lst b, M, k => Sd (a.length + b.length ≤ 16777216) (k (.lst (a ++ b)) M)
  | .tup a, .tup b, M, k => Sd (a.length + b.length ≤ 16777216) (k (.tup (a ++ b)) M)
  | .hdl h, .lst b, M, k => HL M h fun _ a => Sd (a.length + b.length ≤ 16777216) (k (.lst (a ++ b)) M)
  | _, _, _, _ => False
def opSub : D → D → Ms → KD → Prop
  | .int i, .int j, M, k => k (.int (i - j)) M
  | _, _, _, _ => False
def opMul : D → D → Ms → KD → Prop
  | .int i, .int j, M, k => Sd (CMulX i j) (k (.int (i * j)) M)
  | .lst ds, .int j, M, k => Sd (-(2 ^ 63) ≤ j ∧ j < 2 ^ 63 ∧ ds.length * j.toNat ≤ 16777216) (k (.lst (List.replicate j.toNat ds).flatten) M)
  | .tup ds, .int j, M, k => Sd (ds ≠ [] ∧ 2 ≤ j ∧ j ≤ 1000 ∧ ds.length ≤ 1000) (k (.tup (List.replicate j.toNat ds).flatten) M)
  | .str s, .int j, M, k => Sd (0 ≤ j ∧ j ≤ 1000 ∧ s.length ≤ 1000) (k (.str ⟨(List.replicate j.toNat s.cps).foldl (· ++ ·) #[]⟩) M)
  | _, _, _, _ => False
def opDiv : D → D → Ms → KD → Prop
  | .int i, .int j, M, k => Sd (CDivW i j) (k (.int (i / j)) M)
  | _, _, _, _ => False
def opMod : D → D → Ms → KD → Prop
  | .int i, .int j, M, k => Sd (0 < j) (k (.int (i % j)) M)
  | _, _, _, _ => False
def opPow : D → D → Ms → KD → Prop
  | .int i, .int j, M, k => Sd (CPowX i j) (k (.int (i ^ j.toNat)) M)
  | _, _, _, _ => False
def opIx : D → D → Ms → KD → Prop
  | .tup ds, .int i, M, k => It1 ds i fun d => k d M
  | .lst ds, .int i, M, k => It1 ds i fun d => k d M
  | .seq ds, .int i, M, k => It1 ds i fun d => k d M
  | .hdl h, .int i, M, k => HL M h fun _ ds => It1 ds i fun d => k d M
  | .str s, .int i, M, k => ∃ (j c : Nat), ((0 ≤ i ∧ i = j ∧ j < s.length) ∨ (i < 0 ∧ i + s.length = j)) ∧ s.cps[j]? = some c ∧ s.length ≤ 16777216 ∧ k (.str ⟨#[c]⟩) M
  | _, _, _, _ => False
def opSMul : D → D → Ms → KD → Prop
  | .int i, .int j, M, k => Sd (CMul i j) (k (.int (i * j)) M)
  | _, _, _, _ => False
section
variable {K : PySem.W.Frag} {x y : D} {M : Ms} {k : KD}
theorem opAdd_ok (h : opAdd x y M k) : Bin K (rAddU K) x y M k := by
  cases x <;> cases y <;> first | exact h.elim | skip
  · exact add_int h
  · exact add_str h.h h.g
  · exact add_tup h.h h.g
  · exact add_lst h.h h.g
  · obtain ⟨p, ds, e, g⟩ := h; exact add_lstM e g.h g.g
theorem opSub_ok (h : opSub x y M k) : Bin K (rI0 fun i j => .int (i - j)) x y M k := by
  cases x <;> cases y <;> first | exact h.elim | skip
  exact sub_int h
theorem opMul_ok (h : opMul x y M k) : Bin K (rMulU K) x y M k := by
  cases x <;> cases y <;> first | exact h.elim | skip
  · exact mul_int' h.h h.g
  · obtain ⟨⟨h1, h2, h3⟩, g⟩ := h; exact mul_str h1 h2 h3 g
  · obtain ⟨⟨h1, h2, h3, h4⟩, g⟩ := h; exact mul_tup h1 h2 h3 h4 g
  · obtain ⟨⟨h1, h2, h3⟩, g⟩ := h; exact mul_lst h1 h2 h3 g
theorem opSMul_ok (h : opSMul x y M k) : Bin K (rI CMul fun i j => .int (i * j)) x y M k := by
  cases x <;> cases y <;> first | exact h.elim | skip
  exact mulS_int h.h h.g
theorem opDiv_ok (h : opDiv x y M k) : Bin K (rI CDivW fun i j => .int (i / j)) x y M k := by
  cases x <;> cases y <;> first | exact h.elim | skip
  exact div_int h.h h.g
theorem opMod_ok (h : opMod x y M k) : Bin K (rI (fun _ j => 0 < j) fun i j => .int (i % j)) x y M k := by
  cases x <;> cases y <;> first | exact h.elim | skip
  exact mod_int h.h h.g
theorem opPow_ok (h : opPow x y M k) : Bin K (rI CPowX fun i j => .int (i ^ j.toNat)) x y M k := by
  cases x <;> cases y <;> first | exact h.elim | skip
  exact pow_int h.h h.g
theorem opIx_ok (h : opIx x y M k) : Bin K (rIx K) x y M k := by
  cases x <;> cases y <;> first | exact h.elim | skip
  · obtain ⟨j, c, h1, h2, h3, g⟩ := h; exact ix_str' h1 h2 h3 g
  · obtain ⟨j, d, h1, h2, g⟩ := h; exact ix_tup' h1 h2 g
  · obtain ⟨j, d, h1, h2, g⟩ := h; exact ix_lst' h1 h2 g
  · obtain ⟨j, d, h1, h2, g⟩ := h; exact ix_seq' h1 h2 g
  · obtain ⟨p, ds, e, ⟨j, d, h1, h2, g⟩⟩ := h; exact ix_hdl e h1 h2 g
end
/-- x op y -/
def w2 (op : D → D → Ms → KD → Prop) (a b : WpE) : WpE := fun Γ M k kx => a Γ M (fun x M1 => b Γ M1 (fun y M2 => op x y M2 k) kx) kx
theorem bin_of {op : Operator} {r : R2} {f : D → D → Ms → KD → Prop} (ho : OpR X (binaryOp op) r) (hf : ∀ {x y M k}, f x y M k → Bin X.K r x y M k) (ha : CE X a wa) (hb : CE X b wb) : CE X (.BinOp a op b pos) (w2 f wa wb) :=
  ⟨fun h => ge_bin ho (GE.mono (ha.run h) (fun _ _ h1 => GE.mono (hb.run h1) (fun _ _ h2 => hf h2) fun _ _ _ z => z) fun _ _ _ z => z)⟩
theorem CE.add (ha : CE X a wa) (hb : CE X b wb) : CE X (.BinOp a .Add b pos) (w2 opAdd wa wb) := bin_of op_addU opAdd_ok ha hb
theorem CE.sub (ha : CE X a wa) (hb : CE X b wb) : CE X (.BinOp a .Sub b pos) (w2 opSub wa wb) := bin_of op_sub opSub_ok ha hb
theorem CE.mul (ha : CE X a wa) (hb : CE X b wb) : CE X (.BinOp a .Mult b pos) (w2 opMul wa wb) := bin_of op_mulU opMul_ok ha hb
theorem CE.smul (ha : CE X a wa) (hb : CE X b wb) : CE X (.BinOp a .Mult b pos) (w2 opSMul wa wb) := bin_of op_mul opSMul_ok ha hb
theorem CE.div (ha : CE X a wa) (hb : CE X b wb) : CE X (.BinOp a .FloorDiv b pos) (w2 opDiv wa wb) := bin_of op_fdivW opDiv_ok ha hb
theorem CE.mod (ha : CE X a wa) (hb : CE X b wb) : CE X (.BinOp a .Mod b pos) (w2 opMod wa wb) := bin_of op_mod opMod_ok ha hb
theorem CE.pow (ha : CE X a wa) (hb : CE X b wb) : CE X (.BinOp a .Pow b pos) (w2 opPow wa wb) := bin_of op_powX opPow_ok ha hb
theorem CE.ix (hs : PlainIx b) (ha : CE X a wa) (hb : CE X b wb) : CE X (.Subscript a b pos) (w2 opIx wa wb) :=
  ⟨fun h => ge_ix ix_seq hs (GE.mono (ha.run h) (fun _ _ h1 => GE.mono (hb.run h1) (fun _ _ h2 => opIx_ok h2) fun _ _ _ z => z) fun _ _ _ z => z)⟩

/-! ### comparisons: they give a truth -/
abbrev CmpD := D → D → Ms → KB → Prop
def cLt : CmpD
  | .int i, .int j, M, k => k (decide (i < j)) M
  | _, _, _, _ => False
def cLe : CmpD
  | .int i, .int j, M, k => k (decide (i ≤ j)) M
  | _, _, _, _ => False
def cGt : CmpD
  | .int i, .int j, M, k => k (decide (j < i)) M
  | _, _, _, _ => False
def cGe : CmpD
  | .int i, .int j, M, k => k (decide (j ≤ i)) M
  | _, _, _, _ => False
/-- plain data, and its levels -/
inductive Pln (M : Ms) (d : D) : PyData → Prop
  | dat (n : Nat) (h : sm n d = true) (hn : n ≤ 64) : Pln M d (py d)
  | hdl (p n : Nat) (a : Addr) (ds : List D) (e : d = .hdl a) (hm : M[p]? = some (a, .lst ds)) (h : sm n (.lst ds) = true) (hn : n ≤ 64) : Pln M d (py (.lst ds))
def cEqG (x y : D) (M : Ms) (k : KB) : Prop := ∃ u v, Pln M x u ∧ Pln M y v ∧ k (PyData.eqv u v) M
def cEq : CmpD
  | .int i, .int j, M, k => k (decide (i = j)) M
  | .str s, .str t, M, k => k (decide (s = t)) M
  | x, y, M, k => cEqG x y M k
def cNeG (x y : D) (M : Ms) (k : KB) : Prop := ∃ u v, Pln M x u ∧ Pln M y v ∧ k (!PyData.eqv u v) M
def cNe : CmpD
  | .int i, .int j, M, k => k (!decide (i = j)) M
  | .str s, .str t, M, k => k (!decide (s = t)) M
  | x, y, M, k => cNeG x y M k
def cIs : CmpD
  | x, .non, M, k => Sd (∀ u, x ≠ .raw u) (k (isNon x) M)
  | _, _, _, _ => False
def cIsNot : CmpD
  | x, .non, M, k => Sd (∀ u, x ≠ .raw u) (k (!isNon x) M)
  | _, _, _, _ => False
def cIn : CmpD
  | .str s, .tup ds, M, k => Sd (strsD ds = true) (k (ds.any (isS s)) M)
  | .str s, .lst ds, M, k => Sd (strsD ds = true) (k (ds.any (isS s)) M)
  | .str s, .hdl h, M, k => HL M h fun _ ds => Sd (strsD ds = true) (k (ds.any (isS s)) M)
  | .str s, .str t, M, k => k (!(Builtin.Str.occurrences t s 0 t.length 1).isEmpty) M
  | _, _, _, _ => False
def cNotIn : CmpD
  | .str s, .tup ds, M, k => Sd (strsD ds = true) (k (!ds.any (isS s)) M)
  | .str s, .lst ds, M, k => Sd (strsD ds = true) (k (!ds.any (isS s)) M)
  | .str s, .hdl h, M, k => HL M h fun _ ds => Sd (strsD ds = true) (k (!ds.any (isS s)) M)
  | _, _, _, _ => False
section
variable {K : PySem.W.Frag} {x y : D} {M : Ms} {k : KB}
/-- the truth as a value -/
abbrev tru (k : KB) : KD := fun d M => ∃ v, d = .bl v ∧ k v M
theorem cLt_ok (h : cLt x y M k) : Bin K (rI0 fun i j => .bl (decide (i < j))) x y M (tru k) := by
  cases x <;> cases y <;> first | exact h.elim | exact lt_int ⟨_, rfl, h⟩
theorem cLe_ok (h : cLe x y M k) : Bin K (rI0 fun i j => .bl (decide (i ≤ j))) x y M (tru k) := by
  cases x <;> cases y <;> first | exact h.elim | exact le_int ⟨_, rfl, h⟩
theorem cGt_ok (h : cGt x y M k) : Bin K (rI0 fun i j => .bl (decide (j < i))) x y M (tru k) := by
  cases x <;> cases y <;> first | exact h.elim | exact gt_int ⟨_, rfl, h⟩
theorem cGe_ok (h : cGe x y M k) : Bin K (rI0 fun i j => .bl (decide (j ≤ i))) x y M (tru k) := by
  cases x <;> cases y <;> first | exact h.elim | exact ge_int' ⟨_, rfl, h⟩
theorem Pln.dp {S : Sg} {d : D} {u : PyData} {v : V} (h : Pln M d u) (hM : OkM K S M) (r : Rep K S d v) : Dp K S.H v u ∧ SeqAt.shaped u = true := by
  cases h with
  | dat n h hn => exact ⟨dp_of hM h r, shaped_of h hn⟩
  | hdl p n a ds e hm h hn =>
    subst e; cases r
    exact ⟨dp_hdl hM hm h, shaped_of h hn⟩
theorem cEqG_ok (h : cEqG x y M k) : Bin K (rEqU K) x y M (tru k) := by
  obtain ⟨u, v, hu, hv, hk⟩ := h
  exact bin_flat (v := .bl (PyData.eqv u v)) (fun S vx vy hM rx ry Q q => .inr ⟨_, _, (hu.dp hM rx).1, (hv.dp hM ry).1, (hu.dp hM rx).2, (hv.dp hM ry).2, q⟩) ⟨_, rfl, hk⟩
theorem cNeG_ok (h : cNeG x y M k) : Bin K (rNeU K) x y M (tru k) := by
  obtain ⟨u, v, hu, hv, hk⟩ := h
  exact bin_flat (v := .bl (!PyData.eqv u v)) (fun S vx vy hM rx ry Q q => .inr ⟨_, _, (hu.dp hM rx).1, (hv.dp hM ry).1, (hu.dp hM rx).2, (hv.dp hM ry).2, q⟩) ⟨_, rfl, hk⟩
theorem cEq_ok (h : cEq x y M k) : Bin K (rEqU K) x y M (tru k) := by
  cases x <;> cases y <;> first | exact eq_int ⟨_, rfl, h⟩ | exact eq_str ⟨_, rfl, h⟩ | exact cEqG_ok h
theorem cNe_ok (h : cNe x y M k) : Bin K (rNeU K) x y M (tru k) := by
  cases x <;> cases y <;> first | exact ne_int ⟨_, rfl, h⟩ | exact ne_str ⟨_, rfl, h⟩ | exact cNeG_ok h
theorem cIs_ok (h : cIs x y M k) : Bin K rIsN x y M (tru k) := by
  cases y <;> first | exact h.elim | exact is_non ⟨_, rfl, h.g⟩ h.h
theorem cIsNot_ok (h : cIsNot x y M k) : Bin K rNotN x y M (tru k) := by
  cases y <;> first | exact h.elim | exact not_non ⟨_, rfl, h.g⟩ h.h
theorem cIn_ok (h : cIn x y M k) : Bin K (rInU K) x y M (tru k) := by
  cases x <;> first | exact h.elim | skip
  cases y <;> first | exact h.elim | skip
  · exact in_signs ⟨_, rfl, h⟩
  · exact in_strs h.h ⟨_, rfl, h.g⟩
  · exact in_strsL h.h ⟨_, rfl, h.g⟩
  · obtain ⟨p, ds, e, g⟩ := h; exact in_strsH e g.h ⟨_, rfl, g.g⟩
theorem cNotIn_ok (h : cNotIn x y M k) : Bin K (rNotInU K) x y M (tru k) := by
  cases x <;> first | exact h.elim | skip
  cases y <;> first | exact h.elim | skip
  · exact ni_strs h.h ⟨_, rfl, h.g⟩
  · exact ni_strsL h.h ⟨_, rfl, h.g⟩
  · obtain ⟨p, ds, e, g⟩ := h; exact ni_strsH e g.h ⟨_, rfl, g.g⟩
end
/-- a test of two values -/
def wC (c : CmpD) (a b : WpE) : WpT := fun Γ M k kx => a Γ M (fun x M1 => b Γ M1 (fun y M2 => c x y M2 k) kx) kx
/-- a test as a value -/
def wV (t : WpT) : WpE := fun Γ M k kx => t Γ M (fun b M1 => k (.bl b) M1) kx
/-- a comparison, as a test and as a value -/
structure Kc (X : Cx) (e : Expr) (w : WpT) : Prop where
  t : CT X e w
  v : CE X e (wV w)
theorem cmp_of {op : CmpOp} {r : R2} {c : CmpD} (ho : OpR X (compareOp op) r) (hm : behindInMarks op b = false) (hc : ∀ {x y M k}, c x y M k → Bin X.K r x y M (tru k)) (ha : CE X a wa) (hb : CE X b wb) : Kc X (.Compare a [op] [b] pos) (wC c wa wb) :=
  ⟨⟨fun h => gt_cmp ho hm (GE.mono (ha.run h) (fun _ _ h1 => GE.mono (hb.run h1) (fun _ _ h2 => hc h2) fun _ _ _ z => z) fun _ _ _ z => z)⟩,
   ⟨fun {Γ M k kx} h => ge_cmp ho hm (GE.mono (ha.run h) (fun _ _ h1 => GE.mono (hb.run h1) (fun x M2 h2 => fun S vx vy hM rx ry Q hQ => hc h2 S vx vy hM rx ry Q fun d M' S' v ⟨t, e1, e2⟩ => by
      subst e1; exact hQ _ M' S' v e2) fun _ _ _ z => z) fun _ _ _ z => z)⟩⟩
theorem Kc.lt (ha : CE X a wa) (hb : CE X b wb) : Kc X (.Compare a [.Lt] [b] pos) (wC cLt wa wb) := cmp_of op_lt (nomark _) cLt_ok ha hb
theorem Kc.le (ha : CE X a wa) (hb : CE X b wb) : Kc X (.Compare a [.LtE] [b] pos) (wC cLe wa wb) := cmp_of op_le (nomark _) cLe_ok ha hb
theorem Kc.gt (ha : CE X a wa) (hb : CE X b wb) : Kc X (.Compare a [.Gt] [b] pos) (wC cGt wa wb) := cmp_of op_gt (nomark _) cGt_ok ha hb
theorem Kc.ge (ha : CE X a wa) (hb : CE X b wb) : Kc X (.Compare a [.GtE] [b] pos) (wC cGe wa wb) := cmp_of op_ge (nomark _) cGe_ok ha hb
theorem Kc.eq (hu : X.A.units + 65 < cLine) (ha : CE X a wa) (hb : CE X b wb) : Kc X (.Compare a [.Eq] [b] pos) (wC cEq wa wb) := cmp_of (op_eqU (Nat.lt_of_le_of_lt (Nat.add_le_add_left (by decide) _) hu)) (nomark _) cEq_ok ha hb
theorem Kc.ne (hu : X.A.units + 65 < cLine) (ha : CE X a wa) (hb : CE X b wb) : Kc X (.Compare a [.NotEq] [b] pos) (wC cNe wa wb) := cmp_of (op_neU (Nat.lt_of_le_of_lt (Nat.add_le_add_left (by decide) _) hu)) (nomark _) cNe_ok ha hb
theorem Kc.is (ha : CE X a wa) (hb : CE X b wb) : Kc X (.Compare a [.Is] [b] pos) (wC cIs wa wb) := cmp_of op_isN (nomark _) cIs_ok ha hb
theorem Kc.isNot (ha : CE X a wa) (hb : CE X b wb) : Kc X (.Compare a [.IsNot] [b] pos) (wC cIsNot wa wb) := cmp_of op_notN (nomark _) cIsNot_ok ha hb
theorem Kc.in (hu : X.A.units + 65 < cLine) (hm : behindInMarks .In b = false) (ha : CE X a wa) (hb : CE X b wb) : Kc X (.Compare a [.In] [b] pos) (wC cIn wa wb) := cmp_of (op_inU hu) hm cIn_ok ha hb
theorem Kc.notIn (hu : X.A.units + 65 < cLine) (hm : behindInMarks .NotIn b = false) (ha : CE X a wa) (hb : CE X b wb) : Kc X (.Compare a [.NotIn] [b] pos) (wC cNotIn wa wb) := cmp_of (op_notInU hu) hm cNotIn_ok ha hb
/-! xs == [], xs holding anything -/
def cEmp : CmpD
  | .lst ds, .lst [], M, k => k ds.isEmpty M
  | _, _, _, _ => False
theorem cEmp_ok {K : PySem.W.Frag} {x y : D} {M : Ms} {k : KB} (h : cEmp x y M k) : Bin K (rEmp K) x y M (tru k) := by
  cases x <;> first | exact h.elim | skip
  cases y <;> first | exact h.elim | skip
  rename_i ds es
  cases es <;> first | exact h.elim | exact eq_emp ⟨_, rfl, h⟩
theorem Kc.emp (hu : X.A.units + 65 < cLine) (ha : CE X a wa) (hb : CE X b wb) : Kc X (.Compare a [.Eq] [b] pos) (wC cEmp wa wb) := cmp_of (op_emp (Nat.lt_of_le_of_lt (Nat.add_le_add_left (by decide) _) hu)) (nomark _) cEmp_ok ha hb
/-! dicts -/
def cDin : CmpD := fun y x M k => HD M x fun ks ds => ∃ q, Sd (y = kD q) (k (valK ks ds q).isSome M)
def cDnotIn : CmpD := fun y x M k => HD M x fun ks ds => ∃ q, Sd (y = kD q) (k (!(valK ks ds q).isSome) M)
theorem Kc.dIn (hu : X.A.units + 65 < cLine) (ha : CE X a wa) (hb : CE X b wb) (hm : behindInMarks .In b = false := by first | exact nobehind _ (by decide) (by decide) | rfl) : Kc X (.Compare a [.In] [b] pos) (wC cDin wa wb) :=
  ⟨⟨fun h => gt_din (Nat.lt_of_le_of_lt (Nat.add_le_add_left (by decide) _) hu) (GE.mono (ha.run h) (fun _ _ h1 => GE.mono (hb.run h1) (fun x M2 ⟨ks, ds, e, q, g⟩ => ⟨ks, ds, q, e, g.h, g.g⟩) fun _ _ _ z => z) fun _ _ _ z => z) hm⟩,
   ⟨fun h => ge_din (Nat.lt_of_le_of_lt (Nat.add_le_add_left (by decide) _) hu) (GE.mono (ha.run h) (fun _ _ h1 => GE.mono (hb.run h1) (fun x M2 ⟨ks, ds, e, q, g⟩ => ⟨ks, ds, q, e, g.h, g.g⟩) fun _ _ _ z => z) fun _ _ _ z => z) hm⟩⟩
theorem Kc.dNotIn (hu : X.A.units + 65 < cLine) (ha : CE X a wa) (hb : CE X b wb) (hm : behindInMarks .NotIn b = false := by first | exact nobehind _ (by decide) (by decide) | rfl) : Kc X (.Compare a [.NotIn] [b] pos) (wC cDnotIn wa wb) :=
  ⟨⟨fun h => gt_dnotin (Nat.lt_of_le_of_lt (Nat.add_le_add_left (by decide) _) hu) (GE.mono (ha.run h) (fun _ _ h1 => GE.mono (hb.run h1) (fun x M2 ⟨ks, ds, e, q, g⟩ => ⟨ks, ds, q, e, g.h, g.g⟩) fun _ _ _ z => z) fun _ _ _ z => z) hm⟩,
   ⟨fun h => ge_dnotin (Nat.lt_of_le_of_lt (Nat.add_le_add_left (by decide) _) hu) (GE.mono (ha.run h) (fun _ _ h1 => GE.mono (hb.run h1) (fun x M2 ⟨ks, ds, e, q, g⟩ => ⟨ks, ds, q, e, g.h, g.g⟩) fun _ _ _ z => z) fun _ _ _ z => z) hm⟩⟩
def opDget : D → D → Ms → KD → Prop := fun x y M k => HD M x fun ks ds => ∃ q d, Sd (y = kD q ∧ valK ks ds q = some d) (k d M)
theorem CE.dget (hu : X.A.units + 65 < cLine) (hs : NoSl b) (ha : CE X a wa) (hb : CE X b wb) : CE X (.Subscript a b pos) (w2 opDget wa wb) :=
  ⟨fun h => ge_dget (Nat.lt_of_le_of_lt (Nat.add_le_add_left (by decide) _) hu) hs (GE.mono (ha.run h) (fun _ _ h1 => GE.mono (hb.run h1) (fun x M2 ⟨ks, ds, e, q, d, g⟩ => ⟨ks, ds, q, d, e, g.h.1, g.h.2, g.g⟩) fun _ _ _ z => z) fun _ _ _ z => z)⟩
/-! a op b op' c -/
def wCh (c c' : CmpD) (a b d : WpE) : WpT := fun Γ M k kx => a Γ M (fun x M1 => b Γ M1 (fun y M2 => c x y M2 fun v M3 => Br v (d Γ M3 (fun z M4 => c' y z M4 k) kx) (k false M3)) kx) kx
theorem chain_of {op op' : CmpOp} {r r' : R2} {f f' : CmpD} (ho : OpR X (compareOp op) r) (ho' : OpR X (compareOp op') r') (hf : ∀ {x y M k}, f x y M k → Bin X.K r x y M (tru k)) (hf' : ∀ {x y M k}, f' x y M k → Bin X.K r' x y M (tru k))
    (hm : lastMarks [op, op'] [b, c] = false) (ha : CE X a wa) (hb : CE X b wb) (hc : CE X c wc) : Kc X (.Compare a [op, op'] [b, c] pos) (wCh f f' wa wb wc) :=
  ⟨⟨fun h => gt_chain ho ho' (GE.mono (ha.run h) (fun _ _ h1 => GE.mono (hb.run h1) (fun x M2 h2 => fun S vx vy hM rx ry Q hQ => hf h2 S vx vy hM rx ry Q fun d M' S' v ⟨t, e1, e2⟩ => hQ _ M' S' v ⟨t, e1,
      fun q => GE.mono (hc.run (e2.t q)) (fun _ _ h3 => hf' h3) fun _ _ _ z => z, fun q => e2.f q⟩) fun _ _ _ z => z) fun _ _ _ z => z) hm⟩,
   ⟨fun h => ge_chain ho ho' (GE.mono (ha.run h) (fun _ _ h1 => GE.mono (hb.run h1) (fun x M2 h2 => fun S vx vy hM rx ry Q hQ => hf h2 S vx vy hM rx ry Q fun d M' S' v ⟨t, e1, e2⟩ => hQ _ M' S' v ⟨t, e1,
      fun q => GE.mono (hc.run (e2.t q)) (fun _ _ h3 => fun S vx vy hM rx ry Q hQ => hf' h3 S vx vy hM rx ry Q fun d M' S' v ⟨t, e1, e2⟩ => by subst e1; exact hQ _ M' S' v e2) fun _ _ _ z => z, fun q => e2.f q⟩) fun _ _ _ z => z) fun _ _ _ z => z) hm⟩⟩
theorem Kc.leLe (ha : CE X a wa) (hb : CE X b wb) (hc : CE X c wc) (hm : lastMarks [.LtE, .LtE] [b, c] = false := by rfl) : Kc X (.Compare a [.LtE, .LtE] [b, c] pos) (wCh cLe cLe wa wb wc) := chain_of op_le op_le cLe_ok cLe_ok hm ha hb hc
theorem Kc.leLt (ha : CE X a wa) (hb : CE X b wb) (hc : CE X c wc) (hm : lastMarks [.LtE, .Lt] [b, c] = false := by rfl) : Kc X (.Compare a [.LtE, .Lt] [b, c] pos) (wCh cLe cLt wa wb wc) := chain_of op_le op_lt cLe_ok cLt_ok hm ha hb hc
theorem Kc.ltLt (ha : CE X a wa) (hb : CE X b wb) (hc : CE X c wc) (hm : lastMarks [.Lt, .Lt] [b, c] = false := by rfl) : Kc X (.Compare a [.Lt, .Lt] [b, c] pos) (wCh cLt cLt wa wb wc) := chain_of op_lt op_lt cLt_ok cLt_ok hm ha hb hc

/-! ### tests -/
variable {ta tb : WpT}
/-- a value that is a truth, as a test -/
def wB (a : WpE) : WpT := fun Γ M k kx => a Γ M (fun d M1 => match d with
  | .bl b => k b M1
  | _ => False) kx
theorem CT.val (ha : CE X e w) (he : ∀ whole, isTrue e X.env whole = (do let v ← whole; standAt e.pos; holding [v] (truthy v)) := by intro _; rfl) : CT X e (wB w) :=
  ⟨fun h => gt_val (GE.mono (ha.run h) (fun d M1 h1 => by cases d <;> first | exact h1.elim | exact ⟨_, rfl, h1⟩) fun _ _ _ z => z) he⟩
def wNot (t : WpT) : WpT := fun Γ M k kx => t Γ M (fun b M1 => k (!b) M1) kx
theorem CT.not (ha : CT X a ta) : CT X (.UnaryOp .Not a pos) (wNot ta) := ⟨fun h => gt_not (ha.run h)⟩
theorem CE.not (ha : CE X a wa) : CE X (.UnaryOp .Not a pos) (wV (wNot (wB wa))) := ⟨fun h => ge_not (GE.mono (ha.run h) (fun d M1 h1 => by cases d <;> first | exact h1.elim | exact ⟨_, rfl, h1⟩) fun _ _ _ z => z)⟩
def wAnd (a b : WpT) : WpT := fun Γ M k kx => a Γ M (fun v M1 => Br v (b Γ M1 k kx) (k false M1)) kx
def wOr (a b : WpT) : WpT := fun Γ M k kx => a Γ M (fun v M1 => Br v (k true M1) (b Γ M1 k kx)) kx
theorem CT.bool {op : BoolOp} (h : CP X (.BoolOp op es pos) ta) : CT X (.BoolOp op es pos) ta := ⟨fun q => gt_bool (h.run q)⟩
theorem CP.and1 (h : CT X a ta) : CP X (.BoolOp .And [a] pos) ta := ⟨fun q => gp_and1 (h.run q)⟩
theorem CP.or1 (h : CT X a ta) : CP X (.BoolOp .Or [a] pos) ta := ⟨fun q => gp_or1 (h.run q)⟩
theorem CP.and (h : CT X a ta) (r : CP X (.BoolOp .And (b :: es) pos) tb) : CP X (.BoolOp .And (a :: b :: es) pos) (wAnd ta tb) :=
  ⟨fun q => gp_and (GT.mono (h.run q) (fun v M1 g => ⟨fun e => r.run (g.t e), fun e => g.f e⟩) fun _ _ _ z => z)⟩
theorem CP.or (h : CT X a ta) (r : CP X (.BoolOp .Or (b :: es) pos) tb) : CP X (.BoolOp .Or (a :: b :: es) pos) (wOr ta tb) :=
  ⟨fun q => gp_or (GT.mono (h.run q) (fun v M1 g => ⟨fun e => r.run (g.f e), fun e => g.t e⟩) fun _ _ _ z => z)⟩
/-- .. as values -/
def vAnd (a b : WpE) : WpE := fun Γ M k kx => a Γ M (fun d M1 => match d with
  | .bl v => Br v (b Γ M1 k kx) (k (.bl false) M1)
  | _ => False) kx
def vOr (a b : WpE) : WpE := fun Γ M k kx => a Γ M (fun d M1 => match d with
  | .bl v => Br v (k (.bl true) M1) (b Γ M1 k kx)
  | _ => False) kx
theorem CE.one {op : BoolOp} (h : CE X a w) : CE X (.BoolOp op [a] pos) w := ⟨fun q => ge_one (h.run q)⟩
theorem CE.and (h : CE X a wa) (r : CE X (.BoolOp .And (b :: es) pos) wb) : CE X (.BoolOp .And (a :: b :: es) pos) (vAnd wa wb) :=
  ⟨fun q => ge_and (GE.mono (h.run q) (fun d M1 g => by cases d <;> first | exact g.elim | exact ⟨_, rfl, fun e => r.run (g.t e), fun e => g.f e⟩) fun _ _ _ z => z)⟩
theorem CE.or (h : CE X a wa) (r : CE X (.BoolOp .Or (b :: es) pos) wb) : CE X (.BoolOp .Or (a :: b :: es) pos) (vOr wa wb) :=
  ⟨fun q => ge_or (GE.mono (h.run q) (fun d M1 g => by cases d <;> first | exact g.elim | exact ⟨_, rfl, fun e => r.run (g.f e), fun e => g.t e⟩) fun _ _ _ z => z)⟩
def wIfe (t : WpT) (a b : WpE) : WpE := fun Γ M k kx => t Γ M (fun v M1 => Br v (a Γ M1 k kx) (b Γ M1 k kx)) kx
theorem CE.ife (h : CT X c ta) (ha : CE X a wa) (hb : CE X b wb) : CE X (.IfExp c a b pos) (wIfe ta wa wb) :=
  ⟨fun q => ge_ife (GT.mono (h.run q) (fun v M1 g => ⟨fun e => ha.run (g.t e), fun e => hb.run (g.f e)⟩) fun _ _ _ z => z)⟩

/-! ### displays -/
variable {wes : WpA}
def wNil : WpA := fun _ M k _ => k [] M
def wCons (a : WpE) (r : WpA) : WpA := fun Γ M k kx => a Γ M (fun d M1 => r Γ M1 (fun ds M2 => k (d :: ds) M2) kx) kx
/-- *a, .. -/
def wStar (a : WpE) (r : WpA) : WpA := fun Γ M k kx => a Γ M (fun d M1 => ∃ ds, Sd (SeqD M1 d ds) (r Γ M1 (fun ys M2 => k (ds ++ ys) M2) kx)) kx
theorem CA.nil : CA X [] wNil := ⟨fun h => ga_nil h⟩
theorem CA.cons (ha : CE X e wa) (hr : CA X es wes) (hs : starEach (e :: es) X.env = (false, eval e X.env) :: starEach es X.env := by rfl) : CA X (e :: es) (wCons wa wes) :=
  ⟨fun h => ga_cons (GE.mono (ha.run h) (fun _ _ h1 => hr.run h1) fun _ _ _ z => z) hs⟩
theorem CA.star (ha : CE X e wa) (hr : CA X es wes) (hs : starEach (.Starred e p :: es) X.env = (true, eval e X.env) :: starEach es X.env := by rfl) : CA X (.Starred e p :: es) (wStar wa wes) :=
  ⟨fun h => ga_star (GE.mono (ha.run h) (fun _ _ ⟨ds, g⟩ => ⟨ds, g.h, hr.run g.g⟩) fun _ _ _ z => z) hs⟩
def wTup (r : WpA) : WpE := fun Γ M k kx => r Γ M (fun ds M1 => Sd (ds.length ≤ 16777216) (k (.tup ds) M1)) kx
def wLst (r : WpA) : WpE := fun Γ M k kx => r Γ M (fun ds M1 => Sd (ds.length ≤ 16777216) (k (.lst ds) M1)) kx
def wLstM (r : WpA) : WpE := fun Γ M k kx => r Γ M (fun ds M1 => Sd (ds.length ≤ 16777216) (∀ p, k (.hdl p) ((p, .lst ds) :: M1))) kx
def wDnew : WpE := fun Γ M k kx => ∀ p, k (.hdl p) ((p, .dct [] []) :: M)
theorem CE.tup {j : Nat} (h : CA X es wes) : CE X (.Tuple es j pos) (wTup wes) := ⟨fun q => ge_tup (GA.mono (h.run q) (fun ds M1 g => ⟨g.h, g.g⟩) fun _ _ _ z => z)⟩
theorem CE.lst (h : CA X es wes) : CE X (.List es pos) (wLst wes) := ⟨fun q => ge_lst (GA.mono (h.run q) (fun ds M1 g => ⟨g.h, g.g⟩) fun _ _ _ z => z)⟩
theorem CE.lstM (h : CA X es wes) : CE X (.List es pos) (wLstM wes) := ⟨fun q => ge_perm (ge_lstM (GA.mono (h.run q) (fun ds M1 g => ⟨g.h, fun p => ⟨_, fr1, g.g p⟩⟩) fun _ _ _ z => z))⟩
theorem CE.dnew : CE X (.Dict [] [] pos) wDnew := ⟨fun h => ge_perm (ge_dnew fun p => ⟨_, fr1, h p⟩)⟩
end
end PD

set_option Elab.async false
set_option linter.all false
set_option maxRecDepth 100000
set_option maxHeartbeats 4000000
/-! PW: calls, fields, slices, texts. -/
namespace PD
open PySem L2
section
variable {X : Cx} {e a b c o : Expr} {es : List Expr} {st : Stmt} {sts : List Stmt} {pos p apos cpos : Pos} {wa wb wc w wo : WpE} {wes : WpA} {nm m : Str} {j l : Nat} {C : Addr} {dds : List D} {R : RSp} {kws : List Keyword} {wks : WpA}
/-! ### built-in calls -/
def w1 (op : D → Ms → KD → Prop) (a : WpE) : WpE := fun Γ M k kx => a Γ M (fun x M1 => op x M1 k) kx
def oLen : D → Ms → KD → Prop
  | .str s, M, k => Sd (s.length ≤ 16777216) (k (.int s.length) M)
  | .tup ds, M, k => k (.int ds.length) M
  | .lst ds, M, k => k (.int ds.length) M
  | .seq ds, M, k => k (.int ds.length) M
  | .hdl h, M, k => HL M h fun _ ds => k (.int ds.length) M
  | _, _, _ => False
def oInt : D → Ms → KD → Prop
  | .int i, M, k => k (.int i) M
  | .bl b, M, k => k (.int (if b then 1 else 0)) M
  | _, _, _ => False
def oAbs : D → Ms → KD → Prop
  | .int i, M, k => k (.int (if i < 0 then -i else i)) M
  | _, _, _ => False
def oTup : D → Ms → KD → Prop
  | .lst ds, M, k => k (.tup ds) M
  | .tup ds, M, k => k (.tup ds) M
  | .hdl h, M, k => HL M h fun _ ds => k (.tup ds) M
  | _, _, _ => False
def oLst : D → Ms → KD → Prop
  | .lst ds, M, k => k (.lst ds) M
  | .tup ds, M, k => k (.lst ds) M
  | .hdl h, M, k => HL M h fun _ ds => k (.lst ds) M
  | _, _, _ => False
def oLstM : D → Ms → KD → Prop
  | .lst ds, M, k => ∀ p, k (.hdl p) ((p, .lst ds) :: M)
  | .tup ds, M, k => ∀ p, k (.hdl p) ((p, .lst ds) :: M)
  | _, _, _ => False
def oAll : D → Ms → KD → Prop
  | .lst ds, M, k => ∃ bs : List Bool, Sd (ds = bs.map D.bl) (k (.bl (bs.all id)) M)
  | _, _, _ => False
def oAny : D → Ms → KD → Prop
  | .lst ds, M, k => ∃ bs : List Bool, Sd (ds = bs.map D.bl) (k (.bl (bs.any id)) M)
  | _, _, _ => False
def oSum : D → Ms → KD → Prop
  | .lst ds, M, k => ∃ bs : List Int, Sd (ds = bs.map D.int) (k (.int bs.sum) M)
  | _, _, _ => False
def oDict : D → Ms → KD → Prop := fun x M k => HD M x fun ks ds => k (.dct ks ds) M
def oMax2 : D → D → Ms → KD → Prop
  | .int i, .int j, M, k => k (.int (if j > i then j else i)) M
  | _, _, _, _ => False
def oMin2 : D → D → Ms → KD → Prop
  | .int i, .int j, M, k => k (.int (if j < i then j else i)) M
  | _, _, _, _ => False
def oIsi (f : D → Bool) (t : String) : D → Ms → KD → Prop := fun x M k => match x with
  | .hdl h => HL M h fun _ ds => ∃ b, Sd (kitB "list" t = some b) (k (.bl b) M)
  | x => Sd (kn x = true) (k (.bl (f x)) M)
theorem CE.callB {id : String} {r : List V → Hp → VK → Prop} {f : D → Ms → KD → Prop} (hc : CallR X (.builtin id) r) (hf : ∀ {x M k}, f x M k → CallD X.K r [x] M k) (hm : X.mg nm = none) (hv : bootBuiltins nm = some (.builtin id)) (ha : CE X a wa) (hg : Gl X nm := by rfl) (hn : nm ≠ "__name__" := by decide) (hdb : (nm == ("__debug__" : Str)) = false := by decide)
    (he : starEach [a] X.env = (false, eval a X.env) :: starEach [] X.env := by rfl) (hpl : (backTo pos (starEach [] X.env)).any (·.1) = false := by rfl) : CE X (.Call (.Name nm p) [a] [] pos) (w1 f wa) :=
  ⟨fun q => ge_callB hc hm hv (ga_cons (GE.mono (ha.run q) (fun _ _ h1 => ga_nil (hf h1)) fun _ _ _ z => z) he) hg hn hdb he hpl⟩
theorem CE.callT {T : String} {r : List V → Hp → VK → Prop} {f : D → Ms → KD → Prop} (hc : CallR X (.type T) r) (hf : ∀ {x M k}, f x M k → CallD X.K r [x] M k) (hm : X.mg nm = none) (hv : bootBuiltins nm = some (.type T)) (ha : CE X a wa) (hg : Gl X nm := by rfl) (hn : nm ≠ "__name__" := by decide) (hdb : (nm == ("__debug__" : Str)) = false := by decide)
    (he : starEach [a] X.env = (false, eval a X.env) :: starEach [] X.env := by rfl) (hpl : (backTo pos (starEach [] X.env)).any (·.1) = false := by rfl) : CE X (.Call (.Name nm p) [a] [] pos) (w1 f wa) :=
  ⟨fun q => ge_callT hc hm hv (ga_cons (GE.mono (ha.run q) (fun _ _ h1 => ga_nil (hf h1)) fun _ _ _ z => z) he) hg hn hdb he hpl⟩
theorem CE.callB2 {id : String} {r : List V → Hp → VK → Prop} {f : D → D → Ms → KD → Prop} (hc : CallR X (.builtin id) r) (hf : ∀ {x y M k}, f x y M k → CallD X.K r [x, y] M k) (hm : X.mg nm = none) (hv : bootBuiltins nm = some (.builtin id)) (ha : CE X a wa) (hb : CE X b wb) (hg : Gl X nm := by rfl) (hn : nm ≠ "__name__" := by decide) (hdb : (nm == ("__debug__" : Str)) = false := by decide)
    (he : starEach [a, b] X.env = (false, eval a X.env) :: starEach [b] X.env := by rfl) (he2 : starEach [b] X.env = (false, eval b X.env) :: starEach [] X.env := by rfl) (hpl : (backTo pos (starEach [b] X.env)).any (·.1) = false := by rfl) : CE X (.Call (.Name nm p) [a, b] [] pos) (w2 f wa wb) :=
  ⟨fun q => ge_callB hc hm hv (ga_cons (GE.mono (ha.run q) (fun _ _ h1 => ga_cons (GE.mono (hb.run h1) (fun _ _ h2 => ga_nil (hf h2)) fun _ _ _ z => z) he2) fun _ _ _ z => z) he) hg hn hdb he hpl⟩
section
variable {K : PySem.W.Frag} {x y : D} {M : Ms} {k : KD}
theorem oLen_ok (h : oLen x M k) : CallD K (fun xs H Q => ∃ x n, xs = [x] ∧ LenV K x H n ∧ Q (.int (n : Nat)) H) [x] M k := by
  cases x <;> first | exact h.elim | exact len_str h.h h.g | exact len_tup h | exact len_lst h | exact len_seq h | (obtain ⟨p, ds, e, g⟩ := h; exact len_hdl e g)
theorem oInt_ok (h : oInt x M k) : CallD K rInt1 [x] M k := by
  cases x <;> first | exact h.elim | exact int_int h | exact int_bl h
theorem oAbs_ok (h : oAbs x M k) : CallD K rAbs [x] M k := by
  cases x <;> first | exact h.elim | exact abs_int h
theorem oTup_ok (h : oTup x M k) : CallD K (rTupOf K) [x] M k := by
  cases x <;> first | exact h.elim | exact tup_tup h | exact tup_lst h | (obtain ⟨p, ds, e, g⟩ := h; exact tup_hdl e g)
theorem oLst_ok (h : oLst x M k) : CallD K (rLstOf K) [x] M k := by
  cases x <;> first | exact h.elim | exact lst_tup h | exact lst_lst h | (obtain ⟨p, ds, e, g⟩ := h; exact lst_hdl e g)
theorem oLstM_ok (h : oLstM x M k) : CallD K (rLstOf K) [x] M (fun d M1 => ∃ M2, M1.Perm M2 ∧ k d M2) := by
  cases x <;> first | exact h.elim | exact lst_tupM (fun p => ⟨_, fr1, h p⟩) | exact lst_lstM (fun p => ⟨_, fr1, h p⟩)
theorem oAll_ok (h : oAll x M k) : CallD K (rAll K) [x] M k := by
  cases x <;> first | exact h.elim | (obtain ⟨bs, e, g⟩ := h; exact all_lst e g)
theorem oAny_ok (h : oAny x M k) : CallD K (rAny K) [x] M k := by
  cases x <;> first | exact h.elim | (obtain ⟨bs, e, g⟩ := h; exact any_lst e g)
theorem oSum_ok (h : oSum x M k) : CallD K (rSum K) [x] M k := by
  cases x <;> first | exact h.elim | (obtain ⟨bs, e, g⟩ := h; exact sum_lst e g)
theorem oMax2_ok (h : oMax2 x y M k) : CallD K Evl.rMax2 [x, y] M k := by
  cases x <;> cases y <;> first | exact h.elim | exact max2_int h
theorem oMin2_ok (h : oMin2 x y M k) : CallD K rMin2 [x, y] M k := by
  cases x <;> cases y <;> first | exact h.elim | exact min2_int h
theorem oDict_ok (h : oDict x M k) : CallD K (fun xs H Q => ∃ (a : Addr) (kvs : List (Key × V)), xs = [.ref a] ∧ Rd H a (.dK kvs) ∧ ∀ p, H p = none → Q (.ref p) (upd H p (.dK kvs))) [x] M k := by
  obtain ⟨ks, ds, e, g⟩ := h; exact dct_of e g
theorem oIsi_ok {f : D → Bool} {t : String} (hf : ∀ {x M k}, kn x = true → k (.bl (f x)) M → CallD K (rIsi K) [x, .raw (.ty t)] M k) (h : oIsi f t x M k) : CallD K (rIsi K) [x, .raw (.ty t)] M k := by
  cases x <;> first | exact hf h.h h.g | (obtain ⟨p, ds, e, b, g⟩ := h; exact isi_hdl e g.h g.g)
end
theorem CE.lstOfM (hm : X.mg nm = none) (hv : bootBuiltins nm = some (.type "list")) (ha : CE X a wa) (hg : Gl X nm := by rfl) (hn : nm ≠ "__name__" := by decide) (hdb : (nm == ("__debug__" : Str)) = false := by decide)
    (he : starEach [a] X.env = (false, eval a X.env) :: starEach [] X.env := by rfl) (hpl : (backTo pos (starEach [] X.env)).any (·.1) = false := by rfl) : CE X (.Call (.Name nm p) [a] [] pos) (w1 oLstM wa) :=
  ⟨fun q => ge_perm (ge_callT call_list_of hm hv (ga_cons (GE.mono (ha.run q) (fun _ _ h1 => ga_nil (oLstM_ok h1)) fun _ _ _ z => z) he) hg hn hdb he hpl)⟩
/-- isinstance(a, T) -/
theorem CE.isi {T : String} {f : D → Bool} {nm2 : Str} {p2 : Pos} (hf : ∀ {x M k}, kn x = true → k (.bl (f x)) M → CallD X.K (rIsi X.K) [x, .raw (.ty T)] M k) (hm : X.mg "isinstance" = none) (hm2 : X.mg nm2 = none) (hv2 : bootBuiltins nm2 = some (.type T)) (ha : CE X a wa) (hg : Gl X "isinstance" := by rfl) (hg2 : Gl X nm2 := by rfl) (hn2 : nm2 ≠ "__name__" := by decide) (hd2 : (nm2 == ("__debug__" : Str)) = false := by decide)
    (he : starEach [a, .Name nm2 p2] X.env = (false, eval a X.env) :: starEach [.Name nm2 p2] X.env := by rfl) (he2 : starEach [.Name nm2 p2] X.env = (false, eval (.Name nm2 p2) X.env) :: starEach [] X.env := by rfl) (hpl : (backTo pos (starEach [.Name nm2 p2] X.env)).any (·.1) = false := by rfl) : CE X (.Call (.Name "isinstance" p) [a, .Name nm2 p2] [] pos) (w1 (oIsi f T) wa) :=
  ⟨fun q => ge_callB call_isi hm PyProof.Rows.boot_isinstance (ga_cons (GE.mono (ha.run q) (fun _ _ h1 => ga_cons (ge_ty hm2 hv2 (ga_nil (oIsi_ok hf h1)) hg2 hn2 hd2) he2) fun _ _ _ z => z) he) hg (by decide) (by decide) he hpl⟩
/-- isinstance(a, C), C an own class, a one of its instances -/
def oIsiC (C : Addr) : D → Ms → KD → Prop := fun x M k => HI M x C fun _ _ => k (.bl true) M
theorem CE.isiC {nm2 : Str} {p2 : Pos} (ic : IsC X.K C) (hm : X.mg "isinstance" = none) (hm2 : X.mg nm2 = some (.ref C)) (ha : CE X a wa) (hg : Gl X "isinstance" := by rfl) (hg2 : Gl X nm2 := by rfl) (hd2 : (nm2 == ("__debug__" : Str)) = false := by decide)
    (he : starEach [a, .Name nm2 p2] X.env = (false, eval a X.env) :: starEach [.Name nm2 p2] X.env := by rfl) (he2 : starEach [.Name nm2 p2] X.env = (false, eval (.Name nm2 p2) X.env) :: starEach [] X.env := by rfl) (hpl : (backTo pos (starEach [.Name nm2 p2] X.env)).any (·.1) = false := by rfl) : CE X (.Call (.Name "isinstance" p) [a, .Name nm2 p2] [] pos) (w1 (oIsiC C) wa) :=
  ⟨fun q => ge_callB call_isi hm PyProof.Rows.boot_isinstance (ga_cons (GE.mono (ha.run q) (fun _ _ ⟨fs, ds, e, h1⟩ => ga_cons (ge_cls hm2 (ga_nil (isi_own ic e h1)) hg2 hd2) he2) fun _ _ _ z => z) he) hg (by decide) (by decide) he hpl⟩
/-- isinstance(a, (T1, T2)) -/
def oIsi2 (T1 T2 : String) : D → Ms → KD → Prop := fun x M k => ∃ t b1 b2, Sd (tyN x = some t ∧ kitB t T1 = some b1 ∧ kitB t T2 = some b2) (k (.bl (b1 || b2)) M)
/-- len(set(a)) of unlike texts -/
def oLenSet : D → Ms → KD → Prop
  | .lst ds, M, k => ∃ xs : List Str, Sd (ds = xs.map D.str ∧ xs.Nodup ∧ xs.length ≤ 1000) (k (.int xs.length) M)
  | _, _, _ => False
theorem CE.lenSet {p2 q : Pos} (hm : X.mg "len" = none) (hm2 : X.mg "set" = none) (hc : X.calm = true) (ha : CE X a wa) (hg : Gl X "len" := by rfl) (hg2 : Gl X "set" := by rfl) (na : starEach [a] X.env = (false, eval a X.env) :: starEach [] X.env := by rfl)
    (hh : ∀ {Γ : En} {M : Ms} {k : KD} {kx : KX}, GE X Γ M a (fun d M1 => ∃ xs : List Str, d = .lst (xs.map D.str) ∧ xs.Nodup ∧ xs.length ≤ 1000 ∧ k (.int xs.length) M1) kx → GE X Γ M (.Call (.Name "len" p) [.Call (.Name "set" p2) [a] [] q] [] pos) k kx) : CE X (.Call (.Name "len" p) [.Call (.Name "set" p2) [a] [] q] [] pos) (w1 oLenSet wa) :=
  ⟨fun h => hh (GE.mono (ha.run h) (fun d M1 h1 => by
    cases d <;> first | exact h1.elim | (obtain ⟨xs, ⟨e1, e2, e3⟩, g⟩ := h1; exact ⟨xs, by rw [e1], e2, e3, g⟩)) fun _ _ _ z => z)⟩

/-! ### own defs -/
/-- a call is handed a part A of the objects; behind it they stand in any sequence -/
inductive HandP (R : RSp) (ds : List D) (M : Ms) (k : KD) (kx : KX) : Prop
  | mk (A B : Ms) (hp : M.Perm (B ++ A)) (h : R ds A (fun d N => ∃ M', (B ++ N).Perm M' ∧ k d M') (fun c f N => kx c f (B ++ N)))
theorem HandP.hand {R : RSp} {ds : List D} {M : Ms} {k : KD} {kx : KX} (h : HandP R ds M k kx) : Hand R ds M (fun d M1 => ∃ M2, M1.Perm M2 ∧ k d M2) kx := by
  obtain ⟨A, B, hp, h⟩ := h
  exact ⟨A, B, hp, h⟩
theorem HandP.none {R : RSp} {ds : List D} {M : Ms} {k : KD} {kx : KX} (h : R ds [] (fun d N => ∃ M', (M ++ N).Perm M' ∧ k d M') (fun c f N => kx c f (M ++ N))) : HandP R ds M k kx := ⟨[], M, by simp, h⟩
/-- the objects from a on, n of them -/
theorem HandP.seg {R : RSp} {ds : List D} {M : Ms} {k : KD} {kx : KX} (a n : Nat) (h : R ds ((M.drop a).take n) (fun d N => ∃ M', ((M.take a ++ (M.drop a).drop n) ++ N).Perm M' ∧ k d M') (fun c f N => kx c f ((M.take a ++ (M.drop a).drop n) ++ N))) : HandP R ds M k kx :=
  ⟨(M.drop a).take n, M.take a ++ (M.drop a).drop n, by
    have e : M = M.take a ++ ((M.drop a).take n ++ (M.drop a).drop n) := by rw [List.take_append_drop, List.take_append_drop]
    have p : (M.take a ++ ((M.drop a).take n ++ (M.drop a).drop n)).Perm (M.take a ++ ((M.drop a).drop n ++ (M.drop a).take n)) := List.Perm.append_left _ List.perm_append_comm
    rw [List.append_assoc]
    exact (List.Perm.of_eq e).trans p, h⟩
/-- .. they come back in their place -/
theorem seg_back (M N : Ms) (a n : Nat) : ((M.take a ++ (M.drop a).drop n) ++ N).Perm (M.take a ++ (N ++ (M.drop a).drop n)) := by
  rw [List.append_assoc]
  exact List.Perm.append_left _ List.perm_append_comm
theorem Hand.perm {R : RSp} {ds : List D} {M M' : Ms} {k : KD} {kx : KX} (p : M.Perm M') (h : Hand R ds M' k kx) : Hand R ds M k kx := by
  obtain ⟨A, B, hp, h⟩ := h
  exact ⟨A, B, p.trans hp, h⟩
/-- a call by a spec -/
def wCall (R : RSp) (dds : List D) (as : WpA) : WpE := fun Γ M k kx => as Γ M (fun ds M1 => HandP R (ds ++ dds) M1 k kx) kx
theorem CE.call (F : FnD X.prog X.w X.K X.mg X.base j nm dds R) (hr : Room l X.A) (hl : j ≤ l) (ha : CA X (e :: es) wes) (hg : Gl X nm := by rfl) (hdb : (nm == ("__debug__" : Str)) = false := by decide)
    (he : starEach (e :: es) X.env = (false, eval e X.env) :: starEach es X.env := by rfl) (hpl : (backTo pos (starEach es X.env)).any (·.1) = false := by rfl) : CE X (.Call (.Name nm p) (e :: es) [] pos) (wCall R dds wes) :=
  ⟨fun q => ge_perm (ge_callF F hr hl (GA.mono (ha.run q) (fun _ _ h => h.hand) fun _ _ _ z => z) hg hdb he hpl)⟩
theorem CE.call0 (F : FnD X.prog X.w X.K X.mg X.base j nm dds R) (hr : Room l X.A) (hl : j ≤ l) (hg : Gl X nm := by rfl) (hdb : (nm == ("__debug__" : Str)) = false := by decide) : CE X (.Call (.Name nm p) [] [] pos) (wCall R dds wNil) :=
  ⟨fun q => ge_perm (ge_call0F F hr hl (HandP.hand q) hg hdb)⟩
/-- a method -/
def wMeth (R : RSp) (C : Addr) (m : Str) (dds : List D) (o : WpE) (as : WpA) : WpE := fun Γ M k kx => o Γ M (fun d M1 => HI M1 d C fun fs _ => Sd (m ∉ fs) (as Γ M1 (fun ds M2 => HandP R (d :: (ds ++ dds)) M2 k kx) kx)) kx
theorem CE.meth {pl : Sem Bool} (F : MtD X.prog X.w X.K X.mg X.base j C m dds R) (hr : Room l X.A) (hl : j ≤ l) (ho : CE X o wo) (ha : CA X (e :: es) wes)
    (hst : starEach (e :: es) X.env = (false, eval e X.env) :: starEach es X.env := by rfl) (hpl : (backTo pos (starEach es X.env)).any (·.1) = false := by rfl)
    (ht : eval (.Call (.Attribute o m apos) (e :: es) [] pos) X.env = (do
      let ov ← eval o X.env
      standAt apos.atName
      let (f, first) ← holding [ov] (getMethod ov m pl)
      callWith pos f first (backTo pos (starEach (e :: es) X.env)) (backToKw pos (keywordEach [] X.env))) := by rfl) : CE X (.Call (.Attribute o m apos) (e :: es) [] pos) (wMeth R C m dds wo wes) :=
  ⟨fun q => ge_perm (ge_methF (pl := pl) F hr hl (GE.mono (ho.run q) (fun _ _ ⟨fs, ds0, e1, g⟩ => ⟨fs, ds0, e1, g.h, GA.mono (ha.run g.g) (fun _ _ h => h.hand) fun _ _ _ z => z⟩) fun _ _ _ z => z) hst hpl ht)⟩
theorem CE.meth0 {pl : Sem Bool} (F : MtD X.prog X.w X.K X.mg X.base j C m dds R) (hr : Room l X.A) (hl : j ≤ l) (ho : CE X o wo)
    (ht : eval (.Call (.Attribute o m apos) [] [] pos) X.env = (do
      let ov ← eval o X.env
      standAt apos.atName
      let (f, first) ← holding [ov] (getMethod ov m pl)
      callWith pos f first (backTo pos (starEach [] X.env)) (backToKw pos (keywordEach [] X.env))) := by rfl) : CE X (.Call (.Attribute o m apos) [] [] pos) (wMeth R C m dds wo wNil) :=
  ⟨fun q => ge_perm (ge_meth0F (pl := pl) F hr hl (GE.mono (ho.run q) (fun _ _ ⟨fs, ds0, e1, g⟩ => ⟨fs, ds0, e1, g.h, HandP.hand g.g⟩) fun _ _ _ z => z) ht)⟩
/-- a new object -/
def wMake (R : RSp) (C : Addr) (dds : List D) (as : WpA) : WpE := fun Γ M k kx => as Γ M (fun ds M1 => ∀ x, Hand R (.hdl x :: (ds ++ dds)) ((x, .ins C [] []) :: M1) (fun d M2 => d = .non ∧ ∃ M3, M2.Perm M3 ∧ k (.hdl x) M3) kx) kx
theorem CE.make (F : MkD X.prog X.w X.K X.mg X.base j C nm dds R) (hr : Room l X.A) (hl : j + 1 ≤ l) (ha : CA X (e :: es) wes) (hg : Gl X nm := by rfl) (hdb : (nm == ("__debug__" : Str)) = false := by decide)
    (he : starEach (e :: es) X.env = (false, eval e X.env) :: starEach es X.env := by rfl) (hpl : (backTo pos (starEach es X.env)).any (·.1) = false := by rfl) : CE X (.Call (.Name nm p) (e :: es) [] pos) (wMake R C dds wes) :=
  ⟨fun q => ge_perm (ge_makeF F hr hl (GA.mono (ha.run q) (fun _ _ h x => Hand.perm fr1 (h x)) fun _ _ _ z => z) hg hdb he hpl)⟩
theorem CE.make0 (F : MkD X.prog X.w X.K X.mg X.base j C nm dds R) (hr : Room l X.A) (hl : j + 1 ≤ l) (hg : Gl X nm := by rfl) (hdb : (nm == ("__debug__" : Str)) = false := by decide) : CE X (.Call (.Name nm p) [] [] pos) (wMake R C dds wNil) :=
  ⟨fun q => ge_perm (ge_make0F F hr hl (fun x => Hand.perm fr1 (q x)) hg hdb)⟩
/-! keywords -/
variable {n : Nat} {ks : List Str} {sel : List (Nat × Nat)} {kn : Option Str} {kpos : Pos}
theorem GK.mono {Γ : En} {M : Ms} {k k' : KDs} {kx kx' : KX} (h : GK X Γ M kws k kx) (hk : ∀ d M', k d M' → k' d M') (hx : ∀ c f M', kx c f M' → kx' c f M') : GK X Γ M kws k' kx' := fun S σ hM hE W tk hW Q hQ =>
  h S σ hM hE W tk (fun c f M' S' dd a => hW c f M' S' dd (hx _ _ _ a)) Q fun d M' S' v a => hQ d M' S' v (hk _ _ a)
theorem CK.nil : CK X [] wNil := ⟨fun h => gk_nil h⟩
theorem CK.cons (ha : CE X e wa) (hr : CK X kws wks) : CK X (⟨kn, e, kpos⟩ :: kws) (wCons wa wks) := ⟨fun h => gk_cons (GE.mono (ha.run h) (fun _ _ h1 => hr.run h1) fun _ _ _ z => z)⟩
def wMakeK (R : RSp) (C : Addr) (n m : Nat) (sel : List (Nat × Nat)) (dds : List D) (as ks : WpA) : WpE := fun Γ M k kx => as Γ M (fun ds M1 => ks Γ M1 (fun zs M2 => ds.length = n ∧ zs.length = m ∧ ∃ kk, ∀ x, CallOk R (kk ++ [M2.length]) (selL sel (.hdl x :: ds) dds zs) (M2 ++ [(x, .ins C [] [])]) (fun d M3 => d = .non ∧ k (.hdl x) M3) kx) kx) kx
theorem CE.makeK (F : MkK X.prog X.w X.K X.mg X.base j C nm (n + 1) ks sel dds R) (hr : Room l X.A) (hl : j + 1 ≤ l) (ha : CA X (e :: es) wes) (hk : CK X kws wks) (hall : (backToKw pos (keywordEach kws X.env)).all (·.1.isSome) = true := by rfl) (hks : (backToKw pos (keywordEach kws X.env)).filterMap (·.1) = ks := by rfl) (hg : Gl X nm := by rfl)
    (hdb : (nm == ("__debug__" : Str)) = false := by decide) (he : starEach (e :: es) X.env = (false, eval e X.env) :: starEach es X.env := by rfl) (hpl : ((backTo pos (starEach (e :: es) X.env)).any (·.1) || (backToKw pos (keywordEach kws X.env)).any (·.1.isNone)) = false := by rfl) : CE X (.Call (.Name nm p) (e :: es) kws pos) (wMakeK R C n ks.length sel dds wes wks) :=
  ⟨fun q => ge_makeK F hr hl (GA.mono (ha.run q) (fun _ _ h1 => hk.run h1) fun _ _ _ z => z) hall hks hg hdb he hpl⟩
def wMakeK0 (R : RSp) (C : Addr) (m : Nat) (sel : List (Nat × Nat)) (dds : List D) (ks : WpA) : WpE := fun Γ M k kx => ks Γ M (fun zs M2 => zs.length = m ∧ ∃ kk, ∀ x, CallOk R (kk ++ [M2.length]) (selL sel [.hdl x] dds zs) (M2 ++ [(x, .ins C [] [])]) (fun d M3 => d = .non ∧ k (.hdl x) M3) kx) kx
theorem CE.makeK0 (F : MkK X.prog X.w X.K X.mg X.base j C nm 1 ks sel dds R) (hr : Room l X.A) (hl : j + 1 ≤ l) (hk : CK X kws wks) (hall : (backToKw pos (keywordEach kws X.env)).all (·.1.isSome) = true := by rfl) (hks : (backToKw pos (keywordEach kws X.env)).filterMap (·.1) = ks := by rfl) (hg : Gl X nm := by rfl)
    (hdb : (nm == ("__debug__" : Str)) = false := by decide) (hpl : ((backTo pos (starEach [] X.env)).any (·.1) || (backToKw pos (keywordEach kws X.env)).any (·.1.isNone)) = false := by rfl) : CE X (.Call (.Name nm p) [] kws pos) (wMakeK0 R C ks.length sel dds wks) :=
  ⟨fun q => ge_makeK0 F hr hl (hk.run q) hall hks hg hdb hpl⟩
def wCallK0 (R : RSp) (m : Nat) (sel : List (Nat × Nat)) (dds : List D) (ks : WpA) : WpE := fun Γ M k kx => ks Γ M (fun zs M2 => Sd (zs.length = m) (HandP R (selL sel [] dds zs) M2 k kx)) kx
theorem CE.callK0 (F : FnK X.prog X.w X.K X.mg X.base j nm 0 ks sel dds R) (hr : Room l X.A) (hl : j ≤ l) (hk : CK X kws wks) (hall : (backToKw pos (keywordEach kws X.env)).all (·.1.isSome) = true := by rfl) (hks : (backToKw pos (keywordEach kws X.env)).filterMap (·.1) = ks := by rfl) (hg : Gl X nm := by rfl)
    (hdb : (nm == ("__debug__" : Str)) = false := by decide) (hpl : ((backTo pos (starEach [] X.env)).any (·.1) || (backToKw pos (keywordEach kws X.env)).any (·.1.isNone)) = false := by rfl) : CE X (.Call (.Name nm p) [] kws pos) (wCallK0 R ks.length sel dds wks) :=
  ⟨fun q => ge_perm (ge_callK0F F hr hl (GK.mono (hk.run q) (fun _ _ h => ⟨h.h, h.g.hand⟩) fun _ _ _ z => z) hall hks hg hdb hpl)⟩
/-! == by an own def -/
def cOwn (R : RSp) (C : Addr) : CmpD := fun x y M k => HI M x C fun _ _ => HI M y C fun _ _ => Hand R [x, y] M (tru k) fun _ _ _ => False
theorem Kc.own (F : MtD X.prog X.w X.K X.mg X.base j C "__eq__" [] R) (hr : Room l X.A) (hl : j ≤ l) (ha : CE X a wa) (hb : CE X b wb) : Kc X (.Compare a [.Eq] [b] pos) (wC (cOwn R C) wa wb) :=
  cmp_of (op_ownI F hr hl) (nomark _) (fun {x y M k} h => by
    obtain ⟨fs, ds, e1, gs, es, e2, h⟩ := h
    exact own_ok e1 e2 (fun d M' ⟨t, e, _⟩ => ⟨t, e⟩) h) ha hb
/-! ### fields -/
def wFld (C : Addr) (i : Nat) (f : Str) (o : WpE) : WpE := fun Γ M k kx => o Γ M (fun d M1 => HI M1 d C fun fs ds => ∃ v, Sd (fs.Nodup ∧ fs[i]? = some f ∧ ds[i]? = some v) (k v M1)) kx
theorem CE.fld {f : Str} {i : Nat} (cl : Cls X.K C) (na : NoAttr X.K C f) (ho : CE X o wo) (hb : attributeBase o f X.env (eval o X.env) = eval o X.env := by rfl) : CE X (.Attribute o f pos) (wFld C i f wo) :=
  ⟨fun q => ge_fld i (GE.mono (ho.run q) (fun _ _ ⟨fs, ds, e1, v, g⟩ => ⟨C, fs, ds, v, cl, na, e1, g.h.1, g.h.2.1, g.h.2.2, g.g⟩) fun _ _ _ z => z) hb⟩
/-! ### slices -/
def opSl (x : D) (lo hi : Option Int) (M : Ms) (k : KD) : Prop := match x with
  | .tup ds => k (.tup (cutD ds lo hi)) M
  | .lst ds => k (.lst (cutD ds lo hi)) M
  | .hdl h => HL M h fun _ ds => k (.lst (cutD ds lo hi)) M
  | .str s => Sd (s.length ≤ 16777216) (k (.str (cutS s lo hi)) M)
  | _ => False
abbrev WpO := En → Ms → (Option Int → Ms → Prop) → KX → Prop
structure CO (X : Cx) (e : Option Expr) (w : WpO) : Prop where
  run : ∀ {Γ M k kx}, w Γ M k kx → GO X Γ M e k kx
def wO0 : WpO := fun _ M k _ => k none M
def wO1 (a : WpE) : WpO := fun Γ M k kx => a Γ M (fun d M1 => match d with
  | .int i => k (some i) M1
  | _ => False) kx
theorem CO.none : CO X none wO0 := ⟨fun h => go_none h⟩
theorem CO.some (ha : CE X e wa) : CO X (some e) (wO1 wa) := ⟨fun h => go_some (GE.mono (ha.run h) (fun d M1 h1 => by cases d <;> first | exact h1.elim | exact ⟨_, rfl, h1⟩) fun _ _ _ z => z)⟩
theorem GO.mono {Γ : En} {M : Ms} {eo : Option Expr} {k k' : Option Int → Ms → Prop} {kx kx' : KX} (h : GO X Γ M eo k kx) (hk : ∀ d M', k d M' → k' d M') (hx : ∀ c f M', kx c f M' → kx' c f M') : GO X Γ M eo k' kx' := fun S σ hM hE W tk hW Q hQ =>
  h S σ hM hE W tk (fun c f M' S' dd a => hW c f M' S' dd (hx _ _ _ a)) Q fun d M' S' a => hQ d M' S' (hk _ _ a)
variable {lo hi : Option Expr} {wl wh : WpO}
/-- a slice of something of the kind that r serves -/
def wSlice (okd : D → Bool) (a : WpE) (l h : WpO) : WpE := fun Γ M k kx => a Γ M (fun x M1 => l Γ M1 (fun u M2 => h Γ M2 (fun v M3 => Sd (okd x = true) (opSl x u v M3 k)) kx) kx) kx
def isTupK : D → Bool | .tup _ => true | _ => false
def isLstK : D → Bool | .lst _ => true | .hdl _ => true | _ => false
def isStrK : D → Bool | .str _ => true | _ => false
theorem slice_of {r : V → Option Int → Option Int → Hp → VK → Prop} {okd : D → Bool} {p2 : Pos} (hr : SlR X r) (hf : ∀ {x u v M k}, okd x = true → opSl x u v M k → Sl X.K r x u v M k) (ha : CE X e wa) (hl : CO X lo wl) (hh : CO X hi wh) : CE X (.Subscript e (.Slice lo hi none p2) pos) (wSlice okd wa wl wh) :=
  ⟨fun q => ge_slice hr (GE.mono (ha.run q) (fun _ _ h1 => GO.mono (hl.run h1) (fun _ _ h2 => GO.mono (hh.run h2) (fun _ _ h3 => hf h3.h h3.g) fun _ _ _ z => z) fun _ _ _ z => z) fun _ _ _ z => z)⟩
theorem CE.sliceT {p2 : Pos} (ha : CE X e wa) (hl : CO X lo wl) (hh : CO X hi wh) : CE X (.Subscript e (.Slice lo hi none p2) pos) (wSlice isTupK wa wl wh) :=
  slice_of sl_tupA (fun {x u v M k} h g => by cases x <;> first | exact sl_tupD g | cases h) ha hl hh
theorem CE.sliceL {p2 : Pos} (ha : CE X e wa) (hl : CO X lo wl) (hh : CO X hi wh) : CE X (.Subscript e (.Slice lo hi none p2) pos) (wSlice isLstK wa wl wh) :=
  slice_of sl_list (fun {x u v M k} h g => by cases x <;> first | exact sl_lstD g | (obtain ⟨p, ds, e, g⟩ := g; exact sl_hdlD e g) | cases h) ha hl hh
theorem CE.sliceS {p2 : Pos} (ha : CE X e wa) (hl : CO X lo wl) (hh : CO X hi wh) : CE X (.Subscript e (.Slice lo hi none p2) pos) (wSlice isStrK wa wl wh) :=
  slice_of sl_str (fun {x u v M k} h g => by cases x <;> first | exact sl_strD g.h g.g | cases h) ha hl hh
/-! ### texts -/
def wJoin (o a : WpE) : WpE := fun Γ M k kx => o Γ M (fun x M1 => match x with
  | .str s => a Γ M1 (fun y M2 => ∃ ys : List Str, Sd (SeqD M2 y (ys.map D.str) ∧ (ys.map (·.length)).sum + ys.length * s.length ≤ 16777216) (k (.str (Txt.join s ys)) M2)) kx
  | _ => False) kx
theorem CE.join (ho : CE X o wo) (ha : CE X e wa)
    (hbase : attributeBase o "join" X.env (eval o X.env) = eval o X.env := by rfl)
    (hfew : ((backTo cpos (starEach (e :: []) X.env)).all (fun x => !x.1) && (backToKw cpos (keywordEach [] X.env)).all (fun x => x.1.isSome)
      && decide ((e :: []).length + ([] : List Keyword).length + (if ([] : List Keyword).isEmpty then 0 else 1) < 30)) = true := by rfl)
    (hline : (apos.endLine == cpos.line) = true := by rfl) (hs : starEach (e :: []) X.env = (false, eval e X.env) :: starEach [] X.env := by rfl) (hplain : (backTo cpos (starEach [] X.env)).any (·.1) = false := by rfl) : CE X (.Call (.Attribute o "join" apos) [e] [] cpos) (wJoin wo wa) :=
  ⟨fun q => ge_join (GE.mono (ho.run q) (fun d M1 h1 => by
    cases d <;> first | exact h1.elim | exact ⟨_, rfl, GE.mono (ha.run h1) (fun _ _ ⟨ys, g⟩ => ⟨ys, g.h.1, g.h.2, g.g⟩) fun _ _ _ z => z⟩) fun _ _ _ z => z) hbase hfew hline hs hplain⟩
end
end PD

set_option Elab.async false
set_option linter.all false
set_option maxRecDepth 100000
set_option maxHeartbeats 4000000
/-! PW: statements, loops, comprehensions, steps that nobody sees, defs. -/
namespace PD
open PySem L2
abbrev noX : KX := fun _ _ _ => False
abbrev exE (E : ED) (Γ : En) : KX := fun c f M1 => E.ex c f Γ M1
/-! ### steps that nobody sees: what may change is looked at no more, or changes no more -/
def GhS (Γ : En) (M : Ms) (Γ' : En) (M' : Ms) : Prop := ∀ (K : PySem.W.Frag) (S : Sg) (σ : L2.St), OkM K S M → EnvOk K S σ Γ → ∃ S', S'.H = S.H ∧ OkM K S' M' ∧ Grow S S' ∧ EnvOk K S' σ Γ'
def GhV (d : D) (M : Ms) (d' : D) (M' : Ms) : Prop := ∀ (K : PySem.W.Frag) (S : Sg) (v : V), OkM K S M → Rep K S d v → ∃ S', S'.H = S.H ∧ OkM K S' M' ∧ Grow S S' ∧ Rep K S' d' v
inductive Gh (Γ : En) (M : Ms) (f : En → Ms → Prop) : Prop
  | mk (Γ' : En) (M' : Ms) (e : GhS Γ M Γ' M') (g : f Γ' M')
inductive GhR (d : D) (M : Ms) (f : KD) : Prop
  | mk (d' : D) (M' : Ms) (e : GhV d M d' M') (g : f d' M')
theorem GhS.refl {Γ : En} {M : Ms} : GhS Γ M Γ M := fun K S σ h e => ⟨S, rfl, h, Grow.refl _, e⟩
theorem GhV.refl {d : D} {M : Ms} : GhV d M d M := fun K S v h e => ⟨S, rfl, h, Grow.refl _, e⟩
theorem GhS.trans {Γ Γ1 Γ2 : En} {M M1 M2 : Ms} (a : GhS Γ M Γ1 M1) (b : GhS Γ1 M1 Γ2 M2) : GhS Γ M Γ2 M2 := fun K S σ h e => by
  obtain ⟨S1, q1, h1, g1, e1⟩ := a K S σ h e
  obtain ⟨S2, q2, h2, g2, e2⟩ := b K S1 σ h1 e1
  exact ⟨S2, q2.trans q1, h2, g1.trans g2, e2⟩
theorem GhV.trans {d d1 d2 : D} {M M1 M2 : Ms} (a : GhV d M d1 M1) (b : GhV d1 M1 d2 M2) : GhV d M d2 M2 := fun K S v h e => by
  obtain ⟨S1, q1, h1, g1, e1⟩ := a K S v h e
  obtain ⟨S2, q2, h2, g2, e2⟩ := b K S1 v h1 e1
  exact ⟨S2, q2.trans q1, h2, g1.trans g2, e2⟩
theorem GhS.drop {Γ : En} {M M' : Ms} (s : M'.Sublist M) : GhS Γ M Γ M' := fun K S σ h e => by
  obtain ⟨a, b⟩ := drop_m h s
  exact ⟨⟨M'.map (·.1), S.Z, S.H⟩, rfl, a, b S (Grow.refl _), e.grow (b S (Grow.refl _))⟩
theorem GhV.drop {d : D} {M M' : Ms} (s : M'.Sublist M) : GhV d M d M' := fun K S v h e => by
  obtain ⟨a, b⟩ := drop_m h s
  exact ⟨⟨M'.map (·.1), S.Z, S.H⟩, rfl, a, b S (Grow.refl _), e.grow (b S (Grow.refl _))⟩
theorem GhS.perm {Γ : En} {M M' : Ms} (s : M.Perm M') : GhS Γ M Γ M' := fun K S σ h e => by
  obtain ⟨a, b⟩ := perm_m h s
  exact ⟨⟨M'.map (·.1), S.Z, S.H⟩, rfl, a, b S (Grow.refl _), e.grow (b S (Grow.refl _))⟩
theorem GhV.perm {d : D} {M M' : Ms} (s : M.Perm M') : GhV d M d M' := fun K S v h e => by
  obtain ⟨a, b⟩ := perm_m h s
  exact ⟨⟨M'.map (·.1), S.Z, S.H⟩, rfl, a, b S (Grow.refl _), e.grow (b S (Grow.refl _))⟩
theorem frzI_at {K : PySem.W.Frag} {S : Sg} {M : Ms} {j : Nat} {a C : Addr} {fs : List Str} {ds : List D} (hM : OkM K S M) (hj : M[j]? = some (a, MO.ins C fs ds)) :
    ∃ S', S'.H = S.H ∧ OkM K S' (M.eraseIdx j) ∧ Grow S S' ∧ ∃ dx kvs, S'.Z a = some (.ins C dx kvs) ∧ kvs.map (·.1) = fs ∧ RepL K S' ds (kvs.map (·.2)) := by
  obtain ⟨hz, dx, kvs, hh, hf, hr⟩ := hM.at hj
  obtain ⟨hM2, g2⟩ := frz_m hM hj hz hh
  have hs : (M.eraseIdx j).Sublist (M.set j (a, .gone)) := by
    rw [← List.eraseIdx_set_eq (l := M) (i := j) (a := (a, MO.gone))]
    exact List.eraseIdx_sublist _ _
  obtain ⟨hM3, g3⟩ := drop_m hM2 hs
  exact ⟨⟨(M.eraseIdx j).map (·.1), upd S.Z a (.ins C dx kvs), S.H⟩, rfl, hM3, g3 S g2, dx, kvs, upd_same, hf, (sg_mono (S' := ⟨(M.eraseIdx j).map (·.1), upd S.Z a (.ins C dx kvs), S.H⟩) (ex_new hz)).2 _ _ hr⟩
theorem frzD_at {K : PySem.W.Frag} {S : Sg} {M : Ms} {j : Nat} {a : Addr} {ks : List Key} {ds : List D} (hM : OkM K S M) (hj : M[j]? = some (a, MO.dct ks ds)) :
    ∃ S', S'.H = S.H ∧ OkM K S' (M.eraseIdx j) ∧ Grow S S' ∧ ∃ kvs, S'.Z a = some (.dK kvs) ∧ kvs.map (·.1) = ks ∧ RepL K S' ds (kvs.map (·.2)) := by
  obtain ⟨hz, kvs, hh, hf, hr⟩ := hM.at hj
  obtain ⟨hM2, g2⟩ := frz_m hM hj hz hh
  have hs : (M.eraseIdx j).Sublist (M.set j (a, .gone)) := by
    rw [← List.eraseIdx_set_eq (l := M) (i := j) (a := (a, MO.gone))]
    exact List.eraseIdx_sublist _ _
  obtain ⟨hM3, g3⟩ := drop_m hM2 hs
  exact ⟨⟨(M.eraseIdx j).map (·.1), upd S.Z a (.dK kvs), S.H⟩, rfl, hM3, g3 S g2, kvs, upd_same, hf, (sg_mono (S' := ⟨(M.eraseIdx j).map (·.1), upd S.Z a (.dK kvs), S.H⟩) (ex_new hz)).2 _ _ hr⟩
theorem envSame {K : PySem.W.Frag} {S : Sg} {σ : L2.St} {Γ : En} {i : Nat} {a : Addr} {d : D} (hE : EnvOk K S σ Γ) (hi : Γ[i]? = some (some (.hdl a))) (r : Rep K S d (.ref a)) : EnvOk K S σ (Γ.set i (some d)) := by
  obtain ⟨v, hv, rv⟩ := hE.2 i _ hi
  have rv2 : v = .ref a := rv
  subst rv2
  have h := hE.set (i := i) r
  have es : σ.set i (some (.ref a)) = σ := by
    refine List.ext_getElem? fun q => ?_
    rw [List.getElem?_set]
    split
    · rename_i e; subst e
      have hl := (List.getElem?_eq_some_iff.mp hv).1
      rw [if_pos hl, hv]
    · rfl
  rw [es] at h
  exact h
/-- the list in the local i changes no more -/
theorem GhS.frz {Γ : En} {M : Ms} (i j : Nat) {a : Addr} {ds : List D} (hi : Γ[i]? = some (some (.hdl a))) (hj : M[j]? = some (a, MO.lst ds)) : GhS Γ M (Γ.set i (some (.lst ds))) (M.eraseIdx j) := fun K S σ h e => by
  obtain ⟨S', q, hM', g, xs, hz, hr⟩ := frz_at h hj
  exact ⟨S', q, hM', g, envSame (e.grow g) hi ⟨a, xs, rfl, hz, hr⟩⟩
theorem GhS.frzI {Γ : En} {M : Ms} (i j : Nat) {a C : Addr} {fs : List Str} {ds : List D} (hi : Γ[i]? = some (some (.hdl a))) (hj : M[j]? = some (a, MO.ins C fs ds)) : GhS Γ M (Γ.set i (some (.ins C fs ds))) (M.eraseIdx j) := fun K S σ h e => by
  obtain ⟨S', q, hM', g, dx, kvs, hz, hf, hr⟩ := frzI_at h hj
  exact ⟨S', q, hM', g, envSame (e.grow g) hi ⟨a, dx, kvs, rfl, hz, hf, hr⟩⟩
theorem GhS.frzD {Γ : En} {M : Ms} (i j : Nat) {a : Addr} {ks : List Key} {ds : List D} (hi : Γ[i]? = some (some (.hdl a))) (hj : M[j]? = some (a, MO.dct ks ds)) : GhS Γ M (Γ.set i (some (.dct ks ds))) (M.eraseIdx j) := fun K S σ h e => by
  obtain ⟨S', q, hM', g, kvs, hz, hf, hr⟩ := frzD_at h hj
  exact ⟨S', q, hM', g, envSame (e.grow g) hi ⟨a, kvs, rfl, hz, hf, hr⟩⟩
theorem GhV.frz {M : Ms} (j : Nat) {a : Addr} {ds : List D} (hj : M[j]? = some (a, MO.lst ds)) : GhV (.hdl a) M (.lst ds) (M.eraseIdx j) := fun K S v h e => by
  cases e
  obtain ⟨S', q, hM', g, xs, hz, hr⟩ := frz_at h hj
  exact ⟨S', q, hM', g, a, xs, rfl, hz, hr⟩
theorem GhV.frzI {M : Ms} (j : Nat) {a C : Addr} {fs : List Str} {ds : List D} (hj : M[j]? = some (a, MO.ins C fs ds)) : GhV (.hdl a) M (.ins C fs ds) (M.eraseIdx j) := fun K S v h e => by
  cases e
  obtain ⟨S', q, hM', g, dx, kvs, hz, hf, hr⟩ := frzI_at h hj
  exact ⟨S', q, hM', g, a, dx, kvs, rfl, hz, hf, hr⟩
theorem GhV.frzD {M : Ms} (j : Nat) {a : Addr} {ks : List Key} {ds : List D} (hj : M[j]? = some (a, MO.dct ks ds)) : GhV (.hdl a) M (.dct ks ds) (M.eraseIdx j) := fun K S v h e => by
  cases e
  obtain ⟨S', q, hM', g, kvs, hz, hf, hr⟩ := frzD_at h hj
  exact ⟨S', q, hM', g, a, kvs, rfl, hz, hf, hr⟩
theorem GhS.gb {X : Cx} {Γ Γ' : En} {M M' : Ms} {sts : List Stmt} {E : ED} (a : GhS Γ M Γ' M') (h : GB X Γ' M' sts E) : GB X Γ M sts E := fun S σ hM hE W tk De L => by
  obtain ⟨S', q, hM', g, e'⟩ := a X.K S σ hM hE
  have := h S' σ hM' e' W tk De (L.grow g)
  rw [q] at this
  exact this
theorem GhV.ge {X : Cx} {Γ : En} {M : Ms} {e : Expr} {k : KD} {kx : KX} (h : GE X Γ M e (fun d M1 => GhR d M1 k) kx) : GE X Γ M e k kx := fun S σ hM hE W tk hW Q hQ =>
  h S σ hM hE W tk hW Q fun d M1 S1 v ⟨d', M', a, g⟩ hM1 g1 r1 => by
    obtain ⟨S', q, hM', g', r'⟩ := a X.K S1 v hM1 r1
    rw [← q]
    exact hQ d' M' S' v g hM' (g1.trans g') r'

section
variable {X : Cx} {e a b c o i : Expr} {es : List Expr} {st : Stmt} {sts s1 s2 rest : List Stmt} {pos pos' p apos cpos : Pos} {wa wb wc w wo wi' : WpE} {wes : WpA} {nm m : Str} {j l : Nat} {C : Addr} {ws wr wt wf : WpS} {t : WpT}
def wGh (r : WpS) : WpS := fun Γ M E => Gh Γ M fun Γ' M' => r Γ' M' E
/-- .. of a value -/
def wGv (a : WpE) : WpE := fun Γ M k kx => a Γ M (fun d M1 => GhR d M1 k) kx
theorem Cb.gh (h : Cb X sts wr) : Cb X sts (wGh wr) := ⟨fun ⟨Γ', M', a, g⟩ => a.gb (h.run g)⟩
theorem CE.gv (h : CE X e w) : CE X e (wGv w) := ⟨fun q => GhV.ge (h.run q)⟩
/-! ### statements -/
def wEnd : WpS := fun Γ M E => E.nx Γ M
def wSeq (s r : WpS) : WpS := fun Γ M E => s Γ M { E with nx := fun Γ1 M1 => r Γ1 M1 E }
theorem Cb.nil : Cb X [] wEnd := ⟨fun h => gb_nil h⟩
theorem gs_nx {Γ : En} {M : Ms} {E : ED} {J J' : En → Ms → Prop} (h : GS X Γ M st { E with nx := J }) (hj : ∀ Γ1 M1, J Γ1 M1 → J' Γ1 M1) : GS X Γ M st { E with nx := J' } := fun S σ hM hE W tk De L =>
  h S σ hM hE W tk De ⟨fun Γ1 M1 S1 σ1 h1 => L.nx Γ1 M1 S1 σ1 (hj _ _ h1), L.rt, L.bk, L.ct, L.ex⟩
theorem Cb.cons (h : CS X st ws) (r : Cb X rest wr) : Cb X (st :: rest) (wSeq ws wr) := ⟨fun q => gb_cons (gs_nx (h.run q) fun _ _ g => r.run g)⟩
theorem Cb.one (h : CS X st ws) : Cb X [st] ws := ⟨fun q => gb_one (h.run q)⟩
def wSet (i : Nat) (a : WpE) : WpS := fun Γ M E => a Γ M (fun d M1 => setK Γ i d fun Γ1 => E.nx Γ1 M1) (exE E Γ)
theorem CS.set (i : Nat) {x : Str} {px : Pos} (ha : CE X e wa) (hN : X.N.Nodup) (hi : X.N[i]? = some x := by rfl) (hx : Loc X.env.scope x := by first | exact Or.inl rfl | exact Or.inr rfl)
    (hs : swapsWith e (some (.Name x px)) pos.line X.env = pure false := by rfl) (hf : X.fn x = true ∨ X.env.scope.names.lookup x = some .local := by first | exact .inl rfl | exact .inr rfl) : CS X (.Assign [.Name x px] e pos) (wSet i wa) := ⟨fun h => gs_set i (GE.mono (ha.run h) (fun d M1 q => setK_eq q) fun _ _ _ z => z) hN hi hx hs hf⟩
def wExpr (a : WpE) : WpS := fun Γ M E => a Γ M (fun _ M1 => E.nx Γ M1) (exE E Γ)
theorem CS.expr (ha : CE X e wa) (hs : swapsWith e none pos.line X.env = pure false := by rfl) : CS X (.Expr e pos) (wExpr wa) := ⟨fun h => gs_expr (ha.run h) hs⟩
def wRet (a : WpE) : WpS := fun Γ M E => a Γ M E.rt (exE E Γ)
theorem CS.ret (ha : CE X e wa) : CS X (.Return (some e) pos) (wRet wa) := ⟨fun h => gs_ret (ha.run h)⟩
def wRetN : WpS := fun Γ M E => E.rt .non M
theorem CS.retN : CS X (.Return none pos) wRetN := ⟨fun h => gs_retN h⟩
def wPass : WpS := fun Γ M E => E.nx Γ M
theorem CS.pass : CS X (.Pass pos) wPass := ⟨fun h => gs_pass h⟩
def wBrk : WpS := fun Γ M E => E.bk Γ M
theorem CS.brk : CS X (.Break pos) wBrk := ⟨fun h => gs_break h⟩
def wCnt : WpS := fun Γ M E => E.ct Γ M
theorem CS.cnt : CS X (.Continue pos) wCnt := ⟨fun h => gs_continue h⟩
def wIf (t : WpT) (a b : WpS) : WpS := fun Γ M E => t Γ M (fun v M1 => Br v (a Γ M1 E) (b Γ M1 E)) (exE E Γ)
theorem CS.if (ht : CT X c t) (h1 : Cb X s1 wt) (h2 : Cb X s2 wf) : CS X (.If c s1 s2 pos) (wIf t wt wf) :=
  ⟨fun h => gs_if (GT.mono (ht.run h) (fun v M1 g => ⟨fun q => h1.run (g.t q), fun q => h2.run (g.f q)⟩) fun _ _ _ z => z)⟩
/-! targets -/
abbrev WpG := En → D → (En → Prop) → Prop
structure CTg (X : Cx) (tg : Expr) (w : WpG) : Prop where
  run : ∀ {Γ M d k}, w Γ d k → GG X Γ M tg d k
structure CTs (X : Cx) (ts : List Expr) (w : En → List D → (En → Prop) → Prop) : Prop where
  run : ∀ {Γ M d k}, w Γ d k → GGs X Γ M ts d k
def gName (i : Nat) : WpG := fun Γ d k => setK Γ i d k
def gNil : En → List D → (En → Prop) → Prop
  | Γ, [], k => k Γ
  | _, _, _ => False
def gCons (g : WpG) (r : En → List D → (En → Prop) → Prop) : En → List D → (En → Prop) → Prop := fun Γ ds k => match ds with
  | d :: ds => g Γ d fun Γ1 => r Γ1 ds k
  | _ => False
def gTup (n : Nat) (r : En → List D → (En → Prop) → Prop) : WpG := fun Γ d k => match d with
  | .tup ds => Sd (ds.length = n) (r Γ ds k)
  | _ => False
theorem GG.mono {Γ : En} {M : Ms} {tg : Expr} {d : D} {k k' : En → Prop} (h : GG X Γ M tg d k) (hk : ∀ Γ1, k Γ1 → k' Γ1) : GG X Γ M tg d k' := fun S σ hM hE v r Q hQ => h S σ hM hE v r Q fun Γ1 σ1 q => hQ Γ1 σ1 (hk _ q)
theorem CTg.name (i : Nat) {x : Str} (hN : X.N.Nodup) (hi : X.N[i]? = some x := by rfl) (hx : Loc X.env.scope x := by first | exact Or.inl rfl | exact Or.inr rfl)
    (hf : X.fn x = true ∨ X.env.scope.names.lookup x = some .local := by first | exact .inl rfl | exact .inr rfl) : CTg X (.Name x pos) (gName i) := ⟨fun h => gg_name i (setK_eq h) hN hi hx hf⟩
theorem CTs.nil : CTs X [] gNil := ⟨fun {Γ M d k} h => by cases d <;> first | exact ggs_nil h | exact h.elim⟩
theorem CTs.cons {tt : Expr} {ts : List Expr} {g : WpG} {r : En → List D → (En → Prop) → Prop} (h : CTg X tt g) (hr : CTs X ts r) (hs : (assignEach (tt :: ts) X.env).map (·.2) = assign tt X.env :: (assignEach ts X.env).map (·.2) := by rfl) : CTs X (tt :: ts) (gCons g r) :=
  ⟨fun {Γ M d k} q => by cases d <;> first | exact q.elim | exact ggs_cons (GG.mono (h.run q) fun _ z => hr.run z) hs⟩
theorem CTg.tup {n kt : Nat} {r : En → List D → (En → Prop) → Prop} (hc : X.calm = true) (h : CTs X es r) (hn : (assignEach es X.env).length = n := by rfl) (hst : (assignEach es X.env).findIdx? (·.1) = none := by rfl) : CTg X (.Tuple es kt pos) (gTup n r) :=
  ⟨fun {Γ M d k} q => by cases d <;> first | exact q.elim | exact gg_tup hc (h.run q.g) q.h hn hst⟩
def wAsg (g : WpG) (a : WpE) : WpS := fun Γ M E => a Γ M (fun d M1 => g Γ d fun Γ1 => E.nx Γ1 M1) (exE E Γ)
theorem CS.asg {tg : Expr} {g : WpG} (ha : CE X e wa) (h : CTg X tg g) (hs : swapsWithSole [tg] e pos.line X.env = pure false := by rfl) (hw : swappedStores [tg] e X.env = pure none := by rfl)
    (h1 : (assignEach [tg] X.env).map (·.2) = [assign tg X.env] := by rfl) : CS X (.Assign [tg] e pos) (wAsg g wa) :=
  ⟨fun q => gs_asg (GE.mono (ha.run q) (fun _ _ z => h.run z) fun _ _ _ z => z) hs hw h1⟩
def wPar (i j : Nat) (r : WpA) : WpS := fun Γ M E => r Γ M (fun ds M1 => match ds with
  | [v, w] => setK Γ i v fun Γ1 => setK Γ1 j w fun Γ2 => E.nx Γ2 M1
  | _ => False) (exE E Γ)
theorem CS.par (i j : Nat) {x y : Str} {px py pt : Pos} {kt k2 : Nat} {pt2 : Pos} (hc : X.calm = true) (ha : CA X [a, b] wes)
    (hN : X.N.Nodup) (hi : X.N[i]? = some x := by rfl) (hj : X.N[j]? = some y := by rfl) (hij : i ≠ j := by decide) (hx : X.env.scope.names.lookup x = some .local := by rfl) (hy : X.env.scope.names.lookup y = some .local := by rfl)
    (hw : swappedStores [.Tuple [.Name x px, .Name y py] kt pt] (.Tuple [a, b] k2 pt2) X.env = pure (some [x, y]) := by rfl)
    (hs : swapsWithSole [.Tuple [.Name x px, .Name y py] kt pt] (.Tuple [a, b] k2 pt2) pos.line X.env = pure false := by rfl) : CS X (.Assign [.Tuple [.Name x px, .Name y py] kt pt] (.Tuple [a, b] k2 pt2) pos) (wPar i j wes) :=
  ⟨fun q => gs_par i j hc (GA.mono (ha.run q) (fun ds M1 z => by
    match ds, z with
    | [v, w], z => exact ⟨v, w, rfl, setK_eq (setK_eq z)⟩) fun _ _ _ z => z) hN hi hj hij hx hy hw hs⟩
def wPar3 (i j l : Nat) (r : WpA) : WpS := fun Γ M E => r Γ M (fun ds M1 => match ds with
  | [u, v, w] => setK Γ i u fun Γ1 => setK Γ1 j v fun Γ2 => setK Γ2 l w fun Γ3 => E.nx Γ3 M1
  | _ => False) (exE E Γ)
theorem CS.par3 (i j l : Nat) {x y z : Str} {px py pz pt : Pos} {kt k2 : Nat} {pt2 : Pos} (hc : X.calm = true) (ha : CA X [a, b, c] wes)
    (hN : X.N.Nodup) (hi : X.N[i]? = some x := by rfl) (hj : X.N[j]? = some y := by rfl) (hl : X.N[l]? = some z := by rfl) (hij : i ≠ j := by decide) (hil : i ≠ l := by decide) (hjl : j ≠ l := by decide)
    (hx : X.env.scope.names.lookup x = some .local := by rfl) (hy : X.env.scope.names.lookup y = some .local := by rfl) (hz : X.env.scope.names.lookup z = some .local := by rfl)
    (hw : swappedStores [.Tuple [.Name x px, .Name y py, .Name z pz] kt pt] (.Tuple [a, b, c] k2 pt2) X.env = pure (some [x, y, z]) := by rfl)
    (hs : swapsWithSole [.Tuple [.Name x px, .Name y py, .Name z pz] kt pt] (.Tuple [a, b, c] k2 pt2) pos.line X.env = pure false := by rfl) : CS X (.Assign [.Tuple [.Name x px, .Name y py, .Name z pz] kt pt] (.Tuple [a, b, c] k2 pt2) pos) (wPar3 i j l wes) :=
  ⟨fun q => gs_par3 i j l hc (GA.mono (ha.run q) (fun ds M1 z => by
    match ds, z with
    | [u, v, w], z => exact ⟨u, v, w, rfl, setK_eq (setK_eq (setK_eq z))⟩) fun _ _ _ z => z) hN (hi := hi) (hj := hj) (hl := hl) (hij := hij) (hil := hil) (hjl := hjl) (hx := hx) (hy := hy) (hz := hz) (hw := hw) (hs := hs)⟩
/-- o[i] = e -/
def wSeti (a o i : WpE) : WpS := fun Γ M E => a Γ M (fun d M1 => o Γ M1 (fun x M2 => i Γ M2 (fun y M3 => match x, y with
  | .hdl h, .int n => HL M3 h fun q ds => ∃ j : Nat, Sd ((0 ≤ n ∧ n = j ∧ j < ds.length) ∨ (n < 0 ∧ n + ds.length = j)) (setM M3 q (h, .lst (ds.set j d)) fun M4 => E.nx Γ M4)
  | _, _ => False) (exE E Γ)) (exE E Γ)) (exE E Γ)
theorem CS.seti (ha : CE X e wa) (ho : CE X o wo) (hi : CE X i wi') (hs : swapsWithSole [.Subscript o i pos'] e pos.line X.env = pure false := by rfl) (hw : swappedStores [.Subscript o i pos'] e X.env = pure none := by rfl) (h1 : (assignEach [.Subscript o i pos'] X.env).map (·.2) = [assign (.Subscript o i pos') X.env] := by rfl)
    (hv : ∀ v, assign (.Subscript o i pos') X.env v = (do
      let ov ← holding [v] (eval o X.env)
      let iv ← holding [v, ov] (eval i X.env)
      standAt pos'
      holding [v, ov, iv] (setItem ov iv v)
      release [v, ov, iv] []) := by intro _; rfl) : CS X (.Assign [.Subscript o i pos'] e pos) (wSeti wa wo wi') :=
  ⟨fun q => gs_seti (GE.mono (ha.run q) (fun _ _ q1 => GE.mono (ho.run q1) (fun x _ q2 => GE.mono (hi.run q2) (fun y M3 q3 => by
    cases x <;> cases y <;> first | exact q3.elim | (obtain ⟨p, ds, e1, j, g⟩ := q3; exact ⟨p, _, ds, _, j, rfl, e1, rfl, g.h, setM_eq.mp g.g⟩)) fun _ _ _ z => z) fun _ _ _ z => z) fun _ _ _ z => z) hs hw h1 hv⟩
/-- o[i] = e, o a dict -/
def wDput (a o i : WpE) : WpS := fun Γ M E => a Γ M (fun d M1 => o Γ M1 (fun x M2 => i Γ M2 (fun y M3 => HDm M3 x fun j h ks ds => ∃ q ks' ds', Sd (y = kD q ∧ ks.length < 16777216 ∧ PutK ks ds q d ks' ds') (setM M3 j (h, .dct ks' ds') fun M4 => E.nx Γ M4)) (exE E Γ)) (exE E Γ)) (exE E Γ)
theorem CS.dput (hu : X.A.units + 65 < cLine) (ha : CE X e wa) (ho : CE X o wo) (hi : CE X i wi') (hs : swapsWith e (some (.Subscript o i pos')) pos.line X.env = pure false := by rfl) : CS X (.Assign [.Subscript o i pos'] e pos) (wDput wa wo wi') :=
  ⟨fun q => gs_dput (Nat.lt_of_le_of_lt (Nat.add_le_add_left (by decide) _) hu) (GE.mono (ha.run q) (fun _ _ q1 => GE.mono (ho.run q1) (fun x _ q2 => GE.mono (hi.run q2) (fun y M3 ⟨p, h, ks, ds, e1, e2, q', ks', ds', g⟩ => ⟨p, h, ks, ks', ds, ds', q', e1, e2, g.h.1, g.h.2.1, g.h.2.2, setM_eq.mp g.g⟩) fun _ _ _ z => z) fun _ _ _ z => z) fun _ _ _ z => z) hs⟩
/-- o.f = e -/
def wFset (C : Addr) (f : Str) (a o : WpE) : WpS := fun Γ M E => a Γ M (fun d M1 => o Γ M1 (fun x M2 => HIm M2 x C fun q h fs ds => ∃ fs' ds', Sd (fs.length < 1000 ∧ PutA fs ds f d fs' ds') (setM M2 q (h, .ins C fs' ds') fun M4 => E.nx Γ M4)) (exE E Γ)) (exE E Γ)
theorem CS.fset {f : Str} (cl : Cls X.K C) (na : NoAttr X.K C f) (ha : CE X e wa) (ho : CE X o wo) (hs : swapsWith e (some (.Attribute o f pos')) pos.line X.env = pure false := by rfl) : CS X (.Assign [.Attribute o f pos'] e pos) (wFset C f wa wo) :=
  ⟨fun q => gs_fld (GE.mono (ha.run q) (fun _ _ q1 => GE.mono (ho.run q1) (fun x _ ⟨p, h, fs, ds, e1, e2, fs', ds', g⟩ => ⟨p, h, C, fs, fs', ds, ds', e1, e2, cl, na, g.h.1, g.h.2, setM_eq.mp g.g⟩) fun _ _ _ z => z) fun _ _ _ z => z) hs⟩
/-- o.f += e, whole numbers -/
def wFaug (C : Addr) (f : Str) (o a : WpE) : WpS := fun Γ M E => o Γ M (fun x M1 => HI M1 x C fun fs ds => ∃ (i : Nat) (n : Int), Sd (fs.Nodup ∧ fs[i]? = some f ∧ ds[i]? = some (.int n)) (a Γ M1 (fun y M2 => match y with
  | .int m => HIm M2 x C fun q h fs ds => ∃ fs' ds', Sd (fs.length < 1000 ∧ PutA fs ds f (.int (n + m)) fs' ds') (setM M2 q (h, .ins C fs' ds') fun M4 => E.nx Γ M4)
  | _ => False) (exE E Γ))) (exE E Γ)
theorem CS.faug {f : Str} (cl : Cls X.K C) (na : NoAttr X.K C f) (ho : CE X o wo) (ha : CE X e wa) : CS X (.AugAssign (.Attribute o f pos') .Add e pos) (wFaug C f wo wa) :=
  ⟨fun q => gs_fldaug in_addU (GE.mono (ho.run q) (fun x M1 ⟨fs, ds, e1, i, n, g⟩ => ⟨C, fs, ds, i, .int n, e1, cl, na, g.h.1, g.h.2.1, g.h.2.2, GE.mono (ha.run g.g) (fun y M2 q2 => by
    cases y <;> first | exact q2.elim | (obtain ⟨p, h, fs, ds, e1, e2, fs', ds', g⟩ := q2; exact aug_add ⟨p, h, fs, fs', ds, ds', e1, e2, g.h.1, g.h.2, setM_eq.mp g.g⟩)) fun _ _ _ z => z⟩) fun _ _ _ z => z)⟩
/-- o1.f1, o2.f2 = e -/
def wFset2 (C1 C2 : Addr) (f1 f2 : Str) (a o1 o2 : WpE) : WpS := fun Γ M E => a Γ M (fun d M1 => match d with
  | .tup [u, v] => o1 Γ M1 (fun x M2 => HIm M2 x C1 fun q h fs ds => ∃ fs' ds', Sd (fs.length < 1000 ∧ PutA fs ds f1 u fs' ds') (o2 Γ (M2.set q (h, .ins C1 fs' ds')) (fun y M3 => HIm M3 y C2 fun q h fs ds => ∃ fs' ds', Sd (fs.length < 1000 ∧ PutA fs ds f2 v fs' ds') (E.nx Γ (M3.set q (h, .ins C2 fs' ds')))) (exE E Γ))) (exE E Γ)
  | _ => False) (exE E Γ)
/-! lists that may change -/
def wApp (o a : WpE) : WpE := fun Γ M k kx => o Γ M (fun x M1 => match x with
  | .hdl h => HL M1 h fun _ _ => a Γ M1 (fun y M2 => HL M2 h fun q ds => Sd (ds.length < 16777216) (setM M2 q (h, .lst (ds ++ [y])) fun M4 => k .non M4)) kx
  | _ => False) kx
theorem CE.app (ho : CE X o wo) (ha : CE X e wa) (hbase : attributeBase o "append" X.env (eval o X.env) = eval o X.env := by rfl)
    (hfew : ((backTo p (starEach [e] X.env)).all (fun x => !x.1) && (backToKw p (keywordEach [] X.env)).all (fun x => x.1.isSome) && decide ([e].length + ([] : List Keyword).length + (if ([] : List Keyword).isEmpty then 0 else 1) < 30)) = true := by rfl)
    (hline : (apos.endLine == p.line) = true := by rfl) (hs : starEach [e] X.env = (false, eval e X.env) :: starEach [] X.env := by rfl) (hplain : (backTo p (starEach [] X.env)).any (·.1) = false := by rfl) : CE X (.Call (.Attribute o "append" apos) [e] [] p) (wApp wo wa) :=
  ⟨fun q => ge_append (GE.mono (ho.run q) (fun x M1 q1 => by
    cases x <;> first | exact q1.elim | (obtain ⟨p1, ds1, e1, g1⟩ := q1; exact ⟨⟨p1, _, ds1, rfl, e1⟩, GE.mono (ha.run g1) (fun y M2 ⟨p2, ds2, e2, g2⟩ => ⟨p2, _, ds2, rfl, e2, g2.h, setM_eq.mp g2.g⟩) fun _ _ _ z => z⟩)) fun _ _ _ z => z) hbase hfew hline hs hplain⟩
def wExt (o a : WpE) : WpE := fun Γ M k kx => o Γ M (fun x M1 => match x with
  | .hdl h => HL M1 h fun _ _ => a Γ M1 (fun y M2 => match y with
    | .lst es => HL M2 h fun q ds => Sd (ds.length + es.length ≤ 16777216) (setM M2 q (h, .lst (ds ++ es)) fun M4 => k .non M4)
    | _ => False) kx
  | _ => False) kx
theorem CE.ext (ho : CE X o wo) (ha : CE X e wa) (hbase : attributeBase o "extend" X.env (eval o X.env) = eval o X.env := by rfl)
    (hfew : ((backTo p (starEach [e] X.env)).all (fun x => !x.1) && (backToKw p (keywordEach [] X.env)).all (fun x => x.1.isSome) && decide ([e].length + ([] : List Keyword).length + (if ([] : List Keyword).isEmpty then 0 else 1) < 30)) = true := by rfl)
    (hline : (apos.endLine == p.line) = true := by rfl) (hs : starEach [e] X.env = (false, eval e X.env) :: starEach [] X.env := by rfl) (hplain : (backTo p (starEach [] X.env)).any (·.1) = false := by rfl) : CE X (.Call (.Attribute o "extend" apos) [e] [] p) (wExt wo wa) :=
  ⟨fun q => ge_extend (GE.mono (ho.run q) (fun x M1 q1 => by
    cases x <;> first | exact q1.elim | (obtain ⟨p1, ds1, e1, g1⟩ := q1; exact ⟨⟨p1, _, ds1, rfl, e1⟩, GE.mono (ha.run g1) (fun y M2 q2 => by
      cases y <;> first | exact q2.elim | (obtain ⟨p2, ds2, e2, g2⟩ := q2; exact ⟨p2, _, ds2, _, rfl, e2, rfl, g2.h, setM_eq.mp g2.g⟩)) fun _ _ _ z => z⟩)) fun _ _ _ z => z) hbase hfew hline hs hplain⟩
/-! raising -/
def wRaise (C : Addr) (f : Str) (a : WpE) : WpS := fun Γ M E => a Γ M (fun d M1 => E.ex (.ref C) [(f, d)] Γ M1) (exE E Γ)
theorem CS.raise1 {f : Str} {p2 : Pos} (F : ExD X.prog X.w X.K X.mg X.base nm C f) (hc : X.calm = true) (hr : Room l X.A) (hl : 2 ≤ l) (ha : CE X e wa) (hg : Gl X nm := by rfl) (hdb : (nm == ("__debug__" : Str)) = false := by decide)
    (he : starEach [e] X.env = (false, eval e X.env) :: starEach [] X.env := by rfl) (hpl : (backTo pos (starEach [] X.env)).any (·.1) = false := by rfl) : CS X (.Raise (some (.Call (.Name nm p) [e] [] pos)) none pos') (wRaise C f wa) :=
  ⟨fun q => gs_raise1 F hc hr hl (ha.run q) (hg := hg) (hdb := hdb) (he := he) (hpl := hpl)⟩
def wRaise0 (C : Addr) : WpS := fun Γ M E => E.ex (.ref C) [] Γ M
theorem CS.raise0 {m : Str} {j : Nat} {p2 : Pos} (F : ExP X.K X.mg nm C) (hc : X.calm = true) (hh : ∀ {Γ M E}, E.ex (.ref C) [] Γ M → GS X Γ M (.Raise (some (.Call (.Name nm p) [.Constant (.str m) j p2] [] pos)) none pos') E) : CS X (.Raise (some (.Call (.Name nm p) [.Constant (.str m) j p2] [] pos)) none pos') (wRaise0 C) := ⟨fun q => hh q⟩
end
end PD

set_option Elab.async false
set_option linter.all false
set_option maxRecDepth 100000
set_option maxHeartbeats 4000000
/-! PW: what is walked, loops, comprehensions, defs. -/
namespace PD
open PySem L2
open Evl (Ex ex_rd ex_l ex_t)
abbrev KIt := List D → (Ms → Prop) → Ms → Prop
abbrev WpI := En → Ms → KIt → KX → Prop
/-- the turns of a walk are those of a list of items -/
abbrev itK (k : KIt) : KI := fun n it G M1 => ∃ items : List D, items.length = n ∧ (∀ i d, it i d → items[i]? = some d) ∧ k items G M1
structure Ki (X : Cx) (tg iter : Expr) (w : WpI) : Prop where
  run : ∀ {Γ M k kx}, w Γ M k kx → GI X Γ M tg iter (itK k) kx
section
variable {X : Cx} {Γ : En} {M : Ms} {tg e a b c elt : Expr} {es ifs : List Expr} {kx : KX} {pos p : Pos} {wa wb wc we : WpE} {wes : WpA}
theorem GI.mono {k k' : KI} {kx' : KX} (h : GI X Γ M tg e k kx) (hk : ∀ n it G M1, k n it G M1 → k' n it G M1) (hx : ∀ c f M', kx c f M' → kx' c f M') : GI X Γ M tg e k' kx' := fun S σ hM hE W tk hW R hR =>
  h S σ hM hE W tk (fun c f M' S' dd a => hW c f M' S' dd (hx _ _ _ a)) R fun n it G M1 S1 J q => hR n it G M1 S1 J (hk _ _ _ _ q)
/-- a list, standing or not -/
theorem gi_any {k : KI} (h : GE X Γ M e (fun d M1 => match d with
    | .lst ds => k ds.length (fun i x => ds[i]? = some x) (fun _ => True) M1
    | .seq ds => k ds.length (fun i x => ds[i]? = some x) (fun _ => True) M1
    | .hdl a => HL M1 a fun _ ds => k ds.length (fun i x => ds[i]? = some x) (fun M => ∃ j : Nat, M[j]? = some (a, .lst ds)) M1
    | _ => False) kx) : GI X Γ M tg e k kx := fun S σ hM hE W tk hW R hR pins s I =>
  (pi_list (tg := tg) (we (X := X) (e := e))).run pins s σ S.H R I (h S σ hM hE W tk hW _ fun d M1 S1 v hk hM1 g1 r1 => by
    cases d <;> first | exact hk.elim | skip
    case lst ds =>
      obtain ⟨a, xs, rfl, hz, r⟩ := r1
      have l := r.len
      refine ⟨a, rfl, ⟨xs, SqL.of (hM1.zh _ _ hz)⟩, hR _ _ _ M1 S1 _ hk hM1 g1 ⟨fun i S2 M2 hi g2 hM2 _ => ?_, fun S2 M2 g2 hM2 _ => ?_, fun i S2 M2 x H' hi g2 hM2 _ y => ?_⟩⟩
      · exact ⟨xs, xs[i]'(by omega), SqL.of (hM2.zh _ _ (g2.zz _ _ hz)), by simp [show i < xs.length by omega]⟩
      · exact ⟨xs, SqL.of (hM2.zh _ _ (g2.zz _ _ hz)), by omega⟩
      · obtain ⟨d, e1, e2⟩ := r.get' (y.2 xs (SqL.of (hM2.zh _ _ (g2.zz _ _ hz))))
        exact ⟨S2, d, y.1.symm, hM2, Grow.refl _, e1, e2.grow g2⟩
    case seq ds =>
      obtain ⟨a, xs, rfl, hz, r⟩ := r1
      have l := r.len
      refine ⟨a, rfl, ⟨xs, ex_l hM1.zh hz⟩, hR _ _ _ M1 S1 _ hk hM1 g1 ⟨fun i S2 M2 hi g2 hM2 _ => ?_, fun S2 M2 g2 hM2 _ => ?_, fun i S2 M2 x H' hi g2 hM2 _ y => ?_⟩⟩
      · exact ⟨xs, xs[i]'(by omega), ex_l hM2.zh (ex_l g2.zz hz), by simp [show i < xs.length by omega]⟩
      · exact ⟨xs, ex_l hM2.zh (ex_l g2.zz hz), by omega⟩
      · obtain ⟨d, e1, e2⟩ := r.get' (y.2 xs (ex_l hM2.zh (ex_l g2.zz hz)))
        exact ⟨S2, d, y.1.symm, hM2, Grow.refl _, e1, e2.grow g2⟩
    case hdl a =>
      cases r1
      obtain ⟨j, ds, hj, hk⟩ := hk
      obtain ⟨_, xs0, h0, r0⟩ := hM1.at hj
      have at2 : ∀ S2 M2, Grow S1 S2 → OkM X.K S2 M2 → (∃ j : Nat, M2[j]? = some (a, .lst ds)) → ∃ xs, S2.H a = some (.lst xs) ∧ RepL X.K S2 ds xs := fun S2 M2 g2 hM2 ⟨j2, hj2⟩ => by
        obtain ⟨_, xs, h, r⟩ := hM2.at hj2
        exact ⟨xs, h, r⟩
      refine ⟨a, rfl, ⟨xs0, SqL.of h0⟩, hR _ _ _ M1 S1 _ hk hM1 g1 ⟨fun i S2 M2 hi g2 hM2 hj2 => ?_, fun S2 M2 g2 hM2 hj2 => ?_, fun i S2 M2 x H' hi g2 hM2 hj2 y => ?_⟩⟩
      · obtain ⟨xs, h2, r⟩ := at2 S2 M2 g2 hM2 hj2
        have l := r.len
        exact ⟨xs, xs[i]'(by omega), SqL.of h2, by simp [show i < xs.length by omega]⟩
      · obtain ⟨xs, h2, r⟩ := at2 S2 M2 g2 hM2 hj2
        have l := r.len
        exact ⟨xs, SqL.of h2, by omega⟩
      · obtain ⟨xs, h2, r⟩ := at2 S2 M2 g2 hM2 hj2
        obtain ⟨d, e1, e2⟩ := r.get' (y.2 xs (SqL.of h2))
        exact ⟨S2, d, y.1.symm, hM2, Grow.refl _, e1, e2⟩)
def iL (a : WpE) : WpI := fun Γ M k kx => a Γ M (fun d M1 => match d with
  | .lst ds => k ds (fun _ => True) M1
  | .seq ds => k ds (fun _ => True) M1
  | .hdl h => HL M1 h fun _ ds => k ds (fun M => ∃ j : Nat, M[j]? = some (h, .lst ds)) M1
  | _ => False) kx
theorem Ki.lst (ha : CE X e wa) : Ki X tg e (iL wa) := ⟨fun q => gi_any (GE.mono (ha.run q) (fun d M1 h => by
  cases d <;> first | exact h.elim | exact ⟨_, rfl, fun _ _ z => z, h⟩ | (obtain ⟨p, ds, e1, g⟩ := h; exact ⟨p, ds, e1, ds, rfl, fun _ _ z => z, g⟩)) fun _ _ _ z => z)⟩
def iT (a : WpE) : WpI := fun Γ M k kx => a Γ M (fun d M1 => match d with
  | .tup ds => k ds (fun _ => True) M1
  | _ => False) kx
theorem Ki.tup (ha : CE X e wa) : Ki X tg e (iT wa) := ⟨fun q => gi_tup (GE.mono (ha.run q) (fun d M1 h => by
  cases d <;> first | exact h.elim | exact ⟨_, rfl, _, rfl, fun _ _ z => z, h⟩) fun _ _ _ z => z)⟩
def signsD (s : Str) : List D := s.cps.toList.map fun c => .str ⟨#[c]⟩
def iS (a : WpE) : WpI := fun Γ M k kx => a Γ M (fun d M1 => match d with
  | .str s => k (signsD s) (fun _ => True) M1
  | _ => False) kx
theorem Ki.str (ha : CE X e wa) : Ki X tg e (iS wa) := ⟨fun q => gi_str (GE.mono (ha.run q) (fun d M1 h => by
  cases d <;> first | exact h.elim | exact ⟨_, rfl, _, by simp [signsD], fun i d ⟨c, e1, e2⟩ => by subst e2; simp [signsD, e1], h⟩) fun _ _ _ z => z)⟩
def rangeD (lo : Int) (n : Nat) : List D := (List.range n).map fun (i : Nat) => .int (lo + (i : Int))
theorem rangeD_at {lo : Int} {n i : Nat} {d : D} (h : (rangeD lo n)[i]? = some d) : i < n ∧ d = .int (lo + i) := by
  unfold rangeD at h
  rw [List.getElem?_map] at h
  by_cases q : i < n
  · rw [List.getElem?_range q] at h; cases h; exact ⟨q, rfl⟩
  · rw [List.getElem?_eq_none (by simpa using q)] at h; cases h
/-- range(a); the turns are told by their number alone -/
def iR1 (a : WpE) : WpI := fun Γ M k kx => a Γ M (fun d M1 => match d with
  | .int j => Sd (j < 4611686018427387904 ∧ -4611686018427387904 ≤ j) (k (rangeD 0 j.toNat) (fun _ => True) M1)
  | _ => False) kx
theorem it_range {lo : Int} {n : Nat} {k : KIt} {M1 : Ms} (h : k (rangeD lo n) (fun _ => True) M1) : ∃ items : List D, items.length = n ∧ (∀ (i : Nat) d, i < n ∧ d = .int (lo + i) → items[i]? = some d) ∧ k items (fun _ => True) M1 :=
  ⟨_, by simp [rangeD], fun i d ⟨e1, e2⟩ => by subst e2; unfold rangeD; rw [List.getElem?_map, List.getElem?_range e1]; rfl, h⟩
end
/-- range: the walk's turns lie below its end -/
theorem GI.lt {X : Cx} {Γ : En} {M : Ms} {tg e : Expr} {k : KI} {kx : KX} (h : GI X Γ M tg e (fun n it G M1 => k n (fun i d => i < n ∧ it i d) G M1) kx) : GI X Γ M tg e k kx := fun S σ hM hE W tk hW R hR =>
  h S σ hM hE W tk hW R fun n it G M1 S1 J q hM1 g1 wk => hR n _ G M1 S1 J q hM1 g1 ⟨wk.1, wk.2.1, fun i S M x H' hi g hM hG y => by
    obtain ⟨S', d, a1, a2, a3, a4, a5⟩ := wk.2.2 i S M x H' hi g hM hG y
    exact ⟨S', d, a1, a2, a3, ⟨hi, a4⟩, a5⟩⟩
section
variable {X : Cx} {Γ : En} {M : Ms} {tg e a b c elt : Expr} {es ifs : List Expr} {kx : KX} {pos p : Pos} {wa wb wc we : WpE} {wes : WpA}
theorem Ki.range1 (hm : X.mg "range" = none) (ha : CE X a wa) (hg : Gl X "range" := by rfl) (hs : starEach [a] X.env = [(false, eval a X.env)] := by rfl) : Ki X tg (.Call (.Name "range" p) [a] [] pos) (iR1 wa) :=
  ⟨fun q => GI.lt (gi_range1 hm (ga_cons (GE.mono (ha.run q) (fun d M1 h => by
    cases d <;> first | exact h.elim | exact ga_nil ⟨_, rfl, h.h.1, h.h.2, it_range h.g⟩) fun _ _ _ z => z) hs) hg hs)⟩
def iR2 (a b : WpE) : WpI := fun Γ M k kx => a Γ M (fun x M1 => b Γ M1 (fun y M2 => match x, y with
  | .int i, .int j => Sd (-4611686018427387904 ≤ i ∧ i < 4611686018427387904 ∧ -4611686018427387904 ≤ j ∧ j < 4611686018427387904) (k (rangeD i (j - i).toNat) (fun _ => True) M2)
  | _, _ => False) kx) kx
theorem Ki.range2 (hm : X.mg "range" = none) (ha : CE X a wa) (hb : CE X b wb) (hg : Gl X "range" := by rfl) (hs : starEach [a, b] X.env = [(false, eval a X.env), (false, eval b X.env)] := by rfl) (hs1 : starEach [a, b] X.env = (false, eval a X.env) :: starEach [b] X.env := by rfl) (hs2 : starEach [b] X.env = [(false, eval b X.env)] := by rfl) : Ki X tg (.Call (.Name "range" p) [a, b] [] pos) (iR2 wa wb) :=
  ⟨fun q => GI.lt (gi_range2 hm (ga_cons (GE.mono (ha.run q) (fun x M1 h1 => ga_cons (GE.mono (hb.run h1) (fun y M2 h => by
    cases x <;> cases y <;> first | exact h.elim | exact ga_nil ⟨_, _, rfl, h.h, it_range h.g⟩) fun _ _ _ z => z) hs2) fun _ _ _ z => z) hs1) hg hs hs2)⟩
def enumD (ds : List D) : List D := ds.zipIdx.map fun p => .tup [.int (p.2 : Nat), p.1]
theorem enumD_at {ds : List D} {i : Nat} {d : D} (h : (enumD ds)[i]? = some d) : ∃ x, ds[i]? = some x ∧ d = .tup [.int (i : Nat), x] := by
  unfold enumD at h
  rw [List.getElem?_map, List.getElem?_zipIdx] at h
  cases e : ds[i]? with
  | none => rw [e] at h; cases h
  | some x => rw [e] at h; simp at h; exact ⟨x, rfl, h.symm⟩
def iEnum (a : WpE) : WpI := fun Γ M k kx => a Γ M (fun d M1 => match d with
  | .lst ds => k (enumD ds) (fun _ => True) M1
  | _ => False) kx
theorem Ki.enum {kt : Nat} {tpos : Pos} (hm : X.mg "enumerate" = none) (ha : CE X e wa) (hg : Gl X "enumerate" := by rfl) (hs : starEach [e] X.env = [(false, eval e X.env)] := by rfl) : Ki X (.Tuple es kt tpos) (.Call (.Name "enumerate" p) [e] [] pos) (iEnum wa) :=
  ⟨fun q => gi_enum hm (ga_cons (GE.mono (ha.run q) (fun d M1 h => by
    cases d <;> first | exact h.elim | exact ga_nil ⟨_, rfl, _, by simp [enumD], fun i d ⟨x, e1, e2⟩ => by subst e2; simp [enumD, List.getElem?_zipIdx, e1], h⟩) fun _ _ _ z => z) hs) hg hs⟩
def zipD (xs ys : List D) : List D := (xs.zip ys).map fun p => .tup [p.1, p.2]
theorem zipD_at {xs ys : List D} {i : Nat} {d : D} (h : (zipD xs ys)[i]? = some d) : ∃ x y, xs[i]? = some x ∧ ys[i]? = some y ∧ d = .tup [x, y] := by
  unfold zipD at h
  rw [List.getElem?_map] at h
  cases e : (xs.zip ys)[i]? with
  | none => rw [e] at h; cases h
  | some q =>
    rw [e] at h; simp at h
    obtain ⟨e1, e2⟩ := List.getElem?_zip_eq_some.mp e
    exact ⟨q.1, q.2, e1, e2, h.symm⟩
def iZipT (a b : WpE) : WpI := fun Γ M k kx => a Γ M (fun x M1 => b Γ M1 (fun y M2 => match x, y with
  | .tup xs, .tup ys => k (zipD xs ys) (fun _ => True) M2
  | _, _ => False) kx) kx
def iZipL (a b : WpE) : WpI := fun Γ M k kx => a Γ M (fun x M1 => b Γ M1 (fun y M2 => match x, y with
  | .lst xs, .lst ys => k (zipD xs ys) (fun _ => True) M2
  | _, _ => False) kx) kx
theorem Ki.zipT {kt : Nat} {tpos : Pos} (hm : X.mg "zip" = none) (ha : CE X a wa) (hb : CE X b wb) (hg : Gl X "zip" := by rfl) (hs : starEach [a, b] X.env = (false, eval a X.env) :: starEach [b] X.env := by rfl) (hs2 : starEach [b] X.env = (false, eval b X.env) :: starEach [] X.env := by rfl) (hpl : (backTo pos (starEach [b] X.env)).any (·.1) = false := by rfl) : Ki X (.Tuple es kt tpos) (.Call (.Name "zip" p) [a, b] [] pos) (iZipT wa wb) :=
  ⟨fun q => gi_zipT hm (ga_cons (GE.mono (ha.run q) (fun x M1 h1 => ga_cons (GE.mono (hb.run h1) (fun y M2 h => by
    cases x <;> cases y <;> first | exact h.elim | exact ga_nil ⟨_, _, rfl, _, by simp [zipD], fun i d ⟨x, y, e1, e2, e3⟩ => by subst e3; simp [zipD, List.getElem?_zip_eq_some, e1, e2], h⟩) fun _ _ _ z => z) hs2) fun _ _ _ z => z) hs) hg hs hpl⟩
theorem Ki.zipL {kt : Nat} {tpos : Pos} (hm : X.mg "zip" = none) (ha : CE X a wa) (hb : CE X b wb) (hg : Gl X "zip" := by rfl) (hs : starEach [a, b] X.env = (false, eval a X.env) :: starEach [b] X.env := by rfl) (hs2 : starEach [b] X.env = (false, eval b X.env) :: starEach [] X.env := by rfl) (hpl : (backTo pos (starEach [b] X.env)).any (·.1) = false := by rfl) : Ki X (.Tuple es kt tpos) (.Call (.Name "zip" p) [a, b] [] pos) (iZipL wa wb) :=
  ⟨fun q => gi_zipL hm (ga_cons (GE.mono (ha.run q) (fun x M1 h1 => ga_cons (GE.mono (hb.run h1) (fun y M2 h => by
    cases x <;> cases y <;> first | exact h.elim | exact ga_nil ⟨_, _, rfl, _, by simp [zipD], fun i d ⟨x, y, e1, e2, e3⟩ => by subst e3; simp [zipD, List.getElem?_zip_eq_some, e1, e2], h⟩) fun _ _ _ z => z) hs2) fun _ _ _ z => z) hs) hg hs hpl⟩

/-! ### for -/
inductive Loop (items : List D) (G : Ms → Prop) (tg : WpG) (body : WpS) (E : ED) (Γ : En) (M : Ms) : Prop
  | mk (P : Nat → En → Ms → Prop) (p0 : P 0 Γ M) (pG : ∀ i Γ2 M2, i ≤ items.length → P i Γ2 M2 → G M2)
    (pt : ∀ i d Γ2 M2, items[i]? = some d → P i Γ2 M2 → tg Γ2 d fun Γ3 => body Γ3 M2 { E with nx := P (i + 1), ct := P (i + 1), bk := E.nx }) (pd : ∀ Γ2 M2, P items.length Γ2 M2 → E.nx Γ2 M2)
/-- .. over what does not change -/
theorem Loop.of {items : List D} {tg : WpG} {body : WpS} {E : ED} {Γ : En} {M : Ms} (P : Nat → En → Ms → Prop) (p0 : P 0 Γ M)
    (pt : ∀ i d Γ2 M2, items[i]? = some d → P i Γ2 M2 → tg Γ2 d fun Γ3 => body Γ3 M2 { E with nx := P (i + 1), ct := P (i + 1), bk := E.nx }) (pd : ∀ Γ2 M2, P items.length Γ2 M2 → E.nx Γ2 M2) : Loop items (fun _ => True) tg body E Γ M :=
  .mk P p0 (fun _ _ _ _ _ => trivial) pt pd
def wFor (it : WpI) (tg : WpG) (body : WpS) : WpS := fun Γ M E => it Γ M (fun items G M1 => Loop items G tg body E Γ M1) (exE E Γ)
theorem CS.for {tg : Expr} {body : List Stmt} {iter : Expr} {wi' : WpI} {g : WpG} {wb' : WpS} (hp : PassesOwn (model X.prog X.w) X.A X.env X.xe) (hc : X.calm = true) (hi : Ki X tg iter wi') (ht : CTg X tg g) (hb : Cb X body wb') (hs : ∀ x, foldedSetIterable iter X.env x = pure x := by intro _; rfl) : CS X (.For tg iter body [] pos) (wFor wi' g wb') :=
  ⟨fun q => gs_for hp hc (GI.mono (hi.run q) (fun n it G M1 ⟨items, e1, e2, h⟩ => by
    obtain ⟨P, p0, pG, pt, pd⟩ := h
    subst e1
    exact ⟨P, p0, pG, fun i d Γ2 M2 hi hd hP => GG.mono (ht.run (pt i d Γ2 M2 (e2 i d hd) hP)) fun _ z => hb.run z, pd⟩) fun _ _ _ z => z) hs⟩

/-! ### comprehensions -/
structure CGc (X : Cx) (tg : Expr) (vs : List Nat) (w : WpG) : Prop where
  run : ∀ {Γ M d k}, w Γ d k → CG X Γ M tg d vs k
structure CGcs (X : Cx) (ts : List Expr) (vs : List Nat) (w : En → List D → (En → Prop) → Prop) : Prop where
  run : ∀ {Γ M d k}, w Γ d k → CGs X Γ M ts d vs k
theorem CG.mono {d : D} {vs : List Nat} {k k' : En → Prop} (h : CG X Γ M tg d vs k) (hk : ∀ Γ1, k Γ1 → k' Γ1) : CG X Γ M tg d vs k' := fun S σ hM hE v r Q hQ => h S σ hM hE v r Q fun Γ1 σ1 q => hQ Γ1 σ1 (hk _ q)
theorem CGc.name (i : Nat) {x : Str} {vs : List Nat} (hN : X.N.Nodup) (hv : i ∈ vs := by first | decide | simp) (hi : X.N[i]? = some x := by rfl) (hx : Loc X.env.scope x := by first | exact Or.inl rfl | exact Or.inr rfl)
    (hf : X.fn x = true ∨ X.env.scope.names.lookup x = some .local := by first | exact .inl rfl | exact .inr rfl) : CGc X (.Name x pos) vs (gName i) := ⟨fun h => cg_name i (setK_eq h) hN hv hi hx hf⟩
theorem CGcs.nil {vs : List Nat} : CGcs X [] vs gNil := ⟨fun {Γ M d k} h => by cases d <;> first | exact cgs_nil h | exact h.elim⟩
theorem CGcs.cons {tt : Expr} {ts : List Expr} {vs : List Nat} {g : WpG} {r : En → List D → (En → Prop) → Prop} (h : CGc X tt vs g) (hr : CGcs X ts vs r) (hs : (assignEach (tt :: ts) X.env).map (·.2) = assign tt X.env :: (assignEach ts X.env).map (·.2) := by rfl) : CGcs X (tt :: ts) vs (gCons g r) :=
  ⟨fun {Γ M d k} q => by cases d <;> first | exact q.elim | exact cgs_cons (CG.mono (h.run q) fun _ z => hr.run z) hs⟩
theorem CGc.tup {n kt : Nat} {vs : List Nat} {r : En → List D → (En → Prop) → Prop} (hc : X.calm = true) (h : CGcs X es vs r) (hn : (assignEach es X.env).length = n := by rfl) (hst : (assignEach es X.env).findIdx? (·.1) = none := by rfl) : CGc X (.Tuple es kt pos) vs (gTup n r) :=
  ⟨fun {Γ M d k} q => by cases d <;> first | exact q.elim | exact cg_tup hc (h.run q.g) q.h hn hst⟩
def wipeK (Γ : En) : List Nat → (En → Prop) → Prop
  | [], f => f Γ
  | v :: vs, f => wipeK Γ vs fun Γ1 => delK Γ1 v f
theorem wipeK_eq : ∀ {Γ : En} {vs : List Nat} {f : En → Prop}, wipeK Γ vs f → f (wipeG Γ vs)
  | _, [], _, h => h
  | Γ, v :: vs, f, h => delK_eq (wipeK_eq (Γ := Γ) (vs := vs) h)
/-- the reading of a comprehension's turn -/
def wTurn (tg : WpG) (test : Option WpT) (elt : WpE) (Γ : En) (vs : List Nat) (M : Ms) (d : D) (kE : KD) (kB : Ms → Prop) : Prop := wipeK Γ vs fun Γ2 => tg Γ2 d fun Γ3 => match test with
  | none => elt Γ3 M kE noX
  | some t => t Γ3 M (fun b M3 => Br b (elt Γ3 M3 kE noX) (kB M3)) noX
inductive Lc (items : List D) (G : Ms → Prop) (tg : WpG) (test : Option WpT) (elt : WpE) (vs : List Nat) (Γ : En) (M : Ms) (k : List D → Ms → Prop) : Prop
  | mk (P : Nat → List D → Ms → Prop) (p0 : P 0 [] M) (pG : ∀ i acc M2, i ≤ items.length → P i acc M2 → G M2)
    (pt : ∀ i d acc M2, items[i]? = some d → P i acc M2 → wTurn tg test elt Γ vs M2 d (fun y M4 => Sd (acc.length < 16777216) (P (i + 1) (acc ++ [y]) M4)) (fun M3 => P (i + 1) acc M3)) (pd : ∀ acc M2, P items.length acc M2 → k acc M2)
theorem Lc.of {items : List D} {tg : WpG} {test : Option WpT} {elt : WpE} {vs : List Nat} {Γ : En} {M : Ms} {k : List D → Ms → Prop} (P : Nat → List D → Ms → Prop) (p0 : P 0 [] M)
    (pt : ∀ i d acc M2, items[i]? = some d → P i acc M2 → wTurn tg test elt Γ vs M2 d (fun y M4 => Sd (acc.length < 16777216) (P (i + 1) (acc ++ [y]) M4)) (fun M3 => P (i + 1) acc M3)) (pd : ∀ acc M2, P items.length acc M2 → k acc M2) : Lc items (fun _ => True) tg test elt vs Γ M k :=
  .mk P p0 (fun _ _ _ _ _ => trivial) pt pd
theorem Lc.mono {items : List D} {G : Ms → Prop} {tg : WpG} {test : Option WpT} {elt : WpE} {vs : List Nat} {Γ : En} {M : Ms} {k k' : List D → Ms → Prop} (h : Lc items G tg test elt vs Γ M k) (hk : ∀ acc M2, k acc M2 → k' acc M2) : Lc items G tg test elt vs Γ M k' := by
  obtain ⟨P, p0, pG, pt, pd⟩ := h
  exact ⟨P, p0, pG, pt, fun acc M2 hP => hk _ _ (pd acc M2 hP)⟩
theorem GS.permN {X : Cx} {Γ : En} {M : Ms} {st : Stmt} {E : ED} (h : GS X Γ M st { E with nx := fun Γ1 M1 => ∃ M2, M1.Perm M2 ∧ E.nx Γ1 M2 }) : GS X Γ M st E := fun S σ hM hE W tk De L =>
  h S σ hM hE W tk De ⟨fun Γ1 M1 S1 σ1 ⟨M2, p, q⟩ hM1 g1 e1 => by
    obtain ⟨a, b⟩ := perm_m hM1 p
    exact L.nx Γ1 M2 ⟨M2.map (·.1), S1.Z, S1.H⟩ σ1 q a (b S g1) (e1.grow (b S1 (Grow.refl _))), L.rt, L.bk, L.ct, L.ex⟩
theorem take_succ_of {items : List D} {i : Nat} {d : D} (h : items[i]? = some d) : items.take (i + 1) = items.take i ++ [d] := by rw [List.take_add_one, h]; rfl
/-- each item is turned into another one, nothing else happens -/
theorem Lc.map {items : List D} {G : Ms → Prop} {tg : WpG} {elt : WpE} {vs : List Nat} {Γ : En} {M : Ms} {k : List D → Ms → Prop} (f : D → D) (hG : G M) (hl : items.length ≤ 16777216)
    (h : ∀ (i : Nat) d (Q : KD), items[i]? = some d → Q (f d) M → wipeK Γ vs fun Γ2 => tg Γ2 d fun Γ3 => elt Γ3 M Q noX) (hk : k (items.map f) M) : Lc items G tg none elt vs Γ M k := by
  refine .mk (fun i acc M2 => acc = (items.take i).map f ∧ M2 = M) ⟨by simp, rfl⟩ (fun i acc M2 _ hP => by rw [hP.2]; exact hG) (fun i d acc M2 hd hP => ?_) fun acc M2 hP => ?_
  · obtain ⟨rfl, rfl⟩ := hP
    have hi := (List.getElem?_eq_some_iff.mp hd).1
    refine h i d _ hd ⟨by rw [List.length_map, List.length_take]; omega, by rw [take_succ_of hd, List.map_append]; rfl, rfl⟩
  · obtain ⟨rfl, rfl⟩ := hP
    rw [List.take_length]; exact hk
/-- .. those that pass a test -/
theorem Lc.filter {items : List D} {G : Ms → Prop} {tg : WpG} {t : WpT} {elt : WpE} {vs : List Nat} {Γ : En} {M : Ms} {k : List D → Ms → Prop} (p : D → Bool) (f : D → D) (hG : G M) (hl : items.length ≤ 16777216)
    (h : ∀ (i : Nat) d (Q : KD) (B : Ms → Prop), items[i]? = some d → (p d = true → Q (f d) M) → (p d = false → B M) → wipeK Γ vs fun Γ2 => tg Γ2 d fun Γ3 => t Γ3 M (fun b M3 => Br b (elt Γ3 M3 Q noX) (B M3)) noX) (hk : k ((items.filter p).map f) M) : Lc items G tg (some t) elt vs Γ M k := by
  refine .mk (fun i acc M2 => acc = ((items.take i).filter p).map f ∧ M2 = M) ⟨by simp, rfl⟩ (fun i acc M2 _ hP => by rw [hP.2]; exact hG) (fun i d acc M2 hd hP => ?_) fun acc M2 hP => ?_
  · obtain ⟨rfl, rfl⟩ := hP
    have hi := (List.getElem?_eq_some_iff.mp hd).1
    refine h i d _ _ hd (fun e => ⟨?_, ?_, rfl⟩) fun e => ⟨?_, rfl⟩
    · rw [List.length_map]
      have := List.length_filter_le p (items.take i)
      rw [List.length_take] at this
      omega
    · rw [take_succ_of hd, List.filter_append, List.map_append]; simp [e]
    · rw [take_succ_of hd, List.filter_append, List.map_append]; simp [e]
  · obtain ⟨rfl, rfl⟩ := hP
    rw [List.take_length]; exact hk
theorem Lc.mapT {α : Type} {xs : List α} {e : α → D} {G : Ms → Prop} {tg : WpG} {elt : WpE} {vs : List Nat} {Γ : En} {M : Ms} {k : List D → Ms → Prop} (f : α → D) (hG : G M) (hl : xs.length ≤ 16777216)
    (h : ∀ (i : Nat) a (Q : KD), xs[i]? = some a → Q (f a) M → wipeK Γ vs fun Γ2 => tg Γ2 (e a) fun Γ3 => elt Γ3 M Q noX) (hk : k (xs.map f) M) : Lc (xs.map e) G tg none elt vs Γ M k := by
  refine .mk (fun i acc M2 => acc = (xs.take i).map f ∧ M2 = M) ⟨by simp, rfl⟩ (fun i acc M2 _ hP => by rw [hP.2]; exact hG) (fun i d acc M2 hd hP => ?_) fun acc M2 hP => ?_
  · obtain ⟨rfl, rfl⟩ := hP
    rw [List.getElem?_map] at hd
    cases ha : xs[i]? with
    | none => rw [ha] at hd; cases hd
    | some a =>
      rw [ha] at hd; cases hd
      have hi := (List.getElem?_eq_some_iff.mp ha).1
      exact h i a _ ha ⟨by rw [List.length_map, List.length_take]; omega, by rw [List.take_add_one, ha, List.map_append]; rfl, rfl⟩
  · obtain ⟨rfl, rfl⟩ := hP
    rw [List.length_map, List.take_length]; exact hk
theorem Lc.filterT {α : Type} {xs : List α} {e : α → D} {G : Ms → Prop} {tg : WpG} {t : WpT} {elt : WpE} {vs : List Nat} {Γ : En} {M : Ms} {k : List D → Ms → Prop} (p : α → Bool) (f : α → D) (hG : G M) (hl : xs.length ≤ 16777216)
    (h : ∀ (i : Nat) a (Q : KD) (B : Ms → Prop), xs[i]? = some a → (p a = true → Q (f a) M) → (p a = false → B M) → wipeK Γ vs fun Γ2 => tg Γ2 (e a) fun Γ3 => t Γ3 M (fun b M3 => Br b (elt Γ3 M3 Q noX) (B M3)) noX) (hk : k ((xs.filter p).map f) M) : Lc (xs.map e) G tg (some t) elt vs Γ M k := by
  refine .mk (fun i acc M2 => acc = ((xs.take i).filter p).map f ∧ M2 = M) ⟨by simp, rfl⟩ (fun i acc M2 _ hP => by rw [hP.2]; exact hG) (fun i d acc M2 hd hP => ?_) fun acc M2 hP => ?_
  · obtain ⟨rfl, rfl⟩ := hP
    rw [List.getElem?_map] at hd
    cases ha : xs[i]? with
    | none => rw [ha] at hd; cases hd
    | some a =>
      rw [ha] at hd; cases hd
      have hi := (List.getElem?_eq_some_iff.mp ha).1
      refine h i a _ _ ha (fun e => ⟨?_, ?_, rfl⟩) fun e => ⟨?_, rfl⟩
      · rw [List.length_map]
        have := List.length_filter_le p (xs.take i)
        rw [List.length_take] at this
        omega
      · rw [List.take_add_one, ha, List.filter_append, List.map_append]; simp [e]
      · rw [List.take_add_one, ha, List.filter_append, List.map_append]; simp [e]
  · obtain ⟨rfl, rfl⟩ := hP
    rw [List.length_map, List.take_length]; exact hk
/-- the items are those of a list of another kind -/
theorem Loop.ofT {α : Type} {xs : List α} {e : α → D} {G : Ms → Prop} {tg : WpG} {body : WpS} {E : ED} {Γ : En} {M : Ms} (P : Nat → En → Ms → Prop) (p0 : P 0 Γ M) (pG : ∀ i Γ2 M2, i ≤ xs.length → P i Γ2 M2 → G M2)
    (pt : ∀ (i : Nat) a Γ2 M2, xs[i]? = some a → P i Γ2 M2 → tg Γ2 (e a) fun Γ3 => body Γ3 M2 { E with nx := P (i + 1), ct := P (i + 1), bk := E.nx }) (pd : ∀ Γ2 M2, P xs.length Γ2 M2 → E.nx Γ2 M2) : Loop (xs.map e) G tg body E Γ M := by
  refine .mk P p0 (fun i Γ2 M2 h hP => pG i Γ2 M2 (by simpa using h) hP) (fun i d Γ2 M2 hd hP => ?_) fun Γ2 M2 hP => pd Γ2 M2 (by simpa using hP)
  rw [List.getElem?_map] at hd
  cases ha : xs[i]? with
  | none => rw [ha] at hd; cases hd
  | some a => rw [ha] at hd; cases hd; exact pt i a Γ2 M2 ha hP
/-- .. of numbers in their row -/
theorem Loop.range {lo : Int} {n : Nat} {tg : WpG} {body : WpS} {E : ED} {Γ : En} {M : Ms} (P : Nat → En → Ms → Prop) (p0 : P 0 Γ M)
    (pt : ∀ (i : Nat) Γ2 M2, i < n → P i Γ2 M2 → tg Γ2 (.int (lo + (i : Int))) fun Γ3 => body Γ3 M2 { E with nx := P (i + 1), ct := P (i + 1), bk := E.nx }) (pd : ∀ Γ2 M2, P n Γ2 M2 → E.nx Γ2 M2) : Loop (rangeD lo n) (fun _ => True) tg body E Γ M := by
  refine .mk P p0 (fun _ _ _ _ _ => trivial) (fun i d Γ2 M2 hd hP => ?_) fun Γ2 M2 hP => pd Γ2 M2 (by simpa [rangeD] using hP)
  obtain ⟨hi, rfl⟩ := rangeD_at hd
  exact pt i Γ2 M2 hi hP
/-- a cut behind a statement -/
inductive Cut (s r : WpS) (Γ : En) (M : Ms) (E : ED) : Prop
  | mk (J : En → Ms → Prop) (h : s Γ M { E with nx := J }) (hr : ∀ Γ1 M1, J Γ1 M1 → r Γ1 M1 E)
def wCut (s r : WpS) : WpS := fun Γ M E => Cut s r Γ M E
theorem Cb.cut {st : Stmt} {rest : List Stmt} {ws wr : WpS} (h : CS X st ws) (r : Cb X rest wr) : Cb X (st :: rest) (wCut ws wr) := ⟨fun ⟨J, h1, h2⟩ => gb_cut J (h.run h1) fun Γ1 M1 q => r.run (h2 Γ1 M1 q)⟩
def wLc (it : WpI) (tg : WpG) (test : Option WpT) (elt : WpE) (vs : List Nat) : WpE := fun Γ M k kx => it Γ M (fun items G M1 => Lc items G tg test elt vs Γ M1 fun acc M2 => k (.lst acc) M2) kx
def wLcM (it : WpI) (tg : WpG) (test : Option WpT) (elt : WpE) (vs : List Nat) : WpE := fun Γ M k kx => it Γ M (fun items G M1 => Lc items G tg test elt vs Γ M1 fun acc M2 => ∀ a, k (.hdl a) ((a, .lst acc) :: M2)) kx
/-- the test of a comprehension in every block -/
inductive CIf (X : Cx) (scope : Scope) : List Expr → Option WpT → Prop
  | none : CIf X scope [] none
  | some {c : Expr} {t : WpT} (h : Blk X scope fun Y => CT Y c t) : CIf X scope [c] (some t)
variable {scope : Scope} {own : List (Str × Nat)} {iter : Expr} {wi' : WpI} {g : WpG} {test : Option WpT}
theorem lcok_of {k : KD} {n : Nat} {it : Nat → D → Prop} {G : Ms → Prop} {M1 : Ms} {items : List D} (ht : Blk X scope fun Y => CGc Y tg (own.map (·.2)) g) (hif : CIf X scope ifs test) (he : Blk X scope fun Y => CE Y elt we) (e1 : items.length = n) (e2 : ∀ i d, it i d → items[i]? = some d)
    (h : Lc items G g test we (own.map (·.2)) Γ M1 fun acc M2 => k (.lst acc) M2) : LcOk X Γ tg elt ifs scope (own.map (·.2)) k n it G M1 := by
  obtain ⟨P, p0, pG, pt, pd⟩ := h
  subst e1
  refine ⟨P, p0, pG, fun i d acc M2 hi hd hP s H C cl fp => CG.mono ((ht s H C cl fp).run (wipeK_eq (pt i d acc M2 (e2 i d hd) hP))) fun Γ3 z s H C cl fp => ?_, pd⟩
  cases hif with
  | none => exact gts_nil ⟨fun _ s H C cl fp => GE.mono ((he s H C cl fp).run z) (fun _ _ q => ⟨q.h, q.g⟩) fun _ _ _ z => z, fun z => nomatch z⟩
  | some hc => exact gts_one (GT.mono ((hc s H C cl fp).run z) (fun b M3 q => ⟨fun e s H C cl fp => GE.mono ((he s H C cl fp).run (q.t e)) (fun _ _ q => ⟨q.h, q.g⟩) fun _ _ _ z => z, fun e => q.f e⟩) fun _ _ _ z => z)
theorem lcokM_of {k : KD} {n : Nat} {it : Nat → D → Prop} {G : Ms → Prop} {M1 : Ms} {items : List D} (ht : Blk X scope fun Y => CGc Y tg (own.map (·.2)) g) (hif : CIf X scope ifs test) (he : Blk X scope fun Y => CE Y elt we) (e1 : items.length = n) (e2 : ∀ i d, it i d → items[i]? = some d)
    (h : Lc items G g test we (own.map (·.2)) Γ M1 fun acc M2 => ∀ a, k (.hdl a) ((a, .lst acc) :: M2)) : LcOkM X Γ tg elt ifs scope (own.map (·.2)) (fun d M1 => ∃ M2, M1.Perm M2 ∧ k d M2) n it G M1 := by
  obtain ⟨P, p0, pG, pt, pd⟩ := h
  subst e1
  refine ⟨P, p0, pG, fun i d acc M2 hi hd hP s H C cl fp => CG.mono ((ht s H C cl fp).run (wipeK_eq (pt i d acc M2 (e2 i d hd) hP))) fun Γ3 z s H C cl fp => ?_, fun acc M2 hP a => ⟨_, fr1, pd acc M2 hP a⟩⟩
  cases hif with
  | none => exact gts_nil ⟨fun _ s H C cl fp => GE.mono ((he s H C cl fp).run z) (fun _ _ q => ⟨q.h, q.g⟩) fun _ _ _ z => z, fun z => nomatch z⟩
  | some hc => exact gts_one (GT.mono ((hc s H C cl fp).run z) (fun b M3 q => ⟨fun e s H C cl fp => GE.mono ((he s H C cl fp).run (q.t e)) (fun _ _ q => ⟨q.h, q.g⟩) fun _ _ _ z => z, fun e => q.f e⟩) fun _ _ _ z => z)
theorem CE.lc (own : List (Str × Nat)) (hc : X.calm = true) (hN : X.N.Nodup) (ok : BlkOk X.N X.env.scope scope own) (hi : Ki X tg iter wi') (ht : Blk X scope fun Y => CGc Y tg (own.map (·.2)) g) (hif : CIf X scope ifs test) (he : Blk X scope fun Y => CE Y elt we)
    (hs : ∀ x, foldedSetIterable iter X.env x = pure x := by intro _; rfl) : CE X (.ListComp elt [⟨tg, iter, ifs, 0⟩] scope pos) (wLc wi' g test we (own.map (·.2))) :=
  ⟨fun q => ge_lc own hc hN ok (GI.mono (hi.run q) (fun n it G M1 ⟨items, e1, e2, h⟩ => lcok_of ht hif he e1 e2 h) fun _ _ _ z => z) hs⟩
theorem CE.lcM (own : List (Str × Nat)) (hc : X.calm = true) (hN : X.N.Nodup) (ok : BlkOk X.N X.env.scope scope own) (hi : Ki X tg iter wi') (ht : Blk X scope fun Y => CGc Y tg (own.map (·.2)) g) (hif : CIf X scope ifs test) (he : Blk X scope fun Y => CE Y elt we)
    (hs : ∀ x, foldedSetIterable iter X.env x = pure x := by intro _; rfl) : CE X (.ListComp elt [⟨tg, iter, ifs, 0⟩] scope pos) (wLcM wi' g test we (own.map (·.2))) :=
  ⟨fun q => ge_perm (ge_lcM own hc hN ok (GI.mono (hi.run q) (fun n it G M1 ⟨items, e1, e2, h⟩ => lcokM_of ht hif he e1 e2 h) fun _ _ _ z => z) hs)⟩
theorem CS.setLc (j : Nat) (own : List (Str × Nat)) {y : Str} {py : Pos} (hc : X.calm = true) (hN : X.N.Nodup) (ok : BlkOk X.N X.env.scope scope own) (hi : Ki X tg iter wi') (ht : Blk X scope fun Y => CGc Y tg (own.map (·.2)) g) (hif : CIf X scope ifs test) (he : Blk X scope fun Y => CE Y elt we)
    (hsw : swapsWith (.ListComp elt [⟨tg, iter, ifs, 0⟩] scope pos) (some (.Name y py)) p.line X.env = pure true)
    (hy : X.N[j]? = some y := by rfl) (hyl : X.env.scope.names.lookup y = some .local := by rfl) (hs : ∀ x, foldedSetIterable iter X.env x = pure x := by intro _; rfl) : CS X (.Assign [.Name y py] (.ListComp elt [⟨tg, iter, ifs, 0⟩] scope pos) p) (wSet j (wLc wi' g test we (own.map (·.2)))) :=
  ⟨fun {Γ M E} q => gs_lc j own hc hN ok (GI.mono (hi.run q) (fun n it G M1 ⟨items, e1, e2, h⟩ => lcok_of (k := fun d M1 => E.nx (Γ.set j (some d)) M1) ht hif he e1 e2 (h.mono fun _ _ q => setK_eq q)) fun _ _ _ z => z) hsw hy hyl hs⟩
theorem CS.setLcM (j : Nat) (own : List (Str × Nat)) {y : Str} {py : Pos} (hc : X.calm = true) (hN : X.N.Nodup) (ok : BlkOk X.N X.env.scope scope own) (hi : Ki X tg iter wi') (ht : Blk X scope fun Y => CGc Y tg (own.map (·.2)) g) (hif : CIf X scope ifs test) (he : Blk X scope fun Y => CE Y elt we)
    (hsw : swapsWith (.ListComp elt [⟨tg, iter, ifs, 0⟩] scope pos) (some (.Name y py)) p.line X.env = pure true)
    (hy : X.N[j]? = some y := by rfl) (hyl : X.env.scope.names.lookup y = some .local := by rfl) (hs : ∀ x, foldedSetIterable iter X.env x = pure x := by intro _; rfl) : CS X (.Assign [.Name y py] (.ListComp elt [⟨tg, iter, ifs, 0⟩] scope pos) p) (wSet j (wLcM wi' g test we (own.map (·.2)))) :=
  ⟨fun {Γ M E} q => GS.permN (gs_lcM j own hc hN ok (GI.mono (hi.run q) (fun n it G M1 ⟨items, e1, e2, h⟩ => lcokM_of (k := fun d M1 => E.nx (Γ.set j (some d)) M1) ht hif he e1 e2 (h.mono fun _ _ q a => setK_eq (q a))) fun _ _ _ z => z) hsw hy hyl hs)⟩
end
/-! ### dicts written out, pop -/
section
variable {X : Cx} {e o : Expr} {pos p apos : Pos} {wa wo : WpE}
/-- a dict written out: its pairs' readings -/
def wPairs : List (WpE × WpE) → En → Ms → (List (D × D) → Ms → Prop) → KX → Prop
  | [], _, M, k, _ => k [] M
  | (a, b) :: r, Γ, M, k, kx => a Γ M (fun x M1 => b Γ M1 (fun y M2 => wPairs r Γ M2 (fun ps M3 => k ((x, y) :: ps) M3) kx) kx) kx
inductive CPs (X : Cx) : List (Expr × Expr) → List (WpE × WpE) → Prop
  | nil : CPs X [] []
  | cons {a b : Expr} {wa wb : WpE} {r : List (Expr × Expr)} {wr : List (WpE × WpE)} (ha : CE X a wa) (hb : CE X b wb) (hr : CPs X r wr) : CPs X ((a, b) :: r) ((wa, wb) :: wr)
theorem gps_mono {Γ : En} {kx : KX} : ∀ {ps : List (Expr × Expr)} {M : Ms} {k k' : List (D × D) → Ms → Prop}, GPs X Γ kx ps M k → (∀ d M', k d M' → k' d M') → GPs X Γ kx ps M k'
  | [], _, _, _, h, hk => hk _ _ h
  | (a, b) :: r, _, _, _, h, hk => GE.mono h (fun _ _ h1 => GE.mono h1 (fun _ _ h2 => gps_mono (ps := r) h2 fun _ _ z => hk _ _ z) fun _ _ _ z => z) fun _ _ _ z => z
theorem CPs.run {ps : List (Expr × Expr)} {ws : List (WpE × WpE)} (c : CPs X ps ws) : ∀ {Γ : En} {M : Ms} {k : List (D × D) → Ms → Prop} {kx : KX}, wPairs ws Γ M k kx → GPs X Γ kx ps M k := by
  induction c with
  | nil => intro Γ M k kx h; exact h
  | cons ha hb hr ih => intro Γ M k kx h; exact GE.mono (ha.run h) (fun _ _ h1 => GE.mono (hb.run h1) (fun _ _ h2 => ih h2) fun _ _ _ z => z) fun _ _ _ z => z
/-- the pairs as keys and values -/
inductive AsK (ds : List (D × D)) (f : List Key → List D → Prop) : Prop
  | mk (qs : List (Key × D)) (e : ds = qs.map fun q => (kD q.1, q.2)) (nd : (qs.map (·.1)).Nodup) (g : f (qs.map (·.1)) (qs.map (·.2)))
def wDisp (ws : List (WpE × WpE)) : WpE := fun Γ M k kx => ∀ p, wPairs ws Γ ((p, .dct [] []) :: M) (fun ds M1 => ∃ j : Nat, Sd (M1[j]? = some (p, .dct [] [])) (AsK ds fun ks vs => setM M1 j (p, .dct ks vs) fun M2 => k (.hdl p) M2)) kx
theorem gps_len {Γ : En} {kx : KX} : ∀ {ps : List (Expr × Expr)} {M : Ms} {k : List (D × D) → Ms → Prop}, GPs X Γ kx ps M k → GPs X Γ kx ps M fun ds M1 => ds.length = ps.length ∧ k ds M1
  | [], _, _, h => ⟨rfl, h⟩
  | (a, b) :: r, _, _, h => GE.mono h (fun _ _ h1 => GE.mono h1 (fun _ _ h2 => gps_mono (gps_len (ps := r) h2) fun _ _ z => ⟨by rw [List.length_cons, z.1]; rfl, z.2⟩) fun _ _ _ z => z) fun _ _ _ z => z
theorem GPs.perm {Γ : En} {kx : KX} {ps : List (Expr × Expr)} {M M' : Ms} {k : List (D × D) → Ms → Prop} (h0 : ps ≠ []) (p : M.Perm M') (h : GPs X Γ kx ps M' k) : GPs X Γ kx ps M k := by
  cases ps with
  | nil => exact absurd rfl h0
  | cons q r =>
    intro S σ hM hE W tk hW Q hQ
    obtain ⟨a, b⟩ := perm_m hM p
    exact h ⟨M'.map (·.1), S.Z, S.H⟩ σ a (hE.grow (b S (Grow.refl _))) W tk (hW.grow (b S (Grow.refl _))) Q (KV.grow hQ (b S (Grow.refl _)))
theorem CPs.len {ps : List (Expr × Expr)} {ws : List (WpE × WpE)} (c : CPs X ps ws) : ws.length = ps.length := by
  induction c with
  | nil => rfl
  | cons _ _ _ ih => simp [ih]
theorem CE.disp {keys : List (Option Expr)} {values : List Expr} {ws : List (WpE × WpE)} (ps : List (Expr × Expr)) (c : CPs X ps ws) (ek : keys = ps.map (fun p => some p.1) := by rfl) (ev : values = ps.map (·.2) := by rfl) (h0 : ps ≠ [] := by simp) (h15 : ps.length ≤ 15 := by simp) : CE X (.Dict keys values pos) (wDisp ws) :=
  ⟨fun h => ge_disp ps ek ev h0 h15 fun p => GPs.perm h0 fr1 (gps_mono (gps_len (c.run (h p))) fun ds M1 ⟨hl, j, e1, qs, e2, nd, g⟩ => ⟨j, qs, e1, e2, by rw [e2, List.length_map] at hl; omega, nd, setM_eq.mp g⟩)⟩
def wPopAt (o a : WpE) : WpE := fun Γ M k kx => o Γ M (fun x M1 => match x with
  | .hdl h => HL M1 h fun _ _ => a Γ M1 (fun y M2 => match y with
    | .int n => HL M2 h fun q ds => ∃ (j : Nat) (d : D), Sd (n = (j : Int) ∧ j < 16777216 ∧ ds[j]? = some d) (setM M2 q (h, .lst (ds.eraseIdx j)) fun M3 => k d M3)
    | _ => False) kx
  | _ => False) kx
theorem CE.popAt (ho : CE X o wo) (ha : CE X e wa) (hbase : attributeBase o "pop" X.env (eval o X.env) = eval o X.env := by rfl)
    (hfew : ((backTo p (starEach [e] X.env)).all (fun x => !x.1) && (backToKw p (keywordEach [] X.env)).all (fun x => x.1.isSome) && decide ([e].length + ([] : List Keyword).length + (if ([] : List Keyword).isEmpty then 0 else 1) < 30)) = true := by rfl)
    (hline : (apos.endLine == p.line) = true := by rfl) (hs : starEach [e] X.env = (false, eval e X.env) :: starEach [] X.env := by rfl) (hplain : (backTo p (starEach [] X.env)).any (·.1) = false := by rfl) : CE X (.Call (.Attribute o "pop" apos) [e] [] p) (wPopAt wo wa) :=
  ⟨fun q => ge_popAt (GE.mono (ho.run q) (fun x M1 q1 => by
    cases x <;> first | exact q1.elim | (obtain ⟨p1, ds1, e1, g1⟩ := q1; exact ⟨⟨p1, _, ds1, rfl, e1⟩, GE.mono (ha.run g1) (fun y M2 q2 => by
      cases y <;> first | exact q2.elim | (obtain ⟨p2, ds2, e2, j, d, ⟨ej, h9, hd⟩, g2⟩ := q2; subst ej; exact ⟨p2, _, ds2, j, j, d, rfl, e2, rfl, rfl, h9, hd, setM_eq.mp g2⟩)) fun _ _ _ z => z⟩)) fun _ _ _ z => z) hbase hfew hline hs hplain⟩
end
/-! ### defs -/
abbrev endE (k : KD) (kx : KX) : ED := { nx := fun _ M' => k .non M', rt := k, ex := fun c f _ M' => kx c f M' }
/-- the reading keeps the spec -/
def VOk (w : WpS) (n : Nat) (R : RSp) : Prop := ∀ ds M k kx, R ds M k kx → startK n ds fun Γ => w Γ M (endE k kx)
theorem fn_wp {P : Program} {w : World} {K : PySem.W.Frag} {mg : Str → Option Value} {base : Heap} {x qual : Str} {st : Stmt} {f : Addr} {fd : FuncData} {N ps : List Str} {j : Nat} {R : RSp} {ww : WpS} (F : Fun K x qual st f fd) (sc : FnScope N ps (defScope st))
    (len : ∀ ds M k kx, R ds M k kx → ds.length = ps.length)
    (hc : ∀ (cdv : Value) (A : Around) (outer : List Env) (s : Shared) (H : Hp) (E : XK), Room j (A.deeper (PyProof.Rows.envOfC qual (defScope st) s.heap.objs.size f cdv)) → Cb (cxOf (L2.CX P w) P w K mg base N qual (defScope st) f cdv A outer s H E) (defBody st) ww)
    (hv : VOk ww N.length R) : FnOk P w K mg base (L2.CX P w) (j + 1) f fd ps (spD K R) :=
  fn_ok F sc len fun cdv A outer s H E ds M k kx hr h => (hc cdv A outer s H E hr).run (startK_eq (hv ds M k kx h))
theorem fn_wpD {P : Program} {w : World} {K : PySem.W.Frag} {mg : Str → Option Value} {base : Heap} {x qual : Str} {params : Arguments} {body : List Stmt} {scope : Scope} {dvs : List V} {kws : List (Str × V)} {f : Addr} {fd : FuncData} {N ps : List Str} {j : Nat} {R : RSp} {ww : WpS} (F : FunD K x qual params body scope dvs kws f fd) (sc : FnScope N ps scope)
    (len : ∀ ds M k kx, R ds M k kx → ds.length = ps.length)
    (hc : ∀ (cdv : Value) (A : Around) (outer : List Env) (s : Shared) (H : Hp) (E : XK), Room j (A.deeper (PyProof.Rows.envOfC qual scope s.heap.objs.size f cdv)) → Cb (cxOf (L2.CX P w) P w K mg base N qual scope f cdv A outer s H E) body ww)
    (hv : VOk ww N.length R) : FnOk P w K mg base (L2.CX P w) (j + 1) f fd ps (spD K R) :=
  fn_okD F sc len fun cdv A outer s H E ds M k kx hr h => (hc cdv A outer s H E hr).run (startK_eq (hv ds M k kx h))
end PD

set_option Elab.async false
set_option linter.all false
set_option maxRecDepth 100000
set_option maxHeartbeats 4000000
/-! PW: max/min of a list, index in a list of texts. -/
namespace PD
open PySem L2
open Evl (Ex ex_rd ex_l ex_t)
section
variable {K : PySem.W.Frag} {x y : D} {M : Ms} {k : KD} {ds : List D}
theorem maxl_lst {ns : List Int} (e : ds = ns.map D.int) (h0 : 0 < ns.length) (hk : ∀ m, m ∈ ns → (∀ y, y ∈ ns → y ≤ m) → k (.int m) M) : CallD K (rMax K) [.lst ds] M k := fun S vs hM rv Q hQ => by
  subst e
  obtain ⟨v, rfl, a, xs, rfl, h, r⟩ := rep1 rv
  rw [repInt r] at h
  exact ⟨a, ns, rfl, SqL.of (hM.zh _ _ h), h0, fun m h1 h2 => hQ _ M S _ (hk m h1 h2) hM (Grow.refl _) rfl⟩
theorem maxl_hdl {ns : List Int} {p : Nat} {h : Addr} (e : ds = ns.map D.int) (hm : M[p]? = some (h, .lst ds)) (h0 : 0 < ns.length) (hk : ∀ m, m ∈ ns → (∀ y, y ∈ ns → y ≤ m) → k (.int m) M) : CallD K (rMax K) [.hdl h] M k := fun S vs hM rv Q hQ => by
  subst e
  obtain ⟨v, rfl, rfl⟩ := rep1 rv
  obtain ⟨_, xs, hh, r⟩ := hM.at hm
  rw [repInt r] at hh
  exact ⟨_, ns, rfl, SqL.of hh, h0, fun m h1 h2 => hQ _ M S _ (hk m h1 h2) hM (Grow.refl _) rfl⟩
theorem minl_lst {ns : List Int} (e : ds = ns.map D.int) (h0 : 0 < ns.length) (hk : ∀ m, m ∈ ns → (∀ y, y ∈ ns → m ≤ y) → k (.int m) M) : CallD K (rMin K) [.lst ds] M k := fun S vs hM rv Q hQ => by
  subst e
  obtain ⟨v, rfl, a, xs, rfl, h, r⟩ := rep1 rv
  rw [repInt r] at h
  exact ⟨a, ns, rfl, SqL.of (hM.zh _ _ h), h0, fun m h1 h2 => hQ _ M S _ (hk m h1 h2) hM (Grow.refl _) rfl⟩
theorem minl_hdl {ns : List Int} {p : Nat} {h : Addr} (e : ds = ns.map D.int) (hm : M[p]? = some (h, .lst ds)) (h0 : 0 < ns.length) (hk : ∀ m, m ∈ ns → (∀ y, y ∈ ns → m ≤ y) → k (.int m) M) : CallD K (rMin K) [.hdl h] M k := fun S vs hM rv Q hQ => by
  subst e
  obtain ⟨v, rfl, rfl⟩ := rep1 rv
  obtain ⟨_, xs, hh, r⟩ := hM.at hm
  rw [repInt r] at hh
  exact ⟨_, ns, rfl, SqL.of hh, h0, fun m h1 h2 => hQ _ M S _ (hk m h1 h2) hM (Grow.refl _) rfl⟩
end
def oMaxL : D → Ms → KD → Prop
  | .lst ds, M, k => ∃ ns : List Int, Sd (ds = ns.map D.int ∧ 0 < ns.length) (∀ m, m ∈ ns → (∀ y, y ∈ ns → y ≤ m) → k (.int m) M)
  | .hdl h, M, k => HL M h fun _ ds => ∃ ns : List Int, Sd (ds = ns.map D.int ∧ 0 < ns.length) (∀ m, m ∈ ns → (∀ y, y ∈ ns → y ≤ m) → k (.int m) M)
  | _, _, _ => False
def oMinL : D → Ms → KD → Prop
  | .lst ds, M, k => ∃ ns : List Int, Sd (ds = ns.map D.int ∧ 0 < ns.length) (∀ m, m ∈ ns → (∀ y, y ∈ ns → m ≤ y) → k (.int m) M)
  | .hdl h, M, k => HL M h fun _ ds => ∃ ns : List Int, Sd (ds = ns.map D.int ∧ 0 < ns.length) (∀ m, m ∈ ns → (∀ y, y ∈ ns → m ≤ y) → k (.int m) M)
  | _, _, _ => False
section
variable {K : PySem.W.Frag} {x y : D} {M : Ms} {k : KD}
theorem oMaxL_ok (h : oMaxL x M k) : CallD K (rMax K) [x] M k := by
  cases x <;> first | exact h.elim | (obtain ⟨ns, ⟨e, h0⟩, g⟩ := h; exact maxl_lst e h0 g) | (obtain ⟨p, ds, e, ns, ⟨e2, h0⟩, g⟩ := h; exact maxl_hdl e2 e h0 g)
theorem oMinL_ok (h : oMinL x M k) : CallD K (rMin K) [x] M k := by
  cases x <;> first | exact h.elim | (obtain ⟨ns, ⟨e, h0⟩, g⟩ := h; exact minl_lst e h0 g) | (obtain ⟨p, ds, e, ns, ⟨e2, h0⟩, g⟩ := h; exact minl_hdl e2 e h0 g)
end
/-! xs.index(s) of texts -/
def wIdx (o a : WpE) : WpE := fun Γ M k kx => o Γ M (fun x M1 => match x with
  | .lst ds => a Γ M1 (fun y M2 => match y with
    | .str s => ∃ (ys : List Str) (j : Nat), Sd (ds = ys.map D.str ∧ ys[j]? = some s ∧ ∀ m, m < j → ys[m]? ≠ some s) (k (.int (j : Nat)) M2)
    | _ => False) kx
  | _ => False) kx
theorem eqV_str (a b : Str) : eqV (.str a) (.str b) = decide (a = b) := rfl
theorem CE.idx {X : Cx} {o e : Expr} {wo wa : WpE} {p apos : Pos} (ho : CE X o wo) (ha : CE X e wa) (hbase : attributeBase o "index" X.env (eval o X.env) = eval o X.env := by rfl)
    (hfew : ((backTo p (starEach [e] X.env)).all (fun x => !x.1) && (backToKw p (keywordEach [] X.env)).all (fun x => x.1.isSome) && decide ([e].length + ([] : List Keyword).length + (if ([] : List Keyword).isEmpty then 0 else 1) < 30)) = true := by rfl)
    (hline : (apos.endLine == p.line) = true := by rfl) (hs : starEach [e] X.env = (false, eval e X.env) :: starEach [] X.env := by rfl) (hplain : (backTo p (starEach [] X.env)).any (·.1) = false := by rfl) : CE X (.Call (.Attribute o "index" apos) [e] [] p) (wIdx wo wa) :=
  ⟨fun q => ge_bm PySem.F.plainAttrs_list PySem.F.slot_list_index PySem.F.type_list_index mt_index (GE.mono (ho.run q) (fun x M1 q1 => by
    cases x <;> first | exact q1.elim | (refine ⟨fun S v hM r => ?_, ga_cons (GE.mono (ha.run q1) (fun y M2 q2 => ga_nil ?_) fun _ _ _ z => z) hs⟩
                                         · obtain ⟨a, xs, rfl, h, _⟩ := r
                                           exact .inl ⟨rfl, _, SqL.of (hM.zh _ _ h)⟩
                                         · cases y <;> first | exact q2.elim | (obtain ⟨ys, j, ⟨e, hj, hno⟩, g⟩ := q2
                                                                                intro S vx vs hM rx rv Q hQ
                                                                                obtain ⟨v, rfl, rfl⟩ := rep1 rv
                                                                                obtain ⟨a, xs, rfl, h, r⟩ := rx
                                                                                subst e
                                                                                rw [repStr r] at h
                                                                                refine ⟨a, ys.map V.str, _, j, .str _, rfl, rfl, SqL.of (hM.zh _ _ h), rfl, by simp [flatV], by rw [List.getElem?_map, hj]; rfl, by simp [eqV], fun m z hm hz => ?_, hQ _ _ S _ g hM (Grow.refl _) rfl⟩
                                                                                rw [List.getElem?_map] at hz
                                                                                cases hy : ys[m]? with
                                                                                | none => rw [hy] at hz; cases hz
                                                                                | some t =>
                                                                                  rw [hy] at hz
                                                                                  cases hz
                                                                                  have : t ≠ _ := fun e => hno m hm (by rw [hy, e])
                                                                                  simpa [eqV] using this))) fun _ _ _ z => z) hbase hfew hline hs hplain⟩
end PD

set_option Elab.async false
set_option linter.all false
set_option maxRecDepth 100000
set_option maxHeartbeats 4000000
/-! PW: lists inside lists change no more. -/
namespace PD
open PySem L2
open Evl (Ex ex_rd ex_l ex_t)
theorem RepL.updAt {K : PySem.W.Frag} {S : Sg} {d d' : D} (h : ∀ v, Rep K S d v → Rep K S d' v) : ∀ {P R : List D} {xs : List V}, RepL K S (P ++ d :: R) xs → RepL K S (P ++ d' :: R) xs
  | [], R, _, r => by obtain ⟨x, q, rfl, h1, h2⟩ := r; exact .cons (h x h1) h2
  | p :: P, R, _, r => by obtain ⟨x, q, rfl, h1, h2⟩ := r; exact .cons h1 (RepL.updAt h h2)
theorem OkM.cont {K : PySem.W.Frag} {S : Sg} {a : Addr} {ds ds' : List D} {M : Ms} (hM : OkM K S ((a, .lst ds) :: M)) (h : ∀ xs, RepL K S ds xs → RepL K S ds' xs) : OkM K S ((a, .lst ds') :: M) :=
  ⟨hM.len, hM.nd, hM.zh, fun p hp => by
    rcases List.mem_cons.mp hp with e | hp
    · subst e
      obtain ⟨hz, xs, hh, r⟩ := hM.mo (a, .lst ds) List.mem_cons_self
      exact ⟨hz, xs, hh, h xs r⟩
    · exact hM.mo p (List.mem_cons_of_mem _ hp), hM.dom⟩
theorem tup_upd {K : PySem.W.Frag} {S : Sg} {ds ds' : List D} (h : ∀ xs, RepL K S ds xs → RepL K S ds' xs) : ∀ v, Rep K S (.tup ds) v → Rep K S (.tup ds') v := fun v r => by
  obtain ⟨a, xs, rfl, q, r⟩ := r
  exact ⟨a, xs, rfl, q, h xs r⟩
theorem hdl_upd {K : PySem.W.Frag} {S : Sg} {a : Addr} {ds : List D} {xs : List V} (hz : S.Z a = some (.lst xs)) (r : RepL K S ds xs) : ∀ v, Rep K S (.hdl a) v → Rep K S (.lst ds) v := fun v e => by
  cases e
  exact ⟨a, xs, rfl, hz, r⟩
end PD

set_option Elab.async false
set_option linter.all false
set_option maxRecDepth 100000
set_option maxHeartbeats 4000000
/-! PW: how often a text stands in a list. -/
namespace PD
open PySem L2
open Evl (Ex ex_rd ex_l ex_t)
def rTally (K : PySem.W.Frag) : V → List V → Hp → VK → Prop := fun x xs H Q => ∃ (p : Addr) (ys : List Str) (z : Str), x = .ref p ∧ xs = [.str z] ∧ SqL K H p (ys.map V.str) ∧ Q (.int (ys.count z : Nat)) H
theorem flat_strs (ys : List Str) : (ys.map V.str).all flatV = true := by
  rw [List.all_eq_true]
  intro x hx
  obtain ⟨y, _, rfl⟩ := List.mem_map.mp hx
  rfl
theorem tally_eq {z : Str} : ∀ {ys : List Str} {us : List Value}, Vals (ys.map V.str) us → us.countP (eqU (.str z)) = ys.count z
  | [], _, r => by cases r; rfl
  | y :: ys, _, r => by
    cases r with
    | cons h t =>
      rw [List.countP_cons, List.count_cons, tally_eq t, eqU_of h rfl, eqV_str]
      rfl
theorem mt_tally {X : Cx} : MtR X "list.count" (rTally X.K) := fun pins s σ H x xs v us Q I rx rxs ⟨p, ys, z, ex, exs, hs, q⟩ => by
  subst ex exs
  cases rx
  obtain ⟨u, rfl, hu⟩ := rxs.one
  obtain ⟨vs, hv, hl, _⟩ := I.list hs
  obtain ⟨ob, m, hp, hcl, hdi, hda⟩ := hl
  cases ob with
  | mk c d da sl =>
    cases hcl
    cases hda
    have main := SeqAt.list_countAt p vs.toArray m d sl u (eqU (.str z))
    refine call_meets PySem.F.slot_list_count ⟨_, hp, rfl⟩ PySem.F.entry_list_count (PySem.F.args_list_count_2 _ _) main ⟨hp, fun w hw => mem_eqAt hu rfl hv (flat_strs ys) w (by simpa using hw), .int (ys.count z : Nat), H, I.tok _, ⟨s.toks, ?_⟩, q⟩
    show Value.int ((vs.toArray.toList.countP (eqU (.str z)) : Nat) : Int) s.toks = _
    rw [show vs.toArray.toList.countP (eqU (.str z)) = ys.count z from tally_eq hv]
/-! xs.count(z) -/
def wTally (o a : WpE) : WpE := fun Γ M k kx => o Γ M (fun x M1 => match x with
  | .lst ds => a Γ M1 (fun y M2 => match y with
    | .str s => ∃ ys : List Str, Sd (ds = ys.map D.str) (k (.int (ys.count s : Nat)) M2)
    | _ => False) kx
  | _ => False) kx
theorem CE.tally {X : Cx} {o e : Expr} {wo wa : WpE} {p apos : Pos} (ho : CE X o wo) (ha : CE X e wa) (hbase : attributeBase o "count" X.env (eval o X.env) = eval o X.env := by rfl)
    (hfew : ((backTo p (starEach [e] X.env)).all (fun x => !x.1) && (backToKw p (keywordEach [] X.env)).all (fun x => x.1.isSome) && decide ([e].length + ([] : List Keyword).length + (if ([] : List Keyword).isEmpty then 0 else 1) < 30)) = true := by rfl)
    (hline : (apos.endLine == p.line) = true := by rfl) (hs : starEach [e] X.env = (false, eval e X.env) :: starEach [] X.env := by rfl) (hplain : (backTo p (starEach [] X.env)).any (·.1) = false := by rfl) : CE X (.Call (.Attribute o "count" apos) [e] [] p) (wTally wo wa) :=
  ⟨fun q => ge_bm PySem.F.plainAttrs_list PySem.F.slot_list_count PySem.F.type_list_count mt_tally (GE.mono (ho.run q) (fun x M1 q1 => by
    cases x <;> first | exact q1.elim | (refine ⟨fun S v hM r => ?_, ga_cons (GE.mono (ha.run q1) (fun y M2 q2 => ga_nil ?_) fun _ _ _ z => z) hs⟩
                                         · obtain ⟨a, xs, rfl, h, _⟩ := r
                                           exact .inl ⟨rfl, _, SqL.of (hM.zh _ _ h)⟩
                                         · cases y <;> first | exact q2.elim | (obtain ⟨ys, e, g⟩ := q2
                                                                                intro S vx vs hM rx rv Q hQ
                                                                                obtain ⟨v, rfl, rfl⟩ := rep1 rv
                                                                                obtain ⟨a, xs, rfl, h, r⟩ := rx
                                                                                subst e
                                                                                rw [repStr r] at h
                                                                                exact ⟨a, ys, _, rfl, rfl, SqL.of (hM.zh _ _ h), hQ _ _ S _ g hM (Grow.refl _) rfl⟩))) fun _ _ _ z => z) hbase hfew hline hs hplain⟩
end PD

set_option Elab.async false
set_option linter.all false
set_option maxRecDepth 100000
set_option maxHeartbeats 4000000
/-! PW: walks over a dict that may change (it is locked meanwhile), list(d), d.pop(k), a list taken apart. -/
namespace PD
open PySem L2
open Evl (Ex ex_rd ex_l ex_t)
section
variable {X : Cx} {Γ : En} {M : Ms} {st : Stmt} {tg e o : Expr} {k : KD} {kx : KX} {E : ED} {ki : KI} {pos apos cpos p : Pos}
/-- the dict at a stands again as it was -/
theorem lck_back {S1 : Sg} {M1 : Ms} {j1 : Nat} {a : Addr} {od : Obj} {kvs : List (Key × V)} {ks : List Key} {ds : List D} (hM1 : OkM X.K S1 M1) (h1 : M1[j1]? = some (a, MO.lck (.frz od (.dK kvs)) ks ds)) :
    S1.H a = some (.frz od (.dK kvs)) ∧ OkM X.K ⟨S1.as, S1.Z, upd S1.H a (.dK kvs)⟩ (M1.set j1 (a, .dct ks ds)) ∧ Grow S1 ⟨S1.as, S1.Z, upd S1.H a (.dK kvs)⟩ := by
  obtain ⟨hz1, hh1, od', kvs', eo, e4, rr1⟩ := hM1.at h1
  cases eo
  exact ⟨hh1, set_m (o := .dK kvs) (m := .dct ks ds) hM1 h1 hz1 fun g => ⟨hz1, kvs, upd_same, e4, rr1.grow g⟩⟩
theorem gs_lock {j : Nat} {a : Addr} {ks : List Key} {ds : List D} (hj : M[j]? = some (a, MO.dct ks ds))
    (h : ∀ u, GS X Γ (M.set j (a, .lck u ks ds)) st { nx := fun Γ1 M1 => ∃ j1, M1[j1]? = some (a, MO.lck u ks ds) ∧ E.nx Γ1 (M1.set j1 (a, .dct ks ds)), rt := fun d M1 => ∃ j1, M1[j1]? = some (a, MO.lck u ks ds) ∧ E.rt d (M1.set j1 (a, .dct ks ds)), bk := fun Γ1 M1 => ∃ j1, M1[j1]? = some (a, MO.lck u ks ds) ∧ E.bk Γ1 (M1.set j1 (a, .dct ks ds)), ct := fun Γ1 M1 => ∃ j1, M1[j1]? = some (a, MO.lck u ks ds) ∧ E.ct Γ1 (M1.set j1 (a, .dct ks ds)) }) : GS X Γ M st E := fun S σ hM hE W tk De L => by
  obtain ⟨hz, kvs, hh, e3, rr⟩ := hM.at hj
  refine of_ps (ps_lock wst) ⟨a, .dK kvs, hh, trivial, fun od => ?_⟩
  obtain ⟨hM2, g2⟩ := set_m (o := .frz od (.dK kvs)) (m := .lck (.frz od (.dK kvs)) ks ds) hM hj hz fun g => ⟨hz, upd_same, od, kvs, rfl, e3, rr.grow g⟩
  refine h _ _ σ hM2 (hE.grow g2) W tk _ ⟨fun Γ1 M1 S1 σ1 ⟨j1, h1, hk⟩ hM1 g1 e1 => ?_, fun d M1 S1 v ⟨j1, h1, hk⟩ hM1 g1 r1 => ?_, fun Γ1 M1 S1 σ1 ⟨j1, h1, hk⟩ hM1 g1 e1 => ?_, fun Γ1 M1 S1 σ1 ⟨j1, h1, hk⟩ hM1 g1 e1 => ?_, fun _ _ _ _ _ _ _ z => z.elim⟩
  · obtain ⟨b1, b2, b3⟩ := lck_back hM1 h1
    exact ⟨b1, L.nx _ _ _ _ hk b2 ((g2.trans g1).trans b3) (e1.grow b3)⟩
  · obtain ⟨b1, b2, b3⟩ := lck_back hM1 h1
    exact ⟨b1, L.rt _ _ _ _ hk b2 ((g2.trans g1).trans b3) (r1.grow b3)⟩
  · obtain ⟨b1, b2, b3⟩ := lck_back hM1 h1
    exact ⟨b1, L.bk _ _ _ _ hk b2 ((g2.trans g1).trans b3) (e1.grow b3)⟩
  · obtain ⟨b1, b2, b3⟩ := lck_back hM1 h1
    exact ⟨b1, L.ct _ _ _ _ hk b2 ((g2.trans g1).trans b3) (e1.grow b3)⟩
theorem ge_lock {j : Nat} {a : Addr} {ks : List Key} {ds : List D} (hj : M[j]? = some (a, MO.dct ks ds))
    (h : ∀ u, GE X Γ (M.set j (a, .lck u ks ds)) e (fun d M1 => ∃ j1, M1[j1]? = some (a, MO.lck u ks ds) ∧ k d (M1.set j1 (a, .dct ks ds))) (fun _ _ _ => False)) : GE X Γ M e k kx := fun S σ hM hE W tk hW Q hQ => by
  obtain ⟨hz, kvs, hh, e3, rr⟩ := hM.at hj
  refine of_pe (pe_lock we) ⟨a, .dK kvs, hh, trivial, fun od => ?_⟩
  obtain ⟨hM2, g2⟩ := set_m (o := .frz od (.dK kvs)) (m := .lck (.frz od (.dK kvs)) ks ds) hM hj hz fun g => ⟨hz, upd_same, od, kvs, rfl, e3, rr.grow g⟩
  refine h _ _ σ hM2 (hE.grow g2) W tk (fun _ _ _ _ _ z => z.elim) _ fun d M1 S1 v ⟨j1, h1, hk⟩ hM1 g1 r1 => ?_
  obtain ⟨b1, b2, b3⟩ := lck_back hM1 h1
  exact ⟨b1, hQ _ _ _ _ hk b2 ((g2.trans g1).trans b3) (r1.grow b3)⟩
theorem rep_keys {K : PySem.W.Frag} {S : Sg} : ∀ kvs : List (Key × V), RepL K S ((kvs.map (·.1)).map kD) (kvs.map fun kv => kV kv.1)
  | [] => rfl
  | (q, u) :: kvs => by
    refine .cons ?_ (rep_keys kvs)
    cases q <;> rfl
/-- for x in d -/
theorem gi_keys (h : GE X Γ M e (fun d M1 => ∃ (q : Nat) (a : Addr) (u : HO) (ks : List Key) (ds : List D), d = .hdl a ∧ M1[q]? = some (a, MO.lck u ks ds) ∧ ki (ks.map kD).length (fun i x => (ks.map kD)[i]? = some x) (fun M2 => ∃ (q2 : Nat) (ds2 : List D), M2[q2]? = some (a, MO.lck u ks ds2)) M1) kx) : GI X Γ M tg e ki kx := fun S σ hM hE W tk hW R hR pins s I =>
  (pi_keys (tg := tg) (we (X := X) (e := e))).run pins s σ S.H R I (h S σ hM hE W tk hW _ fun d M1 S1 v ⟨q, a, u, ks, ds, e1, hp, hk⟩ hM1 g1 r1 => by
    subst e1
    cases r1
    obtain ⟨hz, hh, od, kvs, eo, e4, rr⟩ := hM1.at hp
    subst eo; subst e4
    have at2 : ∀ (S2 : Sg) (M2 : Ms), OkM X.K S2 M2 → (∃ (q2 : Nat) (ds2 : List D), M2[q2]? = some (a, MO.lck (.frz od (.dK kvs)) (kvs.map (·.1)) ds2)) → S2.H a = some (.frz od (.dK kvs)) := fun S2 M2 hM2 ⟨q2, ds2, h2⟩ => (hM2.at h2).2.1
    refine ⟨a, od, rfl, .inl ⟨kvs, hh, hR _ _ _ M1 S1 _ hk hM1 g1 ⟨fun i S2 M2 hi g2 hM2 h2 => ?_, fun S2 M2 g2 hM2 h2 => ?_, fun i S2 M2 x H' hi g2 hM2 h2 y => ?_⟩⟩⟩
    · exact ⟨at2 S2 M2 hM2 h2, by simpa using hi⟩
    · exact ⟨at2 S2 M2 hM2 h2, by simp⟩
    · obtain ⟨e5, k0, v0, e6, rfl⟩ := y
      refine ⟨S2, kD k0, e5.symm, hM2, Grow.refl _, by show (List.map kD (List.map (fun x => x.fst) kvs))[i]? = _; rw [List.getElem?_map, List.getElem?_map, e6]; rfl, ?_⟩
      cases k0 <;> rfl)
/-- keys that are left behind a pop -/
def dropV : List Key → List D → Key → List D
  | q :: ks, d :: ds, k => if q = k then dropV ks ds k else d :: dropV ks ds k
  | _, ds, _ => ds
theorem drop_reps {K : PySem.W.Frag} {S : Sg} {k : Key} : ∀ {kvs : List (Key × V)} {ds : List D}, RepL K S ds (kvs.map (·.2)) → (dropK kvs k).map (·.1) = (kvs.map (·.1)).filter (fun q => decide (q ≠ k)) ∧ RepL K S (dropV (kvs.map (·.1)) ds k) ((dropK kvs k).map (·.2))
  | [], ds, r => by cases ds <;> exact ⟨rfl, r⟩
  | (q, u) :: kvs, [], r => by cases r
  | (q, u) :: kvs, d :: ds, r => by
    obtain ⟨x, xs, e, rx, rr⟩ := r
    have e1 : u = x ∧ kvs.map (·.2) = xs := by simpa using e
    obtain ⟨rfl, rfl⟩ := e1
    obtain ⟨i1, i2⟩ := drop_reps (k := k) rr
    simp only [List.map_cons, dropV]
    unfold dropK at i1 i2 ⊢
    by_cases h : q = k
    · rw [List.filter_cons_of_neg (by simp [h]), if_pos h, List.filter_cons_of_neg (by simp [h])]
      exact ⟨i1, i2⟩
    · rw [List.filter_cons_of_pos (by simp [h]), if_neg h, List.filter_cons_of_pos (by simp [h])]
      exact ⟨by rw [List.map_cons, i1], .cons rx i2⟩
/-- d.pop(k), k there -/
theorem ge_dpop (h : GE X Γ M o (fun x M1 => ∃ (a : Addr) (ks0 : List Key) (ds0 : List D) (j0 : Nat), x = .hdl a ∧ M1[j0]? = some (a, MO.dct ks0 ds0) ∧ GE X Γ M1 e (fun y M2 => ∃ (j : Nat) (ks : List Key) (ds : List D) (q : Key) (d : D), M2[j]? = some (a, MO.dct ks ds) ∧ y = kD q ∧ valK ks ds q = some d ∧ k d (M2.set j (a, .dct (ks.filter fun z => decide (z ≠ q)) (dropV ks ds q)))) kx) kx)
    (m : M1 X o "pop" apos e cpos) : GE X Γ M (.Call (.Attribute o "pop" apos) [e] [] cpos) k kx := fun S σ hM hE W tk hW Q hQ =>
  of_pe (pe_dpop1 we we m) (h S σ hM hE W tk hW _ fun x M1 S1 vx ⟨a, ks0, ds0, j0, e0, hj0, h1⟩ hM1 g1 rx => by
    subst e0
    cases rx
    obtain ⟨_, kvs0, hh0, _, _⟩ := hM1.at hj0
    refine ⟨a, rfl, .inl ⟨kvs0, .inl hh0⟩, h1 S1 σ hM1 (hE.grow g1) W tk (hW.grow g1) _ fun y M2 S2 vy ⟨j, ks, ds, q, d, hj, e2, hv, hk⟩ hM2 g2 ry => ?_⟩
    subst e2
    have ey := rep_kD ry
    subst ey
    obtain ⟨hz, kvs, hh, e3, rr⟩ := hM2.at hj
    subst e3
    obtain ⟨v, hvv, rv⟩ := (valK_at rr).1 d hv
    obtain ⟨d1, d2⟩ := drop_reps (k := q) rr
    obtain ⟨hM3, g3⟩ := set_m (o := .dK (dropK kvs q)) (m := .dct ((kvs.map (·.1)).filter fun z => decide (z ≠ q)) (dropV (kvs.map (·.1)) ds q)) hM2 hj hz fun g => ⟨hz, _, upd_same, d1, d2.grow g⟩
    exact ⟨kvs, q, v, hh, rfl, hvv, hQ d _ ⟨S2.as, S2.Z, upd S2.H a (.dK (dropK kvs q))⟩ v hk hM3 ((g1.trans g2).trans g3) (rv.grow g3)⟩)
/-- a list that may change, taken apart -/
theorem gg_hls {es : List Expr} {j n q : Nat} {a : Addr} {ds : List D} {kk : En → Prop} (hc : X.calm = true) (hq : M[q]? = some (a, MO.lst ds)) (h : GGs X Γ M es ds kk) (hl : ds.length = n) (hn : (assignEach es X.env).length = n := by rfl) (hst : (assignEach es X.env).findIdx? (·.1) = none := by rfl) :
    GG X Γ M (.Tuple es j pos) (.hdl a) kk := fun S σ hM hE v rv Q hQ pins s u I r => by
  cases rv
  obtain ⟨hz, xs, hh, r1⟩ := hM.at hq
  exact (pg_lst (t := WGs X es) hc wgs hn hst).run pins s σ S.H (.ref a) u Q I r ⟨a, xs, rfl, SqL.of hh, by rw [r1.len]; exact hl, fun pins s us I r => h S σ hM hE xs r1 Q hQ pins s us I r⟩
/-- o1[i1], o2[i2] = e -/
theorem gs_seti2 {o1 o2 i1 i2 : Expr} {p1 p2 pt : Pos} {kt : Nat} (hc : X.calm = true)
    (h : GE X Γ M e (fun d M1 => ∃ u v, d = .tup [u, v] ∧ GE X Γ M1 o1 (fun x M2 => GE X Γ M2 i1 (fun y M3 => ∃ (q : Nat) (a : Addr) (ds : List D) (n : Int) (j : Nat), x = .hdl a ∧ M3[q]? = some (a, MO.lst ds) ∧ y = .int n ∧ ((0 ≤ n ∧ n = j ∧ j < ds.length) ∨ (n < 0 ∧ n + ds.length = j)) ∧
      GE X Γ (M3.set q (a, .lst (ds.set j u))) o2 (fun x M4 => GE X Γ M4 i2 (fun y M5 => ∃ (q : Nat) (a : Addr) (ds : List D) (n : Int) (j : Nat), x = .hdl a ∧ M5[q]? = some (a, MO.lst ds) ∧ y = .int n ∧ ((0 ≤ n ∧ n = j ∧ j < ds.length) ∨ (n < 0 ∧ n + ds.length = j)) ∧ E.nx Γ (M5.set q (a, .lst (ds.set j v))))
        fun c f M1 => E.ex c f Γ M1) fun c f M1 => E.ex c f Γ M1) fun c f M1 => E.ex c f Γ M1) fun c f M1 => E.ex c f Γ M1) fun c f M1 => E.ex c f Γ M1)
    (hs : swapsWithSole [.Tuple [.Subscript o1 i1 p1, .Subscript o2 i2 p2] kt pt] e pos.line X.env = pure false := by rfl) (hw : swappedStores [.Tuple [.Subscript o1 i1 p1, .Subscript o2 i2 p2] kt pt] e X.env = pure none := by rfl)
    (h1 : (assignEach [.Tuple [.Subscript o1 i1 p1, .Subscript o2 i2 p2] kt pt] X.env).map (·.2) = [assign (.Tuple [.Subscript o1 i1 p1, .Subscript o2 i2 p2] kt pt) X.env] := by rfl)
    (h2 : (assignEach (.Subscript o1 i1 p1 :: [.Subscript o2 i2 p2]) X.env).map (·.2) = assign (.Subscript o1 i1 p1) X.env :: (assignEach [.Subscript o2 i2 p2] X.env).map (·.2) := by rfl) (h3 : (assignEach (.Subscript o2 i2 p2 :: []) X.env).map (·.2) = assign (.Subscript o2 i2 p2) X.env :: (assignEach [] X.env).map (·.2) := by rfl)
    (hn : (assignEach [.Subscript o1 i1 p1, .Subscript o2 i2 p2] X.env).length = 2 := by rfl) (hst : (assignEach [.Subscript o1 i1 p1, .Subscript o2 i2 p2] X.env).findIdx? (·.1) = none := by rfl)
    (ha1 : ∀ v, assign (.Subscript o1 i1 p1) X.env v = (do
      let ov ← holding [v] (eval o1 X.env)
      let iv ← holding [v, ov] (eval i1 X.env)
      standAt p1
      holding [v, ov, iv] (setItem ov iv v)
      release [v, ov, iv] []) := by intro _; rfl)
    (ha2 : ∀ v, assign (.Subscript o2 i2 p2) X.env v = (do
      let ov ← holding [v] (eval o2 X.env)
      let iv ← holding [v, ov] (eval i2 X.env)
      standAt p2
      holding [v, ov, iv] (setItem ov iv v)
      release [v, ov, iv] []) := by intro _; rfl) :
    GS X Γ M (.Assign [.Tuple [.Subscript o1 i1 p1, .Subscript o2 i2 p2] kt pt] e pos) E := fun S σ hM hE W tk De L =>
  of_ps (ps_asg we (pg_tup hc (pgs_cons (pg_sub we we set_list ha1) (pgs_cons (pg_sub we we set_list ha2) pgs_nil h3) h2) hn hst) hs hw h1) (h S σ hM hE W tk (L.kw hE) _ fun d M1 S1 w ⟨u, v, e1, h1⟩ hM1 g1 rd => by
    subst e1
    obtain ⟨t, xs, rfl, ht, rr⟩ := rd
    obtain ⟨x1, xs1, e2, ru, rr⟩ := rr
    obtain ⟨x2, xs2, e3, rv, rr⟩ := rr
    have rr' : xs2 = [] := rr
    subst rr'; subst e3; subst e2
    refine ⟨t, [x1, x2], rfl, ex_t hM1.zh ht, rfl, x1, [x2], rfl, ?_⟩
    refine h1 S1 σ hM1 (hE.grow g1) W tk ((L.kw hE).grow g1) _ fun x M2 S2 vx hk2 hM2 g2 rx => hk2 S2 σ hM2 (hE.grow (g1.trans g2)) W tk ((L.kw hE).grow (g1.trans g2)) _ fun y M3 S3 vy ⟨q, a, ds, n, j, ex, hq, ey, hi, hnx⟩ hM3 g3 ry => ?_
    subst ex; subst ey
    cases rx; cases ry
    obtain ⟨hz, xs, hh, rr⟩ := hM3.at hq
    refine ⟨a, xs, n, j, rfl, rfl, hh, ixN_of (by rw [rr.len]; exact hi), x2, [], rfl, ?_⟩
    obtain ⟨hM4, g4⟩ := set_m (o := .lst (xs.set j x1)) (m := .lst (ds.set j u)) hM3 hq hz (fun g => ⟨hz, _, upd_same, (rr.grow g).set j (((ru.grow g2).grow g3).grow g)⟩)
    have gg := g1.trans (g2.trans (g3.trans g4))
    refine hnx ⟨S3.as, S3.Z, upd S3.H a (.lst (xs.set j x1))⟩ σ hM4 (hE.grow gg) W tk ((L.kw hE).grow gg) _ fun x M5 S5 vx hk5 hM5 g5 rx => hk5 S5 σ hM5 (hE.grow (gg.trans g5)) W tk ((L.kw hE).grow (gg.trans g5)) _ fun y M6 S6 vy ⟨q, a, ds, n, j, ex, hq, ey, hi, hnx⟩ hM6 g6 ry => ?_
    subst ex; subst ey
    cases rx; cases ry
    obtain ⟨hz, ys, hh, rr⟩ := hM6.at hq
    refine ⟨_, ys, n, j, rfl, rfl, hh, ixN_of (by rw [rr.len]; exact hi), ?_⟩
    obtain ⟨hM7, g7⟩ := set_m (o := .lst (ys.set j x2)) (m := .lst (ds.set j v)) hM6 hq hz (fun g => ⟨hz, _, upd_same, (rr.grow g).set j ((((((rv.grow g2).grow g3).grow g4).grow g5).grow g6).grow g)⟩)
    have g9 := gg.trans (g5.trans (g6.trans g7))
    exact ⟨rfl, L.nx _ _ ⟨S6.as, S6.Z, upd S6.H _ (.lst (ys.set j x2))⟩ σ hnx hM7 g9 (hE.grow g9)⟩)
end

/-! ### readings -/
section
variable {X : Cx} {st : Stmt} {tg e o a : Expr} {es : List Expr} {wa wo we' : WpE} {ws' : WpS} {pos apos cpos p : Pos} {nm : Str}
/-- a dict is locked while a statement runs -/
inductive LkS (w : WpS) (Γ : En) (M : Ms) (E : ED) : Prop
  | mk (j : Nat) (a : Addr) (ks : List Key) (ds : List D) (hj : M[j]? = some (a, MO.dct ks ds))
    (h : ∀ u, w Γ (M.set j (a, .lck u ks ds)) { nx := fun Γ1 M1 => ∃ j1, M1[j1]? = some (a, MO.lck u ks ds) ∧ E.nx Γ1 (M1.set j1 (a, .dct ks ds)), rt := fun d M1 => ∃ j1, M1[j1]? = some (a, MO.lck u ks ds) ∧ E.rt d (M1.set j1 (a, .dct ks ds)), bk := fun Γ1 M1 => ∃ j1, M1[j1]? = some (a, MO.lck u ks ds) ∧ E.bk Γ1 (M1.set j1 (a, .dct ks ds)), ct := fun Γ1 M1 => ∃ j1, M1[j1]? = some (a, MO.lck u ks ds) ∧ E.ct Γ1 (M1.set j1 (a, .dct ks ds)) })
inductive LkE (w : WpE) (Γ : En) (M : Ms) (k : KD) : Prop
  | mk (j : Nat) (a : Addr) (ks : List Key) (ds : List D) (hj : M[j]? = some (a, MO.dct ks ds))
    (h : ∀ u, w Γ (M.set j (a, .lck u ks ds)) (fun d M1 => ∃ j1, M1[j1]? = some (a, MO.lck u ks ds) ∧ k d (M1.set j1 (a, .dct ks ds))) noX)
def wLkS (w : WpS) : WpS := fun Γ M E => LkS w Γ M E
def wLkE (w : WpE) : WpE := fun Γ M k _ => LkE w Γ M k
theorem CS.lock (h : CS X st ws') : CS X st (wLkS ws') := ⟨fun ⟨j, a, ks, ds, hj, g⟩ => gs_lock hj fun u => h.run (g u)⟩
theorem CE.lock (h : CE X e we') : CE X e (wLkE we') := ⟨fun ⟨j, a, ks, ds, hj, g⟩ => ge_lock hj fun u => GE.mono (h.run (g u)) (fun _ _ z => z) fun _ _ _ z => z⟩
/-- the locked dict at a handle -/
inductive HK (M : Ms) (a : Addr) (f : HO → List Key → List D → Prop) : Prop
  | mk (q : Nat) (u : HO) (ks : List Key) (ds : List D) (e : M[q]? = some (a, MO.lck u ks ds)) (g : f u ks ds)
def iD (a : WpE) : WpI := fun Γ M k kx => a Γ M (fun d M1 => match d with
  | .hdl h => HK M1 h fun u ks ds => k (ks.map kD) (fun M2 => ∃ (q2 : Nat) (ds2 : List D), M2[q2]? = some (h, MO.lck u ks ds2)) M1
  | _ => False) kx
theorem Ki.dct (ha : CE X a wa) : Ki X tg a (iD wa) :=
  ⟨fun q => gi_keys (GE.mono (ha.run q) (fun d M1 h => by
    cases d <;> first | exact h.elim | (obtain ⟨q, u, ks, ds, e, g⟩ := h; exact ⟨q, _, u, ks, ds, rfl, e, ⟨_, rfl, fun _ _ z => z, g⟩⟩)) fun _ _ _ z => z)⟩
/-- list(d) -/
def oLstD : D → Ms → KD → Prop := fun x M k => HD M x fun ks _ => k (.lst (ks.map kD)) M
theorem oLstD_ok {K : PySem.W.Frag} {x : D} {M : Ms} {k : KD} (h : oLstD x M k) : CallD K (fun xs H Q => ∃ (a : Addr) (kvs : List (Key × V)), xs = [.ref a] ∧ Rd H a (.dK kvs) ∧ ∀ p, H p = none → Q (.ref p) (upd H p (.lst (kvs.map fun kv => kV kv.1)))) [x] M k := fun S vs hM rv Q hQ => by
  obtain ⟨ks, ds, e, g⟩ := h
  obtain ⟨v, rfl, r⟩ := rep1 rv
  obtain ⟨a, kvs, rfl, hh, e2, rr⟩ := e.at hM r
  subst e2
  refine ⟨a, kvs, rfl, hh, fun l hl => ?_⟩
  obtain ⟨hM2, g2⟩ := new_z (o := .lst (kvs.map fun kv => kV kv.1)) hM hl
  exact hQ _ M ⟨S.as, upd S.Z l (.lst (kvs.map fun kv => kV kv.1)), upd S.H l (.lst (kvs.map fun kv => kV kv.1))⟩ (.ref l) g hM2 g2 ⟨l, _, rfl, upd_same, rep_keys kvs⟩
/-- d.pop(k) -/
def wDpop (o a : WpE) : WpE := fun Γ M k kx => o Γ M (fun x M1 => HDm M1 x fun _ h _ _ => a Γ M1 (fun y M2 => HDm M2 (.hdl h) fun j h2 ks ds => ∃ q d, Sd (y = kD q ∧ valK ks ds q = some d) (setM M2 j (h2, .dct (ks.filter fun z => decide (z ≠ q)) (dropV ks ds q)) fun M3 => k d M3)) kx) kx
theorem CE.dpop (ho : CE X o wo) (ha : CE X e wa) (m : M1 X o "pop" apos e cpos) : CE X (.Call (.Attribute o "pop" apos) [e] [] cpos) (wDpop wo wa) :=
  ⟨fun q => ge_dpop (GE.mono (ho.run q) (fun x M1 ⟨j0, h, ks0, ds0, e1, e2, g⟩ => ⟨h, ks0, ds0, j0, e1, e2, GE.mono (ha.run g) (fun y M2 ⟨j, h2, ks, ds, e3, e4, q, d, g2⟩ => by
    cases e3
    exact ⟨j, ks, ds, q, d, e4, g2.h.1, g2.h.2, setM_eq.mp g2.g⟩) fun _ _ _ z => z⟩) fun _ _ _ z => z) m⟩
/-- a, b, .. = xs, a list -/
def wAsgL (n : Nat) (r : En → List D → (En → Prop) → Prop) (a : WpE) : WpS := fun Γ M E => a Γ M (fun d M1 => match d with
  | .hdl h => HL M1 h fun _ ds => Sd (ds.length = n) (r Γ ds fun Γ1 => E.nx Γ1 M1)
  | _ => False) (exE E Γ)
theorem CS.asgL {n kt : Nat} {r : En → List D → (En → Prop) → Prop} {tpos : Pos} (hc : X.calm = true) (ha : CE X e wa) (hr : CTs X es r) (hs : swapsWithSole [.Tuple es kt tpos] e pos.line X.env = pure false := by rfl) (hw : swappedStores [.Tuple es kt tpos] e X.env = pure none := by rfl)
    (h1 : (assignEach [.Tuple es kt tpos] X.env).map (·.2) = [assign (.Tuple es kt tpos) X.env] := by rfl) (hn : (assignEach es X.env).length = n := by rfl) (hst : (assignEach es X.env).findIdx? (·.1) = none := by rfl) : CS X (.Assign [.Tuple es kt tpos] e pos) (wAsgL n r wa) :=
  ⟨fun q => gs_asg (GE.mono (ha.run q) (fun d M1 h => by
    cases d <;> first | exact h.elim | (obtain ⟨q, ds, e, g⟩ := h; exact gg_hls hc e (hr.run g.g) g.h hn hst)) fun _ _ _ z => z) hs hw h1⟩
/-- o1[i1], o2[i2] = e -/
def wSeti2 (a o1 i1 o2 i2 : WpE) : WpS := fun Γ M E => a Γ M (fun d M1 => match d with
  | .tup [u, v] => o1 Γ M1 (fun x M2 => i1 Γ M2 (fun y M3 => match x, y with
    | .hdl h, .int n => HL M3 h fun q ds => ∃ j : Nat, Sd ((0 ≤ n ∧ n = j ∧ j < ds.length) ∨ (n < 0 ∧ n + ds.length = j)) (setM M3 q (h, .lst (ds.set j u)) fun M4 => o2 Γ M4 (fun x M5 => i2 Γ M5 (fun y M6 => match x, y with
      | .hdl h, .int n => HL M6 h fun q ds => ∃ j : Nat, Sd ((0 ≤ n ∧ n = j ∧ j < ds.length) ∨ (n < 0 ∧ n + ds.length = j)) (setM M6 q (h, .lst (ds.set j v)) fun M7 => E.nx Γ M7)
      | _, _ => False) (exE E Γ)) (exE E Γ))
    | _, _ => False) (exE E Γ)) (exE E Γ)
  | _ => False) (exE E Γ)
theorem CS.seti2 {o1 o2 i1 i2 : Expr} {w1' w2' w3 w4 : WpE} {p1 p2 pt : Pos} {kt : Nat} (hc : X.calm = true) (ha : CE X e wa) (ho1 : CE X o1 w1') (hi1 : CE X i1 w2') (ho2 : CE X o2 w3) (hi2 : CE X i2 w4)
    (hs : swapsWithSole [.Tuple [.Subscript o1 i1 p1, .Subscript o2 i2 p2] kt pt] e pos.line X.env = pure false := by rfl) (hw : swappedStores [.Tuple [.Subscript o1 i1 p1, .Subscript o2 i2 p2] kt pt] e X.env = pure none := by rfl)
    (h1 : (assignEach [.Tuple [.Subscript o1 i1 p1, .Subscript o2 i2 p2] kt pt] X.env).map (·.2) = [assign (.Tuple [.Subscript o1 i1 p1, .Subscript o2 i2 p2] kt pt) X.env] := by rfl)
    (h2 : (assignEach (.Subscript o1 i1 p1 :: [.Subscript o2 i2 p2]) X.env).map (·.2) = assign (.Subscript o1 i1 p1) X.env :: (assignEach [.Subscript o2 i2 p2] X.env).map (·.2) := by rfl) (h3 : (assignEach (.Subscript o2 i2 p2 :: []) X.env).map (·.2) = assign (.Subscript o2 i2 p2) X.env :: (assignEach [] X.env).map (·.2) := by rfl)
    (hn : (assignEach [.Subscript o1 i1 p1, .Subscript o2 i2 p2] X.env).length = 2 := by rfl) (hst : (assignEach [.Subscript o1 i1 p1, .Subscript o2 i2 p2] X.env).findIdx? (·.1) = none := by rfl)
    (ha1 : ∀ v, assign (.Subscript o1 i1 p1) X.env v = (do
      let ov ← holding [v] (eval o1 X.env)
      let iv ← holding [v, ov] (eval i1 X.env)
      standAt p1
      holding [v, ov, iv] (setItem ov iv v)
      release [v, ov, iv] []) := by intro _; rfl)
    (ha2 : ∀ v, assign (.Subscript o2 i2 p2) X.env v = (do
      let ov ← holding [v] (eval o2 X.env)
      let iv ← holding [v, ov] (eval i2 X.env)
      standAt p2
      holding [v, ov, iv] (setItem ov iv v)
      release [v, ov, iv] []) := by intro _; rfl) : CS X (.Assign [.Tuple [.Subscript o1 i1 p1, .Subscript o2 i2 p2] kt pt] e pos) (wSeti2 wa w1' w2' w3 w4) :=
  ⟨fun q => gs_seti2 hc (GE.mono (ha.run q) (fun d M1 q1 => by
    split at q1
    · rename_i u v
      exact ⟨u, v, rfl, GE.mono (ho1.run q1) (fun x _ q2 => GE.mono (hi1.run q2) (fun y M3 q3 => by
        cases x <;> cases y <;> first | exact q3.elim | (obtain ⟨p, ds, e1, j, g⟩ := q3
                                                         exact ⟨p, _, ds, _, j, rfl, e1, rfl, g.h, GE.mono (ho2.run (setM_eq.mp g.g)) (fun x _ q4 => GE.mono (hi2.run q4) (fun y M6 q5 => by
                                                           cases x <;> cases y <;> first | exact q5.elim | (obtain ⟨p, ds, e1, j, g⟩ := q5; exact ⟨p, _, ds, _, j, rfl, e1, rfl, g.h, setM_eq.mp g.g⟩)) fun _ _ _ z => z) fun _ _ _ z => z⟩)) fun _ _ _ z => z) fun _ _ _ z => z⟩
    · exact q1.elim) fun _ _ _ z => z) hs hw h1 h2 h3 hn hst ha1 ha2⟩
end
end PD

set_option Elab.async false
set_option linter.all false
set_option maxRecDepth 100000
set_option maxHeartbeats 4000000
/-! PW: range(a, b, c), dict(a list of pairs). -/
namespace PD
open PySem L2
open Evl (Ex ex_rd ex_l ex_t)
def rangeC (lo c : Int) (n : Nat) : List D := (List.range n).map fun (k : Nat) => .int (lo + (k : Int) * c)
def rnum (i j c : Int) : Nat := (Builtin.Range.rangeSize i j c).toNat
theorem rnum_eq {i j c : Int} (hc : 0 < c) : (Builtin.Range.rangeSize i j c) = (rnum i j c : Int) ∧ ∀ k : Nat, k < rnum i j c → i + (k : Int) * c < j := by
  have e : Builtin.Range.rangeSize i j c = if i < j then (j - i - 1) / c + 1 else 0 := by unfold Builtin.Range.rangeSize; rw [if_pos hc]
  unfold rnum
  rw [e]
  split
  · rename_i h
    have h1 : 0 ≤ (j - i - 1) / c := Int.ediv_nonneg (by omega) (by omega)
    refine ⟨by omega, fun k hk => ?_⟩
    have h2 : (k : Int) ≤ (j - i - 1) / c := by omega
    have h3 : (j - i - 1) / c * c ≤ j - i - 1 := Int.ediv_mul_le _ (by omega)
    have h4 : (k : Int) * c ≤ (j - i - 1) / c * c := Int.mul_le_mul_of_nonneg_right h2 (by omega)
    omega
  · exact ⟨rfl, fun k hk => by simp at hk⟩
theorem rgc_up {i j c : Int} (h0 : 0 ≤ i) (h1 : i < 1000000000) (h2 : 0 ≤ j) (h3 : j < 1000000000) (h4 : 0 < c) (h5 : c < 1000000000) : RgC i j c (rnum i j c) := by
  obtain ⟨e1, e2⟩ := rnum_eq (i := i) (j := j) h4
  have hr : rnum i j c ≤ 1000000001 := by
    by_cases z : rnum i j c = 0
    · omega
    · have h := e2 (rnum i j c - 1) (by omega)
      have h6 : ((rnum i j c - 1 : Nat) : Int) * 1 ≤ ((rnum i j c - 1 : Nat) : Int) * c := Int.mul_le_mul_of_nonneg_left (by omega) (by omega)
      omega
  refine ⟨by omega, by omega, ?_, e1⟩
  unfold Builtin.Range.small
  rw [e1]
  simp only [Builtin.Range.rangeFitsLong, Bool.and_eq_true, Bool.or_eq_true, decide_eq_true_eq, beq_iff_eq, if_pos h4]
  omega
theorem walk_rngC {K : PySem.W.Frag} {lo c : Int} {n : Nat} {S1 : Sg} : DWalk K (Itc lo c n) n (fun t d => d = .int (lo + (t : Int) * c)) (fun _ => True) S1 :=
  ⟨fun i S2 M2 hi _ _ _ => hi, fun S2 M2 _ _ _ => Nat.le_refl _, fun i S2 M2 x H' hi g2 hM2 _ y => by
    obtain ⟨rfl, rfl⟩ := y
    exact ⟨S2, _, rfl, hM2, Grow.refl _, rfl, rfl⟩⟩
section
variable {X : Cx} {Γ : En} {M : Ms} {tg a b c : Expr} {k : KI} {kx : KX} {p pos : Pos} {wa wb wc : WpE}
theorem gi_range3 (hm : X.mg "range" = none) (h : GA X Γ M [a, b, c] (fun ds M1 => ∃ i j s : Int, ds = [.int i, .int j, .int s] ∧ RgC i j s (rnum i j s) ∧ k (rnum i j s) (fun t d => d = .int (i + (t : Int) * s)) (fun _ => True) M1) kx) (hg : Gl X "range" := by rfl)
    (hs : starEach [a, b, c] X.env = (false, eval a X.env) :: starEach [b, c] X.env := by rfl) (hpl : (backTo pos (starEach [b, c] X.env)).any (·.1) = false := by rfl) : GI X Γ M tg (.Call (.Name "range" p) [a, b, c] [] pos) k kx := fun S σ hM hE W tk hW R hR pins s I =>
  (pi_range3 (tg := tg) hg hm wa hs hpl).run pins s σ S.H R I (h S σ hM hE W tk hW _ fun ds M1 S1 vs ⟨i, j, z, e, h1, hk⟩ hM1 g1 r1 => by
    subst e
    obtain ⟨u, us, rfl, r, r1⟩ := r1
    obtain ⟨v, vs, rfl, r', r1⟩ := r1
    obtain ⟨w, ws, rfl, r'', r1⟩ := r1
    have e : ws = [] := r1
    subst e
    cases r; cases r'; cases r''
    exact ⟨i, j, z, _, rfl, h1, hR _ _ _ M1 S1 _ hk hM1 g1 walk_rngC⟩)
def iR3 (a b c : WpE) : WpI := fun Γ M k kx => a Γ M (fun x M1 => b Γ M1 (fun y M2 => c Γ M2 (fun z M3 => match x, y, z with
  | .int i, .int j, .int s => Sd (0 ≤ i ∧ i < 1000000000 ∧ 0 ≤ j ∧ j < 1000000000 ∧ 0 < s ∧ s < 1000000000) (k (rangeC i s (rnum i j s)) (fun _ => True) M3)
  | _, _, _ => False) kx) kx) kx
theorem rangeC_at {lo c : Int} {n i : Nat} {d : D} (h : (rangeC lo c n)[i]? = some d) : i < n ∧ d = .int (lo + (i : Int) * c) := by
  unfold rangeC at h
  rw [List.getElem?_map] at h
  by_cases q : i < n
  · rw [List.getElem?_range q] at h; cases h; exact ⟨q, rfl⟩
  · rw [List.getElem?_eq_none (by simpa using q)] at h; cases h
theorem it_rangeC {lo c : Int} {n : Nat} {k : KIt} {M1 : Ms} (h : k (rangeC lo c n) (fun _ => True) M1) : ∃ items : List D, items.length = n ∧ (∀ (i : Nat) d, i < n ∧ d = .int (lo + (i : Int) * c) → items[i]? = some d) ∧ k items (fun _ => True) M1 :=
  ⟨_, by simp [rangeC], fun i d ⟨e1, e2⟩ => by subst e2; unfold rangeC; rw [List.getElem?_map, List.getElem?_range e1]; rfl, h⟩
theorem Ki.range3 (hm : X.mg "range" = none) (ha : CE X a wa) (hb : CE X b wb) (hc : CE X c wc) (hg : Gl X "range" := by rfl) (hs1 : starEach [a, b, c] X.env = (false, eval a X.env) :: starEach [b, c] X.env := by rfl) (hs2 : starEach [b, c] X.env = (false, eval b X.env) :: starEach [c] X.env := by rfl) (hs3 : starEach [c] X.env = (false, eval c X.env) :: starEach [] X.env := by rfl)
    (hpl : (backTo pos (starEach [b, c] X.env)).any (·.1) = false := by rfl) : Ki X tg (.Call (.Name "range" p) [a, b, c] [] pos) (iR3 wa wb wc) :=
  ⟨fun q => GI.lt (gi_range3 hm (ga_cons (GE.mono (ha.run q) (fun x M1 h1 => ga_cons (GE.mono (hb.run h1) (fun y M2 h2 => ga_cons (GE.mono (hc.run h2) (fun z M3 h => by
    cases x <;> cases y <;> cases z <;> first | exact h.elim | exact ga_nil ⟨_, _, _, rfl, rgc_up h.h.1 h.h.2.1 h.h.2.2.1 h.h.2.2.2.1 h.h.2.2.2.2.1 h.h.2.2.2.2.2, it_rangeC h.g⟩) fun _ _ _ z => z) hs3) fun _ _ _ z => z) hs2) fun _ _ _ z => z) hs1) hg hs1 hpl)⟩
end
/-! dict(pairs) -/
theorem merge_nd : ∀ (kvs acc : List (Key × V)), ((acc ++ kvs).map (·.1)).Nodup → mergeK acc kvs = acc ++ kvs
  | [], acc, _ => by simp [mergeK]
  | p :: kvs, acc, nd => by
    have e : putK acc p.1 p.2 = acc ++ [p] := L2.putK_new p.2 (by
      cases h : valV acc p.1 with
      | none => rfl
      | some v =>
        exfalso
        unfold valV at h
        obtain ⟨z, hz, _⟩ := Option.map_eq_some_iff.mp h
        have hzm := List.mem_of_find?_eq_some hz
        have hze : z.1 = p.1 := by simpa using List.find?_some hz
        rw [List.map_append, List.nodup_append] at nd
        exact nd.2.2 z.1 (List.mem_map_of_mem hzm) p.1 (by simp) hze)
    show mergeK (putK acc p.1 p.2) kvs = _
    rw [e, merge_nd kvs (acc ++ [p]) (by rw [List.append_assoc]; exact nd), List.append_assoc]
    rfl
def oDictP : D → Ms → KD → Prop
  | .lst ds, M, k => ∃ kvs : List (Key × D), Sd (ds = kvs.map (fun p => .tup [kD p.1, p.2]) ∧ (kvs.map (·.1)).Nodup) (k (.dct (kvs.map (·.1)) (kvs.map (·.2))) M)
  | _, _, _ => False
theorem pairs_of {K : PySem.W.Frag} {S : Sg} {H : Hp} (hz : Ex S.Z H) : ∀ {kvs : List (Key × D)} {xs : List V}, RepL K S (kvs.map fun p => .tup [kD p.1, p.2]) xs → ∃ (ps : List Addr) (vs : List (Key × V)), xs = ps.map V.ref ∧ Paired (fun p kv => SqT K H p [kV kv.1, kv.2]) ps vs ∧ vs.map (·.1) = kvs.map (·.1) ∧ RepL K S (kvs.map (·.2)) (vs.map (·.2))
  | [], xs, r => by
    have e : xs = [] := r
    subst e
    exact ⟨[], [], rfl, .nil, rfl, rfl⟩
  | (q, d) :: kvs, xs, r => by
    obtain ⟨x, xs', rfl, r1, r2⟩ := r
    obtain ⟨ps, vs, e1, e2, e3, e4⟩ := pairs_of hz r2
    obtain ⟨a, ys, rfl, hy, ry⟩ := r1
    obtain ⟨y1, ys1, rfl, k1, ry⟩ := ry
    obtain ⟨y2, ys2, rfl, k2, ry⟩ := ry
    have e : ys2 = [] := ry
    subst e
    have ek := rep_kD k1
    subst ek
    subst e1
    exact ⟨a :: ps, (q, y2) :: vs, rfl, .cons (ex_t hz hy) e2, by rw [List.map_cons, List.map_cons, e3], .cons k2 e4⟩
theorem oDictP_ok {K : PySem.W.Frag} {x : D} {M : Ms} {k : KD} (h : oDictP x M k) : CallD K (fun xs H Q => ∃ (a : Addr) (ps : List Addr) (kvs : List (Key × V)), xs = [.ref a] ∧ SqL K H a (ps.map V.ref) ∧ Paired (fun p kv => SqT K H p [kV kv.1, kv.2]) ps kvs ∧ ∀ p, H p = none → Q (.ref p) (upd H p (.dK (mergeK [] kvs)))) [x] M k := fun S vs hM rv Q hQ => by
  cases x <;> first | exact h.elim | skip
  rename_i ds
  obtain ⟨kvs, ⟨e, nd⟩, g⟩ := h
  subst e
  obtain ⟨v, rfl, r⟩ := rep1 rv
  obtain ⟨a, xs, rfl, hz, rr⟩ := r
  obtain ⟨ps, us, e1, e2, e3, e4⟩ := pairs_of hM.zh rr
  subst e1
  refine ⟨a, ps, us, rfl, SqL.of (hM.zh _ _ hz), e2, fun l hl => ?_⟩
  rw [merge_nd us [] (by rw [List.nil_append, e3]; exact nd), List.nil_append]
  obtain ⟨hM2, g2⟩ := new_z (o := .dK us) hM hl
  exact hQ _ M ⟨S.as, upd S.Z l (.dK us), upd S.H l (.dK us)⟩ (.ref l) g hM2 g2 ⟨l, us, rfl, upd_same, e3, e4.grow g2⟩
end PD

set_option Elab.async false
set_option linter.all false
set_option maxRecDepth 100000
set_option maxHeartbeats 4000000
/-! PW: sorted of pairs, each a number and a text, the numbers unlike. -/
namespace PD
open PySem L2 PyProof.Rows
open Evl (Ex ex_rd ex_l ex_t)
/-- v is a pair of a number and a text -/
def NumTxt (h : Heap) (v : Value) (x : Int) (y : Str) : Prop := ∃ (a : Addr) (o : Obj) (t u : Tok) (n : Nat), v = .ref a ∧ h.get? a = some o ∧ o.cls = .type "tuple" ∧ o.data = .seq #[.int x t, .str y u] n
theorem NumTxt.up {h h' : Heap} {v : Value} {x : Int} {y : Str} (p : NumTxt h v x y) (k : ∀ b o, h.get? b = some o → o.cls = .type "tuple" → h'.get? b = some o) : NumTxt h' v x y := by
  obtain ⟨a, o, t, u, n, e1, e2, e3, e4⟩ := p
  exact ⟨a, o, t, u, n, e1, k a o e2 e3, e3, e4⟩
section
variable {prog : Program} {w : World} {A : Around} {s : Shared} {k : Value → Int} {T : Value → Str}
theorem heads {h : Heap} (vs : List Value) : (∀ v ∈ vs, NumTxt h v (k v) (T v)) → ∃ fs : List Value, PySem.W.KatTups h vs fs ∧ fs.length = vs.length ∧ ∀ f ∈ fs, ∃ x t, f = Value.int x t := by
  induction vs with
  | nil => exact fun _ => ⟨[], .nil, rfl, by simp⟩
  | cons v vs ih =>
    intro hp
    obtain ⟨fs, g1, g2, g3⟩ := ih fun z hz => hp z (by simp [hz])
    have hv := hp v (by simp)
    generalize k v = x at hv
    obtain ⟨a, o, t, u, n, rfl, e2, e3, e4⟩ := hv
    refine ⟨.int x t :: fs, .cons e2 e3 e4 rfl g1, by simp [g2], ?_⟩
    intro f hf
    simp only [List.mem_cons] at hf
    exact hf.elim (fun e => ⟨x, t, e⟩) (g3 f)
def below (k : Value → Int) (v u : Value) : Bool := decide (k v < k u)
theorem below_swo : SrtO.Swo (below k) := by
  refine ⟨fun x y h => ?_, fun x y z h1 h2 => ?_⟩ <;> simp only [below, decide_eq_true_eq, decide_eq_false_iff_not] at * <;> omega
theorem tell_apart {vs : List Value} (hp : ∀ v ∈ vs, NumTxt s.heap v (k v) (T v)) (hk : ∀ v ∈ vs, ∀ u ∈ vs, k v = k u → T v = T u) : SrtO.Cmp prog w A s (tuples' true) (fun p => p.1 ∈ vs) (SrtO.lt2 (below k)) := by
  intro p q hm hm'
  have h1 := hp _ hm
  have h2 := hp _ hm'
  have h3 := hk _ hm _ hm'
  show wpAny (model prog w) A (keyLt' (tuples' true) p.1 q.1) (fun r s' => s' = s ∧ r = decide (k p.1 < k q.1)) (fun _ _ => False) s
  generalize k p.1 = x at h1 h3 ⊢
  generalize T p.1 = y at h1 h3
  generalize k q.1 = x' at h2 h3 ⊢
  generalize T q.1 = y' at h2 h3
  obtain ⟨a, o, t, u, n, e1, e2, e3, e4⟩ := h1
  obtain ⟨a', o', t', u', n', f1, f2, f3, f4⟩ := h2
  rw [e1, f1]
  refine PySem.W.kat_lt e2 e4 f2 f4 (PySem.W.kat_cons (SeqAt.EqAt.int_int x t x' t' prog w _ _ (PySem.W.kat_go (fun c => ?_) fun c => ?_)))
  · have c1 : x = x' := by simpa using c
    have c2 := h3 c1
    subst c1; subst c2
    refine PySem.W.kat_yes (PySem.W.kat_cons (SeqAt.EqAt.str_str y u y u' prog w _ _ (PySem.W.kat_go (fun _ => PySem.W.kat_yes (PySem.W.kat_nil ⟨rfl, ?_⟩)) fun z => ?_)))
    · simp
    · simp at z
  · exact PySem.W.kat_no (oneLt_int ⟨rfl, rfl⟩)
theorem sortable_nt {a : Addr} {vs : List Value} (h0 : 0 < vs.length) (hp : ∀ v ∈ vs, NumTxt s.heap v (k v) (T v)) (hk : ∀ v ∈ vs, ∀ u ∈ vs, k v = k u → T v = T u) (ha : ∀ o, s.heap.get? a = some o → o.cls ≠ .type "tuple") : SrtO.SortableO prog w A s a vs (below k) := by
  intro h' keep
  have hp' : ∀ v ∈ vs, NumTxt h' v (k v) (T v) := fun v hm => (hp v hm).up fun b o e c => keep b o (fun z => ha o (z ▸ e) c) e
  obtain ⟨fs, g1, g2, g3⟩ := heads vs hp'
  refine ⟨tuples' true, fun Q E hq => PySem.W.kat_kind (T := .type "int") g1 (by omega) (fun f hm => ?_) (by rfl) ?_, tell_apart hp' hk⟩
  · obtain ⟨x, t, rfl⟩ := g3 f hm
    exact PySem.W.Looks.now
  · rw [show (Value.type "int" != Value.type "tuple") = true from by decide +kernel]
    exact hq
end
/-- sorted(xs) of such pairs -/
def rSortNT (K : PySem.W.Frag) : List V → Hp → VK → Prop := fun vs H Q => ∃ (a : Addr) (xs : List V) (k : V → Int) (T : V → Str), vs = [.ref a] ∧ SqL K H a xs ∧ (∀ x ∈ xs, ∃ t, x = .ref t ∧ SqT K H t [.int (k x), .str (T x)]) ∧ (∀ x ∈ xs, ∀ y ∈ xs, k x = k y → T x = T y) ∧
  ∀ ys p, ys.Perm xs → ys.Pairwise (fun x y => k x ≤ k y) → H p = none → Q (.ref p) (upd H p (.lst ys))
theorem cr_sortNT {X : Cx} : CallR X (.builtin "sorted") (rSortNT X.K) := by
  intro pins s σ H vs us Q I r h
  obtain ⟨a, xs, k, T, rfl, hs, hx, hk, q⟩ := h
  obtain ⟨its, rv, hl, hz⟩ := I.list hs
  obtain ⟨u, rfl, ru⟩ := vals1 r
  cases ru
  obtain ⟨e1, e2⟩ := refs_back rv fun x m => by
    obtain ⟨t, e, _⟩ := hx x m
    exact ⟨t, e⟩
  have mem : ∀ v ∈ its, backV v ∈ xs := fun v hv => by rw [e1]; exact List.mem_map_of_mem hv
  have hp : ∀ v ∈ its, NumTxt s.heap v (k (backV v)) (T (backV v)) := fun v hv => by
    obtain ⟨t, rfl⟩ := e2 v hv
    obtain ⟨t', e, hq⟩ := hx _ (mem _ hv)
    cases e
    obtain ⟨js, rj, hi, _⟩ := I.tuple hq
    obtain ⟨u1, u2, rfl, ri, rs⟩ := vals2 rj
    obtain ⟨t1, rfl⟩ := ri
    obtain ⟨t2, rfl⟩ := rs
    obtain ⟨o, ho, hc, n, hd⟩ := hi
    exact ⟨t, o, t1, t2, n, rfl, ho, hc, hd⟩
  have hk' : ∀ v ∈ its, ∀ u ∈ its, k (backV v) = k (backV u) → T (backV v) = T (backV u) := fun v hv u hu => hk _ (mem v hv) _ (mem u hu)
  refine SrtO.sorted_ord (ltv := below fun v => k (backV v)) below_swo hl.isList (by rw [← rv.length]; exact hz) (fun h2 h₁ b hb kk => ?_) fun out so st => ?_
  · refine sortable_nt (T := fun v => T (backV v)) (s := { s with heap := h₁ }) (by omega) (fun v hm => (hp v hm).up fun b o e _ => (kk b o e).2) hk' fun o e => ?_
    have e' := e.symm.trans hb
    cases e'
    exact fun c => absurd (Value.type.inj c) (by decide)
  · have h3 : ∀ u ∈ out, ∃ a, u = Value.ref a := fun u hu => e2 u (st.perm.mem_iff.mp hu)
    obtain ⟨n, hn⟩ := sortedAll_at s.heap its out.toArray
    have hpm : (out.map backV).Perm xs := by rw [e1]; exact st.perm.map _
    refine ⟨.ref (s.heap.objs.size + 1), upd H (s.heap.objs.size + 1) (.lst (out.map backV)), I.laid (t' := s.toks) (fun b o e => sortedAll_old e) (Nat.le_succ _) ⟨?_, out, n, vals_back h3, hn⟩, rfl, q _ _ hpm ?_ (I.hok.fresh (Nat.le_succ _))⟩
    · rw [hpm.length_eq]; exact hz
    · rw [List.pairwise_map]
      refine List.Pairwise.imp (fun {x y} h => ?_) so
      simp only [below, decide_eq_false_iff_not] at h
      omega
/-! of data -/
def ntD (p : Int × Str) : D := .tup [.int p.1, .str p.2]
def oSortP : D → Ms → KD → Prop
  | .lst ds, M, k => ∃ ps : List (Int × Str), Sd (ds = ps.map ntD ∧ (ps.map (·.1)).Nodup) (∀ qs : List (Int × Str), qs.Perm ps → qs.Pairwise (fun x y => x.1 ≤ y.1) → k (.lst (qs.map ntD)) M)
  | _, _, _ => False
/-- what stands at a pair's address -/
noncomputable def ntOf (K : PySem.W.Frag) (H : Hp) (x : V) : Int × Str := by
  classical
  exact if h : ∃ p : Int × Str, ∃ t, x = .ref t ∧ SqT K H t [.int p.1, .str p.2] then h.choose else (0, "")
theorem ntOf_eq {X : Cx} {pins : List (Addr × Obj)} {σ : L2.St} {H : Hp} {s : Shared} (I : Inv X pins σ H s) {t : Addr} {p : Int × Str} (h : SqT X.K H t [.int p.1, .str p.2]) : ntOf X.K H (.ref t) = p := by
  have hex : ∃ p : Int × Str, ∃ t', V.ref t = .ref t' ∧ SqT X.K H t' [.int p.1, .str p.2] := ⟨p, t, rfl, h⟩
  unfold ntOf
  rw [dif_pos hex]
  obtain ⟨t', e, h2⟩ := hex.choose_spec
  cases e
  have e2 := I.tuple_inj h2 h
  injection e2 with e3 e4
  injection e4 with e5
  injection e3 with e3
  injection e5 with e5
  exact Prod.ext e3 e5
/-- .. by the pairs that stand for them -/
def rSortL (K : PySem.W.Frag) : List V → Hp → VK → Prop := fun vs H Q => ∃ (a : Addr) (xs : List V) (ps : List (Int × Str)) (R : V → Int × Str → Prop), vs = [.ref a] ∧ SqL K H a xs ∧ (∀ x p, R x p → ∃ t, x = .ref t ∧ SqT K H t [.int p.1, .str p.2]) ∧ Paired R xs ps ∧ (ps.map (·.1)).Nodup ∧
  ∀ ys qs p, Paired R ys qs → qs.Perm ps → qs.Pairwise (fun x y => x.1 ≤ y.1) → H p = none → Q (.ref p) (upd H p (.lst ys))
theorem paired_mem {α β : Type} {R : α → β → Prop} {xs : List α} {ps : List β} (h : Paired R xs ps) : ∀ x ∈ xs, ∃ p ∈ ps, R x p := by
  induction h with
  | nil => exact fun x hx => nomatch hx
  | cons h1 _ ih =>
    intro x hx
    rcases List.mem_cons.mp hx with rfl | hx
    · exact ⟨_, by simp, h1⟩
    · obtain ⟨p, h2, h3⟩ := ih x hx
      exact ⟨p, by simp [h2], h3⟩
theorem paired_map {α β : Type} {R : α → β → Prop} {f : α → β} : ∀ {ys : List α}, (∀ y ∈ ys, R y (f y)) → Paired R ys (ys.map f)
  | [], _ => .nil
  | y :: ys, h => .cons (h y (by simp)) (paired_map fun z hz => h z (by simp [hz]))
theorem cr_sortL {X : Cx} : CallR X (.builtin "sorted") (rSortL X.K) := by
  intro pins s σ H vs us Q I r h
  obtain ⟨a, xs, ps, R, rfl, hs, hR, hx, nd, q⟩ := h
  have one : ∀ x p, R x p → ntOf X.K H x = p := fun x p h => by
    obtain ⟨t, rfl, h2⟩ := hR x p h
    exact ntOf_eq I h2
  have all : xs.map (ntOf X.K H) = ps := by
    clear hs nd q r
    induction hx with
    | nil => rfl
    | cons h1 _ ih => rw [List.map_cons, ih, one _ _ h1]
  refine cr_sortNT pins s σ H _ us Q I r ⟨a, xs, fun x => (ntOf X.K H x).1, fun x => (ntOf X.K H x).2, rfl, hs, fun x hm => ?_, fun x hm y hm' e => ?_, fun ys p hp hso hn => ?_⟩
  · obtain ⟨p, _, h1⟩ := paired_mem hx x hm
    show ∃ t, x = .ref t ∧ SqT X.K H t [.int (ntOf X.K H x).1, .str (ntOf X.K H x).2]
    rw [one x p h1]
    exact hR x p h1
  · have nd2 : ((xs.map (ntOf X.K H)).map (·.1)).Nodup := by rw [all]; exact nd
    obtain ⟨i, hi⟩ := List.getElem?_of_mem hm
    obtain ⟨j, hj⟩ := List.getElem?_of_mem hm'
    obtain ⟨li, gi⟩ := List.getElem?_eq_some_iff.mp hi
    obtain ⟨lj, gj⟩ := List.getElem?_eq_some_iff.mp hj
    have hij : i = j := by
      refine (List.getElem_inj (h₀ := by simpa using li) (h₁ := by simpa using lj) nd2).mp ?_
      simp only [List.getElem_map, gi, gj]
      exact e
    subst hij
    rw [← gi, ← gj]
  · refine q ys (ys.map (ntOf X.K H)) p (paired_map fun y hy => ?_) ?_ ?_ hn
    · obtain ⟨p', _, h1⟩ := paired_mem hx y (hp.mem_iff.mp hy)
      rw [one y p' h1]
      exact h1
    · rw [← all]
      exact hp.map _
    · rw [List.pairwise_map]
      exact hso
theorem pairs_in {K : PySem.W.Frag} {S : Sg} : ∀ {ps : List (Int × Str)} {xs : List V}, RepL K S (ps.map ntD) xs → Paired (fun x p => Rep K S (ntD p) x) xs ps
  | [], xs, r => by
    have e : xs = [] := r
    subst e
    exact .nil
  | p :: ps, xs, r => by
    obtain ⟨x, xs', rfl, r1, r2⟩ := r
    exact .cons r1 (pairs_in r2)
theorem pairs_out {K : PySem.W.Frag} {S : Sg} {xs : List V} {ps : List (Int × Str)} (h : Paired (fun x p => Rep K S (ntD p) x) xs ps) : RepL K S (ps.map ntD) xs := by
  induction h with
  | nil => rfl
  | cons h1 _ ih => exact .cons h1 ih
theorem oSortP_ok {K : PySem.W.Frag} {x : D} {M : Ms} {k : KD} (h : oSortP x M k) : CallD K (rSortL K) [x] M k := fun S vs hM rv Q hQ => by
  cases x <;> first | exact h.elim | skip
  rename_i ds
  obtain ⟨ps, ⟨e, nd⟩, g⟩ := h
  subst e
  obtain ⟨v, rfl, r⟩ := rep1 rv
  obtain ⟨a, xs, rfl, hz, rr⟩ := r
  refine ⟨a, xs, ps, fun x p => Rep K S (ntD p) x, rfl, SqL.of (hM.zh _ _ hz), fun x p hx => ?_, pairs_in rr, nd, fun ys qs l hy hp hs hl => ?_⟩
  · obtain ⟨t, ys, rfl, hy, ry⟩ := hx
    obtain ⟨y1, ys1, rfl, k1, ry⟩ := ry
    obtain ⟨y2, ys2, rfl, k2, ry⟩ := ry
    have e : ys2 = [] := ry
    subst e
    cases k1; cases k2
    exact ⟨t, rfl, ex_t hM.zh hy⟩
  · obtain ⟨hM2, g2⟩ := new_z (o := .lst ys) hM hl
    exact hQ _ M ⟨S.as, upd S.Z l (.lst ys), upd S.H l (.lst ys)⟩ (.ref l) (g qs hp hs) hM2 g2 ⟨l, ys, rfl, upd_same, (pairs_out hy).grow g2⟩
end PD

set_option Elab.async false
set_option linter.all false
set_option maxRecDepth 100000
set_option maxHeartbeats 4000000
/-! PW: a cut behind a row of statements. -/
namespace PD
open PySem L2 PyProof.Rows
open Evl (Ex ex_rd ex_l ex_t)
section
variable {X : Cx} {st : Stmt} {sts rest : List Stmt} {ws wr : WpS}
/-- the statements `all` are read as w, and then come those of `rest` -/
structure Cg (X : Cx) (all rest : List Stmt) (w : WpS) : Prop where
  run : ∀ {Γ M E} {J : En → Ms → Prop}, (∀ Γ1 M1, J Γ1 M1 → GB X Γ1 M1 rest E) → w Γ M { E with nx := J } → GB X Γ M all E
theorem Cg.nil : Cg X rest rest wEnd := ⟨fun hj h => hj _ _ h⟩
theorem Cg.cons (h : CS X st ws) (r : Cg X sts rest wr) : Cg X (st :: sts) rest (wSeq ws wr) := ⟨fun {Γ M E J} hj q => gb_cons (gs_nx (J := fun Γ1 M1 => wr Γ1 M1 { E with nx := J }) (E := E) (h.run q) fun _ _ g => r.run hj g)⟩
theorem Cg.gh (h : Cg X sts rest wr) : Cg X sts rest (wGh wr) := ⟨fun hj ⟨Γ', M', a, g⟩ => a.gb (h.run hj g)⟩
theorem Cb.cutg (h : Cg X sts rest ws) (r : Cb X rest wr) : Cb X sts (wCut ws wr) := ⟨fun ⟨J, h1, h2⟩ => h.run (fun Γ1 M1 q => r.run (h2 Γ1 M1 q)) h1⟩
end
end PD

set_option Elab.async false
set_option linter.all false
set_option maxRecDepth 100000
set_option maxHeartbeats 4000000
/-! PW: try with several clauses, each with or without a name. -/
namespace PD
open PySem L2 PySem.Spec PyProof.Rows
open Evl (Ex ex_rd ex_l ex_t)
/-- a clause: the class it names, the slot of its name, its suite -/
structure Clz where
  c : Value
  i : Option Nat
  t : Addr → Value → Option Addr → TS
def putO (o : Option Nat) (x : Option V) (σ : L2.St) : L2.St := match o with
  | none => σ
  | some i => σ.set i x
def outO (o : Option Nat) (D : Ends) : Ends := { nx := fun σ H => D.nx (putO o none σ) H, rt := D.rt, bk := fun σ H => D.bk (putO o none σ) H, ct := fun σ H => D.ct (putO o none σ) H }
/-- what the clauses want, one behind the other -/
def wClz (K : PySem.W.Frag) (Wo : WX) (D : Ends) : List Clz → WX
  | [] => Wo
  | q :: r => fun cls d σ H => ∃ yes, PySem.W.exmOne K cls q.c = some yes ∧ (yes = true → ∀ a, H a = none → q.t a cls d (outO q.i D) (putO q.i (some (.ref a)) σ) H) ∧ (yes = false → wClz K Wo D r cls d σ H)
def NmO (X : Cx) : Option Str → Option Nat → Prop
  | none, none => True
  | some n, some i => X.N[i]? = some n ∧ X.env.kindOf n = some .local
  | _, _ => False
inductive ClzOk (X : Cx) : List ExceptHandler → List Clz → Prop
  | nil : ClzOk X [] []
  | cons {x : Str} {nm : Option Str} {q : Clz} {s0 : Stmt} {su : List Stmt} {p1 p2 : Pos} {hds : List ExceptHandler} {l : List Clz} (hc : Names X x q.c) (hn : NmO X nm q.i)
      (hs : ∀ (a : Addr) (oe : Obj) (cls : Value) (d : Option Addr) (pn : List (Addr × Obj)), Zc cls d oe → (∃ vs, oe.data = .fields vs) → PSs (X.suite a ((a, oe) :: pn)) (s0 :: su) (q.t a cls d)) (r : ClzOk X hds l) :
      ClzOk X (.ExceptHandler (some (.Name x p1)) nm (s0 :: su) p2 :: hds) (q :: l)
section
variable {X : Cx} {body : List Stmt} {h0 : ExceptHandler} {hds : List ExceptHandler} {l : List Clz} {pos : Pos} {tb : WX → TS} {Wo : WX} {D : Ends}
/-- the exception has landed: the clauses are asked -/
theorem clz_asked (hst : X.stack = X.env :: X.outer) (hfr : X.env.frame = some X.env.locals) (nd : X.N.Nodup) (tk : Takes X Wo) {a : Addr} {B : Heap} {sI s1 : Shared} {pins : List (Addr × Obj)} {σ : L2.St} {H : Hp} {cls : Value} {d : Option Addr}
    (J : Inv X pins σ H sI) (nb : ∀ b o, sI.heap.get? b = some o → b ∉ frs X.stack → B.get? b = some o) (fl : HandSPX.FlyingZ B (X.env :: X.outer) a (Zc cls d) s1.heap) (up : sI.heap.UpToSlots s1.heap) (na : H a = none) (os : s1.os = sI.os) (ag : AllBare s1.gens) :
    ∀ {hs : List ExceptHandler} {qs : List Clz}, ClzOk X hs qs → wClz X.K Wo D qs cls d σ H → wpAny (model X.prog X.w) X.A (handleBy (.ref a) X.env hs) (SP X pins D) X.xe s1 := by
  have notF : ∀ {h : Heap} {o : Obj} {vs : Array Value}, h.FunFrames B (X.env :: X.outer) → h.get? a = some o → o.data = .fields vs → a ∉ frs (X.env :: X.outer) := fun {h o vs} ff e dd hm => by
    obtain ⟨_, o2, e2, no⟩ := ff.mem hm
    rw [e] at e2; cases e2; exact no _ dd
  obtain ⟨oe, vs, he, hz, hd⟩ := fl.there
  have off := notF fl.2.2.1 he hd
  have nl : a ≠ X.env.locals := fun z => off (List.mem_filterMap.mpr ⟨X.env, .head _, by rw [hfr, z]⟩)
  have nf : a ∉ X.fs := fun hm => by
    obtain ⟨e, me, q⟩ := List.mem_filterMap.mp hm
    exact off (List.mem_filterMap.mpr ⟨e, .tail _ me, q⟩)
  have J1 : Inv X pins σ H s1 := J.landed nb fl.1 up os ag
  have inS := J1.suite he hd na nl nf
  intro hs qs hk
  induction hk with
  | nil =>
    intro w
    refine wpAny_handleBy_nil ?_
    obtain ⟨_, _, _, o2, v2, T, oT, ts, e2, _, d2, f1, _⟩ := id fl
    unfold PySem.passOn
    refine wpAny_bind (wpAny_field e2 d2 f1 ?_)
    rw [if_neg (by simp)]
    have away : wpAny (model X.prog X.w) X.A (setFlight (.ref a) X.env.frame) (fun _ s4 => wpAny (model X.prog X.w) X.A (throw (.ref a) : Sem Flow) (SP X pins D) X.xe s4) X.xe s1 := by
      rw [hfr]
      exact HandSPX.setFlight_upZ fl fun h4 held up4 => wpAny_throw (tk _ _ ⟨a, B, sI, pins, σ, H, cls, d, rfl, J, nb, up.trans up4, .inr (.inr (by rw [hst]; exact held)), na, os, ag, w⟩)
    first
      | exact wpAny_bind (wpAny_pure (wpAny_bind away))
      | exact wpAny_bind away
  | @cons x nm q s0 su p1 p2 hds2 l2 hc hn hsu _ ih =>
    intro w
    obtain ⟨yes, ex, wy, wn⟩ := w
    refine wpAny_handleBy_cons (codeAny_handlers_test ?_) (by intro q; cases q)
    have looks := PySem.W.exm_one (M := model X.prog X.w) J1.kIn (show PySem.W.Looks _ s1.heap (typeOf (.ref a)) cls from fun A Q E s k q => wpAny_typeOf_ref (k _ _ he) (by rw [hz.1]; exact q)) ex
    have asks : ∀ {Q : Value → Shared → Prop} {E : Value → Shared → Prop}, Q q.c s1 → wpAny (model X.prog X.w) (X.A.mark (some (.ref a))) (eval (.Name x p1) X.env) Q E s1 := fun {Q E} g => by
      obtain ⟨hg, hdb, hm | ⟨hm, hv, hnn⟩⟩ := hc
      · exact ld_glob (X := X.suite a ((a, oe) :: (X.pn ++ pins))) inS hg hm g hdb
      · exact ld_blt (X := X.suite a ((a, oe) :: (X.pn ++ pins))) inS hg hm hv g hnn hdb
    refine asks (looks.here ?_)
    cases yes with
    | false => exact ih (wn rfl)
    | true =>
      have goes := wy rfl a na
      cases en : nm with
      | none =>
        rw [en] at hn
        cases ei : q.i with
        | some i => rw [ei] at hn; exact hn.elim
        | none =>
          rw [ei] at goes
          refine codeAny_handlers_suite (HandSPX.lands_againZ fl fun h4 fl4 up4 => ?_)
          obtain ⟨o4, v4, e4, z4, d4⟩ := fl4.there
          have S4 := (J.landed nb fl4.1 (up.trans up4) os ag : Inv X pins σ H { s1 with heap := h4 }).suite e4 d4 na nl nf
          refine wpAny_mono ((hsu a o4 cls d (X.pn ++ pins) z4 ⟨_, d4⟩).run [] _ _ H _ S4 goes) (fun f s6 e => ?_) (fun _ _ z => False.elim z)
          cases f with
          | ret u => obtain ⟨v6, σ6, H6, S6, r6, q6⟩ := e; exact ⟨v6, σ6, H6, S6.unsuite J.ok, r6, q6⟩
          | next => obtain ⟨σ6, H6, S6, q6⟩ := e; exact ⟨σ6, H6, S6.unsuite J.ok, q6⟩
          | brk => obtain ⟨σ6, H6, S6, q6⟩ := e; exact ⟨σ6, H6, S6.unsuite J.ok, q6⟩
          | cont => obtain ⟨σ6, H6, S6, q6⟩ := e; exact ⟨σ6, H6, S6.unsuite J.ok, q6⟩
      | some n =>
        rw [en] at hn
        cases ei : q.i with
        | none => rw [ei] at hn; exact hn.elim
        | some i =>
          rw [ei] at goes hn
          obtain ⟨hi, hl⟩ := hn
          refine codeAny_handlers_suite_as (HandSPX.lands_againZ fl fun h4 fl4 up4 => ?_)
          obtain ⟨o4, v4, e4, z4, d4⟩ := fl4.there
          have S4 := (J.landed nb fl4.1 (up.trans up4) os ag : Inv X pins σ H { s1 with heap := h4 }).suite e4 d4 na nl nf
          refine store_ok (X := X.suite a ((a, o4) :: (X.pn ++ pins))) (v := .ref a) S4 nd hi (.inl hl) rfl (fun s5 S5 => ?_) (.inr hl)
          refine wpAny_mono ((hsu a o4 cls d (X.pn ++ pins) z4 ⟨_, d4⟩).run [] s5 _ H _ S5 goes) (fun f s6 e => ?_) (fun _ _ z => False.elim z)
          cases f with
          | ret u => obtain ⟨v6, σ6, H6, S6, r6, q6⟩ := e; exact gone_ok (S6.unsuite J.ok) nd hi hl fun s7 J7 => ⟨v6, _, H6, J7, r6, q6⟩
          | next => obtain ⟨σ6, H6, S6, q6⟩ := e; exact gone_ok (S6.unsuite J.ok) nd hi hl fun s7 J7 => ⟨_, H6, J7, q6⟩
          | brk => obtain ⟨σ6, H6, S6, q6⟩ := e; exact gone_ok (S6.unsuite J.ok) nd hi hl fun s7 J7 => ⟨_, H6, J7, q6⟩
          | cont => obtain ⟨σ6, H6, S6, q6⟩ := e; exact gone_ok (S6.unsuite J.ok) nd hi hl fun s7 J7 => ⟨_, H6, J7, q6⟩
theorem ps_clz (hst : X.stack = X.env :: X.outer) (hfr : X.env.frame = some X.env.locals) (nd : X.N.Nodup) (tk : Takes X Wo)
    (hb : ∀ (V : WX) (ps : List (Addr × Obj)) (xe : Value → Shared → Prop), Takes (X.tr ps xe) V → PassesOwn (model X.prog X.w) X.A X.env xe → PSs (X.tr ps xe) body (tb V)) (hh : ClzOk X (h0 :: hds) l) : PS X (.Try body (h0 :: hds) [] [] pos) (fun D σ H => tb (wClz X.K Wo D l) D σ H) := by
  refine ⟨fun pins s σ H D I h => wpAny_Try_except (wpAny_mono ((hb (wClz X.K Wo D l) (X.pn ++ pins) (fun e s₁ => wpAny (model X.prog X.w) X.A (noteFrame e X.env) (fun _ s₂ => wpAny (model X.prog X.w) X.A (setFlight e none) (fun _ s₃ =>
    wpAny (model X.prog X.w) X.A (handleBy e X.env (h0 :: hds)) (SP X pins D) X.xe s₃) X.xe s₂) X.xe s₁) (fun u sx xx => ?_) PassesOwn.looking).run [] s σ H D (I.toTry _) h) (fun f s1 e => ?_) (fun e s1 he => he))⟩
  · obtain ⟨a, B, sI, pins', σ', H', cls, d, rfl, J0, nb, up, sky, na, os, ag, w⟩ := xx
    exact Sky.land (M := model X.prog X.w) Zc.steady (by rw [I.ok.frames, hst]) hfr (by rw [← hst]; exact sky) fun h3 fl3 up3 => clz_asked (s1 := { sx with heap := h3 }) hst hfr nd tk (J0.ofTry I.ok) nb fl3 (up.trans up3) na os ag hh w
  · cases f with
    | ret u => obtain ⟨v6, σ6, H6, S6, r6, q6⟩ := e; exact ⟨v6, σ6, H6, S6.ofTry I.ok, r6, q6⟩
    | next => obtain ⟨σ6, H6, S6, q6⟩ := e; exact wpAny_execs_nil ⟨σ6, H6, S6.ofTry I.ok, q6⟩
    | brk => obtain ⟨σ6, H6, S6, q6⟩ := e; exact ⟨σ6, H6, S6.ofTry I.ok, q6⟩
    | cont => obtain ⟨σ6, H6, S6, q6⟩ := e; exact ⟨σ6, H6, S6.ofTry I.ok, q6⟩
end

/-! ### what may change: the exception's own dict comes and goes -/
theorem EnvOk.del {K : PySem.W.Frag} {S : Sg} {σ : L2.St} {Γ : En} {i : Nat} (h : EnvOk K S σ Γ) : EnvOk K S (σ.set i none) (Γ.set i none) := by
  refine ⟨by simp [h.1], fun j e hj => ?_⟩
  by_cases q : i = j
  · subst q
    by_cases hl : i < Γ.length
    · rw [List.getElem?_set_self hl] at hj; cases hj
    · rw [List.getElem?_eq_none (by simpa using hl)] at hj; cases hj
  · rw [List.getElem?_set_ne q] at hj ⊢
    exact h.2 j e hj
/-- the entry of x is left out -/
inductive DropX (x : Addr) : Ms → (Ms → Prop) → Prop
  | here {m : MO} {M : Ms} {f : Ms → Prop} (h : f M) : DropX x ((x, m) :: M) f
  | there {p : Addr × MO} {M : Ms} {f : Ms → Prop} (h : DropX x M fun M' => f (p :: M')) : DropX x (p :: M) f
theorem DropX.sub {x : Addr} {M : Ms} {f : Ms → Prop} (h : DropX x M f) : ∃ M', M'.Sublist M ∧ f M' := by
  induction h with
  | here h => exact ⟨_, .cons _ (.refl _), h⟩
  | there _ ih =>
    obtain ⟨M', s, g⟩ := ih
    exact ⟨_, s.cons₂ _, g⟩
def dropO (x : Option Addr) (M : Ms) (f : Ms → Prop) : Prop := match x with
  | none => f M
  | some x => DropX x M f
theorem dropO_ok {K : PySem.W.Frag} {S : Sg} {x : Option Addr} {M : Ms} {f : Ms → Prop} (h : dropO x M f) (hM : OkM K S M) : ∃ M' S', S'.H = S.H ∧ S'.Z = S.Z ∧ f M' ∧ OkM K S' M' ∧ ∀ S0, Grow S0 S → Grow S0 S' := by
  cases x with
  | none => exact ⟨M, S, rfl, rfl, h, hM, fun _ g => g⟩
  | some x =>
    obtain ⟨M', s, g⟩ := DropX.sub h
    obtain ⟨a, b⟩ := drop_m hM s
    exact ⟨M', ⟨M'.map (·.1), S.Z, S.H⟩, rfl, rfl, g, a, b⟩
def delO (o : Option Nat) (Γ : En) (f : En → Prop) : Prop := match o with
  | none => f Γ
  | some i => delK Γ i f
def setO (o : Option Nat) (a : Addr) (Γ : En) (f : En → Prop) : Prop := match o with
  | none => f Γ
  | some i => setK Γ i (.raw (.ref a)) f
theorem delO_ok {K : PySem.W.Frag} {S : Sg} {σ : L2.St} {o : Option Nat} {Γ : En} {f : En → Prop} (h : delO o Γ f) (e : EnvOk K S σ Γ) : ∃ Γ', f Γ' ∧ EnvOk K S (putO o none σ) Γ' := by
  cases o with
  | none => exact ⟨Γ, h, e⟩
  | some i => exact ⟨_, delK_eq h, EnvOk.del e⟩
theorem setO_ok {K : PySem.W.Frag} {S : Sg} {σ : L2.St} {o : Option Nat} {a : Addr} {Γ : En} {f : En → Prop} (h : setO o a Γ f) (e : EnvOk K S σ Γ) : ∃ Γ', f Γ' ∧ EnvOk K S (putO o (some (.ref a)) σ) Γ' := by
  cases o with
  | none => exact ⟨Γ, h, e⟩
  | some i => exact ⟨_, setK_eq h, e.set rfl⟩
def outE (o : Option Nat) (x : Option Addr) (E : ED) : ED where
  nx := fun Γ M => delO o Γ fun Γ1 => dropO x M fun M1 => E.nx Γ1 M1
  rt := fun d M => dropO x M fun M1 => E.rt d M1
  bk := fun Γ M => delO o Γ fun Γ1 => dropO x M fun M1 => E.bk Γ1 M1
  ct := fun Γ M => delO o Γ fun Γ1 => dropO x M fun M1 => E.ct Γ1 M1
theorem outE_ok {K : PySem.W.Frag} {S : Sg} {E : ED} {De : Ends} {W : WX} {o : Option Nat} {x : Option Addr} (L : LK K S E De W) : LK K S (outE o x E) (outO o De) fun _ _ _ _ => False := by
  have step : ∀ {k : En → Ms → Prop} {Q : L2.St → Hp → Prop}, KN K S k Q → KN K S (fun Γ M => delO o Γ fun Γ1 => dropO x M fun M1 => k Γ1 M1) fun σ H => Q (putO o none σ) H := fun {k Q} h Γ1 M1 S1 σ1 q hM g e => by
    obtain ⟨Γ2, q2, e2⟩ := delO_ok q e
    obtain ⟨M2, S2, eH, eZ, q3, hM2, g2⟩ := dropO_ok q2 hM
    rw [← eH]
    exact h Γ2 M2 S2 _ q3 hM2 (g2 _ g) (e2.1 |> fun l => ⟨l, fun i d z => by
      obtain ⟨v, v1, v2⟩ := e2.2 i d z
      exact ⟨v, v1, (sg_mono (by rw [eZ]; exact Ex.refl _)).1 _ _ v2⟩⟩)
  refine ⟨step L.nx, fun d M1 S1 v q hM g r => ?_, step L.bk, step L.ct, fun _ _ _ _ _ _ _ z => z.elim⟩
  obtain ⟨M2, S2, eH, eZ, q3, hM2, g2⟩ := dropO_ok q hM
  rw [← eH]
  exact L.rt d M2 S2 v q3 hM2 (g2 _ g) ((sg_mono (by rw [eZ]; exact Ex.refl _)).1 _ _ r)
/-- the dict of a caught exception is one more thing of the store -/
theorem xd_in {K : PySem.W.Frag} {S0 S : Sg} {M : Ms} {x : Addr} {fs : List (Str × D)} (hM : OkM K S M) (g : Grow S0 S) (r : XRep K S S0 (some x) fs) :
    OkM K ⟨x :: S.as, S.Z, S.H⟩ ((x, .xd (fs.map (·.1)) (fs.map (·.2))) :: M) ∧ Grow S0 ⟨x :: S.as, S.Z, S.H⟩ := by
  obtain ⟨_, r1, r2, r3, kvs, r4, r5, r6⟩ := r
  refine ⟨⟨by simp [hM.len], List.nodup_cons.mpr ⟨r3, hM.nd⟩, hM.zh, fun p hp => ?_, fun a ha => ?_⟩, ⟨fun a ha => ?_, g.zz, g.keep, g.dom, g.sep⟩⟩
  · rcases List.mem_cons.mp hp with rfl | hp
    · exact ⟨r2, kvs, r4, r5, (sg_mono (S := S) (S' := ⟨x :: S.as, S.Z, S.H⟩) (Ex.refl _)).2 _ _ r6⟩
    · exact (hM.mo p hp).keep (S' := ⟨x :: S.as, S.Z, S.H⟩) (Ex.refl _) (fun e => e) fun _ e => e
  · rcases List.mem_cons.mp ha with rfl | ha
    · show S.H _ ≠ none; rw [r4]; simp
    · exact hM.dom a ha
  · rcases List.mem_cons.mp ha with rfl | ha
    · exact .inr r1
    · exact g.pre a ha

/-! ### readings -/
structure Hd where
  tb : List (Addr × Bool)
  i : Option Nat
  w : Addr → Value → Option Addr → WpS
/-- the class stands in the table -/
inductive Mt (tb : List (Addr × Bool)) (cls : Value) (f : Bool → Prop) : Prop
  | mk (j : Nat) (C : Addr) (yes : Bool) (e : cls = .ref C) (h : tb[j]? = some (C, yes)) (g : f yes)
def wSu (h : Hd) (cls : Value) (fs : List (Str × D)) (Γ : En) (M : Ms) (E : ED) : Prop := ∀ a, setO h.i a Γ fun Γ1 => match fs with
  | [] => h.w a cls none Γ1 M (outE h.i none E)
  | [(n, d)] => ∀ x, h.w a cls (some x) Γ1 ((x, .xd [n] [d]) :: M) (outE h.i (some x) E)
  | _ => False
def wHds : List Hd → Value → List (Str × D) → En → Ms → ED → Prop
  | [], cls, fs, Γ, M, E => E.ex cls fs Γ M
  | h :: r, cls, fs, Γ, M, E => Mt h.tb cls fun yes => Br yes (wSu h cls fs Γ M E) (wHds r cls fs Γ M E)
def wTry (wb : WpS) (hs : List Hd) : WpS := fun Γ M E => wb Γ M { E with ex := fun cls fs Γ1 M1 => wHds hs cls fs Γ1 M1 E }
inductive CHs (X : Cx) : List ExceptHandler → List Hd → Prop
  | nil : CHs X [] []
  | cons {x : Str} {nm : Option Str} {c : Value} {h : Hd} {s0 : Stmt} {su : List Stmt} {p1 p2 : Pos} {hds : List ExceptHandler} {l : List Hd} (hc : Names X x c) (ht : ∀ p ∈ h.tb, PySem.W.exmOne X.K (.ref p.1) c = some p.2)
      (hw : ∀ (a : Addr) (oe : Obj) (cls : Value) (d : Option Addr) (pn : List (Addr × Obj)), Zc cls d oe → (∃ vs, oe.data = .fields vs) → Cb (X.suite a ((a, oe) :: pn)) (s0 :: su) (h.w a cls d)) (r : CHs X hds l)
      (hn : NmO X nm h.i := by first | exact trivial | exact ⟨rfl, rfl⟩) : CHs X (.ExceptHandler (some (.Name x p1)) nm (s0 :: su) p2 :: hds) (h :: l)
section
variable {X : Cx} {body : List Stmt} {h0 : ExceptHandler} {hds : List ExceptHandler} {hs : List Hd} {pos : Pos} {wb : WpS}
theorem clz_of (hh : CHs X hds hs) : ∃ l, ClzOk X hds l ∧ ∀ {S0 S : Sg} {σ : L2.St} {cls : Value} {fs : List (Str × D)} {dd : Option Addr} {Γ : En} {M : Ms} {E : ED} {De : Ends} {W : WX}, wHds hs cls fs Γ M E → OkM X.K S M → EnvOk X.K S σ Γ →
    XRep X.K S S0 dd fs → Grow S0 S → LK X.K S0 E De W → wClz X.K W De l cls dd σ S.H := by
  induction hh with
  | nil => exact ⟨[], .nil, fun h hM e r g L => L.ex _ _ _ _ _ _ _ h hM g e r⟩
  | @cons x nm c h s0 su p1 p2 hds l hc ht hw r hn ih =>
    obtain ⟨l', ok, go⟩ := ih
    refine ⟨⟨c, h.i, fun a cls d D σ H => ∃ S Γ M E', S.H = H ∧ OkM X.K S M ∧ EnvOk X.K S σ Γ ∧ LK X.K S E' D (fun _ _ _ _ => False) ∧ h.w a cls d Γ M E'⟩ :: l', .cons hc hn (fun a oe cls d pn hz hf => ⟨fun pins s σ H D I ⟨S, Γ, M, E', e, hM, hE, L, g⟩ => ?_⟩) ok, ?_⟩
    · subst e
      exact (hw a oe cls d pn hz hf).run g S σ hM hE _ takes0 D L pins s I
    · intro S0 S σ cls fs dd Γ M E De W q hM e rx g L
      obtain ⟨j, C, yes, rfl, hj, q⟩ := q
      refine ⟨yes, ht _ (List.mem_of_getElem? hj), fun y a na => ?_, fun n => go (q.f n) hM e rx g L⟩
      obtain ⟨Γ1, q1, e1⟩ := setO_ok (q.t y a) e
      cases fs with
      | nil =>
        cases dd with
        | some x => exact absurd rfl rx.1
        | none => exact ⟨S, Γ1, M, _, rfl, hM, e1, outE_ok (L.grow g), q1⟩
      | cons f r =>
        cases r with
        | cons _ _ => exact (show False from q1).elim
        | nil =>
        cases dd with
        | none => cases rx
        | some x =>
          obtain ⟨hM2, g2⟩ := xd_in hM g rx
          exact ⟨⟨x :: S.as, S.Z, S.H⟩, Γ1, _, _, rfl, hM2, ⟨e1.1, fun i d z => by
            obtain ⟨v, v1, v2⟩ := e1.2 i d z
            exact ⟨v, v1, (sg_mono (S := S) (S' := ⟨x :: S.as, S.Z, S.H⟩) (Ex.refl _)).1 _ _ v2⟩⟩, outE_ok (L.grow g2), q1 x⟩
theorem CS.try (nd : X.N.Nodup) (hb : ∀ pn xe, PassesOwn (model X.prog X.w) X.A X.env xe → Cb (X.tr pn xe) body wb) (hh : CHs X (h0 :: hds) hs) (hst : X.stack = X.env :: X.outer := by rfl) (hfr : X.env.frame = some X.env.locals := by rfl) :
    CS X (.Try body (h0 :: hds) [] [] pos) (wTry wb hs) := by
  obtain ⟨l, ok, go⟩ := clz_of hh
  refine ⟨fun {Γ M E} h S σ hM hE W tk De L => ?_⟩
  refine of_ps (ps_clz (tb := fun W D σ H => ∃ S Γ M E', S.H = H ∧ OkM X.K S M ∧ EnvOk X.K S σ Γ ∧ LK X.K S E' D W ∧ wb Γ M E') (Wo := W) hst hfr nd tk (fun W pn xe tk pp => ⟨fun pins s σ H D I ⟨S, Γ, M, E', e, hM, hE, L, g⟩ => ?_⟩) ok)
    ⟨S, Γ, M, { E with ex := fun cls fs Γ1 M1 => wHds hs cls fs Γ1 M1 E }, rfl, hM, hE, ⟨L.nx, L.rt, L.bk, L.ct, fun cls fs Γ1 M1 S1 σ1 dd q hM1 g1 e1 r1 => go (E := E) q hM1 e1 r1 g1 L⟩, h⟩
  subst e
  exact (hb pn xe pp).run g S σ hM hE W tk D L pins s I
end

/-! ### the exception that a suite holds -/
inductive HX (Γ : En) (M : Ms) (i : Nat) (a : Addr) (dd : Option Addr) (f : List Str → List D → Prop) : Prop
  | none (hi : nthG Γ i = some (.raw (.ref a))) (hd : dd = none) (g : f [] [])
  | some (p : Nat) (x : Addr) (fs : List Str) (ds : List D) (hi : nthG Γ i = some (.raw (.ref a))) (hd : dd = some x) (e : M[p]? = some (x, .xd fs ds)) (g : f fs ds)
/-- e.f -/
def wXf (i : Nat) (a : Addr) (cls : Value) (dd : Option Addr) (cs : List Addr) (f : Str) : WpE := fun Γ M k _ => HX Γ M i a dd fun fs ds => ∃ (C : Addr) (j : Nat) (v : D), Sd (cls = .ref C ∧ C ∈ cs ∧ fs.Nodup ∧ fs[j]? = some f ∧ ds[j]? = some v) (k v M)
/-- isinstance(e, C), isinstance(e, (C, ..)) -/
def wXi (i : Nat) (a : Addr) (cls : Value) (dd : Option Addr) (tb : List (Addr × Bool)) : WpE := fun Γ M k _ => HX Γ M i a dd fun _ _ => Mt tb cls fun yes => k (.bl yes) M
section
variable {X : Cx} {a : Addr} {oe : Obj} {cls : Value} {dd : Option Addr} {pn : List (Addr × Obj)} {pos p p2 : Pos} {n : Str}
theorem CE.xf {f : Str} (i : Nat) (cs : List Addr) (T : ∀ C ∈ cs, XfC X.K C ∧ PySem.W.findIn X.K (.ref C) f = some none) (hz : Zc cls dd oe) (hf : ∃ vs, oe.data = .fields vs) (hN : X.N[i]? = some n := by rfl) (hv : Vis X.env.scope n := by first | exact Or.inl rfl | exact Or.inr (Or.inl rfl) | exact Or.inr (Or.inr rfl))
    (h1 : (n == ("__debug__" : Str)) = false := by decide) (h2 : (n == ("__classdict__" : Str)) = false := by decide) (hb : attributeBase (.Name n p) f X.env (eval (.Name n p) X.env) = eval (.Name n p) X.env := by rfl) : CE (X.suite a ((a, oe) :: pn)) (.Attribute (.Name n p) f pos) (wXf i a cls dd cs f) :=
  ⟨fun {Γ M k kx} h S σ hM hE W tk hW Q hQ => by
    rcases h with ⟨_, _, C, j, v, ⟨_, _, _, z, _⟩, _⟩ | ⟨q, x, fs, ds, hi, rfl, e, C, j, v, ⟨hC, mC, nd, hj, hd⟩, g⟩
    · cases z
    · obtain ⟨hZ, kvs, hh, ek, r⟩ := hM.at e
      obtain ⟨w, hw, rw'⟩ := r.get hd
      obtain ⟨u, hu, ru⟩ := hE.2 i _ (nthG_at hi)
      cases ru
      exact of_pe (pe_xf (T C mC).1 (T C mC).2 hz hf (pe_var hN hv h1 h2) hb) ⟨_, hu, rfl, hC, x, kvs, w, rfl, hh, lookup_ix (by rw [ek]; exact nd) (by rw [ek]; exact hj) hw, hQ v M S w g hM (Grow.refl _) rw'⟩⟩
/-- the exception that stands in the heap, for isinstance -/
def rXi (K : PySem.W.Frag) (C a : Addr) (dd : Option Addr) (ans : V → Hp → Bool → Prop) : List V → Hp → VK → Prop := fun xs H Q => ∃ c yes, xs = [.ref a, c] ∧ ans c H yes ∧ (∀ x, dd = some x → ∃ fs, H x = some (.xd fs)) ∧ Q (.bl yes) H
theorem exc_at {C : Addr} {σ : L2.St} {H : Hp} {s : Shared} {pins : List (Addr × Obj)} (hz : Zc (.ref C) dd oe) (hf : ∃ vs, oe.data = .fields vs) (I : Inv (X.suite a ((a, oe) :: pn)) pins σ H s) (hx : ∀ x, dd = some x → ∃ fs, H x = some (.xd fs)) :
    ∃ od, PySem.W.InstAt s.heap a oe C od := by
  obtain ⟨ha, _⟩ := I.pin (a, oe) (List.mem_append_left _ (.head _))
  obtain ⟨vs, hv⟩ := hf
  obtain ⟨oc, odd, oda, osl⟩ := oe
  obtain ⟨h1, h2⟩ := hz
  dsimp only at h1 h2 hv
  subst h1 h2 hv
  cases odd with
  | none => exact ⟨none, ha, rfl, rfl, trivial⟩
  | some x =>
    obtain ⟨fs, e⟩ := hx x rfl
    obtain ⟨mA, hns, _⟩ : ObjOk X.prog X.w H s.heap x (.xd fs) := I.hok x _ e
    obtain ⟨o, ho, _⟩ := lookIn_ns hns
    exact ⟨some o, ha, rfl, rfl, ho⟩
theorem ExcC.kx {K : PySem.W.Frag} {C x : Addr} {ox : Obj} {od : Option Obj} (T : ExcC K C) : PySem.W.KitX K (.ref x) (.ref C) (fun h => PySem.W.InstAt h x ox C od) := by
  have hc : (PySem.W.clsIn K C).isSome = true := by obtain ⟨cd, h, _⟩ := PySem.W.any_some T.hd; rw [h]; rfl
  exact PySem.W.kitx_exc hc T.hg T.hk T.hs T.ha T.hn T.ht T.hm
theorem call_xi {C : Addr} {ans : V → Hp → Bool → Prop} (T : ExcC X.K C) (hz : Zc (.ref C) dd oe) (hf : ∃ vs, oe.data = .fields vs) (hans : ∀ {c H yes}, ans c H yes → (∃ cv, (∀ u, RelV c u → u = cv) ∧ PySem.W.kitOne X.K (.ref C) cv = some yes) ∨
      ∃ t xs cs, c = .ref t ∧ SqT X.K H t xs ∧ (∀ us, Vals xs us → us = cs) ∧ PySem.W.kitAny X.K (.ref C) cs = some yes) : CallR (X.suite a ((a, oe) :: pn)) (.builtin "isinstance") (rXi X.K C a dd ans) := by
  intro pins s σ H xs us Q I r h
  obtain ⟨c, yes, rfl, ha, hx, q⟩ := h
  cases r with
  | cons rx rr =>
    cases rr with
    | cons rt rr =>
      cases rr
      cases rx
      obtain ⟨od, J⟩ := exc_at hz hf I hx
      rcases hans ha with ⟨cv, hcv, e⟩ | ⟨t, xs, cs, rfl, ht, hcs, e⟩
      · rw [hcv _ rt]
        exact PySem.W.kia_one (ExcC.kx T) I.kIn J e (fun z => nomatch z) fun tk => ⟨.bl yes, H, I.kept (t' := tk) fun _ _ z => z, rfl, q⟩
      · cases rt
        obtain ⟨its, rv, ⟨o, ho, hc, n, hd⟩, _⟩ := I.tuple ht
        have ei := hcs _ rv
        subst ei
        obtain ⟨oc, odd, oda, osl⟩ := o
        dsimp only at hc hd
        subst hc hd
        exact PySem.W.kia_tup (ExcC.kx T) I.kIn J ho e (fun z => nomatch z) fun tk => ⟨.bl yes, H, I.kept (t' := tk) fun _ _ z => z, rfl, q⟩
theorem hx_run {Γ : En} {M : Ms} {i : Nat} {f : List Str → List D → Prop} {K : PySem.W.Frag} {S : Sg} (h : HX Γ M i a dd f) (hM : OkM K S M) : nthG Γ i = some (.raw (.ref a)) ∧ (∃ fs ds, f fs ds) ∧ ∀ x, dd = some x → ∃ fs, S.H x = some (.xd fs) := by
  rcases h with ⟨hi, rfl, g⟩ | ⟨q, x, fs, ds, hi, rfl, e, g⟩
  · exact ⟨hi, ⟨_, _, g⟩, fun x z => nomatch z⟩
  · refine ⟨hi, ⟨_, _, g⟩, fun y z => ?_⟩
    cases z
    obtain ⟨_, kvs, hh, _⟩ := hM.at e
    exact ⟨kvs, hh⟩
/-- isinstance(e, C) -/
theorem CE.xi {cv : Value} {c : V} {nm2 : Str} (i : Nat) (tb : List (Addr × Bool)) (T : ∀ p ∈ tb, ExcC X.K p.1 ∧ PySem.W.kitOne X.K (.ref p.1) cv = some p.2) (hz : Zc cls dd oe) (hf : ∃ vs, oe.data = .fields vs) (hcv : ∀ u, RelV c u → u = cv)
    (hce : ∀ {Γ M k kx}, k (.raw c) M → GE (X.suite a ((a, oe) :: pn)) Γ M (.Name nm2 p2) k kx) (hm : X.mg "isinstance" = none) (hN : X.N[i]? = some n := by rfl) (hv : Vis X.env.scope n := by first | exact Or.inl rfl | exact Or.inr (Or.inl rfl) | exact Or.inr (Or.inr rfl))
    (h1 : (n == ("__debug__" : Str)) = false := by decide) (h2 : (n == ("__classdict__" : Str)) = false := by decide) (hg : Gl X "isinstance" := by rfl) (he : starEach [.Name n p, .Name nm2 p2] X.env = (false, eval (.Name n p) X.env) :: starEach [.Name nm2 p2] X.env := by rfl)
    (he2 : starEach [.Name nm2 p2] X.env = (false, eval (.Name nm2 p2) X.env) :: starEach [] X.env := by rfl) (hpl : (backTo pos (starEach [.Name nm2 p2] X.env)).any (·.1) = false := by rfl) {pf : Pos} : CE (X.suite a ((a, oe) :: pn)) (.Call (.Name "isinstance" pf) [.Name n p, .Name nm2 p2] [] pos) (wXi i a cls dd tb) :=
  ⟨fun {Γ M k kx} h S σ hM => by
    obtain ⟨hi, ⟨_, _, j, C, yes, rfl, hj, g⟩, hx⟩ := hx_run h hM
    obtain ⟨TC, e⟩ := T _ (List.mem_of_getElem? hj)
    refine ge_callB (call_xi (ans := fun c' _ b => c' = c ∧ b = yes) TC hz hf fun {c' H b} ⟨u, v⟩ => .inl ⟨cv, by rw [u]; exact hcv, by rw [v]; exact e⟩) hm PyProof.Rows.boot_isinstance (ga_cons (GE.mono (ge_var (X := X.suite a ((a, oe) :: pn)) i (k := fun d M1 => d = .raw (.ref a) ∧ M1 = M) ⟨rfl, rfl⟩ hN hv (nthG_at hi) h1 h2) (fun d M1 ⟨e1, e2⟩ => ?_) fun _ _ _ z => z) he) hg (by decide) (by decide) he hpl S σ hM
    subst e1 e2
    refine ga_cons (hce (ga_nil fun S2 vs hM2 r Q q => ?_)) he2
    obtain ⟨v1, v2, rfl, r1, r2⟩ := rep2 r
    cases r1; cases r2
    exact ⟨_, yes, rfl, ⟨rfl, rfl⟩, (hx_run h hM2).2.2, q _ M1 S2 _ g hM2 (Grow.refl _) rfl⟩⟩
end

/-! ### the package's exception classes -/
structure XcOk (K : PySem.W.Frag) (mg : Str → Option Value) (x : Str) (C : Addr) : Prop where
  g : mg x = some (.ref C)
  c : ExcC K C
  t : PySem.W.typeIn K (.ref C) = some (.type "type")
theorem XcOk.xf {K : PySem.W.Frag} {mg : Str → Option Value} {x : Str} {C : Addr} (T : XcOk K mg x C) : XfC K C := ⟨T.c.hg, T.c.hk, T.c.hs, T.c.hd⟩
theorem XcOk.nm {X : Cx} {x : Str} {C : Addr} (T : XcOk X.K X.mg x C) (hg : Gl X x := by rfl) (hd : (x == ("__debug__" : Str)) = false := by decide) : Names X x (.ref C) := ⟨hg, hd, .inl T.g⟩
/-- whether an instance of C is one of c -/
def MtC (K : PySem.W.Frag) (C : Addr) (c : Value) (b : Bool) : Prop := PySem.W.exmOne K (.ref C) c = some b ∧ PySem.W.kitOne K (.ref C) c = some b
theorem kit_of {K : PySem.W.Frag} {t c : Value} {b : Bool} (h : PySem.W.kitCls K t c = some b) (n : b = true ∨ t ≠ c) : PySem.W.kitOne K t c = some b := by
  unfold PySem.W.kitOne
  split
  · rename_i q
    rcases n with n | n
    · rw [n]
    · exact absurd (beq_iff_eq.mp q) n
  · exact h
theorem MtC.of {K : PySem.W.Frag} {mg : Str → Option Value} {x : Str} {C D : Addr} {b : Bool} (T : XcOk K mg x D) (h : PySem.W.subIn K (.ref C) (.ref D) = some b) (n : (b || C != D) = true) : MtC K C (.ref D) b := by
  have e : PySem.W.kitCls K (.ref C) (.ref D) = some b := by
    obtain ⟨cd, hc, _⟩ := PySem.W.any_some T.c.hd
    show (if ((PySem.W.clsIn K D).isSome && PySem.W.typeIn K (.ref D) == some (.type "type")) = true then PySem.W.subIn K (.ref C) (.ref D) else none) = some b
    rw [hc, T.t]
    exact h
  refine ⟨PySem.W.exm_ref T.c.hs T.c.hd T.t h, kit_of e ?_⟩
  rcases Bool.or_eq_true_iff.mp n with n | n
  · exact .inl n
  · exact .inr fun z => by cases z; simp at n
theorem kit_ty {K : PySem.W.Frag} {C : Addr} {T : String} {b : Bool} (hm : PySem.W.kitMeta T = true) (h : PySem.W.subIn K (.ref C) (.type T) = some b) : PySem.W.kitOne K (.ref C) (.type T) = some b := by
  refine kit_of ?_ (.inr fun z => nomatch z)
  show (if PySem.W.kitMeta T = true then PySem.W.subIn K (.ref C) (.type T) else none) = some b
  rw [if_pos hm]
  exact h
section
variable {K : PySem.W.Frag} {c : Value} {C : Addr} {b : Bool} {f : Str} {l : List (Addr × Bool)} {cs : List Addr}
theorem tb0 : ∀ p ∈ ([] : List (Addr × Bool)), PySem.W.exmOne K (.ref p.1) c = some p.2 := fun _ h => nomatch h
theorem tbc (h : MtC K C c b) (r : ∀ p ∈ l, PySem.W.exmOne K (.ref p.1) c = some p.2) : ∀ p ∈ (C, b) :: l, PySem.W.exmOne K (.ref p.1) c = some p.2 := List.forall_mem_cons.mpr ⟨h.1, r⟩
theorem xf0 : ∀ C ∈ ([] : List Addr), XfC K C ∧ PySem.W.findIn K (.ref C) f = some none := fun _ h => nomatch h
theorem xfc {mg : Str → Option Value} {x : Str} (h : XcOk K mg x C) (n : PySem.W.findIn K (.ref C) f = some none) (r : ∀ C ∈ cs, XfC K C ∧ PySem.W.findIn K (.ref C) f = some none) : ∀ D ∈ C :: cs, XfC K D ∧ PySem.W.findIn K (.ref D) f = some none := List.forall_mem_cons.mpr ⟨⟨h.xf, n⟩, r⟩
theorem xi0 : ∀ p ∈ ([] : List (Addr × Bool)), ExcC K p.1 ∧ PySem.W.kitOne K (.ref p.1) c = some p.2 := fun _ h => nomatch h
theorem xic {mg : Str → Option Value} {x : Str} (h : XcOk K mg x C) (n : PySem.W.kitOne K (.ref C) c = some b) (r : ∀ p ∈ l, ExcC K p.1 ∧ PySem.W.kitOne K (.ref p.1) c = some p.2) : ∀ p ∈ (C, b) :: l, ExcC K p.1 ∧ PySem.W.kitOne K (.ref p.1) c = some p.2 := List.forall_mem_cons.mpr ⟨⟨h.c, n⟩, r⟩
end
theorem b_valueError : bootBuiltins "ValueError" = some (.type "ValueError") := by decide +kernel
end PD

set_option Elab.async false
set_option linter.all false
set_option maxRecDepth 100000
set_option maxHeartbeats 4000000
/-! PW: C(*e). -/
namespace PD
open PySem L2 PyProof.Rows
open Evl (Ex ex_rd ex_l ex_t)
section
variable {X : Cx} {Γ : En} {M : Ms} {e : Expr} {k : KD} {kx : KX} {pos p q : Pos} {nm : Str} {j l : Nat} {C : Addr} {dds : List D} {R : RSp} {wa : WpE}
theorem ge_makeStar (F : MkD X.prog X.w X.K X.mg X.base j C nm dds R) (hr : Room l X.A) (hl : j + 1 ≤ l) (h : GE X Γ M e (fun d M1 => ∃ ds, SeqD M1 d ds ∧ ∀ x, Hand R (.hdl x :: (ds ++ dds)) (M1 ++ [(x, .ins C [] [])]) (fun d M2 => d = .non ∧ k (.hdl x) M2) kx) kx)
    (hg : Gl X nm := by rfl) (hdb : (nm == ("__debug__" : Str)) = false := by decide) (hst : starEach [.Starred e q] X.env = [(true, eval e X.env)] := by rfl) : GE X Γ M (.Call (.Name nm p) [.Starred e q] [] pos) k kx := fun S σ hM hE W tk hW Q hQ pins s I => by
  obtain ⟨f, fd, ps, dvl, dvs, Mm, hb, hd, hrd, F'⟩ := F.ex
  refine wpAny_Call_Name_kw (ld_glob I hg F.gC ?_ hdb)
  refine PySem.W.callWith_S (h₀ := X.base) I.ok.mod.kin Mm.kp (thn (h S σ hM hE W tk hW (fun y H1 => ∃ a xs, y = V.ref a ∧ (SqT X.K H1 a xs ∨ SqL X.K H1 a xs) ∧ ∀ x dx, H1 x = none → H1 dx = none → dx ≠ x →
      spD X.K R (.ref x :: (xs ++ dvs)) (upd (upd H1 dx (.own x)) x (.ins C dx [])) (fun v H2 => v = .non ∧ Q (.ref x) H2) (L2.WE W σ)) (fun d M1 S1 v ⟨ds, sq, h1⟩ hM1 g1 r1 => ?_) pins s I) fun v s1 ⟨y, H1, I1, ry, a, xs, ey, hxs, z⟩ => ?_) hst
  · obtain ⟨a, xs, rfl, h2, rr⟩ := sq.at hM1 r1
    exact ⟨a, xs, rfl, h2, fun x dx hx hdx ne => mk_ofF hM1 rr hrd (hQ.grow g1) (hW.grow g1) h1 hx hdx ne⟩
  · subst ey
    obtain rfl : v = Value.ref a := ry
    exact StX.star_any I1 hxs fun us s2 I2 rv => ⟨I2.kIn, run_makeS (EE := L2.WE W) Mm F' (hr.mono hl) hb hd (passAt tk σ) I2 rv z⟩
def wMakeStar (R : RSp) (C : Addr) (dds : List D) (a : WpE) : WpE := fun Γ M k kx => a Γ M (fun d M1 => ∃ ds, Sd (SeqD M1 d ds) (∀ x, Hand R (.hdl x :: (ds ++ dds)) ((x, .ins C [] []) :: M1) (fun d M2 => d = .non ∧ ∃ M3, M2.Perm M3 ∧ k (.hdl x) M3) kx)) kx
theorem CE.makeStar (F : MkD X.prog X.w X.K X.mg X.base j C nm dds R) (hr : Room l X.A) (hl : j + 1 ≤ l) (ha : CE X e wa) (hg : Gl X nm := by rfl) (hdb : (nm == ("__debug__" : Str)) = false := by decide)
    (hst : starEach [.Starred e q] X.env = [(true, eval e X.env)] := by rfl) : CE X (.Call (.Name nm p) [.Starred e q] [] pos) (wMakeStar R C dds wa) :=
  ⟨fun {Γ M k kx} h => ge_perm (ge_makeStar F hr hl (GE.mono (ha.run h) (fun d M1 ⟨ds, g⟩ => ⟨ds, g.h, fun x => Hand.perm fr1 (g.g x)⟩) fun _ _ _ z => z) hg hdb hst)⟩
end
end PD

set_option Elab.async false
set_option linter.all false
set_option maxRecDepth 100000
set_option maxHeartbeats 4000000
/-! PW: o.m(x=.., y=..). -/
namespace PD
open PySem L2 PyProof.Rows
open Evl (Ex ex_rd ex_l ex_t)
section
variable {X : Cx} {o : Expr} {kws : List Keyword} {wo : WpE} {wks : WpA} {m : Str} {j l : Nat} {C : Addr} {dds : List D} {R : RSp} {ks : List Str} {sel : List (Nat × Nat)} {pos apos : Pos}
def wMethK0 (R : RSp) (C : Addr) (m : Str) (n : Nat) (sel : List (Nat × Nat)) (dds : List D) (o : WpE) (as : WpA) : WpE := fun Γ M k kx => o Γ M (fun d M1 => HI M1 d C fun fs _ => Sd (m ∉ fs) (as Γ M1 (fun zs M2 => Sd (zs.length = n) (∃ kk, CallOk R kk (selL sel [d] dds zs) M2 k kx)) kx)) kx
theorem CE.methK0 {pl : Sem Bool} (F : MtK X.prog X.w X.K X.mg X.base j C m 1 ks sel dds R) (hr : Room l X.A) (hl : j ≤ l) (ho : CE X o wo) (hk : CK X kws wks) (hall : (backToKw pos (keywordEach kws X.env)).all (·.1.isSome) = true := by rfl) (hks : (backToKw pos (keywordEach kws X.env)).filterMap (·.1) = ks := by rfl)
    (hpl : ((backTo pos (starEach [] X.env)).any (·.1) || (backToKw pos (keywordEach kws X.env)).any (·.1.isNone)) = false := by rfl)
    (ht : eval (.Call (.Attribute o m apos) [] kws pos) X.env = (do
      let ov ← eval o X.env
      standAt apos.atName
      let (f, first) ← holding [ov] (getMethod ov m pl)
      callWith pos f first (backTo pos (starEach [] X.env)) (backToKw pos (keywordEach kws X.env))) := by rfl) : CE X (.Call (.Attribute o m apos) [] kws pos) (wMethK0 R C m ks.length sel dds wo wks) :=
  ⟨fun q => ge_methK0 (pl := pl) F hr hl (GE.mono (ho.run q) (fun _ _ ⟨fs, ds, e, g⟩ => ⟨fs, ds, e, g.h, GK.mono (hk.run g.g) (fun zs M2 z => ⟨z.h, z.g⟩) fun _ _ _ z => z⟩) fun _ _ _ z => z) hall hks hpl ht⟩
end
end PD

set_option Elab.async false
set_option linter.all false
set_option maxRecDepth 100000
set_option maxHeartbeats 4000000
/-! PW: f-strings, str(x), code that is not reached. -/
namespace PD
open PySem L2 PyProof.Rows
section
variable {X : Cx} {a e : Expr} {es : List Expr} {st : Stmt} {wa : WpE} {pos p : Pos} {nm : Str}
/-- {x} of an f-string -/
def wFmt (a : WpE) : WpE := fun Γ M k kx => a Γ M (fun x M1 => match x with
  | .str s => Sd (s.length ≤ 16777216) (k (.str s) M1)
  | .int i => Sd (i.natAbs.log2 < 1920) (k (.str (toString i)) M1)
  | _ => False) kx
theorem CE.fmt (ha : CE X a wa) : CE X (.FormattedValue a (-1) none pos) (wFmt wa) := ⟨fun {Γ M k kx} q S σ hM hE W tk hW Q hQ =>
  of_pe (pe_fmt we) (ha.run q S σ hM hE W tk hW _ fun d M1 S1 v h1 hM1 g1 r1 => by
    cases d <;> first | exact h1.elim | skip
    · rename_i i
      cases r1
      exact .inr ⟨i, rfl, h1.h, hQ (.str (toString i)) M1 S1 _ h1.g hM1 g1 rfl⟩
    · rename_i s
      cases r1
      exact .inl ⟨s, rfl, h1.h, hQ (.str s) M1 S1 _ h1.g hM1 g1 rfl⟩)⟩
/-- parts of an f-string -/
abbrev WpJ := En → Ms → Str → (Str → Ms → Prop) → KX → Prop
structure CJ (X : Cx) (es : List Expr) (w : WpJ) : Prop where
  run : ∀ {Γ M acc k kx}, w Γ M acc k kx → GJ X Γ kx M es acc k
def wJ0 : WpJ := fun _ M acc k _ => k acc M
def wJ1 (a : WpE) (r : WpJ) : WpJ := fun Γ M acc k kx => a Γ M (fun d M1 => match d with
  | .str y => Sd ((acc ++ y).length ≤ 16777216) (r Γ M1 (acc ++ y) k kx)
  | _ => False) kx
theorem CJ.nil : CJ X [] wJ0 := ⟨fun h => h⟩
theorem CJ.cons {r : WpJ} (ha : CE X a wa) (hr : CJ X es r) : CJ X (a :: es) (wJ1 wa r) := ⟨fun h => GE.mono (ha.run h) (fun d M1 h1 => by
  cases d <;> first | exact h1.elim | exact ⟨_, rfl, h1.h, hr.run h1.g⟩) fun _ _ _ z => z⟩
def wFs (r : WpJ) : WpE := fun Γ M k kx => r Γ M Str.empty (fun s M1 => k (.str s) M1) kx
theorem CE.fs {v1 v2 : Expr} {rest : List Expr} {r : WpJ} (h : CJ X (v1 :: v2 :: rest) r) : CE X (.JoinedStr (v1 :: v2 :: rest) pos) (wFs r) := ⟨fun q => ge_fstr (h.run q)⟩
/-- str(x) -/
def oStr : D → Ms → KD → Prop
  | .str s, M, k => k (.str s) M
  | .int i, M, k => Sd (i.natAbs.log2 < 1920) (k (.str (toString i)) M)
  | _, _, _ => False
def rStrX : List V → Hp → VK → Prop := fun xs H Q => (∃ i, xs = [.int i] ∧ i.natAbs.log2 < 1920 ∧ Q (.str (toString i)) H) ∨ (∃ a, xs = [.str a] ∧ Q (.str a) H)
theorem call_strX {X : Cx} : CallR X (.type "str") rStrX := fun pins s σ H xs us Q I r h => by
  rcases h with h | h
  · exact call_str_int pins s σ H xs us Q I r h
  · exact SkE.call_str_str pins s σ H xs us Q I r h
theorem oStr_ok {K : PySem.W.Frag} {x : D} {M : Ms} {k : KD} (h : oStr x M k) : CallD K rStrX [x] M k := by
  cases x with
  | int i => exact call_flat (v := .str (toString i)) (fun S vs hM rv Q q => by
      obtain ⟨v, rfl, r1⟩ := rep1 rv
      cases r1
      exact .inl ⟨i, rfl, h.h, q⟩) h.g
  | str s => exact call_flat (v := .str s) (fun S vs hM rv Q q => by
      obtain ⟨v, rfl, r1⟩ := rep1 rv
      cases r1
      exact .inr ⟨s, rfl, q⟩) h
  | _ => exact h.elim
/-- isinstance(a, (T1, T2)) -/
theorem CE.isi2 {nm1 nm2 : Str} {T1 T2 : String} {j : Nat} {ptup p1 p2 : Pos} (hm : X.mg "isinstance" = none) (m1 : X.mg nm1 = none) (v1 : bootBuiltins nm1 = some (.type T1)) (m2 : X.mg nm2 = none) (v2 : bootBuiltins nm2 = some (.type T2)) (ha : CE X a wa) (g0 : Gl X "isinstance" := by rfl) (g1 : Gl X nm1 := by rfl) (g2 : Gl X nm2 := by rfl) (n1' : nm1 ≠ "__name__" := by decide) (n2' : nm2 ≠ "__name__" := by decide) (d1 : (nm1 == ("__debug__" : Str)) = false := by decide) (d2 : (nm2 == ("__debug__" : Str)) = false := by decide)
    (he : starEach [a, .Tuple [.Name nm1 p1, .Name nm2 p2] j ptup] X.env = (false, eval a X.env) :: starEach [.Tuple [.Name nm1 p1, .Name nm2 p2] j ptup] X.env := by rfl) (hpl : (backTo pos (starEach [.Tuple [.Name nm1 p1, .Name nm2 p2] j ptup] X.env)).any (·.1) = false := by rfl)
    (he2 : starEach [.Tuple [.Name nm1 p1, .Name nm2 p2] j ptup] X.env = (false, eval (.Tuple [.Name nm1 p1, .Name nm2 p2] j ptup) X.env) :: starEach [] X.env := by rfl) (he3 : starEach [.Name nm1 p1, .Name nm2 p2] X.env = (false, eval (.Name nm1 p1) X.env) :: starEach [.Name nm2 p2] X.env := by rfl) (he4 : starEach [.Name nm2 p2] X.env = (false, eval (.Name nm2 p2) X.env) :: starEach [] X.env := by rfl) :
    CE X (.Call (.Name "isinstance" p) [a, .Tuple [.Name nm1 p1, .Name nm2 p2] j ptup] [] pos) (w1 (oIsi2 T1 T2) wa) :=
  ⟨fun q => ge_isiT2 hm m1 v1 m2 v2 (GE.mono (ha.run q) (fun _ _ ⟨t, b1, b2, g⟩ => ⟨t, b1, b2, g.h.1, g.h.2.1, g.h.2.2, g.g⟩) fun _ _ _ z => z) g0 g1 g2 n1' n2' d1 d2 he hpl he2 he3 he4⟩
/-- what is not reached -/
def eDead : WpE := fun _ _ _ _ => False
def sDead : WpS := fun _ _ _ => False
theorem CE.dead : CE X e eDead := ⟨fun h => h.elim⟩
theorem CS.dead : CS X st sDead := ⟨fun h => h.elim⟩
end
end PD

set_option Elab.async false
set_option linter.all false
set_option maxRecDepth 100000
set_option maxHeartbeats 4000000
/-! PW: s.split(y), s.partition(y), xs.insert(i, y). -/
namespace PD
open PySem L2 PyProof.Rows
section
variable {X : Cx} {o a b : Expr} {wo wa wb : WpE} {apos cpos : Pos}
theorem tyD_str {K : PySem.W.Frag} {s : Str} {M : Ms} : TyD K "str" (.str s) M := fun S v _ r => by cases r; exact rfl
/-- s.split(y): a list that is not changed -/
def wSplit (o a : WpE) : WpE := fun Γ M k kx => o Γ M (fun x M1 => match x with
  | .str s => a Γ M1 (fun y M2 => match y with
    | .str t => Sd ((t.length == 0) = false ∧ s.length ≤ 16000000) (k (.lst ((Txt.split s t).map D.str)) M2)
    | _ => False) kx
  | _ => False) kx
/-- .. that may change -/
def wSplitM (o a : WpE) : WpE := fun Γ M k kx => o Γ M (fun x M1 => match x with
  | .str s => a Γ M1 (fun y M2 => match y with
    | .str t => Sd ((t.length == 0) = false ∧ s.length ≤ 16000000) (∀ p, k (.hdl p) ((p, .lst ((Txt.split s t).map D.str)) :: M2))
    | _ => False) kx
  | _ => False) kx
theorem CE.split (ho : CE X o wo) (ha : CE X a wa) (hbase : attributeBase o "split" X.env (eval o X.env) = eval o X.env := by rfl)
    (hfew : ((backTo cpos (starEach (a :: []) X.env)).all (fun x => !x.1) && (backToKw cpos (keywordEach [] X.env)).all (fun x => x.1.isSome)
      && decide ((a :: []).length + ([] : List Keyword).length + (if ([] : List Keyword).isEmpty then 0 else 1) < 30)) = true := by rfl)
    (hline : (apos.endLine == cpos.line) = true := by rfl) (hs : starEach (a :: []) X.env = (false, eval a X.env) :: starEach [] X.env := by rfl) (hplain : (backTo cpos (starEach [] X.env)).any (·.1) = false := by rfl) :
    CE X (.Call (.Attribute o "split" apos) [a] [] cpos) (wSplit wo wa) :=
  ⟨fun q => ge_bm PySem.F.plainAttrs_str PySem.F.slot_str_split PySem.F.type_str_split mt_split (GE.mono (ho.run q) (fun x M1 h1 => by
    cases x <;> first | exact h1.elim | skip
    rename_i s
    refine ⟨tyD_str, ga_cons (GE.mono (ha.run h1) (fun y M2 h2 => by
      cases y <;> first | exact h2.elim | skip
      rename_i t
      refine ga_nil fun S vx vs hM rx rv Q hQ => ?_
      cases rx
      obtain ⟨v, rfl, ru⟩ := rep1 rv
      cases ru
      exact ⟨s, t, rfl, rfl, h2.h.1, by have := h2.h.2; show s.length + 2 ≤ 16777216; omega, fun p hp => by
        obtain ⟨hM2, g2⟩ := new_z (o := .lst ((Txt.split s t).map V.str)) hM hp
        exact hQ _ _ ⟨S.as, upd S.Z p _, upd S.H p _⟩ (.ref p) h2.g hM2 g2 ⟨p, _, rfl, upd_same, repl_strs _⟩⟩) fun _ _ _ z => z) hs⟩) fun _ _ _ z => z) hbase hfew hline hs hplain⟩
theorem CE.splitM (ho : CE X o wo) (ha : CE X a wa) (hbase : attributeBase o "split" X.env (eval o X.env) = eval o X.env := by rfl)
    (hfew : ((backTo cpos (starEach (a :: []) X.env)).all (fun x => !x.1) && (backToKw cpos (keywordEach [] X.env)).all (fun x => x.1.isSome)
      && decide ((a :: []).length + ([] : List Keyword).length + (if ([] : List Keyword).isEmpty then 0 else 1) < 30)) = true := by rfl)
    (hline : (apos.endLine == cpos.line) = true := by rfl) (hs : starEach (a :: []) X.env = (false, eval a X.env) :: starEach [] X.env := by rfl) (hplain : (backTo cpos (starEach [] X.env)).any (·.1) = false := by rfl) :
    CE X (.Call (.Attribute o "split" apos) [a] [] cpos) (wSplitM wo wa) :=
  ⟨fun {Γ M k kx} q => ge_perm (ge_bm PySem.F.plainAttrs_str PySem.F.slot_str_split PySem.F.type_str_split mt_split (GE.mono (ho.run q) (fun x M1 h1 => by
    cases x <;> first | exact h1.elim | skip
    rename_i s
    refine ⟨tyD_str, ga_cons (GE.mono (ha.run h1) (fun y M2 h2 => by
      cases y <;> first | exact h2.elim | skip
      rename_i t
      refine ga_nil fun S vx vs hM rx rv Q hQ => ?_
      cases rx
      obtain ⟨v, rfl, ru⟩ := rep1 rv
      cases ru
      exact ⟨s, t, rfl, rfl, h2.h.1, by have := h2.h.2; show s.length + 2 ≤ 16777216; omega, fun p hp => by
        obtain ⟨hM2, g2⟩ := new_m (o := .lst ((Txt.split s t).map V.str)) (m := .lst ((Txt.split s t).map D.str)) hM hp (fun g => ⟨hM.zh.none hp, _, upd_same, repl_strs _⟩)
        exact hQ _ _ ⟨S.as ++ [p], S.Z, upd S.H p _⟩ (.ref p) ⟨_, fr1, h2.g p⟩ hM2 g2 rfl⟩) fun _ _ _ z => z) hs⟩) fun _ _ _ z => z) hbase hfew hline hs hplain)⟩
/-- s.partition(y) -/
def wParti (o a : WpE) : WpE := fun Γ M k kx => o Γ M (fun x M1 => match x with
  | .str s => a Γ M1 (fun y M2 => match y with
    | .str t => Sd ((t.length == 0) = false ∧ s.length ≤ 16000000) (k (.tup [.str (Txt.partition s t).1, .str (Txt.partition s t).2.1, .str (Txt.partition s t).2.2]) M2)
    | _ => False) kx
  | _ => False) kx
theorem CE.parti (ho : CE X o wo) (ha : CE X a wa) (hbase : attributeBase o "partition" X.env (eval o X.env) = eval o X.env := by rfl)
    (hfew : ((backTo cpos (starEach (a :: []) X.env)).all (fun x => !x.1) && (backToKw cpos (keywordEach [] X.env)).all (fun x => x.1.isSome)
      && decide ((a :: []).length + ([] : List Keyword).length + (if ([] : List Keyword).isEmpty then 0 else 1) < 30)) = true := by rfl)
    (hline : (apos.endLine == cpos.line) = true := by rfl) (hs : starEach (a :: []) X.env = (false, eval a X.env) :: starEach [] X.env := by rfl) (hplain : (backTo cpos (starEach [] X.env)).any (·.1) = false := by rfl) :
    CE X (.Call (.Attribute o "partition" apos) [a] [] cpos) (wParti wo wa) :=
  ⟨fun q => ge_bm PySem.F.plainAttrs_str PySem.F.slot_str_partition PySem.F.type_str_partition mt_partition (GE.mono (ho.run q) (fun x M1 h1 => by
    cases x <;> first | exact h1.elim | skip
    rename_i s
    refine ⟨tyD_str, ga_cons (GE.mono (ha.run h1) (fun y M2 h2 => by
      cases y <;> first | exact h2.elim | skip
      rename_i t
      refine ga_nil fun S vx vs hM rx rv Q hQ => ?_
      cases rx
      obtain ⟨v, rfl, ru⟩ := rep1 rv
      cases ru
      exact ⟨s, t, rfl, rfl, h2.h.1, by have := h2.h.2; show s.length ≤ 16777216; omega, fun p hp => by
        obtain ⟨hM2, g2⟩ := new_z (o := .tup [.str (Txt.partition s t).1, .str (Txt.partition s t).2.1, .str (Txt.partition s t).2.2]) hM hp
        exact hQ _ _ ⟨S.as, upd S.Z p _, upd S.H p _⟩ (.ref p) h2.g hM2 g2 ⟨p, _, rfl, .inl (.inl upd_same), repl_strs [_, _, _]⟩⟩) fun _ _ _ z => z) hs⟩) fun _ _ _ z => z) hbase hfew hline hs hplain⟩
end
end PD

set_option Elab.async false
set_option linter.all false
set_option maxRecDepth 100000
set_option maxHeartbeats 4000000
/-! PW: x, *rest = e. -/
namespace PD
open PySem L2 PyProof.Rows PySem.Calls PySem.Spec
section
variable {prog : Program} {w : World} {A : Around} {E : Value → Shared → Prop} {s : Shared}
theorem star2 {l : Addr} {v : Value} {rest : List Value} {Q : List Value → Shared → Prop} (hl : s.heap.IsList l (v :: rest).toArray) (hh : A.handled = none) (hz : rest.length ≤ 16000)
    (h : ∀ (h' : Heap) (tk : Nat), (∀ b o, s.heap.get? b = some o → h'.get? b = some o) → Q [v, .ref h'.objs.size] { s with heap := h'.push { cls := .type "list", data := .seq rest.toArray }, toks := tk }) :
    wpAny (model prog w) A (unpackItems (.ref l) 2 (some 1)) Q E s := by
  have hin : ∃ o, s.heap.get? l = some o := by obtain ⟨o, ho, _⟩ := hl; exact ⟨o, ho⟩
  obtain ⟨o0, ho0⟩ := hin
  have hlt := Heap.lt_size ho0
  have hne : l ≠ s.heap.objs.size := Nat.ne_of_lt hlt
  have hsz : (v :: rest).toArray.size = rest.length + 1 := by simp
  unfold unpackItems notIterableAtAll
  refine wpAny_bind (wpAny_bind (wpAny_specialOf hl.typeIs slot_list_iter.lookup (wpAny_pure ?_)))
  simp only [Bool.false_eq_true, if_false]
  refine wpAny_bind (wpAny_holding (wpAny_pyIter_list hl ?_))
  refine wpAny_bind (wpAny_holding (PySem.W.kun_draw hne 1 0 _ _ ⟨_, Heap.get?_push_size _ rfl, rfl, rfl⟩ (hl.push _) (by rw [hsz]; omega) fun h1 it1 sb1 => ?_))
  have hl1 : h1.IsList l (v :: rest).toArray := (hl.push _).extBut sb1.extBut hne
  obtain ⟨oi, hoi, _⟩ := id it1
  obtain ⟨ol, hol, _⟩ := id hl1
  have e1 : (((v :: rest).toArray.toList.drop 0).take 1) = [v] := rfl
  rw [e1]
  show wpAny _ _ (if [v].length < 1 then _ else _) _ _ _
  rw [if_neg (by simp)]
  refine wpAny_bind (wpAny_holding (PySem.W.kun_collect (s := { s with heap := h1 }) (T := "list_iterator") (.inr (.inr (.inl rfl))) (Walks.list (A := A.in1) hh s.heap.objs.size l hne (v :: rest).toArray) (fun j u st => st.1.typeIs) (k := 1) (by rw [hsz]; omega) ⟨it1, hl1⟩ (Heap.lt_size hoi) (Heap.lt_size hol) (fun h2 tk kp => ?_) (by rw [hsz, sizeLine_eq]; omega)))
  have e2 : (v :: rest).toArray.toList.drop 1 = rest := rfl
  rw [e2]
  show wpAny _ _ (if rest.length < 0 then _ else _) _ _ _
  rw [if_neg (Nat.not_lt_zero _)]
  show wpAny _ _ (newList (rest.take rest.length) >>= fun d => pure ([v] ++ [d] ++ rest.drop rest.length)) _ _ _
  rw [List.take_length, List.drop_length]
  refine wpAny_bind (wpAny_newList ?_ (by rw [sizeLine_eq]; omega))
  refine wpAny_pure ?_
  exact h h2 tk fun b o e => kp b o (Nat.ne_of_lt (Heap.lt_size e)) (sb1.extBut b o (Nat.ne_of_lt (Heap.lt_size e)) (Heap.get?_push_of_some _ e))
end
section
variable {X : Cx} {Γ : En} {M : Ms} {hd tl e : Expr} {kt : Nat} {p pt pos : Pos} {E : ED}
theorem gs_unstar (hc : X.calm = true) (h : GE X Γ M e (fun d M1 => ∃ (x : D) (rest : List D), d = .lst (x :: rest) ∧ rest.length ≤ 16000 ∧ GGs X Γ M1 [hd, tl] [x, .lst rest] fun Γ1 => E.nx Γ1 M1) (fun c f M1 => E.ex c f Γ M1))
    (e1 : (assignEach [hd, .Starred tl p] X.env).map (·.2) = (assignEach [hd, tl] X.env).map (·.2) := by rfl) (e2 : (assignEach [hd, .Starred tl p] X.env).findIdx? (·.1) = some 1 := by rfl) (e3 : (assignEach [hd, .Starred tl p] X.env).length = 2 := by rfl)
    (hs : swapsWithSole [.Tuple [hd, .Starred tl p] kt pt] e pos.line X.env = pure false := by rfl) (hw : swappedStores [.Tuple [hd, .Starred tl p] kt pt] e X.env = pure none := by rfl)
    (h1 : (assignEach [.Tuple [hd, .Starred tl p] kt pt] X.env).map (·.2) = [assign (.Tuple [hd, .Starred tl p] kt pt) X.env] := by rfl) : GS X Γ M (.Assign [.Tuple [hd, .Starred tl p] kt pt] e pos) E := fun S σ hM hE W tk De L =>
  of_ps (ps_asg we wg hs hw h1) (h S σ hM hE W tk (L.kw hE) _ fun d M1 S1 v ⟨x, rest, ed, hl, hk⟩ hM1 g1 r1 => by
    subst ed
    intro pins s u I r
    obtain ⟨a, xs, rfl, hz, rr⟩ := r1
    cases r
    obtain ⟨its, rv, pl, hsz⟩ := I.list (SqL.of (hM1.zh _ _ hz))
    have rr0 := rr
    obtain ⟨xv, xr, exs, rx, rxr⟩ : ∃ xv xr, xs = xv :: xr ∧ Rep X.K S1 x xv ∧ RepL X.K S1 rest xr := by
      obtain ⟨x1, x2, q, a1, a2⟩ := rr
      exact ⟨x1, x2, q, a1, a2⟩
    subst exs
    cases rv with
    | cons ru rus =>
      rename_i u0 us
      have lr : us.length = rest.length := by rw [← rus.length, rxr.len]
      rw [assign_Tuple]
      refine wpAny_bind (wpAny_standAt ?_)
      unfold unpack
      rw [e3, e2, e1]
      refine wpAny_bind (wpAny_holding (star2 pl.isList (I.ok.hd hc) (by omega) fun h' tk kp => ?_))
      have I1 : Inv X pins σ S1.H { s with heap := h', toks := tk } := I.kept kp
      have hp := I1.hok.fresh (Nat.le_refl _)
      have I2 : Inv X pins σ (upd S1.H h'.objs.size (.lst xr)) { s with heap := h'.push { cls := .type "list", data := .seq us.toArray }, toks := tk } :=
        I1.laid (t' := tk) (fun b u q => Heap.get?_push_of_some _ q) (Nat.le_refl _) ⟨by rw [rxr.len]; show _ ≤ 16777216; omega, us, _, rus, Heap.get?_push_size _ rfl⟩
      obtain ⟨hM2, g2⟩ := new_z (o := .lst xr) hM1 hp
      exact hk ⟨S1.as, upd S1.Z h'.objs.size (.lst xr), upd S1.H h'.objs.size (.lst xr)⟩ σ hM2 ((hE.grow g1).grow g2) [xv, .ref h'.objs.size] (.cons (rx.grow g2) (.one ⟨_, _, rfl, upd_same, rxr.grow g2⟩)) _ (fun Γ' σ' q hE' => L.nx _ M1 _ _ q hM2 (g1.trans g2) hE') pins _ [u0, .ref h'.objs.size] I2 (.cons ru (.cons rfl .nil)))
end
/-- x, *rest = e -/
def wUnstar (r : En → List D → (En → Prop) → Prop) (a : WpE) : WpS := fun Γ M E => a Γ M (fun d M1 => ∃ x rest, Sd (d = .lst (x :: rest) ∧ rest.length ≤ 16000) (r Γ [x, .lst rest] fun Γ1 => E.nx Γ1 M1)) (exE E Γ)
theorem CS.unstar {X : Cx} {hd tl e : Expr} {wa : WpE} {r : En → List D → (En → Prop) → Prop} {kt : Nat} {p pt pos : Pos} (hc : X.calm = true) (ha : CE X e wa) (h : CTs X [hd, tl] r)
    (e1 : (assignEach [hd, .Starred tl p] X.env).map (·.2) = (assignEach [hd, tl] X.env).map (·.2) := by rfl) (e2 : (assignEach [hd, .Starred tl p] X.env).findIdx? (·.1) = some 1 := by rfl) (e3 : (assignEach [hd, .Starred tl p] X.env).length = 2 := by rfl)
    (hs : swapsWithSole [.Tuple [hd, .Starred tl p] kt pt] e pos.line X.env = pure false := by rfl) (hw : swappedStores [.Tuple [hd, .Starred tl p] kt pt] e X.env = pure none := by rfl)
    (h1 : (assignEach [.Tuple [hd, .Starred tl p] kt pt] X.env).map (·.2) = [assign (.Tuple [hd, .Starred tl p] kt pt) X.env] := by rfl) : CS X (.Assign [.Tuple [hd, .Starred tl p] kt pt] e pos) (wUnstar r wa) :=
  ⟨fun q => gs_unstar hc (GE.mono (ha.run q) (fun _ _ ⟨x, rest, g⟩ => ⟨x, rest, g.h.1, g.h.2, h.run g.g⟩) fun _ _ _ z => z) e1 e2 e3 hs hw h1⟩
/-! ### xs.insert(i, y) -/
section
variable {X : Cx} {Γ : En} {M : Ms} {o e f : Expr} {k : KD} {kx : KX} {p apos : Pos} {wo we' wf : WpE}
theorem ge_ins (h : GE X Γ M o (fun x M1 => (∃ (q : Nat) (a : Addr) (ds : List D), x = .hdl a ∧ M1[q]? = some (a, MO.lst ds)) ∧ GA X Γ M1 [e, f] (fun ys M2 => ∃ (q : Nat) (a : Addr) (ds : List D) (i : Int) (d : D), x = .hdl a ∧ M2[q]? = some (a, MO.lst ds) ∧ ys = [.int i, d] ∧ 0 ≤ i ∧ i < 2 ^ 63 ∧ ds.length < 16777216 ∧ k .non (M2.set q (a, .lst (ds.take i.toNat ++ [d] ++ ds.drop i.toNat)))) kx) kx)
    (hbase : attributeBase o "insert" X.env (eval o X.env) = eval o X.env := by rfl)
    (hfew : ((backTo p (starEach [e, f] X.env)).all (fun x => !x.1) && (backToKw p (keywordEach [] X.env)).all (fun x => x.1.isSome) && decide ([e, f].length + ([] : List Keyword).length + (if ([] : List Keyword).isEmpty then 0 else 1) < 30)) = true := by rfl)
    (hline : (apos.endLine == p.line) = true := by rfl) (hs : starEach [e, f] X.env = (false, eval e X.env) :: starEach [f] X.env := by rfl) (hplain : (backTo p (starEach [f] X.env)).any (·.1) = false := by rfl) :
    GE X Γ M (.Call (.Attribute o "insert" apos) [e, f] [] p) k kx := fun S σ hM hE W tk hW Q hQ =>
  of_pe (pe_bm PySem.F.plainAttrs_list PySem.F.slot_list_insert PySem.F.type_list_insert mt_insert we wa hbase hfew hline hs hplain) (h S σ hM hE W tk hW _ fun x M1 S1 vx ⟨⟨q0, a0, ds0, ex0, hq0⟩, hk⟩ hM1 g1 rx => by
    subst ex0
    cases rx
    obtain ⟨_, xs0, hh0, _⟩ := hM1.at hq0
    refine ⟨.inl ⟨rfl, _, SqL.of hh0⟩, hk S1 σ hM1 (hE.grow g1) W tk (hW.grow g1) _ fun ys M2 S2 vs ⟨q, a, ds, i, d, ex, hq, ey, h0, h63, hlen, hk2⟩ hM2 g2 ry => ?_⟩
    cases ex
    subst ey
    obtain ⟨v1, v2, rfl, r1, r2⟩ := rep2 ry
    cases r1
    obtain ⟨hz, xs, hh, rr⟩ := hM2.at hq
    refine ⟨a0, xs, i, v2, rfl, rfl, hh, by rw [rr.len]; exact hlen, h0, h63, ?_⟩
    obtain ⟨hM3, g3⟩ := set_m (o := .lst (xs.take i.toNat ++ [v2] ++ xs.drop i.toNat)) (m := .lst (ds.take i.toNat ++ [d] ++ ds.drop i.toNat)) hM2 hq hz (fun g => ⟨hz, _, upd_same, ((((rr.grow g).take _).app (.one (r2.grow g))).app ((rr.grow g).drop _))⟩)
    exact hQ .non _ ⟨S2.as, S2.Z, upd S2.H a0 _⟩ .non hk2 hM3 (g1.trans (g2.trans g3)) rfl)
def wIns (o a b : WpE) : WpE := fun Γ M k kx => o Γ M (fun x M1 => match x with
  | .hdl h => HL M1 h fun _ _ => a Γ M1 (fun y M2 => b Γ M2 (fun z M3 => match y with
    | .int i => HL M3 h fun q ds => Sd (0 ≤ i ∧ i < 9223372036854775808 ∧ ds.length < 16777216) (setM M3 q (h, .lst (ds.take i.toNat ++ [z] ++ ds.drop i.toNat)) fun M4 => k .non M4)
    | _ => False) kx) kx
  | _ => False) kx
theorem CE.ins (ho : CE X o wo) (ha : CE X e we') (hb : CE X f wf) (hbase : attributeBase o "insert" X.env (eval o X.env) = eval o X.env := by rfl)
    (hfew : ((backTo p (starEach [e, f] X.env)).all (fun x => !x.1) && (backToKw p (keywordEach [] X.env)).all (fun x => x.1.isSome) && decide ([e, f].length + ([] : List Keyword).length + (if ([] : List Keyword).isEmpty then 0 else 1) < 30)) = true := by rfl)
    (hline : (apos.endLine == p.line) = true := by rfl) (hs : starEach [e, f] X.env = (false, eval e X.env) :: starEach [f] X.env := by rfl) (hs2 : starEach [f] X.env = (false, eval f X.env) :: starEach [] X.env := by rfl) (hplain : (backTo p (starEach [f] X.env)).any (·.1) = false := by rfl) :
    CE X (.Call (.Attribute o "insert" apos) [e, f] [] p) (wIns wo we' wf) :=
  ⟨fun q => ge_ins (GE.mono (ho.run q) (fun x M1 h1 => by
    cases x <;> first | exact h1.elim | skip
    obtain ⟨p1, ds1, e1, g1⟩ := h1
    exact ⟨⟨p1, _, ds1, rfl, e1⟩, ga_cons (GE.mono (ha.run g1) (fun y M2 h2 => ga_cons (GE.mono (hb.run h2) (fun z M3 h3 => by
      cases y <;> first | exact h3.elim | skip
      obtain ⟨p2, ds2, e2, g2⟩ := h3
      exact ga_nil ⟨p2, _, ds2, _, z, rfl, e2, rfl, g2.h.1, g2.h.2.1, g2.h.2.2, setM_eq.mp g2.g⟩) fun _ _ _ z => z) hs2) fun _ _ _ z => z) hs⟩) fun _ _ _ z => z) hbase hfew hline hs hplain⟩
end
end PD

set_option Elab.async false
set_option linter.all false
set_option maxRecDepth 100000
set_option maxHeartbeats 4000000
/-! PW: the set of the texts of a list or a tuple, alike or not; its size. -/
namespace PU
open PySem PySem.Spec PyProof.Rows
section
variable {prog : Program} {w : World} {A : Around} {R : Result → Shared → Prop} {I S : Addr} {fp wr : List Addr} {G : Array GenState → Array GenState → Prop} {n : Nat} {P : Nat → Value → Prop} {St : Nat → Shared → Prop} {xs : List Str}
/-- the unlike ones, in the sequence of their first places -/
def dst (xs : List Str) : List Str := xs.foldl (fun acc y => if y ∈ acc then acc else acc ++ [y]) []
theorem dst_snoc (xs : List Str) (y : Str) : dst (xs ++ [y]) = if y ∈ dst xs then dst xs else dst xs ++ [y] := by
  unfold dst
  rw [List.foldl_append]
  rfl
theorem dst_len (xs : List Str) : (dst xs).length ≤ xs.length := by
  have key : ∀ (xs acc : List Str), (xs.foldl (fun acc y => if y ∈ acc then acc else acc ++ [y]) acc).length ≤ acc.length + xs.length := by
    intro xs
    induction xs with
    | nil => intro acc; simp
    | cons x xs ih =>
      intro acc
      rw [List.foldl_cons]
      refine Nat.le_trans (ih _) ?_
      split <;> simp <;> omega
  have := key xs []
  simp only [List.length_nil, Nat.zero_add] at this
  exact this
theorem snoc_ind {P : List Str → Prop} (h0 : P []) (h1 : ∀ xs x, P xs → P (xs ++ [x])) (xs : List Str) : P xs := by
  have key : ∀ ys : List Str, P ys.reverse := by
    intro ys
    induction ys with
    | nil => exact h0
    | cons y ys ih => rw [List.reverse_cons]; exact h1 _ _ ih
  have := key xs.reverse
  rwa [List.reverse_reverse] at this
theorem dst_both (xs : List Str) : (∀ z, z ∈ dst xs ↔ z ∈ xs) ∧ (xs.Nodup → dst xs = xs) ∧ (¬ xs.Nodup → (dst xs).length < xs.length) := by
  refine snoc_ind (P := fun xs => (∀ z, z ∈ dst xs ↔ z ∈ xs) ∧ (xs.Nodup → dst xs = xs) ∧ (¬ xs.Nodup → (dst xs).length < xs.length)) (by simp [dst]) (fun xs x ih => ?_) xs
  · obtain ⟨i1, i2, i3⟩ := ih
    rw [dst_snoc]
    have ndi : (xs ++ [x]).Nodup ↔ xs.Nodup ∧ x ∉ xs := by
      rw [List.nodup_append]
      simp
      intro _
      constructor
      · intro h m; exact h x m rfl
      · intro h a m e; exact h (e ▸ m)
    refine ⟨fun z => ?_, fun nd => ?_, fun nn => ?_⟩
    · split
      · rename_i hx
        rw [i1]
        constructor
        · intro h; exact List.mem_append_left _ h
        · intro h
          rcases List.mem_append.mp h with h | h
          · exact h
          · rw [List.mem_singleton.mp h]; exact (i1 x).mp hx
      · simp [i1]
    · obtain ⟨n1, n2⟩ := ndi.mp nd
      rw [if_neg (fun h => n2 ((i1 x).mp h)), i2 n1]
    · split
      · have := dst_len xs
        simp; omega
      · rename_i hx
        have : ¬ xs.Nodup := fun h => nn (ndi.mpr ⟨h, fun m => hx ((i1 x).mpr m)⟩)
        have := i3 this
        simp; omega
abbrev Holds (prog : Program) (w : World) (h : Heap) (S : Addr) (ys : List Str) : Prop := h.SetOf (PySem.strKind prog w) S (fun z => decide (z ∈ ys)) ys.length
theorem Holds.on {h h' : Heap} {ys : List Str} (a : Holds prog w h S ys) (same : ∀ o, h.get? S = some o → h'.get? S = some o) : Holds prog w h' S ys := by
  obtain ⟨o, es, ep, tb, ho, more⟩ := a
  exact ⟨o, es, ep, tb, same o ho, more⟩
theorem Holds.next {h : Heap} {xs : List Str} {y : Str} (a : h.SetOf (PySem.strKind prog w) S (fun z => decide (z ∈ dst xs) || decide (z = y)) (if decide (y ∈ dst xs) = true then (dst xs).length else (dst xs).length + 1)) : Holds prog w h S (dst (xs ++ [y])) := by
  rw [dst_snoc]
  by_cases q : y ∈ dst xs
  · rw [if_pos q]
    exact SetOf_congr a (fun z => by by_cases c : z = y <;> simp [c, q]) (by simp [q])
  · rw [if_neg q]
    exact SetOf_congr a (fun z => by by_cases c : z = y <;> simp [c]) (by simp [q])
/-- the loop that puts the texts in, from the i-th on -/
theorem fill (W : WalksS prog w A.in1 I fp wr G n P St) (apart : S ∉ fp) (len : xs.length = n) (small : n + 1 < scanBound) (told : ∀ i v, P i v → ∃ t, v = .str (xs.getD i Str.empty) t) :
    ∀ (m i : Nat) (s : Shared), i + m = n → St i s → Holds prog w s.heap S (dst (xs.take i)) → (∀ t, Moved (S :: wr) G s t → Holds prog w t.heap S (dst xs) → R (.ok (.ret .none)) t) →
      codeAny (model prog w) A (.builtin "set.update.loop" ⟨[.ref S, .ref I], []⟩) R s := by
  have free : S ∉ wr := fun z => apart (W.sub _ z)
  have wide : ∀ b ∈ wr, b ∈ S :: wr := fun b z => List.mem_cons_of_mem _ z
  intro m
  induction m with
  | zero =>
    intro i s e at' have' fin
    refine codeAny_builtin F.entry_set_update_loop ?_
    rw [Around.under_plainId F.plain_set_update_loop _]
    have ei : i = n := e
    subst ei
    show wpAny _ A.in1 (pyNext (.ref I) >>= _) _ _ s
    refine wpAny_bind (W.done s _ _ at' fun t moved => ?_)
    show wpAny _ A.in1 (ret Value.none) _ _ t
    rw [← len, List.take_length] at have'
    exact wpAny_pure (fin t (moved.mono wide) (have'.on fun o => moved.heap S o free))
  | succ m more =>
    intro i s e at' have' fin
    have il : i < n := by omega
    have ix : i < xs.length := by omega
    refine codeAny_builtin F.entry_set_update_loop ?_
    rw [Around.under_plainId F.plain_set_update_loop _]
    show wpAny _ A.in1 (pyNext (.ref I) >>= _) _ _ s
    refine wpAny_bind (W.item i s _ _ il at' fun v t pv at2 moved => ?_)
    obtain ⟨tk, rfl⟩ := told i v pv
    have y : xs.getD i Str.empty = xs[i] := by rw [List.getD_eq_getElem?_getD, List.getElem?_eq_getElem ix]; rfl
    rw [y]
    have lt : (xs.take i).length = i := by rw [List.length_take]; omega
    have grown : xs.take (i + 1) = xs.take i ++ [xs[i]] := by rw [List.take_add_one, List.getElem?_eq_getElem ix]; rfl
    show wpAny _ A.in1 (holding [Value.str xs[i] tk] (setAdd S (.str xs[i] tk)) >>= _) _ _ t
    refine wpAny_bind (wpAny_holding ?_)
    unfold setAdd
    refine wpAny_holding (wpAny_bind ((PySem.strKind prog w).pyHash (k := xs[i]) (strKind_is _ _ _ _) ?_))
    refine wpAny_setAddHashed_of (knd := PySem.strKind prog w) (s := { t with toks := t.toks + 1 }) (strKind_is _ _ _ _) rfl (have'.on fun o => moved.heap S o free) (by have := dst_len (xs.take i); omega) fun h' same in2 => ?_
    have in3 : Holds prog w h' S (dst (xs.take (i + 1))) := by rw [grown]; exact Holds.next in2
    refine wpAny_pure ⟨plainId_quiet F.plain_set_update_loop _, more (i + 1) _ (by omega) (W.frame _ t _ _ at2 (Nat.le_succ _) fun b hb o eo => ?_) in3 fun t2 moved2 all => fin t2 ?_ all⟩
    · rw [same.2 b fun q : b = S => apart (by rw [← q]; exact hb)]; exact eo
    · refine Moved.trans W.gtrans ((moved.mono wide).then_heap (Nat.le_succ _) fun b o hb eo => ?_) moved2
      rw [same.2 b fun q : b = S => hb (by rw [q]; exact List.mem_cons_self)]; exact eo
end
section
variable {prog : Program} {w : World} {A : Around} {E : Value → Shared → Prop} {s : Shared}
abbrev emptySet (led : Bool) : Obj := { cls := .type "set", dict := none, data := .set #[] 0 (.fresh 0 0 led) }
theorem set_textsG {l : Addr} {us : Array Value} {xs : List Str} {Q : Value → Shared → Prop} (calm : A.handled = none) (ls : s.heap.IsList l us ∨ IsTup s.heap l us) (tx : StrsAre us.toList xs) (small : xs.length + 1 < scanBound)
    (ok : ∀ (h' : Heap) (tk : Nat), Holds prog w h' s.heap.objs.size (dst xs) → (∀ b o, b < s.heap.objs.size → s.heap.get? b = some o → h'.get? b = some o) → Q (.ref s.heap.objs.size) { s with heap := h', toks := tk }) :
    wpAny (model prog w) A (call (.type "set") [.ref l]) Q E s := by
  obtain ⟨c, tl, way⟩ := PySem.F.called_set.mro
  have b1 := PySem.F.called_set.made
  have b2 := PySem.F.called_set.sub
  have b3 := PySem.F.called_set.notType
  have b4 := PySem.F.called_set.canCreate
  have b5 := PySem.F.typeCall_set_1 (.ref l)
  refine wpAny_call (codeAny_of_tree ?_)
  show wpAny _ _ (callAny (.type "set") _) _ _ _
  refine wpAny_pure ⟨Code.quiet_builtin _ (by decide +kernel), codeAny_builtin PySem.F.entry_type_call ?_⟩
  rw [Around.under_plain (weight_type_call_type "set" [.ref l] []) rfl]
  repeat (any_goals (first | assumption | wp_step))
  refine codeAny_mono (code_set_new_1 (.ref l) (E := E) (Q₁ := fun v t => ∃ led : Bool, v = .ref s.heap.objs.size ∧ t = { s with heap := s.heap.push (emptySet led) }) fun led => ⟨led, rfl, rfl⟩) fun r t hr => ?_
  match r, hr with
  | .error e, hr => exact hr
  | .ok .next, hr => exact hr.elim
  | .ok .brk, hr => exact hr.elim
  | .ok .cont, hr => exact hr.elim
  | .ok (.ret v), ⟨led, e1, e2⟩ =>
  subst e1 e2
  have here : (s.heap.push (emptySet led)).get? s.heap.objs.size = some (emptySet led) := Heap.get?_push_size _ rfl
  have kind : Shared.TypeIs { s with heap := s.heap.push (emptySet led) } (.ref s.heap.objs.size) "set" := ⟨_, here, rfl⟩
  have b6 := PySem.F.called_set.init.lookup
  have b7 := PySem.F.called_set.init.bind (.ref s.heap.objs.size)
  repeat (any_goals (first | assumption | wp_step))
  refine codeAny_mono (codeAny_call_builtin (R := wants (fun v t => v = .none ∧ ∃ h' tk, t = { s with heap := h', toks := tk } ∧ Holds prog w h' s.heap.objs.size (dst xs) ∧ ∀ b o, b < s.heap.objs.size → s.heap.get? b = some o → h'.get? b = some o) E)
    PySem.F.called_set.init.plain PySem.F.entry_set_init (check_set_init_1 kind ?_)) fun r t hr => ?_
  · rcases ls with ls | ls
    · obtain ⟨⟨c0, d0, x0, z0⟩, got, ec, k0, ed⟩ := ls
      simp only at ec ed
      subst ec ed
      have lower : l < s.heap.objs.size := Heap.lt_size got
      have got2 := Heap.get?_push_of_some (emptySet led) got
      have isl : (s.heap.push (emptySet led)).IsList l us := ⟨_, got2, rfl, k0, rfl⟩
      have a1 := PySem.F.sub_list_set
      have a2 := PySem.F.sub_list_frozenset
      have a3 : (Value.type "list" == Value.type "dict") = false := by decide
      unfold Builtin.«set.__init__» noKeywords Builtin.Frozenset.updateFrom
      generalize hPI : pyIter = PI
      wp_walk
      subst hPI
      refine wpAny_pyIter_list isl (wpAny_bind (wpAny_runValue ?_))
      have size1 : (s.heap.push (emptySet led)).objs.size = s.heap.objs.size + 1 := Heap.size_push ..
      have off : l ≠ (s.heap.push (emptySet led)).objs.size := by rw [size1]; exact Nat.ne_of_lt (Nat.lt_succ_of_lt lower)
      have calm3 : A.in1.in1.in1.handled = none := by simp [calm]
      have len : xs.length = us.size := by rw [← StrsAre.len_eq tx, Array.length_toList]
      refine fill ((Walks.list calm3 _ l off us).toS) (S := s.heap.objs.size) (by rw [size1]; simp only [List.mem_cons, List.not_mem_nil, or_false, not_or]; exact ⟨Nat.ne_of_lt (Nat.lt_succ_self _), Nat.ne_of_gt lower⟩) len (by omega) (fun i v hv => SS.strs_at tx i v (by rw [Array.getElem?_toList]; exact hv)) us.size 0 _ (by omega)
        ⟨⟨_, Heap.get?_push_size _ rfl, rfl, rfl⟩, isl.push _⟩ ?_ fun t moved all => ?_
      · exact SetOf_congr ((setObjOf_fresh (knd := PySem.strKind prog w) led).setOf (Heap.get?_push_of_some _ here) (by omega)) (fun _ => by simp [dst]) rfl
      · obtain ⟨h', g', d', tk', os'⟩ := t
        obtain rfl : g' = s.gens := moved.gens
        obtain rfl : d' = s.drawn := moved.drawn
        obtain rfl : os' = s.os := moved.os
        show wpAny _ _ _ _ _ _
        refine wpAny_pure ?_
        show wpAny _ _ (ret Value.none) _ _ _
        exact wpAny_pure ⟨rfl, h', tk', rfl, all, fun b o hb e => moved.heap b o (by rw [size1]; simp only [List.mem_cons, List.not_mem_nil, or_false, not_or]; exact ⟨Nat.ne_of_lt hb, Nat.ne_of_lt (Nat.lt_succ_of_lt hb)⟩) (Heap.get?_push_of_some _ (Heap.get?_push_of_some _ e))⟩
    · obtain ⟨⟨c0, d0, x0, z0⟩, got, ec, k0, ed⟩ := ls
      simp only at ec ed
      subst ec ed
      have lower : l < s.heap.objs.size := Heap.lt_size got
      have got2 := Heap.get?_push_of_some (emptySet led) got
      have isl : IsTup (s.heap.push (emptySet led)) l us := ⟨_, got2, rfl, k0, rfl⟩
      have a1 := PySem.F.sub_tuple_set
      have a2 := PySem.F.sub_tuple_frozenset
      have a3 : (Value.type "tuple" == Value.type "dict") = false := by decide
      unfold Builtin.«set.__init__» noKeywords Builtin.Frozenset.updateFrom
      generalize hPI : pyIter = PI
      wp_walk
      subst hPI
      refine iter_tuple isl (wpAny_bind (wpAny_runValue ?_))
      have size1 : (s.heap.push (emptySet led)).objs.size = s.heap.objs.size + 1 := Heap.size_push ..
      have off : l ≠ (s.heap.push (emptySet led)).objs.size := by rw [size1]; exact Nat.ne_of_lt (Nat.lt_succ_of_lt lower)
      have calm3 : A.in1.in1.in1.handled = none := by simp [calm]
      have len : xs.length = us.size := by rw [← StrsAre.len_eq tx, Array.length_toList]
      refine fill ((Walks.tuple calm3 _ l off us).toS) (S := s.heap.objs.size) (by rw [size1]; simp only [List.mem_cons, List.not_mem_nil, or_false, not_or]; exact ⟨Nat.ne_of_lt (Nat.lt_succ_self _), Nat.ne_of_gt lower⟩) len (by omega) (fun i v hv => SS.strs_at tx i v (by rw [Array.getElem?_toList]; exact hv)) us.size 0 _ (by omega)
        ⟨⟨_, Heap.get?_push_size _ rfl, rfl, rfl⟩, isl.push _⟩ ?_ fun t moved all => ?_
      · exact SetOf_congr ((setObjOf_fresh (knd := PySem.strKind prog w) led).setOf (Heap.get?_push_of_some _ here) (by omega)) (fun _ => by simp [dst]) rfl
      · obtain ⟨h', g', d', tk', os'⟩ := t
        obtain rfl : g' = s.gens := moved.gens
        obtain rfl : d' = s.drawn := moved.drawn
        obtain rfl : os' = s.os := moved.os
        show wpAny _ _ _ _ _ _
        refine wpAny_pure ?_
        show wpAny _ _ (ret Value.none) _ _ _
        exact wpAny_pure ⟨rfl, h', tk', rfl, all, fun b o hb e => moved.heap b o (by rw [size1]; simp only [List.mem_cons, List.not_mem_nil, or_false, not_or]; exact ⟨Nat.ne_of_lt hb, Nat.ne_of_lt (Nat.lt_succ_of_lt hb)⟩) (Heap.get?_push_of_some _ (Heap.get?_push_of_some _ e))⟩
  · match r, hr with
    | .error e, hr => exact hr
    | .ok .next, hr => exact hr.elim
    | .ok .brk, hr => exact hr.elim
    | .ok .cont, hr => exact hr.elim
    | .ok (.ret v), ⟨e1, h', tk, e2, all, keep⟩ =>
    subst e1 e2
    repeat (any_goals (first | assumption | wp_step))
    exact ok _ _ all keep
end
end PU
namespace PD
open PySem L2
open Evl (Ex ex_rd ex_l ex_t)
open PySem.Spec PyProof.Rows
/-- len(set(e)) -/
theorem ge_lensetG {X : Cx} {Γ : En} {M : Ms} {a : Expr} {p p2 q pos : Pos} {k : KD} {kx : KX} (hm : X.mg "len" = none) (hm2 : X.mg "set" = none) (hc : X.calm = true)
    (h : GE X Γ M a (fun d M1 => ∃ xs : List Str, (d = .lst (xs.map D.str) ∨ d = .tup (xs.map D.str)) ∧ xs.length ≤ 1000 ∧ k (.int (PU.dst xs).length) M1) kx) (hg : Gl X "len" := by rfl) (hg2 : Gl X "set" := by rfl)
    (na : starEach [a] X.env = (false, eval a X.env) :: starEach [] X.env := by rfl) : GE X Γ M (.Call (.Name "len" p) [.Call (.Name "set" p2) [a] [] q] [] pos) k kx := fun S σ hM hE W tk hW Q hQ pins s I => by
  refine Call_ (ld_blt I hg hm boot_len (callWith_builtin1 (args_cons (Call_ (ld_blt I hg2 hm2 boot_set (callWith_type1 (args_cons (thn (h S σ hM hE W tk hW (fun x H1 => ∃ b, ∃ xs : List Str, x = .ref b ∧ (SqL X.K H1 b (xs.map V.str) ∨ SqT X.K H1 b (xs.map V.str)) ∧ xs.length ≤ 1000 ∧ Q (.int (PU.dst xs).length) H1)
    (fun d M1 S1 v ⟨xs, e, hl, hk⟩ hM1 g1 r1 => ?_) pins s I) fun v s1 ⟨x, H1, I1, r1, b, xs, ex, hq, hl, q1⟩ => args_nil ?_) na) na rfl))) rfl) rfl rfl))
  · rcases e with rfl | rfl
    · obtain ⟨b, ys, rfl, hz, r⟩ := r1
      cases repStr r
      exact ⟨b, xs, rfl, .inl (SqL.of (hM1.zh _ _ hz)), hl, hQ _ M1 S1 _ hk hM1 g1 rfl⟩
    · obtain ⟨b, ys, rfl, hz, r⟩ := r1
      cases repStr r
      exact ⟨b, xs, rfl, .inr (ex_t hM1.zh hz), hl, hQ _ M1 S1 _ hk hM1 g1 rfl⟩
  · subst ex
    cases r1
    have src : ∃ its : List Value, Vals (xs.map V.str) its ∧ (s1.heap.IsList b its.toArray ∨ IsTup s1.heap b its.toArray) := by
      rcases hq with hq | hq
      · obtain ⟨its, r, pl, _⟩ := I1.list hq; exact ⟨its, r, .inl pl.isList⟩
      · obtain ⟨its, r, pl, _⟩ := I1.tuple hq; exact ⟨its, r, .inr pl⟩
    obtain ⟨its, r, pl⟩ := src
    refine PU.set_textsG (I1.ok.hd hc) pl (by simpa using strsAre_of r) (by unfold scanBound; omega) fun h' tk2 all keep => args_nil ?_
    obtain ⟨o, es, ep, t, ho, hex, hd, _, _, _, hf, hn⟩ := all
    have I2 : Inv X pins σ H1 { s1 with heap := h', toks := tk2 } := I1.kept fun b o e => keep b o (Heap.lt_size e) e
    have dl := PU.dst_len xs
    exact call_len_set ho hex hd hf (by rw [hn]; omega) ⟨.int (PU.dst xs).length, H1, I2.tok _, ⟨_, by rw [hn]⟩, q1⟩
def oLenSetG : D → Ms → KD → Prop
  | .lst ds, M, k => ∃ xs : List Str, Sd (ds = xs.map D.str ∧ xs.length ≤ 1000) (k (.int (PU.dst xs).length) M)
  | .tup ds, M, k => ∃ xs : List Str, Sd (ds = xs.map D.str ∧ xs.length ≤ 1000) (k (.int (PU.dst xs).length) M)
  | _, _, _ => False
theorem CE.lenSetG {X : Cx} {a : Expr} {wa : WpE} {p p2 q pos : Pos} (hm : X.mg "len" = none) (hm2 : X.mg "set" = none) (hc : X.calm = true) (ha : CE X a wa) (hg : Gl X "len" := by rfl) (hg2 : Gl X "set" := by rfl) (na : starEach [a] X.env = (false, eval a X.env) :: starEach [] X.env := by rfl) :
    CE X (.Call (.Name "len" p) [.Call (.Name "set" p2) [a] [] q] [] pos) (w1 oLenSetG wa) :=
  ⟨fun h => ge_lensetG hm hm2 hc (GE.mono (ha.run h) (fun d M1 h1 => by
    cases d <;> first | exact h1.elim | (obtain ⟨xs, ⟨e1, e2⟩, g⟩ := h1; subst e1; first | exact ⟨xs, .inl rfl, e2, g⟩ | exact ⟨xs, .inr rfl, e2, g⟩)) fun _ _ _ z => z) hg hg2 na⟩
end PD

set_option Elab.async false
set_option linter.all false
set_option maxRecDepth 100000
set_option maxHeartbeats 4000000
/-! PS: == and != of data in which empty dicts stand. -/
namespace PE
open PySem PySem.SeqAt PySem.Spec PyProof.Rows
open AutoSeq1 (wpAny_loadPart')
open MeetsSeq
/-- an empty dict stands at a -/
def Emp (h : Heap) (a : Addr) : Prop := (a == sysModules) = false ∧ ∃ o ep, h.get? a = some o ∧ o.ExactDict ∧ o.data = .dict #[] ep
section
variable {prog : Program} {w : World} {A : Around} {E : Value → Shared → Prop} {s : Shared} {a b : Addr}
theorem Emp.ty (e : Emp s.heap a) : s.TypeIs (.ref a) "dict" := by
  obtain ⟨_, o, _, ho, hx, _⟩ := e
  exact ⟨o, ho, hx.1⟩
/-- what is no dict is declined -/
theorem no_eq {v : Value} {T : String} {Q : Value → Shared → Prop} (e : Emp s.heap a) (ty : s.TypeIs v T) (sub : isSubtype (.type T) (.type "dict") = pure false) (h : Q .notImplemented s) : wpAny (model prog w) A (call (.builtin "dict.__eq__") [.ref a, v]) Q E s := by
  refine wpAny_call_entry PySem.F.slot_dict_eq e.ty PySem.F.entry_dict_eq ?_ (PySem.F.args_dict_eq_2 _ _)
  show wpAny _ _ (Builtin.Dict.dictSlotArgs "__eq__" ⟨[.ref a, v], []⟩ >>= _) _ _ s
  refine wpAny_bind ?_
  show wpAny _ _ (Builtin.Dict.notOrdered "__eq__" ⟨[.ref a, v], []⟩ >>= _) _ _ s
  refine wpAny_bind (wpAny_notOrdered_dict e.ty (wpAny_pure ?_))
  refine wpAny_bind (wpAny_isInstance ty sub ?_)
  simp only [Bool.not_false, if_true]
  exact wpAny_bind (wpAny_rule (wpAny_pure ⟨_, rfl, h⟩))
theorem no_ne {v : Value} {T : String} {Q : Value → Shared → Prop} (e : Emp s.heap a) (ty : s.TypeIs v T) (sub : isSubtype (.type T) (.type "dict") = pure false) (h : Q .notImplemented s) : wpAny (model prog w) A (call (.builtin "dict.__ne__") [.ref a, v]) Q E s := by
  refine wpAny_call_entry PySem.F.slot_dict_ne e.ty PySem.F.entry_dict_ne ?_ (PySem.F.args_dict_ne_2 _ _)
  show wpAny _ _ (Builtin.Dict.dictSlotArgs "__ne__" ⟨[.ref a, v], []⟩ >>= _) _ _ s
  refine wpAny_bind ?_
  show wpAny _ _ (Builtin.Dict.notOrdered "__ne__" ⟨[.ref a, v], []⟩ >>= _) _ _ s
  refine wpAny_bind (wpAny_notOrdered_dict e.ty (wpAny_pure ?_))
  refine wpAny_bind (wpAny_isInstance ty sub ?_)
  simp only [Bool.not_false, if_true]
  exact wpAny_bind (wpAny_rule (wpAny_pure ⟨_, rfl, h⟩))
theorem same0 {nm : String} {Q : Bool → Shared → Prop} (ea : Emp s.heap a) (eb : Emp s.heap b) (h : Q true s) : wpAny (model prog w) A (Builtin.Dict.samePairs nm a b) Q E s := by
  obtain ⟨na, oa, ka, ha, xa, da⟩ := ea
  obtain ⟨nb, ob, kb, hb, xb, db⟩ := eb
  unfold Builtin.Dict.samePairs Builtin.Dict.showsAll
  rw [if_neg (by rw [na]; exact Bool.false_ne_true), if_neg (by rw [nb]; exact Bool.false_ne_true)]
  refine wpAny_bind (wpAny_pure (wpAny_bind (wpAny_pure (wpAny_bind (wpAny_dictEntries ha da ?_)))))
  dsimp only
  refine wpAny_bind (wpAny_dictEntries hb db ?_)
  rw [if_neg (by simp)]
  refine wpAny_bind (wpAny_dictEpoch ha da ?_)
  refine wpAny_bind ?_
  rw [Std.Legacy.Range.forIn_eq_forIn_range']
  exact wpAny_pure (wpAny_pure h)
theorem eq_dd {Q : Value → Shared → Prop} (ea : Emp s.heap a) (eb : Emp s.heap b) (hu : A.units < cLine) (h : Q (.bool true) s) : wpAny (model prog w) A (richCompare .Eq (.ref a) (.ref b)) Q E s := by
  refine wpAny_richCompare_same_room (op := .Eq) ea.ty eb.ty PySem.F.slot_dict_eq (wpAny_call_entry PySem.F.slot_dict_eq ea.ty PySem.F.entry_dict_eq ?_ (PySem.F.args_dict_eq_2 _ _)) hu
  show wpAny _ _ (Builtin.Dict.dictSlotArgs "__eq__" ⟨[.ref a, .ref b], []⟩ >>= _) _ _ s
  refine wpAny_bind ?_
  show wpAny _ _ (Builtin.Dict.notOrdered "__eq__" ⟨[.ref a, .ref b], []⟩ >>= _) _ _ s
  refine wpAny_bind (wpAny_notOrdered_dict ea.ty (wpAny_pure ?_))
  refine wpAny_bind (wpAny_isInstance (T := "dict") eb.ty PySem.F.sub_dict_dict ?_)
  simp only [Bool.not_true, Bool.false_eq_true, if_false]
  refine wpAny_bind (wpAny_pure (wpAny_bind (wpAny_pure (wpAny_bind (same0 ea eb ?_)))))
  exact wpAny_pure ⟨_, rfl, ⟨fun x => (nomatch x), h⟩⟩
theorem ne_dd {Q : Value → Shared → Prop} (ea : Emp s.heap a) (eb : Emp s.heap b) (hu : A.units < cLine) (h : Q (.bool false) s) : wpAny (model prog w) A (richCompare .NotEq (.ref a) (.ref b)) Q E s := by
  refine wpAny_richCompare_same_room (op := .NotEq) ea.ty eb.ty PySem.F.slot_dict_ne (wpAny_call_entry PySem.F.slot_dict_ne ea.ty PySem.F.entry_dict_ne ?_ (PySem.F.args_dict_ne_2 _ _)) hu
  show wpAny _ _ (Builtin.Dict.dictSlotArgs "__ne__" ⟨[.ref a, .ref b], []⟩ >>= _) _ _ s
  refine wpAny_bind ?_
  show wpAny _ _ (Builtin.Dict.notOrdered "__ne__" ⟨[.ref a, .ref b], []⟩ >>= _) _ _ s
  refine wpAny_bind (wpAny_notOrdered_dict ea.ty (wpAny_pure ?_))
  refine wpAny_bind (wpAny_isInstance (T := "dict") eb.ty PySem.F.sub_dict_dict ?_)
  simp only [Bool.not_true, Bool.false_eq_true, if_false]
  refine wpAny_bind (wpAny_pure (wpAny_bind (wpAny_pure (wpAny_bind (same0 ea eb ?_)))))
  exact wpAny_pure ⟨_, rfl, ⟨fun x => (nomatch x), h⟩⟩
end
/-! what the others say of a dict -/
theorem str_no_eq (x : Str) (t : Tok) (a : Addr) (o : Obj) (es : Array DictEntry) (ep : Nat) (hd : o.data = .dict es ep) :
    Meets (Builtin.«str.__eq__» ⟨[.str x t, .ref a], []⟩) (fun _ R s => s.heap.get? a = some o ∧ R (.ok (.ret .notImplemented)) s) :=
  .of_wp fun prog w A R s h => by
    obtain ⟨c, d, dt, sl⟩ := o
    dsimp only at hd
    subst hd
    obtain ⟨hp, g, dr, tk, os⟩ := s; obtain ⟨hl, h⟩ := h; wp_walk using wpAny_loadPart' hl, wpAny_load hl; exact ⟨_, rfl, h⟩
theorem tup_no_eq (l a : Addr) (items : Array Value) (n : Nat) (dd : Option Addr) (sl : Array (Option Value)) (o : Obj) (hc : o.cls = .type "dict") :
    Meets (Builtin.«tuple.__eq__» ⟨[.ref l, .ref a], []⟩) (fun _ R s => s.heap.get? l = some { cls := .type "tuple", dict := dd, data := .seq items n, slots := sl } ∧ s.heap.get? a = some o ∧ R (.ok (.ret .notImplemented)) s) :=
  .of_wp fun prog w A R s h => by
    obtain ⟨c, d, dt, sl2⟩ := o
    dsimp only at hc
    subst hc
    obtain ⟨hp, g, dr, tk, os⟩ := s; obtain ⟨hl, hb, h⟩ := h; have f1 := F.sub_dict_tuple; wp_walk using wpAny_loadPart' hl, wpAny_loadPart' hb; exact ⟨_, rfl, h⟩
theorem tup_no_ne (l a : Addr) (items : Array Value) (n : Nat) (dd : Option Addr) (sl : Array (Option Value)) (o : Obj) (hc : o.cls = .type "dict") :
    Meets (Builtin.«tuple.__ne__» ⟨[.ref l, .ref a], []⟩) (fun _ R s => s.heap.get? l = some { cls := .type "tuple", dict := dd, data := .seq items n, slots := sl } ∧ s.heap.get? a = some o ∧ R (.ok (.ret .notImplemented)) s) :=
  .of_wp fun prog w A R s h => by
    obtain ⟨c, d, dt, sl2⟩ := o
    dsimp only at hc
    subst hc
    obtain ⟨hp, g, dr, tk, os⟩ := s; obtain ⟨hl, hb, h⟩ := h; have f1 := F.sub_dict_tuple; wp_walk using wpAny_loadPart' hl, wpAny_loadPart' hb; exact ⟨_, rfl, h⟩
section
variable {A : Around} {s : Shared} {a b : Addr}
theorem Emp.eq_str (e : Emp s.heap a) (x : Str) (t : Tok) (hu : A.units < cLine) : EqAt A s (.ref a) (.str x t) false := fun prog w E Q h => by
  obtain ⟨_, o, ep, ho, hx, hd⟩ := id e
  unfold eqBool
  refine wpAny_holding (wpAny_ite_split (fun hab => absurd (eq_of_beq hab) nofun) fun _ => wpAny_bind ?_)
  exact rc_eq_decline_or (k := false) e.ty (typeIs_str s x t) (by decide) F.sub_str_dict F.slot_dict_eq F.slot_str_eq_refl (fun _ hq => no_eq e (typeIs_str s x t) F.sub_str_dict hq)
    (fun _ hq => call_meets F.slot_str_eq_refl (typeIs_str s x t) F.entry_str_eq (F.args_str_eq_2 _ _) (str_no_eq x t a o #[] ep hd) ⟨ho, hq⟩) (fun _ hq => wpAny_of_eq (rfl : isSame (.ref a) (.str x t) = pure false) hq) (.inr hu) (wpAny_truthy_bool h)
theorem apart {its : Array Value} (e : Emp s.heap a) (t : s.heap.IsTuple b its) : a ≠ b := fun q => by
  subst q
  obtain ⟨_, o, _, ho, hx, _⟩ := e
  obtain ⟨o2, ho2, hc, _⟩ := t
  rw [ho] at ho2; cases ho2
  rw [hx.1] at hc
  exact absurd hc (by simp)
theorem Emp.rc_tup {its : Array Value} (e : Emp s.heap a) (t : s.heap.IsTuple b its) (hu : A.units < cLine) : RcAt A s (.ref a) (.ref b) false := fun prog w E Q h => by
  have ne := apart e t
  obtain ⟨_, o, ep, ho, hx, hd⟩ := id e
  obtain ⟨⟨c2, d2, t2, l2⟩, ho2, hc2, n2, hd2⟩ := id t
  dsimp only at hc2 hd2
  subst hc2 hd2
  exact rc_eq_decline_or (k := false) e.ty ⟨_, ho2, rfl⟩ (by decide) F.sub_tuple_dict F.slot_dict_eq F.slot_tuple_eq_refl (fun _ hq => no_eq e ⟨_, ho2, rfl⟩ F.sub_tuple_dict hq)
    (fun _ hq => call_meets F.slot_tuple_eq_refl ⟨_, ho2, rfl⟩ F.entry_tuple_eq (F.args_tuple_eq_2 _ _) (tup_no_eq b a its n2 d2 l2 o hx.1) ⟨ho2, ho, hq⟩) (fun _ hq => wpAny_isSame_ref_other ne ho ho2 (by rw [hx.1]; simp) hq) (.inr hu) h
theorem Emp.ne_tup {its : Array Value} (e : Emp s.heap a) (t : s.heap.IsTuple b its) (hu : A.units < cLine) : RcNeAt A s (.ref a) (.ref b) true := fun prog w E Q h => by
  have ne := apart e t
  obtain ⟨_, o, ep, ho, hx, hd⟩ := id e
  obtain ⟨⟨c2, d2, t2, l2⟩, ho2, hc2, n2, hd2⟩ := id t
  dsimp only at hc2 hd2
  subst hc2 hd2
  exact rc_ne_decline_or (k := false) e.ty ⟨_, ho2, rfl⟩ (by decide) F.sub_tuple_dict F.slot_dict_ne F.slot_tuple_ne_refl (fun _ hq => no_ne e ⟨_, ho2, rfl⟩ F.sub_tuple_dict hq)
    (fun _ hq => call_meets F.slot_tuple_ne_refl ⟨_, ho2, rfl⟩ F.entry_tuple_ne (F.args_tuple_ne_2 _ _) (tup_no_ne b a its n2 d2 l2 o hx.1) ⟨ho2, ho, hq⟩) (fun _ hq => wpAny_isSame_ref_other ne ho ho2 (by rw [hx.1]; simp) hq) (.inr hu) h
end
/-- v == u answers c, at most n deep -/
inductive QAt (s : Shared) : Nat → Value → Value → Bool → Prop
  | dat {n : Nat} {v u : Value} {da db : PyData} {as bs : List Addr} : Reads s.heap v da as → Reads s.heap u db bs → da.canLay0 = true → db.canLay0 = true → min da.depth db.depth ≤ n → QAt s n v u (PyData.eqv da db)
  | dd {n : Nat} {a b : Addr} : Emp s.heap a → Emp s.heap b → QAt s n (.ref a) (.ref b) true
  | ds {n : Nat} {a : Addr} {x : Str} {t : Tok} : Emp s.heap a → QAt s n (.ref a) (.str x t) false
  | dt {n : Nat} {a b : Addr} {its : Array Value} : Emp s.heap a → s.heap.IsTuple b its → QAt s n (.ref a) (.ref b) false
  | lst {n : Nat} {l k : Addr} {vs us : Array Value} {e : Nat → Bool} : s.heap.IsList l vs → s.heap.IsList k us → vs.size = us.size → (∀ j (h1 : j < vs.size) (h2 : j < us.size), QAt s n vs[j] us[j] (e j)) → QAt s (n + 1) (.ref l) (.ref k) ((List.range vs.size).all e)
  | tup {n : Nat} {l k : Addr} {vs us : Array Value} {e : Nat → Bool} : s.heap.IsTuple l vs → s.heap.IsTuple k us → (∀ j (h1 : j < vs.size) (h2 : j < us.size), QAt s n vs[j] us[j] (e j)) → QAt s (n + 1) (.ref l) (.ref k) ((List.range (min vs.size us.size)).all e && vs.size == us.size)
section
variable {s : Shared} {n : Nat} {v u : Value} {c : Bool}
theorem QAt.same_list {l k : Addr} {vs us : Array Value} (h1 : s.heap.IsList l vs) (h2 : s.heap.IsList k us) (q : l = k) : vs = us := by
  subst q
  obtain ⟨o, e, _, n, d⟩ := h1
  obtain ⟨o2, e2, _, n2, d2⟩ := h2
  rw [e] at e2; cases e2
  rw [d] at d2; cases d2; rfl
theorem QAt.same_tup {l k : Addr} {vs us : Array Value} (h1 : s.heap.IsTuple l vs) (h2 : s.heap.IsTuple k us) (q : l = k) : vs = us := by
  subst q
  obtain ⟨o, e, _, n, d⟩ := h1
  obtain ⟨o2, e2, _, n2, d2⟩ := h2
  rw [e] at e2; cases e2
  rw [d] at d2; cases d2; rfl
/-- a value is equal to itself, so what is shown of it and itself is true -/
theorem QAt.refl (t : QAt s n v u c) : v = u → c = true := by
  induction t with
  | @dat n v u da db as bs r1 r2 a b h =>
    intro q; subst q
    rw [← Reads.unique _ _ _ _ _ a r1 r2]
    exact eqv_refl _ a
  | dd _ _ => intro _; rfl
  | ds _ => intro q; cases q
  | dt e t => intro q; cases q; exact absurd rfl (apart e t)
  | lst h1 h2 hs _ ih =>
    intro q; cases q
    have e := same_list h1 h2 rfl
    subst e
    simp only [List.all_eq_true, List.mem_range]
    exact fun j hj => ih j hj hj rfl
  | tup h1 h2 _ ih =>
    intro q; cases q
    have e := same_tup h1 h2 rfl
    subst e
    simp only [Bool.and_eq_true, List.all_eq_true, List.mem_range, beq_self_eq_true, and_true]
    exact fun j hj => ih j (by omega) (by omega) rfl
theorem QAt.rc_of {A : Around} (hu : A.units + n < cLine) (t : QAt s n v u c) (ih : ∀ m w x d, m + 1 = n → QAt s m w x d → EqAt A.in1 s w x d) : RcAt A s v u c := by
  have h0 : A.units < cLine := by omega
  cases t with
  | dat r1 r2 a b h => exact rcAt_reads r1 r2 a b (by omega)
  | dd ea eb => exact fun prog w E Q h => eq_dd ea eb h0 h
  | @ds n a x t ea =>
    intro prog w E Q h
    obtain ⟨_, o, ep, ho, hx, hd⟩ := id ea
    exact rc_eq_decline_or (k := false) ea.ty (typeIs_str s x t) (by decide) F.sub_str_dict F.slot_dict_eq F.slot_str_eq_refl (fun _ hq => no_eq ea (typeIs_str s x t) F.sub_str_dict hq)
        (fun _ hq => call_meets F.slot_str_eq_refl (typeIs_str s x t) F.entry_str_eq (F.args_str_eq_2 _ _) (str_no_eq x t a o #[] ep hd) ⟨ho, hq⟩) (fun _ hq => wpAny_of_eq (rfl : isSame (.ref a) (.str x t) = pure false) hq) (.inr h0) h
  | dt ea tt => exact ea.rc_tup tt h0
  | lst h1 h2 hs hi => exact RcAt.lists h1 h2 hs h0 fun j j1 j2 => ih _ _ _ _ rfl (hi j j1 j2)
  | tup h1 h2 hi => exact RcAt.tuples h1 h2 h0 fun j j1 j2 => ih _ _ _ _ rfl (hi j j1 j2)
theorem QAt.eq (t : QAt s n v u c) : ∀ A : Around, A.units + n < cLine → EqAt A s v u c := by
  induction n generalizing v u c with
  | zero =>
    intro A hu
    cases t with
    | dat r1 r2 a b h => exact eqAt_reads _ _ _ _ _ _ _ _ r1 r2 a b (by omega)
    | @dd _ a b ea eb =>
      by_cases q : a = b
      · subst q; exact EqAt.same _
      · exact EqAt.of_refs q (QAt.rc_of hu (.dd ea eb) fun _ _ _ _ h => by omega)
    | ds ea => exact ea.eq_str _ _ (by omega)
    | dt ea tt => exact EqAt.of_refs (apart ea tt) (ea.rc_tup tt (by omega))
  | succ n ihn =>
    intro A hu
    have ih : ∀ m w x d, m + 1 = n + 1 → QAt s m w x d → EqAt A.in1 s w x d := fun m w x d e h => by
      obtain rfl : m = n := by omega
      exact ihn h A.in1 (by show A.units + 1 + m < cLine; omega)
    cases t with
    | dat r1 r2 a b h => exact eqAt_reads _ _ _ _ _ _ _ _ r1 r2 a b (by omega)
    | @dd _ a b ea eb =>
      by_cases q : a = b
      · subst q; exact EqAt.same _
      · exact EqAt.of_refs q (QAt.rc_of hu (.dd ea eb) ih)
    | ds ea => exact ea.eq_str _ _ (by omega)
    | dt ea tt => exact EqAt.of_refs (apart ea tt) (ea.rc_tup tt (by omega))
    | @lst _ l k vs us e h1 h2 hs hi =>
      by_cases q : l = k
      · have r := QAt.refl (QAt.lst h1 h2 hs hi) (by rw [q])
        rw [r, q]; exact EqAt.same _
      · exact EqAt.of_refs q (QAt.rc_of hu (.lst h1 h2 hs hi) ih)
    | @tup _ l k vs us e h1 h2 hi =>
      by_cases q : l = k
      · have r := QAt.refl (QAt.tup h1 h2 hi) (by rw [q])
        rw [r, q]; exact EqAt.same _
      · exact EqAt.of_refs q (QAt.rc_of hu (.tup h1 h2 hi) ih)
theorem QAt.rc (t : QAt s n v u c) (A : Around) (hu : A.units + n < cLine) : RcAt A s v u c := t.rc_of hu fun m w x d e h => h.eq A.in1 (by show A.units + 1 + m < cLine; omega)
theorem QAt.ne {A : Around} (hu : A.units + n < cLine) (t : QAt s n v u c) (nstr : ∀ x y, u ≠ .str x y) : RcNeAt A s v u (!c) := by
  have h0 : A.units < cLine := by omega
  cases t with
  | dat r1 r2 a b h => exact rcNeAt_reads r1 r2 a b (by omega)
  | dd ea eb => exact fun prog w E Q h => ne_dd ea eb h0 h
  | ds ea => exact absurd rfl (nstr _ _)
  | dt ea tt => exact ea.ne_tup tt h0
  | lst h1 h2 hs hi => exact RcNeAt.lists h1 h2 hs h0 fun j j1 j2 => (hi j j1 j2).eq A.in1 (by show A.units + 1 + _ < cLine; omega)
  | tup h1 h2 hi => exact RcNeAt.tuples h1 h2 h0 fun j j1 j2 => (hi j j1 j2).eq A.in1 (by show A.units + 1 + _ < cLine; omega)
end
end PE
namespace PD
open PySem L2 PyProof.Rows
open Evl (Ex ex_rd ex_l ex_t)
open PE
mutual
/-- x == y answers b: plain data, and empty dicts in it -/
inductive QD : Nat → D → D → Bool → Prop
  | dat {n : Nat} {x y : D} (hx : sm n x = true) (hy : sm n y = true) : QD n x y (PyData.eqv (py x) (py y))
  | dd {n : Nat} : QD n (.dct [] []) (.dct [] []) true
  | ds {n : Nat} {s : Str} : QD n (.dct [] []) (.str s) false
  | dt {n : Nat} {ds : List D} : QD n (.dct [] []) (.tup ds) false
  | lst {n : Nat} {xs ys : List D} {b : Bool} (l : xs.length = ys.length) (h : QDs n xs ys b) : QD (n + 1) (.lst xs) (.lst ys) b
  | tup {n : Nat} {xs ys : List D} {b : Bool} (h : QDs n xs ys b) : QD (n + 1) (.tup xs) (.tup ys) b
inductive QDs : Nat → List D → List D → Bool → Prop
  | nil {n : Nat} : QDs n [] [] true
  | nilL {n : Nat} {y : D} {ys : List D} : QDs n [] (y :: ys) false
  | nilR {n : Nat} {x : D} {xs : List D} : QDs n (x :: xs) [] false
  | cons {n : Nat} {x y : D} {xs ys : List D} {b c : Bool} (h : QD n x y b) (r : QDs n xs ys c) : QDs n (x :: xs) (y :: ys) (b && c)
end
section
variable {X : Cx} {pins : List (Addr × Obj)} {σ : L2.St} {s : Shared} {S : Sg} {M : Ms}
theorem emp_of (I : Inv X pins σ S.H s) (zh : Ex S.Z S.H) {v : V} {u : Value} (r : Rep X.K S (.dct [] []) v) (q : RelV v u) : ∃ a, u = .ref a ∧ Emp s.heap a := by
  obtain ⟨a, kvs, rfl, h, e, _⟩ := r
  have e0 : kvs = [] := by simpa using e
  subst e0
  obtain rfl : u = Value.ref a := q
  obtain ⟨_, ns, vs, rel, o, es, ep, ho, hx, hd, hk, hp, _⟩ : _ ∧ (a == sysModules) = false ∧ ∃ vs, L2.KV [] vs ∧ s.heap.DictOf (mixKind X.prog X.w) a vs := I.hok a _ (zh _ _ h)
  have v0 : vs = [] := by
    unfold L2.KV at rel
    cases rel; rfl
  subst v0
  have l0 : es.toList = [] := by
    have := hp.length
    simpa using this
  have : es = #[] := by
    obtain ⟨l⟩ := es
    simp at l0
    rw [l0]
  subst this
  exact ⟨a, rfl, ns, o, ep, ho, hx, hd⟩
mutual
theorem QD.at (I : Inv X pins σ S.H s) (hM : OkM X.K S M) : ∀ {n : Nat} {x y : D} {b : Bool} {vx vy : V} {ux uy : Value}, QD n x y b → Rep X.K S x vx → Rep X.K S y vy → RelV vx ux → RelV vy uy → QAt s n ux uy b
  | n, _, _, _, _, _, _, _, .dat hx hy, rx, ry, qx, qy => by
    obtain ⟨as, r1⟩ := Dp.reads I _ _ _ (dp_of hM hx rx) qx
    obtain ⟨bs, r2⟩ := Dp.reads I _ _ _ (dp_of hM hy ry) qy
    obtain ⟨a1, a2⟩ := (sm_all _).1 _ (Nat.lt_succ_self _) _ hx
    obtain ⟨b1, b2⟩ := (sm_all _).1 _ (Nat.lt_succ_self _) _ hy
    exact .dat r1 r2 a1 b1 (by omega)
  | _, _, _, _, _, _, _, _, .dd, rx, ry, qx, qy => by
    obtain ⟨a, rfl, ea⟩ := emp_of I hM.zh rx qx
    obtain ⟨b, rfl, eb⟩ := emp_of I hM.zh ry qy
    exact .dd ea eb
  | _, _, _, _, _, _, _, _, .ds, rx, ry, qx, qy => by
    obtain ⟨a, rfl, ea⟩ := emp_of I hM.zh rx qx
    cases ry
    obtain ⟨t, rfl⟩ := qy
    exact .ds ea
  | _, _, _, _, _, _, _, _, .dt, rx, ry, qx, qy => by
    obtain ⟨a, rfl, ea⟩ := emp_of I hM.zh rx qx
    obtain ⟨b, ys, rfl, h, _⟩ := ry
    obtain rfl : _ = Value.ref b := qy
    obtain ⟨its, _, tt, _⟩ := I.tuple (ex_t hM.zh h)
    exact .dt ea tt
  | _, _, _, _, _, _, _, _, .lst l3 h, rx, ry, qx, qy => by
    obtain ⟨a, xs, rfl, hx, r1⟩ := rx
    obtain ⟨b, ys, rfl, hy, r2⟩ := ry
    obtain rfl : _ = Value.ref a := qx
    obtain rfl : _ = Value.ref b := qy
    obtain ⟨its, v1, pl1, _⟩ := I.list (SqL.of (K := X.K) (hM.zh _ _ hx))
    obtain ⟨us, v2, pl2, _⟩ := I.list (SqL.of (K := X.K) (hM.zh _ _ hy))
    obtain ⟨e, he, eb⟩ := QDs.at I hM h r1 r2 v1 v2
    have l1 := r1.len
    have l2 := r2.len
    have l4 := v1.length
    have l5 := v2.length
    have sz : its.toArray.size = its.length := by simp
    rw [eb, l3, Nat.min_self, beq_self_eq_true, Bool.and_true, show (List.range _) = List.range its.toArray.size by rw [sz, ← l4, l1, l3]]
    exact .lst pl1.isList pl2.isList (by simp; omega) fun j j1 j2 => by simpa using he j (by simpa using j1) (by simpa using j2)
  | _, _, _, _, _, _, _, _, .tup h, rx, ry, qx, qy => by
    obtain ⟨a, xs, rfl, hx, r1⟩ := rx
    obtain ⟨b, ys, rfl, hy, r2⟩ := ry
    obtain rfl : _ = Value.ref a := qx
    obtain rfl : _ = Value.ref b := qy
    obtain ⟨its, v1, pl1, _⟩ := I.tuple (ex_t hM.zh hx)
    obtain ⟨us, v2, pl2, _⟩ := I.tuple (ex_t hM.zh hy)
    obtain ⟨e, he, eb⟩ := QDs.at I hM h r1 r2 v1 v2
    have l1 := r1.len
    have l2 := r2.len
    have l4 := v1.length
    have l5 := v2.length
    have := QAt.tup (n := _) (e := e) pl1 pl2 fun j j1 j2 => by simpa using he j (by simpa using j1) (by simpa using j2)
    rw [List.size_toArray, List.size_toArray, ← l4, ← l5, l1, l2] at this
    rw [eb]
    exact this
theorem QDs.at (I : Inv X pins σ S.H s) (hM : OkM X.K S M) : ∀ {n : Nat} {xs ys : List D} {b : Bool} {vx vy : List V} {ux uy : List Value}, QDs n xs ys b → RepL X.K S xs vx → RepL X.K S ys vy → Vals vx ux → Vals vy uy →
    ∃ e : Nat → Bool, (∀ j (h1 : j < ux.length) (h2 : j < uy.length), QAt s n ux[j] uy[j] (e j)) ∧ b = ((List.range (min xs.length ys.length)).all e && xs.length == ys.length)
  | _, _, _, _, _, _, _, _, .nil, rx, ry, qx, qy => by
    have e1 : _ = [] := rx
    subst e1
    cases qx
    exact ⟨fun _ => true, fun j h1 => absurd h1 (Nat.not_lt_zero j), rfl⟩
  | _, _, _, _, _, _, _, _, .nilL, rx, ry, qx, qy => by
    have e1 : _ = [] := rx
    subst e1
    cases qx
    exact ⟨fun _ => true, fun j h1 => absurd h1 (Nat.not_lt_zero j), by simp⟩
  | _, _, _, _, _, _, _, _, .nilR, rx, ry, qx, qy => by
    have e1 : _ = [] := ry
    subst e1
    cases qy
    exact ⟨fun _ => true, fun j _ h2 => absurd h2 (Nat.not_lt_zero j), by simp⟩
  | _, _, _, _, _, _, _, _, .cons (b := b) h r, rx, ry, qx, qy => by
    obtain ⟨v, vs, rfl, rx1, rx2⟩ := rx
    obtain ⟨w, ws, rfl, ry1, ry2⟩ := ry
    cases qx with
    | cons q1 qx =>
      cases qy with
      | cons q2 qy =>
        obtain ⟨e, he, eb⟩ := QDs.at I hM r rx2 ry2 qx qy
        have hd := QD.at I hM h rx1 ry1 q1 q2
        refine ⟨fun j => match j with | 0 => b | j + 1 => e j, fun j h1 h2 => ?_, ?_⟩
        · cases j with
          | zero => exact hd
          | succ j => exact he j (by simpa using h1) (by simpa using h2)
        · rw [eb, List.length_cons, List.length_cons, Nat.succ_min_succ, List.range_succ_eq_map, List.all_cons, List.all_map, Bool.and_assoc]
          congr 2
          exact Bool.eq_iff_iff.mpr (by simp)
end
end
def rEqQ (K : PySem.W.Frag) (n : Nat) : R2 := fun x y H Q => ∃ S M dx dy b, S.H = H ∧ OkM K S M ∧ Rep K S dx x ∧ Rep K S dy y ∧ QD n dx dy b ∧ Q (.bl b) H
def rNeQ (K : PySem.W.Frag) (n : Nat) : R2 := fun x y H Q => ∃ S M dx dy b, S.H = H ∧ OkM K S M ∧ Rep K S dx x ∧ Rep K S dy y ∧ QD n dx dy b ∧ (∀ t, dy ≠ .str t) ∧ Q (.bl (!b)) H
theorem op_eqQ {X : Cx} {n : Nat} (hu : X.A.units + n < cLine) : OpR X (compareOp .Eq) (rEqQ X.K n) := by
  intro pins s σ H x y v u Q I rx ry ⟨S, M, dx, dy, b, e, hM, r1, r2, q, h⟩
  subst e
  exact (QD.at I hM q r1 r2 rx ry).rc _ hu _ _ _ _ ⟨.bl b, S.H, I, rfl, h⟩
theorem op_neQ {X : Cx} {n : Nat} (hu : X.A.units + n < cLine) : OpR X (compareOp .NotEq) (rNeQ X.K n) := by
  intro pins s σ H x y v u Q I rx ry ⟨S, M, dx, dy, b, e, hM, r1, r2, q, nd, h⟩
  subst e
  refine (QD.at I hM q r1 r2 rx ry).ne hu (fun a t e => ?_) _ _ _ _ ⟨.bl (!b), S.H, I, rfl, h⟩
  subst e
  cases dy with
  | str t => exact nd t rfl
  | non => cases r2; cases ry
  | bl b => cases r2; cases ry
  | int i => cases r2; obtain ⟨_, z⟩ := ry; cases z
  | tup ds => obtain ⟨_, _, rfl, _⟩ := r2; cases ry
  | lst ds => obtain ⟨_, _, rfl, _⟩ := r2; cases ry
  | seq ds => obtain ⟨_, _, rfl, _⟩ := r2; cases ry
  | dct ks ds => obtain ⟨_, _, rfl, _⟩ := r2; cases ry
  | ins C fs ds => obtain ⟨_, _, _, rfl, _⟩ := r2; cases ry
  | hdl a => cases r2; cases ry
  | raw v => cases q <;> simp [sm] at *
def cEqQ : CmpD := fun x y M k => ∃ b, Sd (QD 16 x y b) (k b M)
def cNeQ : CmpD := fun x y M k => ∃ b, Sd (QD 16 x y b ∧ ∀ t, y ≠ .str t) (k (!b) M)
section
variable {X : Cx} {a b : Expr} {wa wb : WpE} {pos : Pos}
theorem Kc.eqQ (hu : X.A.units + 65 < cLine) (ha : CE X a wa) (hb : CE X b wb) : Kc X (.Compare a [.Eq] [b] pos) (wC cEqQ wa wb) :=
  cmp_of (op_eqQ (n := 16) (by omega)) (nomark _) (fun {x y M k} ⟨c, h⟩ S vx vy hM rx ry Q hQ => ⟨S, M, x, y, c, rfl, hM, rx, ry, h.h, hQ _ M S _ ⟨c, rfl, h.g⟩ hM (Grow.refl _) rfl⟩) ha hb
theorem Kc.neQ (hu : X.A.units + 65 < cLine) (ha : CE X a wa) (hb : CE X b wb) : Kc X (.Compare a [.NotEq] [b] pos) (wC cNeQ wa wb) :=
  cmp_of (op_neQ (n := 16) (by omega)) (nomark _) (fun {x y M k} ⟨c, h⟩ S vx vy hM rx ry Q hQ => ⟨S, M, x, y, c, rfl, hM, rx, ry, h.h.1, h.h.2, hQ _ M S _ ⟨!c, rfl, h.g⟩ hM (Grow.refl _) rfl⟩) ha hb
end
end PD

set_option Elab.async false
set_option linter.all false
set_option maxRecDepth 100000
set_option maxHeartbeats 4000000
/-! PS: != of data with empty dicts, or of plain data. -/
namespace PD
open PySem L2 PyProof.Rows
inductive NeM (x y : D) (M : Ms) (k : KB) : Prop
  | q {b : Bool} (h : QD 16 x y b) (hy : ∀ t, y ≠ .str t) (hk : k (!b) M)
  | c (h : cNe x y M k)
def cNeM : CmpD := fun x y M k => NeM x y M k
section
variable {X : Cx} {a b : Expr} {wa wb : WpE} {pos : Pos}
theorem Kc.neM (hu : X.A.units + 65 < cLine) (ha : CE X a wa) (hb : CE X b wb) : Kc X (.Compare a [.NotEq] [b] pos) (wC cNeM wa wb) :=
  cmp_of ((op_neU (by omega)).or (op_neQ (n := 16) (by omega))) (nomark _) (fun {x y M k} h S vx vy hM rx ry Q hQ => by
    cases h with
    | q h hy hk => exact .inr ⟨S, M, x, y, _, rfl, hM, rx, ry, h, hy, hQ _ M S _ ⟨_, rfl, hk⟩ hM (Grow.refl _) rfl⟩
    | c h => exact .inl (cNe_ok h S vx vy hM rx ry Q hQ)) ha hb
end
end PD

set_option Elab.async false
set_option linter.all false
set_option maxRecDepth 100000
set_option maxHeartbeats 4000000
namespace W
open PySem L2 PD
local macro_rules | `(tactic| walk_at "sd") => `(tactic| first | assumption | rfl | omega | (simp; done) | (simp; omega) | (simp_all; done) | (simp_all; omega) | (split <;> (try split) <;> omega))
local macro_rules | `(tactic| walk_at "om") => `(tactic| first | omega | (simp; done) | (simp; omega) | (push_cast; omega) | (simp [merge]; done) | (simp_all; done) | (simp_all; omega))
local macro_rules | `(tactic| walk_at "no") => `(tactic| first | (intro z; cases z; done) | (intro z; exact absurd z (by decide)) | (intro z; exfalso; simp at z; done) | (intro z; exfalso; simp at z; omega) | (intro z; exfalso; simp_all; done) | (intro z; exfalso; simp_all; omega))
local macro_rules | `(tactic| walk_at "nb") => `(tactic| first | decide | (simp; done) | (simp; omega) | (simp_all; done) | (simp_all; omega))
local macro_rules | `(tactic| walk_at "mg") => `(tactic| first | rfl | assumption)
local macro_rules | `(tactic| walk_at "h") => `(tactic| try (conv => whnf))
local macro_rules | `(tactic| walk_at "sd") => `(tactic| (refine And.intro (a := _ < 4611686018427387904) ?_ ?_ <;> first | omega | (simp only [List.length_map, List.length_append, List.length_range, List.length_cons, List.length_nil]; omega)))
local macro_rules | `(tactic| walk_at "w") => `(tactic| (repeat ((try (conv => whnf)); first | (guard_target =~ Sd _ _; first | (guard_target =~ Sd (strsD _ = true) _; refine Sd.mk (strsD_map _) ?_) | (refine Sd.mk (by walk_at "sd") ?_)) | (guard_target =~ HL _ _ _; first | (refine HL.mk 0 _ rfl ?_) | (refine HL.mk 1 _ rfl ?_) | (refine HL.mk 2 _ rfl ?_) | (refine HL.mk 3 _ rfl ?_) | (refine HL.mk 4 _ rfl ?_) | (refine HL.mk 5 _ rfl ?_)) | (guard_target =~ It1 _ _ _; first | (refine It1.mk 0 _ (.inl ⟨by decide, rfl, by simp⟩) rfl ?_) | (refine It1.mk 1 _ (.inl ⟨by decide, rfl, by simp⟩) rfl ?_) | (refine It1.mk 2 _ (.inl ⟨by decide, rfl, by simp⟩) rfl ?_) | (refine It1.mk 3 _ (.inl ⟨by decide, rfl, by simp⟩) rfl ?_) | (refine It1.mk 4 _ (.inl ⟨by decide, rfl, by simp⟩) rfl ?_) | (refine It1.mk 5 _ (.inl ⟨by decide, rfl, by simp⟩) rfl ?_)))); try (conv => whnf))
local macro_rules | `(tactic| walk_at "b") => `(tactic| first | (refine Br.mk (fun hz => ?_) (by first | (intro z; cases z; done) | fail); clear hz) | (refine Br.mk (by first | (intro z; cases z; done) | fail) (fun hz => ?_); clear hz) | (refine Br.mk (fun hz => ?_) (by first | (intro z; exact absurd z (by decide)) | fail); clear hz) | (refine Br.mk (by first | (intro z; exact absurd z (by decide)) | fail) (fun hz => ?_); clear hz) | refine Br.mk (fun _ => ?_) (by walk_at "no") | refine Br.mk (by walk_at "no") (fun _ => ?_))
local macro_rules | `(tactic| walk_at "t") => `(tactic| refine Br.mk (fun _ => ?_) (by walk_at "no"))
local macro_rules | `(tactic| walk_at "xf") => `(tactic| (refine HX.some 0 _ _ _ rfl rfl rfl ⟨_, 0, _, ⟨rfl, by simp, by decide, rfl, rfl⟩, ?_⟩))
local macro_rules | `(tactic| walk_at "xi") => `(tactic| ((first | refine HX.some 0 _ _ _ rfl rfl rfl ?_ | refine HX.none rfl rfl ?_); first | (refine Mt.mk 0 _ _ rfl rfl ?_) | (refine Mt.mk 1 _ _ rfl rfl ?_) | (refine Mt.mk 2 _ _ rfl rfl ?_) | (refine Mt.mk 3 _ _ rfl rfl ?_)))
local macro_rules | `(tactic| walk_at "mt") => `(tactic| first | (refine Mt.mk 0 _ _ rfl rfl ?_) | (refine Mt.mk 1 _ _ rfl rfl ?_) | (refine Mt.mk 2 _ _ rfl rfl ?_) | (refine Mt.mk 3 _ _ rfl rfl ?_))
local macro_rules | `(tactic| walk_at "dx") => `(tactic| first | (refine DropX.here ?_) | (refine DropX.there (DropX.here ?_)) | (refine DropX.there (DropX.there (DropX.here ?_))))
local macro_rules | `(tactic| walk_at "f") => `(tactic| refine Br.mk (by walk_at "no") (fun _ => ?_))
/-! ### draws, rules, books: the data -/
structure Jar where
  a : Int
  b : Int
  c : Int
def Jar.mo (j : Jar) : MO := .lst [.int j.a, .int j.b, .int j.c]
structure Jar.Ok (j : Jar) (n : Int) : Prop where
  b0 : 0 ≤ j.b
  b1 : j.b < 10000000000000000000000000000000000000000
  c0 : 0 ≤ j.c
  c1 : j.c ≤ n
theorem Jar.Ok.mono {j : Jar} {n m : Int} (h : j.Ok n) (l : n ≤ m) : j.Ok m := ⟨h.b0, h.b1, h.c0, Int.le_trans h.c1 l⟩
def acts : List Str := ["take", "least", "last", "show", "ask"]
def doors : List Str := ["put", "look", "alter", "back", "pay", "again"]
abbrev Rule := List Str
structure OkR (r : Rule) : Prop where
  len : r.length ≤ 6
  mem : ∀ a ∈ r, a ∈ acts
def dR (r : Rule) : D := .tup (r.map D.str)
abbrev Six := List Rule
structure OkS (s : Six) : Prop where
  len : s.length = 6
  ok : ∀ r ∈ s, OkR r
def dS (s : Six) : D := .tup (s.map dR)
theorem acts_lay : ∀ a ∈ acts, PyData.canLay0 (.str a) = true := by decide +kernel
theorem dR_sm {r : Rule} (h : OkR r) : sm 1 (dR r) = true := by
  unfold dR
  simp only [sm]
  rw [sms_iff]
  intro d hd
  obtain ⟨a, ha, rfl⟩ := List.mem_map.mp hd
  simpa [sm] using acts_lay a (h.mem a ha)
theorem dS_sm {s : Six} (h : ∀ r ∈ s, OkR r) : sm 2 (dS s) = true := by
  unfold dS
  simp only [sm]
  rw [sms_iff]
  intro d hd
  obtain ⟨r, hr, rfl⟩ := List.mem_map.mp hd
  exact dR_sm (h r hr)
theorem eqv_strs : ∀ r q : List Str, PyData.eqvAll (pys (r.map D.str)) (pys (q.map D.str)) = decide (r = q)
  | [], [] => rfl
  | [], _ :: _ => rfl
  | _ :: _, [] => rfl
  | a :: r, b :: q => by
    simp only [List.map_cons, pys, PyData.eqvAll, py, PyData.eqv, eqv_strs r q]
    by_cases h : a = b <;> by_cases h2 : r = q <;> simp [h, h2]
theorem eqv_R (r q : Rule) : PyData.eqv (py (dR r)) (py (dR q)) = decide (r = q) := by
  unfold dR
  simp only [py, PyData.eqv, eqv_strs]
theorem eqv_Rs : ∀ s t : Six, PyData.eqvAll (pys (s.map dR)) (pys (t.map dR)) = decide (s = t)
  | [], [] => rfl
  | [], _ :: _ => rfl
  | _ :: _, [] => rfl
  | a :: r, b :: q => by
    simp only [List.map_cons, pys, PyData.eqvAll, eqv_R, eqv_Rs r q]
    by_cases h : a = b <;> by_cases h2 : r = q <;> simp [h, h2]
theorem eqv_S (s t : Six) : PyData.eqv (py (dS s)) (py (dS t)) = decide (s = t) := by
  unfold dS
  simp only [py, PyData.eqv, eqv_Rs]
/-- a value is an action, is a rule -/
def isAct : D → Bool | .str s => decide (s ∈ acts) | _ => false
def isRule : D → Bool | .tup ds => decide (ds.length ≤ 6) && ds.all isAct | _ => false
/-- what is_rule can be asked -/
def knR (d : D) : Bool := kn d && match d with | .tup ds => ds.all kn | _ => true
theorem isRule_dR {r : Rule} (h : OkR r) : isRule (dR r) = true := by
  unfold dR isRule
  simp only [List.length_map, Bool.and_eq_true, decide_eq_true_eq, List.all_eq_true]
  refine ⟨h.len, fun d hd => ?_⟩
  obtain ⟨a, ha, rfl⟩ := List.mem_map.mp hd
  simpa [isAct] using h.mem a ha
theorem knR_dR (r : Rule) : knR (dR r) = true := by
  unfold dR knR
  simp only [Bool.and_eq_true, List.all_eq_true]
  refine ⟨rfl, fun d hd => ?_⟩
  obtain ⟨a, ha, rfl⟩ := List.mem_map.mp hd
  rfl
def isDoor : D → Bool | .str s => decide (s ∈ doors) | _ => false
theorem any_strs : ∀ (l : List Str) (s : Str), (l.map D.str).any (isS s) = decide (s ∈ l)
  | [], s => by simp
  | t :: l, s => by
    simp only [List.map_cons, List.any_cons, any_strs l s, isS, List.mem_cons]
    by_cases h : t = s
    · simp [h]
    · have : s ≠ t := fun e => h e.symm
      by_cases h2 : s ∈ l <;> simp [h, this, h2]
theorem merge_nil (M : Ms) : merge [] M [] = M := by simp [merge]
def dDoors : D := .tup (doors.map D.str)
def dActs : D := .tup (acts.map D.str)
/-- a book as it stands -/
abbrev bk (C : Addr) (s : Six) : D := .ins C ["row"] [dS s]
def badAt (six : List D) : Nat := six.findIdx fun d => !isRule d
theorem rs_sm {s : Six} (h : ∀ r ∈ s, OkR r) : sm 2 (.lst (s.map dR)) = true := by
  simp only [sm]
  rw [sms_iff]
  intro d hd
  obtain ⟨r, hr, rfl⟩ := List.mem_map.mp hd
  exact dR_sm (h r hr)
theorem eqv_nilL : PyData.eqv (py (.lst [])) (py (.lst [])) = true := by simp [py, pys, PyData.eqv, PyData.eqvAll]
theorem idx_doors {s : Str} (h : s ∈ doors) : doors.idxOf s < 6 ∧ doors[doors.idxOf s]? = some s ∧ ∀ m, m < doors.idxOf s → doors[m]? ≠ some s := by
  have k : ∀ s ∈ doors, doors.idxOf s < 6 ∧ doors[doors.idxOf s]? = some s ∧ ∀ m, m < doors.idxOf s → doors[m]? ≠ some s := by decide +kernel
  exact k s h
theorem door_at {a : Nat} (h : a < 6) : ∃ dn, doors[a]? = some dn ∧ dn ∈ doors ∧ doors.idxOf dn = a := by
  have k : ∀ a < 6, ∃ dn ∈ doors, doors[a]? = some dn ∧ doors.idxOf dn = a := by decide +kernel
  obtain ⟨dn, h1, h2, h3⟩ := k a h
  exact ⟨dn, h2, h1, h3⟩
theorem isDoor_str {s : Str} (h : s ∈ doors) : isDoor (.str s) = true := by simpa [isDoor] using h
theorem isDoor_get {d : D} (h : isDoor d = true) : ∃ s, d = .str s ∧ s ∈ doors := by
  cases d <;> simp [isDoor] at h
  exact ⟨_, rfl, h⟩
theorem six_get {s : Six} (h : s.length = 6) : ∃ a b c d e f, s = [a, b, c, d, e, f] := by
  match s, h with
  | [a, b, c, d, e, f], _ => exact ⟨a, b, c, d, e, f, rfl⟩
theorem six_getD {s : List D} (h : s.length = 6) : ∃ a b c d e f, s = [a, b, c, d, e, f] := by
  match s, h with
  | [a, b, c, d, e, f], _ => exact ⟨a, b, c, d, e, f, rfl⟩
theorem okR_nil : OkR [] := ⟨by simp, by simp⟩
theorem all_rules {s : Six} (h : ∀ r ∈ s, OkR r) : (s.map dR).all isRule = true := by
  simp only [List.all_eq_true]
  intro d hd
  obtain ⟨r, hr, rfl⟩ := List.mem_map.mp hd
  exact isRule_dR (h r hr)
theorem all_knR {s : Six} : ∀ d ∈ s.map dR, knR d = true := by
  intro d hd
  obtain ⟨r, hr, rfl⟩ := List.mem_map.mp hd
  exact knR_dR r
theorem isAct_str (s : Str) : (acts.map D.str).any (isS s) = isAct (.str s) := any_strs acts s
theorem isDoor_any (s : Str) : (doors.map D.str).any (isS s) = isDoor (.str s) := any_strs doors s
theorem sub_one {α : Type} (a b : α) : List.Sublist [a] [a, b] := List.Sublist.cons₂ _ (List.nil_sublist _)
theorem mem_take_succ {α : Type} {l : List α} {i : Nat} {e d : α} (h : l[i]? = some e) (hd : d ∈ l.take (i + 1)) : d ∈ l.take i ∨ d = e := by
  rw [List.take_add_one, h] at hd
  simpa using hd
theorem first_eq {l : List D} {i j : Nat} {e e' : D} (h : l[i]? = some e) (he : isRule e = false) (ha : ∀ d ∈ l.take i, isRule d = true) (h' : l[j]? = some e') (he' : isRule e' = false) (ha' : ∀ d ∈ l.take j, isRule d = true) : i = j := by
  rcases Nat.lt_trichotomy i j with q | q | q
  · have := ha' e (List.mem_of_getElem? (i := i) (by rw [List.getElem?_take, if_pos q]; exact h))
    rw [he] at this; cases this
  · exact q
  · have := ha e' (List.mem_of_getElem? (i := j) (by rw [List.getElem?_take, if_pos q]; exact h'))
    rw [he'] at this; cases this
theorem names_at {a : Nat} {dn : Str} (h : doors[a]? = some dn) : (doors.map D.str)[a]? = some (.str dn) := by rw [List.getElem?_map, h]; rfl
theorem isTup_dR (r : Rule) : isTupD (dR r) = true := rfl
theorem isTup_dS (s : Six) : isTupD (dS s) = true := rfl
theorem eqv_S2 (s t : Six) : PyData.eqv (py (.tup (s.map dR))) (py (dS t)) = decide (s = t) := eqv_S s t
theorem six_ok {s t : Six} (h : ∀ r ∈ s, OkR r) (ht : ∀ r ∈ t, r = [] ∨ r ∈ s) : ∀ r ∈ t, OkR r := fun r hr => (ht r hr).elim (fun e => by rw [e]; exact okR_nil) (h r)
theorem le_max8 (n : Nat) : (if (if (n : Int) < 8 then (n : Int) else 8) > 1 then (if (n : Int) < 8 then (n : Int) else 8) else 1).toNat ≤ 8 := by split <;> split at * <;> omega
theorem lt_of_max {i n : Nat} (h : i < (if (if (n : Int) < 8 then (n : Int) else 8) > 1 then (if (n : Int) < 8 then (n : Int) else 8) else 1).toNat) : i < 8 := Nat.lt_of_lt_of_le h (le_max8 n)
theorem get_map {α : Type} {f : α → D} {l : List α} {i : Nat} {d : D} (h : (l.map f)[i]? = some d) : ∃ a, l[i]? = some a ∧ d = f a := by
  rw [List.getElem?_map] at h
  cases e : l[i]? with
  | none => rw [e] at h; cases h
  | some a => rw [e] at h; cases h; exact ⟨a, rfl, rfl⟩
/-! ### lines and carts: the data -/
def dO : Option Int → D | none => .non | some i => .int i
/-- a rule carried out at a line: what stays, what was seen, what was told, how often asked -/
structure LW where
  stays : Int
  seen : Option Int
  told : List Int
  times : Int
def lwF : List Str := ["stays", "seen", "told", "times"]
def lwM (C x t : Addr) (w : LW) : Ms := [(x, .ins C lwF [.int w.stays, dO w.seen, .hdl t, .int w.times]), (t, .lst (w.told.map D.int))]
def lwShow (a : Str) (w : LW) : LW := { stays := w.stays, seen := some w.stays, told := w.told ++ [w.stays], times := if a = "ask" then w.times + 1 else w.times }
def lwStep (now : Int) (w : LW) (a : Str) : LW :=
  if a = "take" then { w with stays := now }
  else if a = "least" then { w with stays := if now < w.stays then now else w.stays }
  else if a = "last" then (match w.seen with | none => w | some s => { w with stays := s })
  else if a = "show" ∨ w.seen ≠ some w.stays then lwShow a w else w
def lwRun (now : Int) (r : Rule) (w : LW) : LW := r.foldl (lwStep now) w
theorem lwStep_told (now : Int) (w : LW) (a : Str) : (lwStep now w a).told.length ≤ w.told.length + 1 := by
  unfold lwStep
  split
  · simp
  · split
    · simp
    · split
      · split <;> simp
      · split <;> simp [lwShow]
theorem lwRun_told (now : Int) : ∀ (r : Rule) (w : LW), (lwRun now r w).told.length ≤ w.told.length + r.length
  | [], w => by simp [lwRun]
  | a :: r, w => by
    have h1 := lwRun_told now r (lwStep now w a)
    have h2 := lwStep_told now w a
    have e : lwRun now (a :: r) w = lwRun now r (lwStep now w a) := rfl
    rw [e]
    simp only [List.length_cons]
    omega
theorem lwRun_succ (now : Int) {r : Rule} {i : Nat} {a : Str} (h : r[i]? = some a) (w : LW) : lwRun now (r.take (i + 1)) w = lwStep now (lwRun now (r.take i) w) a := by
  unfold lwRun
  rw [List.take_add_one, h, List.foldl_append]
  rfl
/-- a line of a cart -/
structure Ln where
  item : Str
  number : Int
  kept : Int
  shown : Option Int
  greatest : Option Int
def lnF : List Str := ["item", "number", "kept", "shown", "greatest"]
def lnMO (C : Addr) (l : Ln) : MO := .ins C lnF [.str l.item, .int l.number, .int l.kept, dO l.shown, dO l.greatest]
def gMax (g : Option Int) (a : Int) : Option Int := match g with
  | none => some a
  | some b => some (if a > b then a else b)
/-- a rule is carried out at a line -/
def lnWork (now : Int) (r : Rule) (l : Ln) : LW := lwRun now r ⟨l.kept, l.shown, [], 0⟩
def lnRun (now : Int) (r : Rule) (l : Ln) : Ln := { l with kept := (lnWork now r l).stays, shown := (lnWork now r l).seen, greatest := (lnWork now r l).told.foldl gMax l.greatest }
theorem gMax_succ {td : List Int} {i : Nat} {am : Int} (h : td[i]? = some am) (g : Option Int) : (td.take (i + 1)).foldl gMax g = gMax ((td.take i).foldl gMax g) am := by
  rw [List.take_add_one, h, List.foldl_append]
  rfl
theorem dO_raw (o : Option Int) : ∀ u, dO o ≠ .raw u := by cases o <;> intro u h <;> cases h
/-! ### items, deeds, carts: the data -/
structure OkI (s : Str) : Prop where
  lay : PyData.canLay0 (.str s) = true
  l1 : 1 ≤ s.length
  l8 : s.length ≤ 8
  ch : ∀ c ∈ s.cps.toList, 97 ≤ c ∧ c ≤ 122
inductive Dd where
  | price (i : Str) (a : Int) | put (i : Str) (n : Int) | alter (i : Str) (n : Int) | look | back | pay (b : Bool)
def dDd : Dd → D
  | .price i a => .tup [.str "price", .str i, .int a]
  | .put i n => .tup [.str "put", .str i, .int n]
  | .alter i n => .tup [.str "alter", .str i, .int n]
  | .look => .tup [.str "look"]
  | .back => .tup [.str "back"]
  | .pay b => .tup [.str "pay", .bl b]
def wordD : Dd → Str | .price _ _ => "price" | .put _ _ => "put" | .alter _ _ => "alter" | .look => "look" | .back => "back" | .pay _ => "pay"
def OkD : Dd → Prop
  | .price i a => OkI i ∧ 0 ≤ a ∧ a ≤ 1000000000000
  | .put i n => OkI i ∧ 1 ≤ n ∧ n ≤ 1000
  | .alter i n => OkI i ∧ 0 ≤ n ∧ n ≤ 1000
  | _ => True
abbrev Am := List (Str × Int)
def Am.ks (m : Am) : List Key := m.map fun p => .inr p.1
def Am.ds (m : Am) : List D := m.map fun p => .int p.2
def Am.get (m : Am) (i : Str) : Option Int := m.lookup i
def Am.put (m : Am) (i : Str) (a : Int) : Am := m.map fun p => if p.1 = i then (p.1, a) else p
theorem am_val (m : Am) (i : Str) : valK m.ks m.ds (.inr i) = (m.get i).map D.int := by
  induction m with
  | nil => rfl
  | cons p m ih =>
    obtain ⟨q, a⟩ := p
    have ih2 : valK (m.map fun p => (.inr p.1 : Key)) (m.map fun p => D.int p.2) (.inr i) = (m.lookup i).map D.int := ih
    simp only [Am.ks, Am.ds, Am.get, List.map_cons, valK, List.lookup]
    by_cases h : q = i
    · subst h; simp
    · have h2 : (i == q) = false := by simpa using fun e : i = q => h e.symm
      have h3 : ¬((.inr q : Key) = .inr i) := fun e => h (Sum.inr.inj e)
      rw [if_neg h3, h2, ih2]
theorem am_put (m : Am) (i : Str) (a : Int) : putDs m.ks m.ds (.inr i) (.int a) = (m.put i a).ds ∧ (m.put i a).ks = m.ks := by
  induction m with
  | nil => exact ⟨rfl, rfl⟩
  | cons p m ih =>
    obtain ⟨q, b⟩ := p
    obtain ⟨h1, h2⟩ := ih
    simp only [Am.ks, Am.ds, Am.put, List.map_cons, List.map_map, putDs] at h1 h2 ⊢
    rw [h1]
    by_cases h : q = i
    · subst h; simp [h2]
    · have h3 : ¬((.inr q : Key) = .inr i) := fun e => h (Sum.inr.inj e)
      simp [h, h2]
theorem am_mem {m : Am} {i : Str} {a : Int} (h : m.get i = some a) : (.inr i : Key) ∈ m.ks := by
  unfold Am.get at h
  induction m with
  | nil => cases h
  | cons p m ih =>
    obtain ⟨q, b⟩ := p
    simp only [List.lookup] at h
    by_cases e : i = q
    · subst e; simp [Am.ks]
    · have e2 : (i == q) = false := by simpa using e
      rw [e2] at h
      have := ih h
      simp only [Am.ks, List.map_cons, List.mem_cons] at this ⊢
      exact .inr this
theorem am_get_mem {m : Am} {i : Str} {a : Int} (h : m.get i = some a) : (i, a) ∈ m := by
  unfold Am.get at h
  induction m with
  | nil => cases h
  | cons p m ih =>
    obtain ⟨q, b⟩ := p
    simp only [List.lookup] at h
    by_cases e : i = q
    · subst e; simp at h; simp [h]
    · have e2 : (i == q) = false := by simpa using e
      rw [e2] at h
      exact List.mem_cons_of_mem _ (ih h)
theorem am_get_put (m : Am) (i j : Str) (a : Int) : (m.put i a).get j = if i = j then (m.get j).map fun _ => a else m.get j := by
  unfold Am.get Am.put
  induction m with
  | nil => simp
  | cons p m ih =>
    obtain ⟨q, b⟩ := p
    simp only [List.map_cons, List.lookup]
    by_cases e : q = i
    · subst e
      rw [if_pos rfl]
      by_cases f : q = j
      · subst f; simp
      · have f2 : (j == q) = false := by simpa using fun h : j = q => f h.symm
        simp only [f2, ih, if_neg f]
    · rw [if_neg e]
      by_cases f : q = j
      · subst f
        have e2 : ¬ i = q := fun h => e h.symm
        simp [e2]
      · have f2 : (j == q) = false := by simpa using fun h : j = q => f h.symm
        simp only [f2, ih]
structure Ct where
  am : Am
  failed : Bool
  spent : Int
  asked : Int
def ctF : List Str := ["design", "amounts", "rows", "is_failed", "spent", "times_asked"]
abbrev Rs := List (Addr × Ln)
def rowE (CI : Addr) (p : Addr × Ln) : Addr × MO := (p.1, lnMO CI p.2)
abbrev hd1 (p : Addr × Ln) : D := .hdl p.1
abbrev cartM (C CI x am rw : Addr) (g : D) (c : Ct) (rs : Rs) : Ms :=
  (x, .ins C ctF [g, .hdl am, .hdl rw, .bl c.failed, .int c.spent, .int c.asked]) :: (am, .dct c.am.ks c.am.ds) :: (rw, .lst (rs.map hd1)) :: rs.map (rowE CI)
theorem row_at {CI : Addr} {rs : Rs} {q : Nat} {p : Addr × Ln} (h : rs[q]? = some p) : (rs.map (rowE CI))[q]? = some (p.1, lnMO CI p.2) := by rw [List.getElem?_map, h]; rfl
theorem row_set {CI : Addr} {rs : Rs} {q : Nat} {p : Addr × Ln} {l : Ln} (h : rs[q]? = some p) : (rs.map (rowE CI)).set q (p.1, lnMO CI l) = (rs.set q (p.1, l)).map (rowE CI) ∧ (rs.set q (p.1, l)).map hd1 = rs.map hd1 := by
  refine ⟨by rw [List.map_set]; rfl, ?_⟩
  rw [List.map_set]
  refine List.ext_getElem? fun j => ?_
  rw [List.getElem?_set]
  split
  · rename_i e; subst e
    split
    · rw [List.getElem?_map, h]; rfl
    · rename_i e2; rw [List.getElem?_eq_none (by omega)]
  · rfl
def findR (i : Str) (rs : Rs) : Option Nat := rs.findIdx? fun p => decide (p.2.item = i)
def findL (i : Str) (ls : List Ln) : Option Nat := ls.findIdx? fun l => decide (l.item = i)
theorem findR_L (i : Str) (rs : Rs) : findR i rs = findL i (rs.map (·.2)) := by
  unfold findR findL
  rw [List.findIdx?_map]
  rfl
def rowD (i : Str) (rs : Rs) : D := match findR i rs with | some q => .hdl ((rs.map (·.1)).getD q 0) | none => .non
theorem findR_some {i : Str} {rs : Rs} {q : Nat} (h : findR i rs = some q) : ∃ p, rs[q]? = some p ∧ p.2.item = i := by
  unfold findR at h
  rw [List.findIdx?_eq_some_iff_getElem] at h
  obtain ⟨hl, h1, _⟩ := h
  exact ⟨rs[q], List.getElem?_eq_getElem hl, by simpa using h1⟩
theorem findR_first {i : Str} {rs : Rs} {q : Nat} {p : Addr × Ln} (h : rs[q]? = some p) (e : p.2.item = i) (n : ∀ z ∈ rs.take q, z.2.item ≠ i) : rowD i rs = .hdl p.1 := by
  have hl := (List.getElem?_eq_some_iff.mp h).1
  have : findR i rs = some q := by
    unfold findR
    rw [List.findIdx?_eq_some_iff_getElem]
    refine ⟨hl, ?_, fun j hj => ?_⟩
    · rw [(List.getElem?_eq_some_iff.mp h).2]; simpa using e
    · have := n rs[j] (List.mem_of_getElem? (i := j) (by rw [List.getElem?_take, if_pos hj]; exact List.getElem?_eq_getElem (by omega)))
      simpa using this
  unfold rowD
  rw [this]
  show D.hdl ((rs.map (·.1)).getD q 0) = _
  rw [List.getD_eq_getElem?_getD, List.getElem?_map, h]
  rfl
theorem findR_none {i : Str} {rs : Rs} (n : ∀ z ∈ rs, z.2.item ≠ i) : findR i rs = none := by
  unfold findR
  rw [List.findIdx?_eq_none_iff]
  intro x hx
  simpa using n x hx
theorem rowD_none {i : Str} {rs : Rs} (n : ∀ z ∈ rs, z.2.item ≠ i) : rowD i rs = .non := by unfold rowD; rw [findR_none n]
theorem rowD_some {i : Str} {rs : Rs} {q : Nat} (h : findR i rs = some q) {p : Addr × Ln} (hp : rs[q]? = some p) : rowD i rs = .hdl p.1 := by
  unfold rowD; rw [h]
  show D.hdl ((rs.map (·.1)).getD q 0) = _
  rw [List.getD_eq_getElem?_getD, List.getElem?_map, hp]
  rfl
/-- a deed begins, changes or removes a line; the places of the lines that go by a rule -/
def touchL (m : Am) (d : Dd) (ls : List Ln) : List Ln × List Nat := match d with
  | .put i n => match findL i ls with
    | none => (ls ++ [⟨i, n, (m.get i).getD 0, none, none⟩], [ls.length])
    | some q => (ls.modify q fun l => { l with number := l.number + n }, [q])
  | .alter i n => match findL i ls with
    | none => (ls, [])
    | some q => if n = 0 then (ls.filter fun l => !decide (l.item = i), []) else (ls.modify q fun l => { l with number := n }, [q])
  | _ => (ls, List.range ls.length)
def Play (m : Am) (ls : List Ln) : Dd → Prop
  | .price i _ => (m.get i).isSome = true
  | .put i _ => (m.get i).isSome = true
  | .alter i _ => (m.get i).isSome = true ∧ (findL i ls).isSome = true
  | _ => True
def ruleOf (s : Six) (w : Str) : Rule := s.getD (doors.idxOf w) []
def doorOf (d : Dd) (failed : Bool) : Str := match d with | .pay _ => if failed then "again" else "pay" | d => wordD d
def carryStep (m : Am) (r : Rule) (st : List Ln × List Str) (q : Nat) : List Ln × List Str := match st.1[q]? with
  | none => st
  | some l => (st.1.set q (lnRun ((m.get l.item).getD 0) r l), st.2 ++ List.replicate (lnWork ((m.get l.item).getD 0) r l).times.toNat l.item)
def carryL (m : Am) (r : Rule) (ls : List Ln) (js : List Nat) : List Ln × List Str := js.foldl (carryStep m r) (ls, [])
def isF (d : Dd) : Bool := match d with | .pay false => true | _ => false
def isT (d : Dd) : Bool := match d with | .pay true => true | _ => false
/-- a person's deed but for what is paid -/
def carryC (s : Six) (d : Dd) (c : Ct) (ls : List Ln) : Ct × List Ln × List Str :=
  let t := touchL c.am d ls
  let r := carryL c.am (ruleOf s (doorOf d c.failed)) t.1 t.2
  ({ c with failed := isF d, asked := c.asked + r.2.length }, r.1, r.2)
def tellD (l : Ln) : D := .tup [.str l.item, .int l.number, dO l.shown]
def boughtD (l : Ln) : D := .tup [.str l.item, .int l.number, .int l.kept]
def paidC (d : Dd) (c : Ct) (ls : List Ln) : Ct × List Ln := if isT d then ({ c with spent := c.spent + (ls.map fun l => l.number * l.kept).sum }, []) else (c, ls)
def paidD (d : Dd) (ls : List Ln) : D := if isT d then .lst (ls.map boughtD) else .non
theorem letter_in {c : Nat} (h : 97 ≤ c ∧ c ≤ 122) : (!(PySem.Builtin.Str.occurrences ("abcdefghijklmnopqrstuvwxyz" : Str) ⟨#[c]⟩ 0 ("abcdefghijklmnopqrstuvwxyz" : Str).length 1).isEmpty) = true := by
  have k : ∀ j < 26, (!(PySem.Builtin.Str.occurrences ("abcdefghijklmnopqrstuvwxyz" : Str) ⟨#[97 + j]⟩ 0 ("abcdefghijklmnopqrstuvwxyz" : Str).length 1).isEmpty) = true := by decide +kernel
  have := k (c - 97) (by omega)
  rwa [show 97 + (c - 97) = c by omega] at this
theorem all_reps (n : Nat) : (List.replicate n true).all id = true := by simp
def dPr (m : Am) : D := .tup (m.map fun p => .tup [.str p.1, .int p.2])
structure OkP (m : Am) : Prop where
  l1 : 1 ≤ m.length
  l6 : m.length ≤ 6
  it : ∀ p ∈ m, OkI p.1 ∧ 0 ≤ p.2 ∧ p.2 ≤ 1000000000000
  nd : (m.map (·.1)).Nodup
theorem am_new {m : Am} {i : Nat} {p : Str × Int} (nd : (m.map (·.1)).Nodup) (h : m[i]? = some p) : (.inr p.1 : Key) ∉ Am.ks (m.take i) := fun hm => by
  obtain ⟨z, hz, e⟩ := List.mem_map.mp hm
  have e2 : z.1 = p.1 := Sum.inr.inj e
  have hl := (List.getElem?_eq_some_iff.mp h).1
  have e3 : m = m.take i ++ p :: m.drop (i + 1) := by rw [← (List.getElem?_eq_some_iff.mp h).2, List.getElem_cons_drop_succ_eq_drop, List.take_append_drop]
  rw [e3, List.map_append, List.map_cons, List.nodup_append] at nd
  exact nd.2.2 z.1 (List.mem_map_of_mem hz) p.1 (by simp) e2
theorem am_take_ks {m : Am} {i : Nat} {p : Str × Int} (h : m[i]? = some p) : Am.ks (m.take i) ++ [.inr p.1] = Am.ks (m.take (i + 1)) := by rw [List.take_add_one, h]; simp [Am.ks]
theorem am_take_ds {m : Am} {i : Nat} {p : Str × Int} (h : m[i]? = some p) : Am.ds (m.take i) ++ [.int p.2] = Am.ds (m.take (i + 1)) := by rw [List.take_add_one, h]; simp [Am.ds]
def hdAt (rs : Rs) (j : Nat) : D := .hdl ((rs.map (·.1)).getD j 0)
theorem hdAt_at {rs : Rs} {j : Nat} {p : Addr × Ln} (h : rs[j]? = some p) : hdAt rs j = .hdl p.1 := by
  unfold hdAt
  rw [List.getD_eq_getElem?_getD, List.getElem?_map, h]
  rfl
theorem range_hd (rs : Rs) : rs.map hd1 = (List.range rs.length).map (hdAt rs) := by
  refine List.ext_getElem? fun j => ?_
  rw [List.getElem?_map, List.getElem?_map]
  by_cases h : j < rs.length
  · rw [List.getElem?_eq_getElem h, List.getElem?_range h]
    simp only [Option.map_some]
    rw [hdAt_at (List.getElem?_eq_getElem h)]
  · rw [List.getElem?_eq_none (by omega), List.getElem?_eq_none (by simpa using h)]
    rfl
theorem findR_none_iff {i : Str} {rs : Rs} : findR i rs = none ↔ ∀ z ∈ rs, z.2.item ≠ i := by
  unfold findR
  rw [List.findIdx?_eq_none_iff]
  simp
theorem map_set_modify {rs : Rs} {q : Nat} {p : Addr × Ln} (h : rs[q]? = some p) (f : Ln → Ln) : (rs.set q (p.1, f p.2)).map (·.2) = (rs.map (·.2)).modify q f := by
  refine List.ext_getElem? fun j => ?_
  rw [List.getElem?_map, List.getElem?_set, List.getElem?_modify, List.getElem?_map]
  by_cases e : q = j
  · subst e
    have hl := (List.getElem?_eq_some_iff.mp h).1
    have hz := (List.getElem?_eq_some_iff.mp h).2
    simp [hl, hz]
  · simp [e]
theorem take_filter_len (rs : Rs) (i : Nat) (f : Addr × Ln → Bool) : ((rs.take i).filter f).length ≤ rs.length :=
  Nat.le_trans (List.length_filter_le _ _) (by rw [List.length_take]; exact Nat.min_le_right _ _)
theorem take_filter_yes {rs : Rs} {i : Nat} {z : Addr × Ln} {f : Addr × Ln → Bool} (h : rs[i]? = some z) (y : f z = true) : (rs.take (i + 1)).filter f = (rs.take i).filter f ++ [z] := by
  rw [List.take_add_one, h, List.filter_append]
  simp [y]
theorem take_filter_no {rs : Rs} {i : Nat} {z : Addr × Ln} {f : Addr × Ln → Bool} (h : rs[i]? = some z) (y : f z = false) : (rs.take (i + 1)).filter f = (rs.take i).filter f := by
  rw [List.take_add_one, h, List.filter_append]
  simp [y]
theorem zero_perm (A B R : Addr × MO) (L : Ms) (W : Addr × MO) : (A :: B :: R :: L ++ [W]).Perm (A :: B :: W :: R :: L) :=
  .cons _ (.cons _ (List.perm_append_singleton W (R :: L)))
theorem zero_sub (A B W R : Addr × MO) (L L' : Ms) (h : L'.Sublist L) : (A :: B :: W :: L').Sublist (A :: B :: W :: R :: L) :=
  .cons₂ _ (.cons₂ _ (.cons₂ _ (.cons _ h)))
theorem filter_rows (CI : Addr) (rs : Rs) (f : Addr × Ln → Bool) : ((rs.filter f).map (rowE CI)).Sublist (rs.map (rowE CI)) := List.filter_sublist.map _
theorem filter_set_no {f : Addr × Ln → Bool} {p p' : Addr × Ln} : ∀ {rs : Rs} {q : Nat}, rs[q]? = some p → f p = false → f p' = false → (rs.set q p').filter f = rs.filter f
  | [], _, h, _, _ => by cases h
  | z :: rs, 0, h, h1, h2 => by cases h; simp [h1, h2]
  | z :: rs, q + 1, h, h1, h2 => by
    have := filter_set_no (rs := rs) (q := q) h h1 h2
    simp only [List.set_cons_succ, List.filter_cons, this]
section
variable {CC CI x am rw : Addr} {g : D} {c : Ct} {rs : Rs} {k : KD} {i : Str} {n : Int} {q : Nat} {p : Addr × Ln}
theorem touch_put_old (hq : findR i rs = some q) (hp : rs[q]? = some p) (hk : ∀ rw' rs', rs'.map (·.2) = (touchL c.am (.put i n) (rs.map (·.2))).1 → k (.lst ((touchL c.am (.put i n) (rs.map (·.2))).2.map (hdAt rs'))) (cartM CC CI x am rw' g c rs')) :
    k (.lst [.hdl p.1]) ((x, .ins CC ctF [g, .hdl am, .hdl rw, .bl c.failed, .int c.spent, .int c.asked]) :: (am, .dct c.am.ks c.am.ds) :: (rw, .lst (rs.map hd1)) :: (rs.map (rowE CI)).set q (p.1, lnMO CI { p.2 with number := p.2.number + n })) := by
  have e : touchL c.am (.put i n) (rs.map (·.2)) = ((rs.map (·.2)).modify q fun l => { l with number := l.number + n }, [q]) := by simp [touchL, ← findR_L, hq]
  obtain ⟨e1, e2⟩ := row_set (CI := CI) (l := { p.2 with number := p.2.number + n }) hp
  rw [e1, ← e2]
  refine k_eq (hk rw (rs.set q (p.1, { p.2 with number := p.2.number + n })) ?_) ?_ rfl
  · rw [e, map_set_modify hp (fun l => { l with number := l.number + n })]
  · rw [e]
    have hl := (List.getElem?_eq_some_iff.mp hp).1
    simp only [List.map_cons, List.map_nil]
    rw [hdAt_at (p := (p.1, { p.2 with number := p.2.number + n })) (by simp [hl])]
theorem touch_alter (hq : findR i rs = some q) (hp : rs[q]? = some p) (hn0 : ¬n = 0) (hk : ∀ rw' rs', rs'.map (·.2) = (touchL c.am (.alter i n) (rs.map (·.2))).1 → k (.lst ((touchL c.am (.alter i n) (rs.map (·.2))).2.map (hdAt rs'))) (cartM CC CI x am rw' g c rs')) :
    k (.lst [.hdl p.1]) ((x, .ins CC ctF [g, .hdl am, .hdl rw, .bl c.failed, .int c.spent, .int c.asked]) :: (am, .dct c.am.ks c.am.ds) :: (rw, .lst (rs.map hd1)) :: (rs.map (rowE CI)).set q (p.1, lnMO CI { p.2 with number := n })) := by
  have e : touchL c.am (.alter i n) (rs.map (·.2)) = ((rs.map (·.2)).modify q fun l => { l with number := n }, [q]) := by simp [touchL, ← findR_L, hq, hn0]
  obtain ⟨e1, e2⟩ := row_set (CI := CI) (l := { p.2 with number := n }) hp
  rw [e1, ← e2]
  refine k_eq (hk rw (rs.set q (p.1, { p.2 with number := n })) ?_) ?_ rfl
  · rw [e, map_set_modify hp (fun l => { l with number := n })]
  · rw [e]
    have hl := (List.getElem?_eq_some_iff.mp hp).1
    simp only [List.map_cons, List.map_nil]
    rw [hdAt_at (p := (p.1, { p.2 with number := n })) (by simp [hl])]
theorem touch_put_new {pr : Int} {xl : Addr} (hq : ∀ z ∈ rs, z.2.item ≠ i) (hg : c.am.get i = some pr) (hk : ∀ rw' rs', rs'.map (·.2) = (touchL c.am (.put i n) (rs.map (·.2))).1 → k (.lst ((touchL c.am (.put i n) (rs.map (·.2))).2.map (hdAt rs'))) (cartM CC CI x am rw' g c rs')) :
    k (.lst [.hdl xl]) ((x, .ins CC ctF [g, .hdl am, .hdl rw, .bl c.failed, .int c.spent, .int c.asked]) :: (am, .dct c.am.ks c.am.ds) :: (rw, .lst (rs.map hd1 ++ [.hdl xl])) :: (rs.map (rowE CI) ++ [(xl, lnMO CI ⟨i, n, pr, none, none⟩)])) := by
  have e : touchL c.am (.put i n) (rs.map (·.2)) = (rs.map (·.2) ++ [⟨i, n, pr, none, none⟩], [rs.length]) := by simp [touchL, ← findR_L, findR_none hq, hg]
  refine k_eq (hk rw (rs ++ [(xl, ⟨i, n, pr, none, none⟩)]) ?_) ?_ ?_
  · rw [e]; simp
  · rw [e]
    simp only [List.map_cons, List.map_nil]
    rw [hdAt_at (p := (xl, ⟨i, n, pr, none, none⟩)) (by simp)]
  · simp [rowE]
theorem touch_zero {rw2 : Addr} (hq : findR i rs = some q) (hp : rs[q]? = some p) (hpi : p.2.item = i) (hk : ∀ rw' rs', rs'.map (·.2) = (touchL c.am (.alter i 0) (rs.map (·.2))).1 → k (.lst ((touchL c.am (.alter i 0) (rs.map (·.2))).2.map (hdAt rs'))) (cartM CC CI x am rw' g c rs')) :
    k (.lst []) (cartM CC CI x am rw2 g c ((rs.set q (p.1, { p.2 with number := 0 })).filter fun p => !decide (p.2.item = i))) := by
  have e : touchL c.am (.alter i 0) (rs.map (·.2)) = ((rs.map (·.2)).filter fun l => !decide (l.item = i), []) := by simp [touchL, ← findR_L, hq]
  refine k_eq (hk rw2 _ ?_) (by rw [e]; rfl) rfl
  rw [e, filter_set_no hp (by simpa using hpi) (by simpa using hpi), List.filter_map]
  rfl
end
theorem hdAt_eq {rs rs' : Rs} {j : Nat} (h : rs.map (·.1) = rs'.map (·.1)) : hdAt rs j = hdAt rs' j := by unfold hdAt; rw [h]
theorem set_at {rs : Rs} {j : Nat} {p z : Addr × Ln} (h : rs[j]? = some p) : (rs.set j z)[j]? = some z := by
  have hl := (List.getElem?_eq_some_iff.mp h).1
  simp [hl]
theorem fst_set {rs : Rs} {j : Nat} {p : Addr × Ln} {l : Ln} (h : rs[j]? = some p) : (rs.set j (p.1, l)).map (·.1) = rs.map (·.1) := by
  refine List.ext_getElem? fun i => ?_
  rw [List.getElem?_map, List.getElem?_set, List.getElem?_map]
  by_cases e : j = i
  · subst e
    obtain ⟨hl, hz⟩ := List.getElem?_eq_some_iff.mp h
    simp [hl, hz]
  · simp [e]
theorem mul_lst1 {K : PySem.W.Frag} {M : Ms} {k : KD} {d : D} {j : Int} (h0 : 0 ≤ j) (h1 : j ≤ 1000) (hk : k (.lst (List.replicate j.toNat d)) M) : Bin K (rMulU K) (.lst [d]) (.int j) M k :=
  mul_lst (by omega) (by omega) (by simp; omega) (by rw [List.flatten_replicate_singleton]; exact hk)
theorem sm_dDd {d : Dd} (h : OkD d) : sm 1 (dDd d) = true := by
  cases d with
  | price i a => have := h.1.lay; simp [dDd, sm, sms, this]; decide +kernel
  | put i a => have := h.1.lay; simp [dDd, sm, sms, this]; decide +kernel
  | alter i a => have := h.1.lay; simp [dDd, sm, sms, this]; decide +kernel
  | look => decide +kernel
  | back => decide +kernel
  | pay b => cases b <;> decide +kernel
theorem eqv_payF (d : Dd) : PyData.eqv (py (dDd d)) (py (.tup [.str "pay", .bl false])) = isF d := by
  cases d with
  | pay b => cases b <;> simp [dDd, py, pys, PyData.eqv, PyData.eqvAll, isF]
  | _ => simp [dDd, py, pys, PyData.eqv, PyData.eqvAll, isF]
theorem eqv_payT (d : Dd) : PyData.eqv (py (dDd d)) (py (.tup [.str "pay", .bl true])) = isT d := by
  cases d with
  | pay b => cases b <;> simp [dDd, py, pys, PyData.eqv, PyData.eqvAll, isT]
  | _ => simp [dDd, py, pys, PyData.eqv, PyData.eqvAll, isT]
theorem door_mem {d : Dd} {f : Bool} (h : wordD d ≠ "price") : doorOf d f ∈ doors := by
  cases d with
  | price i a => exact absurd rfl h
  | pay b =>
    cases f
    · show ("pay" : Str) ∈ doors; decide +kernel
    · show ("again" : Str) ∈ doors; decide +kernel
  | put i n => show ("put" : Str) ∈ doors; decide +kernel
  | alter i n => show ("alter" : Str) ∈ doors; decide +kernel
  | look => show ("look" : Str) ∈ doors; decide +kernel
  | back => show ("back" : Str) ∈ doors; decide +kernel
theorem door_a {f : Bool} {b : Bool} {x1 x2 x4 x5 x6 : Option D} (h : f = true) : [x1, x2, some (.str "again"), x4, x5, x6] = [x1, x2, some (.str (doorOf (.pay b) f)), x4, x5, x6] := by rw [h]; rfl
theorem door_p {f : Bool} {b : Bool} {x1 x2 x4 x5 x6 : Option D} (h : f = false) : [x1, x2, some (.str "pay"), x4, x5, x6] = [x1, x2, some (.str (doorOf (.pay b) f)), x4, x5, x6] := by rw [h]; rfl
theorem rule_at {s : Six} {dn : Str} (h : OkS s) (hd : dn ∈ doors) : OkR (ruleOf s dn) ∧ (s.map dR)[doors.idxOf dn]? = some (dR (ruleOf s dn)) := by
  have h6 := (idx_doors hd).1
  have hl : doors.idxOf dn < s.length := by rw [h.len]; exact h6
  have e : ruleOf s dn = s[doors.idxOf dn] := by unfold ruleOf; rw [List.getD_eq_getElem?_getD, List.getElem?_eq_getElem hl]; rfl
  refine ⟨by rw [e]; exact h.ok _ (List.getElem_mem hl), ?_⟩
  rw [List.getElem?_map, List.getElem?_eq_getElem hl, e]
  rfl
def Has (m : Am) (ls : List Ln) : Prop := ∀ l ∈ ls, (m.get l.item).isSome = true
theorem touch_len {ls : Rs} (m : Am) (d : Dd) (h : ls.length ≤ 1000) : (touchL m d (ls.map (·.2))).2.length ≤ 1000 := by
  cases d <;> simp only [touchL]
  all_goals first | (split <;> (try split) <;> simp) | (simp; exact h)
theorem touch_lt {m : Am} {d : Dd} {ls : List Ln} {j : Nat} (h : j ∈ (touchL m d ls).2) : j < (touchL m d ls).1.length := by
  have at' : ∀ {i : Str} {q : Nat}, findL i ls = some q → q < ls.length := fun e => by
    unfold findL at e
    rw [List.findIdx?_eq_some_iff_getElem] at e
    exact e.1
  cases d <;> simp only [touchL] at h ⊢
  case put i n =>
    cases e : findL i ls with
    | none => rw [e] at h; simp at h ⊢; omega
    | some q => rw [e] at h; simp at h ⊢; rw [h]; exact at' e
  case alter i n =>
    cases e : findL i ls with
    | none => rw [e] at h; simp at h
    | some q =>
      rw [e] at h
      by_cases hn : n = 0
      · simp [hn] at h
      · simp [hn] at h ⊢; rw [h]; exact at' e
  all_goals simpa using h
theorem items_modify {ls : List Ln} {q : Nat} {f : Ln → Ln} (hf : ∀ l, (f l).item = l.item) : (ls.modify q f).map (·.item) = ls.map (·.item) := by
  refine List.ext_getElem? fun j => ?_
  rw [List.getElem?_map, List.getElem?_modify, List.getElem?_map]
  cases e : ls[j]? with
  | none => simp
  | some l => by_cases h : q = j <;> simp [h, hf]
theorem has_items {m : Am} {ls ls' : List Ln} (h : Has m ls) (e : ls'.map (·.item) = ls.map (·.item)) : Has m ls' := fun l hl => by
  have : l.item ∈ ls.map (·.item) := by rw [← e]; exact List.mem_map_of_mem hl
  obtain ⟨z, hz, q⟩ := List.mem_map.mp this
  rw [← q]; exact h z hz
theorem touch_has {m : Am} {d : Dd} {ls : List Ln} (h : Has m ls) (hp : Play m ls d) : Has m (touchL m d ls).1 := by
  cases d <;> simp only [touchL]
  case put i n =>
    cases e : findL i ls with
    | none =>
      intro l hl
      rcases List.mem_append.mp hl with q | q
      · exact h l q
      · rw [List.mem_singleton.mp q]; exact hp
    | some q => exact has_items h (items_modify fun l => rfl)
  case alter i n =>
    cases e : findL i ls with
    | none => exact h
    | some q =>
      by_cases hn : n = 0
      · simp only [hn, if_true]; intro l hl; exact h l (List.mem_filter.mp hl).1
      · simp only [hn, if_false]; exact has_items h (items_modify fun l => rfl)
  all_goals exact h
theorem step_items {m : Am} {r : Rule} {st : List Ln × List Str} {j : Nat} : (carryStep m r st j).1.map (·.item) = st.1.map (·.item) := by
  unfold carryStep
  cases e : st.1[j]? with
  | none => rfl
  | some l =>
    refine List.ext_getElem? fun i => ?_
    simp only [List.getElem?_map, List.getElem?_set]
    by_cases h : j = i
    · subst h
      obtain ⟨hl, hz⟩ := List.getElem?_eq_some_iff.mp e
      simp [hl, hz, lnRun]
    · simp [h]
theorem fold_items {m : Am} {r : Rule} : ∀ (js : List Nat) (st : List Ln × List Str), (js.foldl (carryStep m r) st).1.map (·.item) = st.1.map (·.item)
  | [], _ => rfl
  | j :: js, st => by rw [List.foldl_cons, fold_items js]; exact step_items
theorem work_times (now : Int) {r : Rule} (h : OkR r) (l : Ln) : 0 ≤ (lnWork now r l).times ∧ (lnWork now r l).times ≤ 6 := by
  have st : ∀ (w : LW) (a : Str), w.times ≤ (lwStep now w a).times ∧ (lwStep now w a).times ≤ w.times + 1 := fun w a => by
    unfold lwStep
    split
    · simp; omega
    · split
      · simp; omega
      · split
        · split <;> simp <;> omega
        · split
          · simp only [lwShow]; split <;> omega
          · omega
  have run : ∀ (r : Rule) (w : LW), w.times ≤ (lwRun now r w).times ∧ (lwRun now r w).times ≤ w.times + r.length := fun r => by
    induction r with
    | nil => intro w; simp [lwRun]
    | cons a r ih =>
      intro w
      obtain ⟨h1, h2⟩ := st w a
      obtain ⟨h3, h4⟩ := ih (lwStep now w a)
      have e : lwRun now (a :: r) w = lwRun now r (lwStep now w a) := rfl
      rw [e]
      simp only [List.length_cons]
      push_cast
      exact ⟨by omega, by omega⟩
  obtain ⟨h1, h2⟩ := run r ⟨l.kept, l.shown, [], 0⟩
  have := h.len
  simp only at h1 h2
  unfold lnWork
  exact ⟨h1, by omega⟩
theorem fold_len {m : Am} {r : Rule} (h : OkR r) : ∀ (js : List Nat) (st : List Ln × List Str), (js.foldl (carryStep m r) st).2.length ≤ st.2.length + 6 * js.length
  | [], st => by simp
  | j :: js, st => by
    rw [List.foldl_cons]
    have h1 := fold_len (m := m) h js (carryStep m r st j)
    have h2 : (carryStep m r st j).2.length ≤ st.2.length + 6 := by
      unfold carryStep
      cases e : st.1[j]? with
      | none => simp
      | some l =>
        obtain ⟨t0, t6⟩ := work_times ((m.get l.item).getD 0) h l
        simp only [List.length_append, List.length_replicate]
        omega
    simp only [List.length_cons]
    omega
section
variable {CC CI CB x am rw : Addr} {s2 : Six} {c : Ct} {rs rs1 rs2 : Rs} {k : KD} {d : Dd} {i j : Nat} {p : Addr × Ln} {r : Rule} {fd : List Str} {pr : Int}
theorem carry_row (hf : rs2.map (·.1) = rs1.map (·.1)) (hT : rs1.map (·.2) = (touchL c.am d (rs.map (·.2))).1) (hj : j ∈ (touchL c.am d (rs.map (·.2))).2) : ∃ p, rs2[j]? = some p := by
  have h1 := touch_lt hj
  rw [← hT, List.length_map] at h1
  have h2 := congrArg List.length hf
  simp only [List.length_map] at h2
  exact ⟨rs2[j], List.getElem?_eq_getElem (by omega)⟩
theorem carry_get (hh : Has c.am (rs.map (·.2))) (hp : Play c.am (rs.map (·.2)) d) (hf : (rs2.map (·.2), fd) = ((touchL c.am d (rs.map (·.2))).2.take i).foldl (carryStep c.am r) ((touchL c.am d (rs.map (·.2))).1, [])) (hj : rs2[j]? = some p) : ∃ pr, c.am.get p.2.item = some pr := by
  have e := fold_items (m := c.am) (r := r) ((touchL c.am d (rs.map (·.2))).2.take i) ((touchL c.am d (rs.map (·.2))).1, [])
  rw [← hf] at e
  exact Option.isSome_iff_exists.mp (has_items (touch_has hh hp) e p.2 (List.mem_map_of_mem (List.mem_of_getElem? hj)))
theorem carry_fd (hr : OkR r) (hf : (rs2.map (·.2), fd) = ((touchL c.am d (rs.map (·.2))).2.take i).foldl (carryStep c.am r) ((touchL c.am d (rs.map (·.2))).1, [])) : fd.length ≤ 6 * i := by
  have e := fold_len (m := c.am) hr ((touchL c.am d (rs.map (·.2))).2.take i) ((touchL c.am d (rs.map (·.2))).1, [])
  rw [← hf] at e
  simp only [List.length_nil, List.length_take] at e
  omega
theorem carry_next {T : List Ln × List Nat} (hf : (rs2.map (·.2), fd) = (T.2.take i).foldl (carryStep c.am r) (T.1, [])) (hj : T.2[i]? = some j) (hp : rs2[j]? = some p) (hg : c.am.get p.2.item = some pr) :
    ((rs2.set j (p.1, lnRun pr r p.2)).map (·.2), fd ++ List.replicate (lnWork pr r p.2).times.toNat p.2.item) = (T.2.take (i + 1)).foldl (carryStep c.am r) (T.1, []) := by
  rw [List.take_add_one, hj, List.foldl_append, ← hf]
  have e : (rs2.map (·.2))[j]? = some p.2 := by rw [List.getElem?_map, hp]; rfl
  simp only [Option.toList_some, List.foldl_cons, List.foldl_nil]
  unfold carryStep
  rw [e]
  simp only [hg, Option.getD_some]
  rw [List.map_set]
theorem carry_set {f : Addr} {L : MO} {g : D} {l : Ln} (hp : rs2[j]? = some p) : merge [j + 4] ((f, L) :: cartM CC CI x am rw g c rs2) [(p.1, lnMO CI l)] = (f, L) :: cartM CC CI x am rw g c (rs2.set j (p.1, l)) := by
  rw [merge_one]
  obtain ⟨e1, e2⟩ := row_set (CI := CI) (l := l) hp
  show _ :: _ :: _ :: _ :: ((rs2.map (rowE CI)).set j _) = _
  rw [e1]
  show (f, L) :: _ :: _ :: (rw, .lst (rs2.map hd1)) :: _ = (f, L) :: _ :: _ :: (rw, .lst ((rs2.set j (p.1, l)).map hd1)) :: _
  rw [e2]
theorem carry_end {f : Addr} (okd : OkD d) (hf : (rs2.map (·.2), fd) = (touchL c.am d (rs.map (·.2))).2.foldl (carryStep c.am (ruleOf s2 (doorOf d c.failed))) ((touchL c.am d (rs.map (·.2))).1, []))
    (hk : ∀ f rw' rs', rs'.map (·.2) = (carryC s2 d c (rs.map (·.2))).2.1 → k (.hdl f) ((f, .lst ((carryC s2 d c (rs.map (·.2))).2.2.map D.str)) :: cartM CC CI x am rw' (bk CB s2) (carryC s2 d c (rs.map (·.2))).1 rs')) :
    k (.hdl f) ((f, .lst (fd.map D.str)) :: (x, .ins CC ctF [bk CB s2, .hdl am, .hdl rw, .bl (PyData.eqv (py (dDd d)) (py (.tup [.str "pay", .bl false]))), .int c.spent, .int (c.asked + ((fd.map D.str).length : Nat))]) :: (am, .dct c.am.ks c.am.ds) :: (rw, .lst (rs2.map hd1)) :: rs2.map (rowE CI)) := by
  have e1 : (carryC s2 d c (rs.map (·.2))).2.1 = rs2.map (·.2) := congrArg Prod.fst hf.symm
  have e2 : (carryC s2 d c (rs.map (·.2))).2.2 = fd := congrArg Prod.snd hf.symm
  have e3 : (carryC s2 d c (rs.map (·.2))).1 = { c with failed := isF d, asked := c.asked + (carryC s2 d c (rs.map (·.2))).2.2.length } := rfl
  have h := hk f rw rs2 e1.symm
  rw [e3, e2] at h
  rw [eqv_payF, List.length_map]
  exact h
end
theorem get_map1 {α β : Type} {f : α → β} {l : List α} {i : Nat} {b : β} (h : (l.map f)[i]? = some b) : ∃ a, l[i]? = some a ∧ b = f a := by
  rw [List.getElem?_map] at h
  cases e : l[i]? with
  | none => rw [e] at h; cases h
  | some a => rw [e] at h; cases h; exact ⟨a, rfl, rfl⟩
theorem opt_get {α : Type} {o : Option α} (h : o ≠ none) : ∃ v, o = some v := by cases o with
  | none => exact absurd rfl h
  | some v => exact ⟨v, rfl⟩
def Nums (ls : List Ln) : Prop := ∀ l ∈ ls, 0 ≤ l.number ∧ l.number ≤ 1000000000000000 ∧ 0 ≤ l.kept ∧ l.kept ≤ 1000000000000
def ShG (ls : List Ln) : Prop := ∀ l ∈ ls, l.shown ≠ none → l.greatest ≠ none
def wrongL (n : Int) (l : Ln) : List (Str × Int × Str) := match l.shown with
  | none => [("unshown", n, l.item)]
  | some s => if l.kept = s then [] else ("other", n, l.item) :: (match l.greatest with | some b => if b < l.kept then [("dearer", n, l.item)] else [] | none => [])
def dW (w : Str × Int × Str) : D := .tup [.str w.1, .int w.2.1, .str w.2.2]
theorem sm_dO (o : Option Int) : sm 0 (dO o) = true := by cases o <;> rfl
theorem pay_sub (T A B W R : Addr × MO) (L : Ms) : (T :: A :: B :: W :: []).Sublist (T :: A :: B :: W :: R :: L) := .cons₂ _ (.cons₂ _ (.cons₂ _ (.cons₂ _ (List.nil_sublist _))))
section
variable {CC CI CB x am rw : Addr} {g nm : D} {c : Ct} {rs : Rs} {k : KD} {d : Dd}
theorem report_no {t : Addr} (hT : isT d = false) (hk : ∀ t rw' rs', rs'.map (·.2) = (paidC d c (rs.map (·.2))).2 → k (.tup [.hdl t, nm, paidD d (rs.map (·.2))]) ((t, .lst ((rs.map (·.2)).map tellD)) :: cartM CC CI x am rw' g (paidC d c (rs.map (·.2))).1 rs')) :
    k (.tup [.hdl t, nm, .non]) ((t, .lst ((rs.map (·.2)).map tellD)) :: cartM CC CI x am rw g c rs) := by
  have h := hk t rw rs (by simp [paidC, hT])
  simp only [paidC, paidD, hT, Bool.false_eq_true, if_false] at h
  exact h
theorem report_yes {t rw2 : Addr} (hT : isT d = true) (hk : ∀ t rw' rs', rs'.map (·.2) = (paidC d c (rs.map (·.2))).2 → k (.tup [.hdl t, nm, paidD d (rs.map (·.2))]) ((t, .lst ((rs.map (·.2)).map tellD)) :: cartM CC CI x am rw' g (paidC d c (rs.map (·.2))).1 rs')) :
    k (.tup [.hdl t, nm, .lst ((rs.map (·.2)).map boughtD)]) [(t, .lst ((rs.map (·.2)).map tellD)), (x, .ins CC ctF [g, .hdl am, .hdl rw2, .bl c.failed, .int (c.spent + ((rs.map (·.2)).map fun l => l.number * l.kept).sum), .int c.asked]), (am, .dct c.am.ks c.am.ds), (rw2, .lst [])] := by
  have h := hk t rw2 [] (by simp [paidC, hT])
  simp only [paidC, paidD, hT, if_true] at h
  exact h
theorem price_end {i : Str} {a : Int} (hk : k .non (cartM CC CI x am rw g { c with am := c.am.put i a } rs)) :
    k .non ((x, .ins CC ctF [g, .hdl am, .hdl rw, .bl c.failed, .int c.spent, .int c.asked]) :: (am, .dct c.am.ks (putDs c.am.ks c.am.ds (.inr i) (.int a))) :: (rw, .lst (rs.map hd1)) :: rs.map (rowE CI)) := by
  obtain ⟨e1, e2⟩ := am_put c.am i a
  rw [e1, ← e2]
  exact hk
end
theorem wr_len (n : Int) : ∀ ls : List Ln, ((ls.flatMap (wrongL n)).map dW).length ≤ 2 * ls.length
  | [] => by simp
  | l :: ls => by
    have h1 := wr_len n ls
    have h2 : (wrongL n l).length ≤ 2 := by
      unfold wrongL
      split
      · simp
      · split
        · simp
        · split
          · split <;> simp
          · simp
    simp only [List.flatMap_cons, List.map_append, List.length_append, List.length_map, List.length_cons] at h1 ⊢
    omega
theorem non_no {o : Option Int} (h : PD.isNon (dO o) = false) : ∃ v, o = some v := by cases o with
  | none => cases h
  | some v => exact ⟨v, rfl⟩
theorem non_yes {o : Option Int} (h : PD.isNon (dO o) = true) : o = none := by cases o with
  | none => rfl
  | some v => cases h
section
variable {rs : Rs} {i : Nat} {n : Int} {p : Addr × Ln} {f : Addr} {M0 : Ms}
theorem wr_take (hp : rs[i]? = some p) : ((rs.take (i + 1)).map (·.2)).flatMap (wrongL n) = ((rs.take i).map (·.2)).flatMap (wrongL n) ++ wrongL n p.2 := by
  rw [List.take_add_one, hp]
  simp
theorem wr_next {w : Str × Int × Str} (hp : rs[i]? = some p) (h : wrongL n p.2 = [w]) : ((f, MO.lst ((((rs.take i).map (·.2)).flatMap (wrongL n)).map dW ++ [dW w])) :: M0) = (f, .lst ((((rs.take (i + 1)).map (·.2)).flatMap (wrongL n)).map dW)) :: M0 := by
  rw [wr_take hp, h, List.map_append]; rfl
theorem wr_next2 {w w2 : Str × Int × Str} (hp : rs[i]? = some p) (h : wrongL n p.2 = [w, w2]) : ((f, MO.lst ((((rs.take i).map (·.2)).flatMap (wrongL n)).map dW ++ [dW w] ++ [dW w2])) :: M0) = (f, .lst ((((rs.take (i + 1)).map (·.2)).flatMap (wrongL n)).map dW)) :: M0 := by
  rw [wr_take hp, h, List.map_append, List.append_assoc]; rfl
theorem wr_next0 (hp : rs[i]? = some p) (h : wrongL n p.2 = []) : ((f, MO.lst ((((rs.take i).map (·.2)).flatMap (wrongL n)).map dW)) :: M0) = (f, .lst ((((rs.take (i + 1)).map (·.2)).flatMap (wrongL n)).map dW)) :: M0 := by
  rw [wr_take hp, h, List.append_nil]
end
section
variable {l : Ln} {n sv gv : Int}
theorem eqv_kept {s : Int} : PyData.eqv (py (.int l.kept)) (py (dO (some s))) = decide (l.kept = s) := by simp only [py, dO, PyData.eqv]; by_cases h : l.kept = s <;> simp [h]
theorem wr_un (h : PD.isNon (dO l.shown) = true) : wrongL n l = [(("unshown" : Str), n, l.item)] := by unfold wrongL; rw [non_yes h]
theorem wr_no (h : l.shown = some sv) (h2 : (!PyData.eqv (py (.int l.kept)) (py (dO l.shown))) = false) : wrongL n l = [] := by
  rw [h, eqv_kept] at h2
  unfold wrongL
  rw [h]
  simp at h2
  simp [h2]
theorem wr_ot (h : l.shown = some sv) (h2 : (!PyData.eqv (py (.int l.kept)) (py (dO l.shown))) = true) (hg : l.greatest = some gv) (h3 : decide (gv < l.kept) = false) : wrongL n l = [(("other" : Str), n, l.item)] := by
  rw [h, eqv_kept] at h2
  unfold wrongL
  rw [h, hg]
  simp at h2 h3
  simp [h2]
  omega
theorem wr_de (h : l.shown = some sv) (h2 : (!PyData.eqv (py (.int l.kept)) (py (dO l.shown))) = true) (hg : l.greatest = some gv) (h3 : decide (gv < l.kept) = true) : wrongL n l = [(("other" : Str), n, l.item), (("dearer" : Str), n, l.item)] := by
  rw [h, eqv_kept] at h2
  unfold wrongL
  rw [h, hg]
  simp at h2 h3
  simp [h2, h3]
end
def dMom (m : Am) : D := .dct m.ks m.ds
def seenL (ls : List Ln) : List Ln := ls.filter fun l => l.shown.isSome
/-- the shown prices have no moment in common -/
def mixedL (ms : List Am) (ls : List Ln) : Bool := !(seenL ls).isEmpty && ms.all fun m => !(seenL ls).all fun l => decide (m.get l.item = l.shown)
theorem mix_eq {z : Addr × Ln} {m : Am} {a : Int} (h : m.get z.2.item = some a) : PyData.eqv (py (.int a)) (py (dO z.2.shown)) = decide (m.get z.2.item = z.2.shown) := by
  rw [h]
  cases hs : z.2.shown with
  | none => simp [py, dO, PyData.eqv]
  | some v => simp only [py, dO, PyData.eqv]; by_cases e : a = v <;> simp [e]
section
variable {ms : List Am} {rs : Rs} {k : KD} {M0 : Ms}
theorem seen_rs : (rs.filter fun p => p.2.shown.isSome).map (·.2) = seenL (rs.map (·.2)) := by unfold seenL; rw [List.filter_map]; rfl
theorem seen_all {m : Am} : (seenL (rs.map (·.2))).all (fun l => decide (m.get l.item = l.shown)) = (rs.filter fun p => p.2.shown.isSome).all fun z => decide (m.get z.2.item = z.2.shown) := by rw [← seen_rs, List.all_map]; rfl
theorem mix_nil (h : ((rs.filter fun p => p.2.shown.isSome).map hd1).isEmpty = true) (hk : k (.bl (mixedL ms (rs.map (·.2)))) M0) : k (.bl false) M0 := by
  have e : (seenL (rs.map (·.2))).isEmpty = true := by rw [← seen_rs]; simpa using h
  have : mixedL ms (rs.map (·.2)) = false := by unfold mixedL; rw [e]; rfl
  rw [this] at hk
  exact hk
theorem mix_met {m : Am} {i : Nat} (hm : ms[i]? = some m) (h : (rs.filter fun p => p.2.shown.isSome).all (fun z => decide (m.get z.2.item = z.2.shown)) = true) (hk : k (.bl (mixedL ms (rs.map (·.2)))) M0) : k (.bl false) M0 := by
  have : mixedL ms (rs.map (·.2)) = false := by
    unfold mixedL
    rw [Bool.and_eq_false_iff]
    refine .inr ?_
    rw [List.all_eq_false]
    exact ⟨m, List.mem_of_getElem? hm, by rw [seen_all, h]; simp⟩
  rw [this] at hk
  exact hk
theorem mix_yes (h : ((rs.filter fun p => p.2.shown.isSome).map hd1).isEmpty = false) (hn : ∀ m ∈ ms, (rs.filter fun p => p.2.shown.isSome).all (fun z => decide (m.get z.2.item = z.2.shown)) = false) (hk : k (.bl (mixedL ms (rs.map (·.2)))) M0) : k (.bl true) M0 := by
  have e : (seenL (rs.map (·.2))).isEmpty = false := by rw [← seen_rs]; cases q : (rs.filter fun p => p.2.shown.isSome) <;> simp_all
  have : mixedL ms (rs.map (·.2)) = true := by
    unfold mixedL
    rw [e, Bool.not_false, Bool.true_and, List.all_eq_true]
    intro m hm
    rw [seen_all, hn m hm]
    rfl
  rw [this] at hk
  exact hk
end
def hyF : List Str := ["cart", "reports", "wrongs", "mixed", "moments"]
abbrev hyM (CH h x rp wr mx mo : Addr) (rd : List D) (wd : List (Str × Int × Str)) (md : List Int) (ms : List Am) : Ms :=
  [(h, .ins CH hyF [.hdl x, .hdl rp, .hdl wr, .hdl mx, .hdl mo]), (rp, .lst rd), (wr, .lst (wd.map dW)), (mx, .lst (md.map D.int)), (mo, .lst (ms.map dMom))]
def After (ms : List Am) (ls : List Ln) : Prop := ls.length ≤ 1000 ∧ (∀ m ∈ ms, Has m ls) ∧ ShG ls ∧ Nums ls
theorem word_ix {K : PySem.W.Frag} {M : Ms} {k : KD} {d : Dd} (hk : k (.str (wordD d)) M) : Bin K (rIx K) (dDd d) (.int 0) M k := by
  cases d <;> exact ix_tup' (j := 0) (by simp) rfl hk
section
variable {CC CI CB CH h x am rw rp wr mx mo : Addr} {s2 : Six} {c : Ct} {rs : Rs} {k : KD} {d : Dd} {n : Int} {rd : List D} {wd : List (Str × Int × Str)} {md : List Int} {ms : List Am}
theorem go_price {i : Str} {a : Int} (hk : k .non (hyM CH h x rp wr mx mo (rd ++ [.non]) wd md (ms ++ [c.am.put i a]) ++ cartM CC CI x am rw (bk CB s2) { c with am := c.am.put i a } rs)) :
    k .non ([(h, .ins CH hyF [.hdl x, .hdl rp, .hdl wr, .hdl mx, .hdl mo]), (rp, .lst (rd ++ [.non])), (wr, .lst (wd.map dW)), (mx, .lst (md.map D.int)), (mo, .lst (ms.map dMom ++ [dMom (c.am.put i a)]))] ++ cartM CC CI x am rw (bk CB s2) { c with am := c.am.put i a } rs) := by
  refine k_eq hk rfl ?_
  simp only [hyM, List.map_append]
  rfl
theorem go_end {fa ta rw2 : Addr} {rs1 rs3 : Rs} {wdD mdD : List D} (hT1 : rs1.map (·.2) = (carryC s2 d c (rs.map (·.2))).2.1) (hT3 : rs3.map (·.2) = (paidC d (carryC s2 d c (rs.map (·.2))).1 (rs1.map (·.2))).2)
    (ew : wdD = wd.map dW ++ if isT d = true then ((rs1.map (·.2)).flatMap (wrongL n)).map dW else []) (em : mdD = md.map D.int ++ if mixedL ms (rs1.map (·.2)) = true then [.int n] else [])
    (hk : ∀ fa ta rw' rs', rs'.map (·.2) = (paidC d (carryC s2 d c (rs.map (·.2))).1 (carryC s2 d c (rs.map (·.2))).2.1).2 → k .non (hyM CH h x rp wr mx mo (rd ++ [.tup [.hdl ta, .hdl fa, paidD d (carryC s2 d c (rs.map (·.2))).2.1]]) (wd ++ if isT d then (carryC s2 d c (rs.map (·.2))).2.1.flatMap (wrongL n) else []) (md ++ if mixedL ms (carryC s2 d c (rs.map (·.2))).2.1 then [n] else []) ms ++ ((fa, .lst ((carryC s2 d c (rs.map (·.2))).2.2.map D.str)) :: (ta, .lst ((carryC s2 d c (rs.map (·.2))).2.1.map tellD)) :: cartM CC CI x am rw' (bk CB s2) (paidC d (carryC s2 d c (rs.map (·.2))).1 (carryC s2 d c (rs.map (·.2))).2.1).1 rs'))) :
    k .non ((h, .ins CH hyF [.hdl x, .hdl rp, .hdl wr, .hdl mx, .hdl mo]) :: (rp, .lst (rd ++ [.tup [.hdl ta, .hdl fa, paidD d (rs1.map (·.2))]])) :: (wr, .lst wdD) :: (mx, .lst mdD) :: (mo, .lst (ms.map dMom)) :: (fa, .lst ((carryC s2 d c (rs.map (·.2))).2.2.map D.str)) :: (ta, .lst ((rs1.map (·.2)).map tellD)) :: cartM CC CI x am rw2 (bk CB s2) (paidC d (carryC s2 d c (rs.map (·.2))).1 (rs1.map (·.2))).1 rs3) := by
  rw [hT1] at hT3 ew em ⊢
  refine k_eq (hk fa ta rw2 rs3 hT3) rfl ?_
  have e1 : (wd ++ if isT d then (carryC s2 d c (rs.map (·.2))).2.1.flatMap (wrongL n) else []).map dW = wdD := by rw [ew, List.map_append]; cases isT d <;> rfl
  have e2 : (md ++ if mixedL ms (carryC s2 d c (rs.map (·.2))).2.1 then [n] else []).map D.int = mdD := by rw [em, List.map_append]; cases mixedL ms (carryC s2 d c (rs.map (·.2))).2.1 <;> rfl
  simp only [hyM, e1, e2]
  rfl
end
/-! ### histories -/
structure Rp where
  told : List Ln
  names : List Str
  paid : Bool
structure RpH where
  t : Addr
  f : Addr
  r : Rp
def dPaid (r : Rp) : D := if r.paid then .lst (r.told.map boughtD) else .non
def dH : Option RpH → D | none => .non | some q => .tup [.hdl q.t, .hdl q.f, dPaid q.r]
def eH : Option RpH → Ms | none => [] | some q => [(q.f, .lst (q.r.names.map D.str)), (q.t, .lst (q.r.told.map tellD))]
def fgt : Option RpH → Option Rp := Option.map (·.r)
structure Hs where
  c : Ct
  ls : List Ln
  rps : List (Option Rp)
  wr : List (Str × Int × Str)
  mx : List Int
  ms : List Am
def hPer (s : Six) (h : Hs) (n : Nat) (d : Dd) : Hs :=
  let q := carryC s d h.c h.ls
  let p := paidC d q.1 q.2.1
  { c := p.1, ls := p.2, rps := h.rps ++ [some ⟨q.2.1, q.2.2, isT d⟩], wr := h.wr ++ (if isT d then q.2.1.flatMap (wrongL n) else []), mx := h.mx ++ (if mixedL h.ms q.2.1 then [(n : Int)] else []), ms := h.ms }
def hStep (s : Six) (h : Hs) (n : Nat) (d : Dd) : Hs := match d with
  | .price i a => { h with c := { h.c with am := h.c.am.put i a }, rps := h.rps ++ [none], ms := h.ms ++ [h.c.am.put i a] }
  | d => hPer s h n d
def hGo (s : Six) : Hs → Nat → List Dd → Hs
  | h, _, [] => h
  | h, n, d :: ds => hGo s (hStep s h n d) (n + 1) ds
def hs0 (m : Am) : Hs := ⟨⟨m, false, 0, 0⟩, [], [], [], [], [m]⟩
def hAt (s : Six) (m : Am) (dl : List Dd) (i : Nat) : Hs := hGo s (hs0 m) 0 (dl.take i)
theorem hGo_app (s : Six) : ∀ (xs ys : List Dd) (h : Hs) (n : Nat), hGo s h n (xs ++ ys) = hGo s (hGo s h n xs) (n + xs.length) ys
  | [], ys, h, n => rfl
  | x :: xs, ys, h, n => by
    rw [List.cons_append, hGo, hGo_app s xs ys, hGo, List.length_cons]
    congr 1
    omega
theorem hAt_succ {s : Six} {m : Am} {dl : List Dd} {i : Nat} {d : Dd} (h : dl[i]? = some d) : hAt s m dl (i + 1) = hStep s (hAt s m dl i) i d := by
  have hl := (List.getElem?_eq_some_iff.mp h).1
  unfold hAt
  rw [List.take_add_one, h, hGo_app]
  simp only [Option.toList_some, hGo, List.length_take, Nat.zero_add]
  rw [Nat.min_eq_left (Nat.le_of_lt hl)]
theorem price_of {d : Dd} (h : wordD d = "price") : ∃ i a, d = .price i a := by
  cases d with
  | price i a => exact ⟨i, a, rfl⟩
  | put i n => exact absurd (show ("put" : Str) = "price" from h) (by decide)
  | alter i n => exact absurd (show ("alter" : Str) = "price" from h) (by decide)
  | look => exact absurd (show ("look" : Str) = "price" from h) (by decide)
  | back => exact absurd (show ("back" : Str) = "price" from h) (by decide)
  | pay b => exact absurd (show ("pay" : Str) = "price" from h) (by decide)
theorem hStep_per {s : Six} {h : Hs} {n : Nat} {d : Dd} (hn : wordD d ≠ "price") : hStep s h n d = hPer s h n d := by
  cases d with
  | price i a => exact absurd rfl hn
  | _ => rfl
/-! what stays true of a line -/
structure LnOk (n : Nat) (m : Am) (l : Ln) : Prop where
  has : (m.get l.item).isSome = true
  n0 : 0 ≤ l.number
  n1 : l.number ≤ 1000 * n
  k0 : 0 ≤ l.kept
  k1 : l.kept ≤ 1000000000000
  sh : ∀ v, l.shown = some v → 0 ≤ v ∧ v ≤ 1000000000000
  gr : l.shown ≠ none → l.greatest ≠ none
structure LwOk (l : Ln) (w : LW) : Prop where
  k0 : 0 ≤ w.stays
  k1 : w.stays ≤ 1000000000000
  sh : ∀ v, w.seen = some v → 0 ≤ v ∧ v ≤ 1000000000000
  gr : w.seen ≠ none → l.shown ≠ none ∨ w.told ≠ []
theorem lwStep_ok {l : Ln} {w : LW} {now : Int} {a : Str} (h : LwOk l w) (n0 : 0 ≤ now) (n1 : now ≤ 1000000000000) : LwOk l (lwStep now w a) := by
  obtain ⟨k0, k1, sh, gr⟩ := h
  unfold lwStep
  split
  · exact ⟨n0, n1, sh, gr⟩
  · split
    · refine ⟨?_, ?_, sh, gr⟩ <;> simp only <;> split <;> omega
    · split
      · cases e : w.seen with
        | none => exact ⟨k0, k1, by simpa using e ▸ sh, by simpa [e] using gr⟩
        | some v =>
          obtain ⟨v0, v1⟩ := sh v e
          exact ⟨v0, v1, by simpa [e] using sh, by simpa [e] using gr⟩
      · split
        · refine ⟨k0, k1, fun v hv => ?_, fun _ => .inr (by simp [lwShow])⟩
          have : w.stays = v := Option.some.inj hv
          rw [← this]; exact ⟨k0, k1⟩
        · exact ⟨k0, k1, sh, gr⟩
theorem lwRun_ok {l : Ln} {now : Int} (n0 : 0 ≤ now) (n1 : now ≤ 1000000000000) : ∀ (r : Rule) (w : LW), LwOk l w → LwOk l (lwRun now r w)
  | [], _, h => h
  | a :: r, w, h => lwRun_ok n0 n1 r (lwStep now w a) (lwStep_ok h n0 n1)
theorem gMax_some (g : Option Int) (a : Int) : gMax g a ≠ none := by cases g <;> simp [gMax]
theorem fold_gMax : ∀ (td : List Int) (g : Option Int), g ≠ none ∨ td ≠ [] → td.foldl gMax g ≠ none
  | [], g, h => h.elim (fun z => z) fun z => absurd rfl z
  | a :: td, g, _ => fold_gMax td (gMax g a) (.inl (gMax_some g a))
theorem lnRun_ok {n : Nat} {m : Am} {l : Ln} {now : Int} {r : Rule} (h : LnOk n m l) (n0 : 0 ≤ now) (n1 : now ≤ 1000000000000) : LnOk n m (lnRun now r l) := by
  have w := lwRun_ok (l := l) n0 n1 r ⟨l.kept, l.shown, [], 0⟩ ⟨h.k0, h.k1, h.sh, .inl⟩
  refine ⟨h.has, h.n0, h.n1, w.k0, w.k1, w.sh, fun q => ?_⟩
  exact fold_gMax _ _ ((w.gr q).imp (fun z => h.gr z) fun z => z)
theorem LnOk.mono {n k : Nat} {m : Am} {l : Ln} (h : LnOk n m l) (e : n ≤ k) : LnOk k m l := ⟨h.has, h.n0, by have := h.n1; omega, h.k0, h.k1, h.sh, h.gr⟩
def AmOk (m : Am) : Prop := ∀ p ∈ m, 0 ≤ p.2 ∧ p.2 ≤ 1000000000000
theorem am_rng {m : Am} {i : Str} {a : Int} (h : AmOk m) (e : m.get i = some a) : 0 ≤ a ∧ a ≤ 1000000000000 := h _ (am_get_mem e)
theorem modify_ok {P Q : Ln → Prop} {ls : List Ln} {q : Nat} {f : Ln → Ln} (h : ∀ l ∈ ls, P l) (pq : ∀ l, P l → Q l) (hf : ∀ l, P l → Q (f l)) : ∀ l ∈ ls.modify q f, Q l := fun l hl => by
  obtain ⟨j, hj⟩ := List.getElem?_of_mem hl
  rw [List.getElem?_modify] at hj
  cases e : ls[j]? with
  | none => rw [e] at hj; simp at hj
  | some z =>
    rw [e] at hj
    have hz := h z (List.mem_of_getElem? e)
    by_cases k : q = j
    · simp [k] at hj; rw [← hj]; exact hf z hz
    · simp [k] at hj; rw [← hj]; exact pq z hz
theorem touch_ok {n : Nat} {m : Am} {ls : List Ln} {d : Dd} (hm : AmOk m) (h : ∀ l ∈ ls, LnOk n m l) (od : OkD d) (hp : Play m ls d) : ∀ l ∈ (touchL m d ls).1, LnOk (n + 1) m l := by
  have up : ∀ l, LnOk n m l → LnOk (n + 1) m l := fun l q => q.mono (Nat.le_succ n)
  cases d <;> simp only [touchL]
  case put i k =>
    obtain ⟨_, o1, o2⟩ := od
    obtain ⟨a, ha⟩ := Option.isSome_iff_exists.mp hp
    obtain ⟨a0, a1⟩ := am_rng hm ha
    cases e : findL i ls with
    | none =>
      intro l hl
      rcases List.mem_append.mp hl with q | q
      · exact up l (h l q)
      · rw [List.mem_singleton.mp q]
        refine ⟨hp, ?_, ?_, ?_, ?_, ?_, ?_⟩
        · show 0 ≤ k; omega
        · show k ≤ _; push_cast; omega
        · show 0 ≤ (m.get i).getD 0; rw [ha]; exact a0
        · show (m.get i).getD 0 ≤ _; rw [ha]; exact a1
        · intro v hv; cases hv
        · intro hv; exact absurd rfl hv
    | some q => exact modify_ok h up fun l z => ⟨z.has, by have := z.n0; show 0 ≤ l.number + k; omega, by have := z.n1; show l.number + k ≤ _; push_cast; omega, z.k0, z.k1, z.sh, z.gr⟩
  case alter i k =>
    obtain ⟨_, o1, o2⟩ := od
    cases e : findL i ls with
    | none => intro l hl; exact up l (h l hl)
    | some q =>
      by_cases hn : k = 0
      · simp only [hn, if_true]; intro l hl; exact up l (h l (List.mem_filter.mp hl).1)
      · simp only [hn, if_false]
        exact modify_ok h up fun l z => ⟨z.has, by show 0 ≤ k; omega, by show k ≤ _; push_cast; omega, z.k0, z.k1, z.sh, z.gr⟩
  all_goals intro l hl; exact up l (h l hl)
theorem carry_ok {n : Nat} {m : Am} {r : Rule} (hm : AmOk m) : ∀ (js : List Nat) (st : List Ln × List Str), (∀ l ∈ st.1, LnOk n m l) → ∀ l ∈ (js.foldl (carryStep m r) st).1, LnOk n m l
  | [], _, h => h
  | j :: js, st, h => by
    refine carry_ok hm js (carryStep m r st j) ?_
    unfold carryStep
    cases e : st.1[j]? with
    | none => exact h
    | some l =>
      intro z hz
      rcases List.mem_or_eq_of_mem_set hz with q | q
      · exact h z q
      · have hl := h l (List.mem_of_getElem? e)
        obtain ⟨a, ha⟩ := Option.isSome_iff_exists.mp hl.has
        obtain ⟨a0, a1⟩ := am_rng hm ha
        rw [q]
        refine lnRun_ok hl ?_ ?_ <;> rw [ha] <;> assumption
theorem touch_size (m : Am) (d : Dd) (ls : List Ln) : (touchL m d ls).1.length ≤ ls.length + 1 := by
  cases d <;> simp only [touchL]
  case put i k => cases findL i ls <;> simp
  case alter i k =>
    cases findL i ls with
    | none => simp
    | some q =>
      by_cases hn : k = 0
      · simp only [hn, if_true]; have := List.length_filter_le (fun l : Ln => !decide (l.item = i)) ls; omega
      · simp [hn]
  all_goals simp
theorem carry_size {m : Am} {r : Rule} : ∀ (js : List Nat) (st : List Ln × List Str), (js.foldl (carryStep m r) st).1.length = st.1.length
  | [], _ => rfl
  | j :: js, st => by
    rw [List.foldl_cons, carry_size js]
    unfold carryStep
    cases st.1[j]? <;> simp
structure HInv (n : Nat) (h : Hs) : Prop where
  ln : ∀ l ∈ h.ls, LnOk n h.c.am l
  len : h.ls.length ≤ n
  am : AmOk h.c.am
  aml : h.c.am.length ≤ 1000
  mom : ∀ m ∈ h.ms, ∀ i, (h.c.am.get i).isSome = true → (m.get i).isSome = true
  rl : h.rps.length = n
  wl : h.wr.length ≤ 2000 * n
  xl : h.mx.length ≤ n
  ml : h.ms.length ≤ n + 1
theorem am_put_ok {m : Am} {i : Str} {a : Int} (h : AmOk m) (a0 : 0 ≤ a) (a1 : a ≤ 1000000000000) : AmOk (m.put i a) := fun p hp => by
  obtain ⟨q, hq, e⟩ := List.mem_map.mp hp
  by_cases k : q.1 = i
  · simp only [k, if_true] at e; rw [← e]; exact ⟨a0, a1⟩
  · simp only [k, if_false] at e; rw [← e]; exact h q hq
theorem am_put_get {m : Am} {i j : Str} {a : Int} : ((m.put i a).get j).isSome = (m.get j).isSome := by
  rw [am_get_put]
  split
  · cases m.get j <;> rfl
  · rfl
theorem after_of {n : Nat} {m : Am} {ms : List Am} {ls : List Ln} (h : ∀ l ∈ ls, LnOk n m l) (hl : ls.length ≤ n) (hn : n ≤ 1000) (hm : ∀ m' ∈ ms, ∀ i, (m.get i).isSome = true → (m'.get i).isSome = true) : After ms ls :=
  ⟨by omega, fun m' h' l hl => hm m' h' _ (h l hl).has, fun l hl => (h l hl).gr, fun l hl => by
    have q := h l hl
    exact ⟨q.n0, by have := q.n1; omega, q.k0, q.k1⟩⟩
theorem carry_all {s : Six} {n : Nat} {h : Hs} {d : Dd} (v : HInv n h) (od : OkD d) (hp : Play h.c.am h.ls d) : (∀ l ∈ (carryC s d h.c h.ls).2.1, LnOk (n + 1) h.c.am l) ∧ (carryC s d h.c h.ls).2.1.length ≤ n + 1 := by
  refine ⟨carry_ok v.am _ _ (touch_ok v.am v.ln od hp), ?_⟩
  show (carryL h.c.am (ruleOf s (doorOf d h.c.failed)) (touchL h.c.am d h.ls).1 (touchL h.c.am d h.ls).2).1.length ≤ _
  unfold carryL
  rw [carry_size]
  have := touch_size h.c.am d h.ls
  have := v.len
  simp only
  omega
theorem inv_step {s : Six} {n : Nat} {h : Hs} {d : Dd} (v : HInv n h) (od : OkD d) (hp : Play h.c.am h.ls d) (hn : n ≤ 900) : HInv (n + 1) (hStep s h n d) := by
  by_cases hw : wordD d = "price"
  · obtain ⟨i, a, rfl⟩ : ∃ i a, d = .price i a := price_of hw
    obtain ⟨_, a0, a1⟩ := od
    refine ⟨fun l hl => ?_, Nat.le_succ_of_le v.len, am_put_ok v.am a0 a1, by show (h.c.am.put i a).length ≤ 1000; unfold Am.put; rw [List.length_map]; exact v.aml, fun m hm j hj => ?_, ?_, ?_, Nat.le_succ_of_le v.xl, ?_⟩
    · have q := (v.ln l hl).mono (Nat.le_succ n)
      exact ⟨by show ((h.c.am.put i a).get l.item).isSome = true; rw [am_put_get]; exact q.has, q.n0, q.n1, q.k0, q.k1, q.sh, q.gr⟩
    · have hj2 : (h.c.am.get j).isSome = true := by rw [← am_put_get (i := i) (a := a)]; exact hj
      rcases List.mem_append.mp hm with q | q
      · exact v.mom m q j hj2
      · rw [List.mem_singleton.mp q]; exact hj
    · show (h.rps ++ [none]).length = n + 1; simp [v.rl]
    · have := v.wl; show h.wr.length ≤ _; omega
    · have := v.ml; show (h.ms ++ [_]).length ≤ _; simp; omega
  · rw [hStep_per hw]
    obtain ⟨c1, c2⟩ := carry_all (s := s) v od hp
    have eam : (paidC d (carryC s d h.c h.ls).1 (carryC s d h.c h.ls).2.1).1.am = h.c.am := by unfold paidC; split <;> rfl
    have els : ∀ l ∈ (paidC d (carryC s d h.c h.ls).1 (carryC s d h.c h.ls).2.1).2, l ∈ (carryC s d h.c h.ls).2.1 := fun l hl => by
      unfold paidC at hl
      split at hl
      · cases hl
      · exact hl
    have ell : (paidC d (carryC s d h.c h.ls).1 (carryC s d h.c h.ls).2.1).2.length ≤ n + 1 := by
      unfold paidC
      split
      · simp
      · exact c2
    refine ⟨fun l hl => ?_, ell, ?_, ?_, fun m hm i hi => ?_, ?_, ?_, ?_, Nat.le_succ_of_le v.ml⟩
    · show LnOk (n + 1) (paidC d (carryC s d h.c h.ls).1 (carryC s d h.c h.ls).2.1).1.am l
      rw [eam]
      exact c1 l (els l hl)
    · show AmOk (paidC d (carryC s d h.c h.ls).1 (carryC s d h.c h.ls).2.1).1.am
      rw [eam]; exact v.am
    · show (paidC d (carryC s d h.c h.ls).1 (carryC s d h.c h.ls).2.1).1.am.length ≤ 1000
      rw [eam]; exact v.aml
    · refine v.mom m hm i ?_
      rw [← eam]; exact hi
    · show (h.rps ++ [_]).length = n + 1
      simp [v.rl]
    · show (h.wr ++ _).length ≤ _
      have h1 := wr_len n (carryC s d h.c h.ls).2.1
      rw [List.length_map] at h1
      have h2 := v.wl
      rw [List.length_append]
      split
      · omega
      · simp; omega
    · show (h.mx ++ _).length ≤ _
      have h2 := v.xl
      rw [List.length_append]
      split
      · simp; omega
      · simp; omega
theorem inv_zero {m : Am} (om : OkP m) : HInv 0 (hs0 m) :=
  ⟨fun l hl => (nomatch hl), by simp [hs0], fun p hp => (om.it p hp).2, Nat.le_trans om.l6 (by decide), fun m' hm i hi => by rw [List.mem_singleton.mp hm]; exact hi, rfl, by simp [hs0], by simp [hs0], by simp [hs0]⟩
def Plays (s : Six) (m : Am) (dl : List Dd) : Prop := ∀ i d, dl[i]? = some d → Play (hAt s m dl i).c.am (hAt s m dl i).ls d
theorem hinv {s : Six} {m : Am} {dl : List Dd} (om : OkP m) (od : ∀ d ∈ dl, OkD d) (hp : Plays s m dl) : ∀ {i : Nat}, i ≤ dl.length → dl.length ≤ 900 → HInv i (hAt s m dl i)
  | 0, _, _ => by unfold hAt; exact inv_zero om
  | i + 1, hi, hl => by
    have hd : dl[i]? = some dl[i] := List.getElem?_eq_getElem (by omega)
    rw [hAt_succ hd]
    exact inv_step (hinv om od hp (by omega) hl) (od _ (List.getElem_mem _)) (hp i _ hd) (by omega)
section
variable {CC CI CB CH h x am rw rp wr mx mo : Addr} {s2 : Six} {rs : Rs} {d : Dd} {n : Nat} {H : Hs} {RH : List (Option RpH)} {Q : Ms → Prop}
theorem go_case (v : HInv n H) (od : OkD d) (hp : Play H.c.am (rs.map (·.2)) d) (hR : RH.map fgt = H.rps) (hl : rs.map (·.2) = H.ls) (hn : n ≤ 900)
    (hq : ∀ (r : Option RpH) (rw' : Addr) (rs' : Rs), (RH ++ [r]).map fgt = (hStep s2 H n d).rps → rs'.map (·.2) = (hStep s2 H n d).ls → Q (hyM CH h x rp wr mx mo ((RH ++ [r]).map dH) (hStep s2 H n d).wr (hStep s2 H n d).mx (hStep s2 H n d).ms ++ (eH r ++ cartM CC CI x am rw' (bk CB s2) (hStep s2 H n d).c rs'))) :
    (∃ i a, d = .price i a ∧ Q (hyM CH h x rp wr mx mo (RH.map dH ++ [.non]) H.wr H.mx (H.ms ++ [H.c.am.put i a]) ++ cartM CC CI x am rw (bk CB s2) { H.c with am := H.c.am.put i a } rs)) ∨
   (wordD d ≠ "price" ∧ After H.ms (carryC s2 d H.c (rs.map (·.2))).2.1 ∧ ∀ fa ta rw' rs', rs'.map (·.2) = (paidC d (carryC s2 d H.c (rs.map (·.2))).1 (carryC s2 d H.c (rs.map (·.2))).2.1).2 → Q (hyM CH h x rp wr mx mo (RH.map dH ++ [.tup [.hdl ta, .hdl fa, paidD d (carryC s2 d H.c (rs.map (·.2))).2.1]]) (H.wr ++ if isT d then (carryC s2 d H.c (rs.map (·.2))).2.1.flatMap (wrongL n) else []) (H.mx ++ if mixedL H.ms (carryC s2 d H.c (rs.map (·.2))).2.1 then [(n : Int)] else []) H.ms ++ ((fa, .lst ((carryC s2 d H.c (rs.map (·.2))).2.2.map D.str)) :: (ta, .lst ((carryC s2 d H.c (rs.map (·.2))).2.1.map tellD)) :: cartM CC CI x am rw' (bk CB s2) (paidC d (carryC s2 d H.c (rs.map (·.2))).1 (carryC s2 d H.c (rs.map (·.2))).2.1).1 rs'))) := by
  rw [hl] at hp ⊢
  by_cases hw : wordD d = "price"
  · obtain ⟨i, a, rfl⟩ : ∃ i a, d = .price i a := price_of hw
    refine .inl ⟨i, a, rfl, ?_⟩
    have z := hq none rw rs (by rw [List.map_append, hR]; rfl) hl
    rw [List.map_append] at z
    exact z
  · obtain ⟨c1, c2⟩ := carry_all (s := s2) v od hp
    refine .inr ⟨hw, after_of c1 c2 (by omega) v.mom, fun fa ta rw' rs' hr => ?_⟩
    have z := hq (some ⟨ta, fa, ⟨(carryC s2 d H.c H.ls).2.1, (carryC s2 d H.c H.ls).2.2, isT d⟩⟩) rw' rs'
    rw [hStep_per hw] at z
    have z2 := z (by rw [List.map_append, hR]; rfl) hr
    rw [List.map_append] at z2
    exact z2
end
theorem go_perm1 (H T C : Ms) : (H ++ T ++ C).Perm (T ++ (H ++ C)) := by
  rw [← List.append_assoc]
  exact List.perm_append_comm.append_right C
theorem go_perm2 (H T E C : Ms) : (T ++ (H ++ (E ++ C))).Perm (H ++ (T ++ E) ++ C) := by
  have e1 : T ++ (H ++ (E ++ C)) = (T ++ H) ++ (E ++ C) := by simp
  have e2 : H ++ (T ++ E) ++ C = (H ++ T) ++ (E ++ C) := by simp
  rw [e1, e2]
  exact List.perm_append_comm.append_right _
theorem his_perm (h x am rw rp wr mx mo : Addr × MO) : [h, x, am, rw, rp, wr, mx, mo].Perm [h, rp, wr, mx, mo, x, am, rw] :=
  .cons h (List.perm_append_comm (l₁ := [x, am, rw]) (l₂ := [rp, wr, mx, mo]))
theorem mid_at {H T C : Ms} {p : Addr × MO} (e : C[0]? = some p) : (H ++ T ++ C)[H.length + T.length]? = some p := by
  rw [List.getElem?_append_right (by simp), List.length_append, Nat.sub_self, e]
theorem HInv.len2 {n : Nat} {H : Hs} {rs : Rs} (v : HInv n H) (h : rs.map (·.2) = H.ls) (hn : n ≤ 900) : rs.length ≤ 1000 := by
  have := v.len
  rw [← h, List.length_map] at this
  omega
theorem HInv.has2 {n : Nat} {H : Hs} {rs : Rs} (v : HInv n H) (h : rs.map (·.2) = H.ls) : Has H.c.am (rs.map (·.2)) := fun l hl => (v.ln l (by rw [← h]; exact hl)).has
theorem HInv.sizes {n : Nat} {H : Hs} {RH : List (Option RpH)} (v : HInv n H) (h : RH.map fgt = H.rps) (hn : n ≤ 900) : (RH.map dH).length ≤ 1000 ∧ H.wr.length ≤ 10000000 ∧ H.mx.length ≤ 1000 ∧ H.ms.length ≤ 1000 := by
  have h1 := v.rl
  rw [← h, List.length_map] at h1
  have h2 := v.wl
  have h3 := v.xl
  have h4 := v.ml
  rw [List.length_map]
  exact ⟨by omega, by omega, by omega, by omega⟩
/-! ### the laws' own defs -/
theorem amount_in {a b c e : Int} {d : D} (h : d ∈ List.replicate (3 : Int).toNat (D.int e) ++ [D.int a, .int (10 ^ (12 : Int).toNat - b), .int c]) (a0 : 0 ≤ a) (a1 : a ≤ 1000000000000) (b0 : 0 ≤ b) (b1 : b < 3) (c0 : 0 ≤ c) (c1 : c < 100) (e0 : 0 ≤ e) (e1 : e < 4) :
    ∃ v : Int, d = .int v ∧ 0 ≤ v ∧ v ≤ 1000000000000 := by
  have p : (10 : Int) ^ (12 : Int).toNat = 1000000000000 := by decide
  rw [p] at h
  rcases List.mem_append.mp h with q | q
  · exact ⟨e, List.eq_of_mem_replicate q, e0, by omega⟩
  · simp only [List.mem_cons, List.not_mem_nil, or_false] at q
    rcases q with q | q | q
    · exact ⟨_, q, a0, a1⟩
    · exact ⟨_, q, by omega, by omega⟩
    · exact ⟨_, q, c0, by omega⟩
def Lk (M : Ms) : Nat → D → D → Prop
  | _, t, .non => t = .non
  | _, t, .int i => t = .int i
  | _, t, .str s => t = .str s
  | n + 1, t, .tup ds => ∃ ts, t = .tup ts ∧ ts.length = ds.length ∧ ds.length ≤ 10000 ∧ ∀ (i : Nat) (a b : D), ts[i]? = some a → ds[i]? = some b → Lk M n a b
  | n + 1, t, .lst ds => ∃ ts, (t = .lst ts ∨ ∃ (p : Nat) (h : Addr), t = .hdl h ∧ M[p]? = some (h, MO.lst ts)) ∧ ts.length = ds.length ∧ ds.length ≤ 10000 ∧ ∀ (i : Nat) (a b : D), ts[i]? = some a → ds[i]? = some b → Lk M n a b
  | _, _, _ => False
theorem acts_cases {a : Str} (h : a ∈ acts) : a = "take" ∨ a = "least" ∨ a = "last" ∨ a = "show" ∨ a = "ask" := by
  simpa [acts] using h
theorem lw_take (now : Int) (w : LW) : lwStep now w "take" = { w with stays := now } := by simp [lwStep]
theorem lw_least (now : Int) (w : LW) : lwStep now w "least" = { w with stays := if now < w.stays then now else w.stays } := by
  unfold lwStep
  rw [if_neg (by decide), if_pos rfl]
theorem lw_lastN (now st : Int) (td : List Int) (tm : Int) : lwStep now ⟨st, none, td, tm⟩ "last" = ⟨st, none, td, tm⟩ := by
  unfold lwStep
  rw [if_neg (by decide), if_neg (by decide), if_pos rfl]
theorem lw_lastS (now st s1 : Int) (td : List Int) (tm : Int) : lwStep now ⟨st, some s1, td, tm⟩ "last" = ⟨s1, some s1, td, tm⟩ := by
  unfold lwStep
  rw [if_neg (by decide), if_neg (by decide), if_pos rfl]
theorem lw_show (now : Int) (w : LW) : lwStep now w "show" = ⟨w.stays, some w.stays, w.told ++ [w.stays], w.times⟩ := by
  unfold lwStep
  rw [if_neg (by decide), if_neg (by decide), if_neg (by decide), if_pos (.inl rfl), lwShow, if_neg (by decide)]
theorem lw_askN (now st : Int) (td : List Int) (tm : Int) : lwStep now ⟨st, none, td, tm⟩ "ask" = ⟨st, some st, td ++ [st], tm + 1⟩ := by
  unfold lwStep
  rw [if_neg (by decide), if_neg (by decide), if_neg (by decide), if_pos (.inr (by simp)), lwShow, if_pos rfl]
theorem lw_askS (now st s1 : Int) (td : List Int) (tm : Int) (h : (!decide (s1 = st)) = true) : lwStep now ⟨st, some s1, td, tm⟩ "ask" = ⟨st, some st, td ++ [st], tm + 1⟩ := by
  have h2 : ¬ s1 = st := by simpa using h
  unfold lwStep
  rw [if_neg (by decide), if_neg (by decide), if_neg (by decide), if_pos (.inr (by simp [h2])), lwShow, if_pos rfl]
theorem lw_askE (now st s1 : Int) (td : List Int) (tm : Int) (h : (!decide (s1 = st)) = false) : lwStep now ⟨st, some s1, td, tm⟩ "ask" = ⟨st, some st, td, tm⟩ := by
  have h2 : s1 = st := by simpa using h
  subst h2
  unfold lwStep
  rw [if_neg (by decide), if_neg (by decide), if_neg (by decide), if_neg (by simp; decide)]
def PlaysFrom (s : Six) : Hs → Nat → List Dd → Prop
  | _, _, [] => True
  | h, n, d :: ds => Play h.c.am h.ls d ∧ PlaysFrom s (hStep s h n d) (n + 1) ds
theorem playsFrom_get {s : Six} : ∀ {dl : List Dd} {h : Hs} {n i : Nat} {d : Dd}, PlaysFrom s h n dl → dl[i]? = some d → Play (hGo s h n (dl.take i)).c.am (hGo s h n (dl.take i)).ls d
  | [], _, _, _, _, _, e => by cases e
  | x :: dl, h, n, 0, d, p, e => by cases e; exact p.1
  | x :: dl, h, n, i + 1, d, p, e => playsFrom_get (dl := dl) p.2 e
theorem plays_of {s : Six} {m : Am} {dl : List Dd} (h : PlaysFrom s (hs0 m) 0 dl) : Plays s m dl := fun _ _ e => playsFrom_get h e
/-- plain data of so many levels -/
def pl : Nat → D → Bool
  | _, .non => true
  | _, .int _ => true
  | _, .str _ => true
  | n + 1, .tup ds => decide (ds.length ≤ 10000) && ds.all (pl n)
  | n + 1, .lst ds => decide (ds.length ≤ 10000) && ds.all (pl n)
  | _, _ => false
theorem lk_same {M : Ms} : ∀ {n : Nat} {d : D}, pl n d = true → Lk M n d d
  | n, .non, _ => by cases n <;> rfl
  | n, .int i, _ => by cases n <;> rfl
  | n, .str s, _ => by cases n <;> rfl
  | n + 1, .tup ds, h => by
    simp only [pl, Bool.and_eq_true, decide_eq_true_eq, List.all_eq_true] at h
    exact ⟨ds, rfl, rfl, h.1, fun i a b ha hb => by rw [ha] at hb; cases hb; exact lk_same (h.2 a (List.mem_of_getElem? ha))⟩
  | n + 1, .lst ds, h => by
    simp only [pl, Bool.and_eq_true, decide_eq_true_eq, List.all_eq_true] at h
    exact ⟨ds, .inl rfl, rfl, h.1, fun i a b ha hb => by rw [ha] at hb; cases hb; exact lk_same (h.2 a (List.mem_of_getElem? ha))⟩
  | n, .bl b, h => by cases n <;> simp [pl] at h
  | n, .seq ds, h => by cases n <;> simp [pl] at h
  | n, .dct ks ds, h => by cases n <;> simp [pl] at h
  | n, .ins C fs ds, h => by cases n <;> simp [pl] at h
  | n, .hdl a, h => by cases n <;> simp [pl] at h
  | n, .raw v, h => by cases n <;> simp [pl] at h
  | 0, .tup ds, h => by simp [pl] at h
  | 0, .lst ds, h => by simp [pl] at h
theorem lk_hdl {M : Ms} {n p : Nat} {h : Addr} {ds : List D} (hm : M[p]? = some (h, MO.lst ds)) (hp : pl (n + 1) (.lst ds) = true) : Lk M (n + 1) (.hdl h) (.lst ds) := by
  simp only [pl, Bool.and_eq_true, decide_eq_true_eq, List.all_eq_true] at hp
  exact ⟨ds, .inr ⟨p, h, rfl, hm⟩, rfl, hp.1, fun i a b ha hb => by rw [ha] at hb; cases hb; exact lk_same (hp.2 a (List.mem_of_getElem? ha))⟩
theorem lk_tup3 {M : Ms} {n : Nat} {a b c a' b' c' : D} (h1 : Lk M n a a') (h2 : Lk M n b b') (h3 : Lk M n c c') : Lk M (n + 1) (.tup [a, b, c]) (.tup [a', b', c']) :=
  ⟨_, rfl, rfl, by simp, fun i x y hx hy => by
    match i, hx, hy with
    | 0, hx, hy => cases hx; cases hy; exact h1
    | 1, hx, hy => cases hx; cases hy; exact h2
    | 2, hx, hy => cases hx; cases hy; exact h3⟩
theorem lk_lst3 {M : Ms} {n : Nat} {a b c a' b' c' : D} (h1 : Lk M n a a') (h2 : Lk M n b b') (h3 : Lk M n c c') : Lk M (n + 1) (.lst [a, b, c]) (.lst [a', b', c']) :=
  ⟨_, .inl rfl, rfl, by simp, fun i x y hx hy => by
    match i, hx, hy with
    | 0, hx, hy => cases hx; cases hy; exact h1
    | 1, hx, hy => cases hx; cases hy; exact h2
    | 2, hx, hy => cases hx; cases hy; exact h3⟩
theorem pl_dO (o : Option Int) : ∀ n, pl n (dO o) = true := fun n => by cases o <;> cases n <;> rfl
theorem pl_reps {n : Nat} (k : Nat) (s : Str) (h : k ≤ 10000) : pl (n + 1) (.lst (List.replicate k (.str s))) = true := by
  simp only [pl, Bool.and_eq_true, decide_eq_true_eq, List.all_eq_true, List.length_replicate]
  exact ⟨h, fun d hd => by rw [List.eq_of_mem_replicate hd]; cases n <;> rfl⟩

def lineT (d : Str) (r : Rule) : Str := Txt.join " " ((d ++ ":") :: r)
def bookT (s : Six) : Str := Txt.join "\n" ((List.range 6).map fun i => lineT (doors.getD i "") (s.getD i []))
theorem door_len {d : Str} (h : d ∈ doors) : d.length ≤ 5 := by
  have k : ∀ s ∈ doors, s.length ≤ 5 := by decide +kernel
  exact k d h
theorem act_len {d : Str} (h : d ∈ acts) : d.length ≤ 5 := by
  have k : ∀ s ∈ acts, s.length ≤ 5 := by decide +kernel
  exact k d h
theorem sum_le {b : Nat} : ∀ {ys : List Str}, (∀ y ∈ ys, y.length ≤ b) → (ys.map (·.length)).sum ≤ b * ys.length
  | [], _ => by simp
  | y :: ys, h => by
    have h1 := h y (by simp)
    have h2 := sum_le (ys := ys) fun z hz => h z (by simp [hz])
    simp only [List.map_cons, List.sum_cons, List.length_cons, Nat.mul_add]
    omega
theorem line_sum {d : Str} {r : Rule} (hd : d ∈ doors) (h : OkR r) : (((d ++ ":") :: r).map (·.length)).sum + ((d ++ ":") :: r).length * 1 ≤ 50 := by
  have h1 : ∀ y ∈ (d ++ ":") :: r, y.length ≤ 6 := fun y hy => by
    rcases List.mem_cons.mp hy with e | e
    · rw [e, PySem.Str.length_append]
      have := door_len hd
      have e2 : (":" : Str).length = 1 := by decide
      omega
    · have := act_len (h.mem y e); omega
  have h2 := sum_le h1
  have h3 := h.len
  simp only [List.length_cons] at h2 ⊢
  omega
theorem line_fit {d : Str} {r : Rule} (hd : d ∈ doors) (h : OkR r) : (((d ++ ":") :: r).map (·.length)).sum + ((d ++ ":") :: r).length * (" " : Str).length ≤ 16777216 := by
  have e2 : (" " : Str).length = 1 := by decide
  have := line_sum hd h
  rw [e2]
  omega
theorem line_len {d : Str} {r : Rule} (hd : d ∈ doors) (h : OkR r) : (lineT d r).length ≤ 50 := by
  have e2 : (" " : Str).length = 1 := by decide
  have h1 := join_len " " ((d ++ ":") :: r)
  have h2 := line_sum hd h
  rw [e2] at h1
  unfold lineT
  omega
theorem book_fit {s : Six} (h : OkS s) : (((List.range 6).map fun i => lineT (doors.getD i "") (s.getD i [])).map (·.length)).sum + ((List.range 6).map fun i => lineT (doors.getD i "") (s.getD i [])).length * ("\n" : Str).length ≤ 16777216 := by
  have e2 : ("\n" : Str).length = 1 := by decide
  have h1 : ∀ y ∈ ((List.range 6).map fun i => lineT (doors.getD i "") (s.getD i [])), y.length ≤ 50 := fun y hy => by
    obtain ⟨i, hi, rfl⟩ := List.mem_map.mp hy
    have hi6 : i < 6 := List.mem_range.mp hi
    obtain ⟨dn, hdn, hdm, _⟩ := door_at hi6
    have hs : i < s.length := by rw [h.len]; exact hi6
    rw [List.getD_eq_getElem?_getD, List.getD_eq_getElem?_getD, hdn, List.getElem?_eq_getElem hs]
    exact line_len hdm (h.ok _ (List.getElem_mem hs))
  have h2 := sum_le h1
  rw [e2]
  simp only [List.length_map, List.length_range] at h2 ⊢
  omega
def rfx : Nat → D → Bool
  | _, .str _ => true
  | n + 1, .tup ds => decide (ds.length ≤ 1000) && ds.all (rfx n)
  | _, _ => false
theorem rfx_R {r : Rule} (h : OkR r) : rfx 1 (dR r) = true := by
  unfold dR
  simp only [rfx, Bool.and_eq_true, decide_eq_true_eq, List.all_eq_true, List.length_map]
  refine ⟨by have := h.len; omega, fun d hd => ?_⟩
  obtain ⟨a, _, rfl⟩ := List.mem_map.mp hd
  simp [rfx]
theorem rfx_S {s : Six} (h : OkS s) : rfx 2 (dS s) = true := by
  unfold dS
  simp only [rfx, Bool.and_eq_true, decide_eq_true_eq, List.all_eq_true, List.length_map]
  refine ⟨by have := h.len; omega, fun d hd => ?_⟩
  obtain ⟨a, ha, rfl⟩ := List.mem_map.mp hd
  exact rfx_R (h.ok a ha)
theorem le_max1 {n : Nat} (h : n ≤ 63) : (if (n : Int) > 1 then (n : Int) else 1).toNat ≤ 63 := by split <;> omega
theorem lt_max1 {i : Nat} {ns : List Int} (hl : ns.length ≤ 63) (h : i < (if ((ns.map D.int).length : Int) > 1 then ((ns.map D.int).length : Int) else 1).toNat) : i < 64 := by
  have := le_max1 (n := (ns.map D.int).length) (by simpa using hl)
  omega
/-! ### texts that are read -/
theorem spl_tot {c : Nat} : ∀ (l acc : List Nat), ((TL.spl [c] 0 acc l).map (fun p => p.length + 1)).sum = acc.length + l.length + 1
  | [], acc => by rw [TL.spl_nil]; simp
  | d :: r, acc => by
    cases e : TL.pre [c] (d :: r) with
    | true =>
      rw [TL.spl_hit e]
      have h := spl_tot (c := c) r []
      simp only [List.map_cons, List.sum_cons, List.length_cons, List.length_nil] at h ⊢
      show _ + ((TL.spl [c] 0 [] r).map _).sum = _
      omega
    | false =>
      rw [TL.spl_miss e, spl_tot r (acc ++ [d])]
      simp only [List.length_append, List.length_cons, List.length_nil]
      omega
/-- the signs of rows of texts, and one more for each -/
def tot (ls : List Str) : Nat := (ls.map fun s => s.length + 1).sum
theorem tot_cons (s : Str) (ls : List Str) : tot (s :: ls) = s.length + 1 + tot ls := rfl
theorem tot_app (l m : List Str) : tot (l ++ m) = tot l + tot m := by simp [tot]
theorem tot_len : ∀ ls : List Str, ls.length ≤ tot ls
  | [] => Nat.le_refl _
  | s :: ls => by have := tot_len ls; rw [tot_cons, List.length_cons]; omega
theorem tot_mem {ls : List Str} {s : Str} (h : s ∈ ls) : s.length + 1 ≤ tot ls := by
  induction ls with
  | nil => cases h
  | cons x ls ih =>
    rw [tot_cons]
    rcases List.mem_cons.mp h with rfl | z
    · omega
    · have := ih z; omega
theorem split_tot {x y : Str} {c : Nat} (ey : TL.tl y = [c]) (hk : y.cps.all (· < 256) = true) : tot (Txt.split x y) = x.length + 1 := by
  have e := TL.split_spl x y (by rw [ey]; simp) (TL.kind_ok hk)
  have h := spl_tot (c := c) (TL.tl x) []
  rw [ey] at e
  rw [← e, List.map_map] at h
  have : (Txt.split x y).map ((fun p => p.length + 1) ∘ TL.tl) = (Txt.split x y).map fun s => s.length + 1 := List.map_congr_left fun s _ => by simp [TL.len_tl]
  rw [this] at h
  rw [tot, h, TL.len_tl]
  simp
theorem split_ne {x y : Str} {c : Nat} (ey : TL.tl y = [c]) (hk : y.cps.all (· < 256) = true) : Txt.split x y ≠ [] := by
  intro e
  have := split_tot (x := x) ey hk
  rw [e] at this
  simp [tot] at this
theorem nl_tl : TL.tl ("\n" : Str) = [10] := by decide +kernel
theorem sp_tl : TL.tl (" " : Str) = [32] := by decide +kernel
theorem nl_k : ("\n" : Str).cps.all (· < 256) = true := by decide +kernel
theorem sp_k : (" " : Str).cps.all (· < 256) = true := by decide +kernel
theorem nl_tot (x : Str) : tot (Txt.split x "\n") = x.length + 1 := split_tot nl_tl nl_k
theorem sp_tot (x : Str) : tot (Txt.split x " ") = x.length + 1 := split_tot sp_tl sp_k
theorem nl_ne (x : Str) : Txt.split x "\n" ≠ [] := split_ne nl_tl nl_k
theorem sp_ne (x : Str) : Txt.split x " " ≠ [] := split_ne sp_tl sp_k
/-- what a line writes at a place -/
def lineB (k : Nat) (l : Str) : Option Rule := match Txt.split l " " with
  | [] => none
  | h :: r => if k < 6 ∧ h = doors.getD k "" ++ ":" ∧ r.length ≤ 6 ∧ ∀ a ∈ r, a ∈ acts then some r else none
theorem lineB_some {k : Nat} {l h : Str} {r : List Str} (e : Txt.split l " " = h :: r) (h1 : k < 6) (h2 : h = doors.getD k "" ++ ":") (h3 : r.length ≤ 6) (h4 : ∀ a ∈ r, a ∈ acts) : lineB k l = some r := by
  rw [lineB, e]; exact if_pos ⟨h1, h2, h3, h4⟩
theorem lineB_none {k : Nat} {l h : Str} {r : List Str} (e : Txt.split l " " = h :: r) (hn : ¬ (k < 6 ∧ h = doors.getD k "" ++ ":" ∧ r.length ≤ 6 ∧ ∀ a ∈ r, a ∈ acts)) : lineB k l = none := by
  rw [lineB, e]; exact if_neg hn
theorem lineB_ok {k : Nat} {l : Str} {r : Rule} (h : lineB k l = some r) : k < 6 ∧ r.length ≤ 6 ∧ ∀ a ∈ r, a ∈ acts := by
  unfold lineB at h
  split at h
  · cases h
  · split at h
    · rename_i q; cases h; exact ⟨q.1, q.2.2⟩
    · cases h
def rl (ls : List Str) (j : Nat) : Rule := (lineB j (ls.getD j "")).getD []
/-- the first wrong line, or how many there are, or the rules -/
def readB (t : Str) : Nat ⊕ Six :=
  let ls := Txt.split t "\n"
  match (List.range ls.length).find? fun i => (lineB i (ls.getD i "")).isNone with
  | some i => .inl i
  | none => if ls.length < 6 then .inl ls.length else .inr ((List.range ls.length).map (rl ls))
def goodTo (ls : List Str) (n : Nat) : Prop := ∀ j < n, (lineB j (ls.getD j "")).isNone = false
theorem readB_bad {t : Str} {i : Nat} (hi : i < (Txt.split t "\n").length) (hg : goodTo (Txt.split t "\n") i) (hb : lineB i ((Txt.split t "\n").getD i "") = none) : readB t = .inl i := by
  unfold readB
  have e : (List.range (Txt.split t "\n").length).find? (fun i => (lineB i ((Txt.split t "\n").getD i "")).isNone) = some i := by
    rw [List.find?_range_eq_some]
    refine ⟨by rw [hb]; rfl, List.mem_range.mpr hi, fun j hj => by rw [hg j hj]; rfl⟩
  simp only [e]
theorem readB_none {t : Str} (hg : goodTo (Txt.split t "\n") (Txt.split t "\n").length) : readB t = if (Txt.split t "\n").length < 6 then .inl (Txt.split t "\n").length else .inr ((List.range (Txt.split t "\n").length).map (rl (Txt.split t "\n"))) := by
  unfold readB
  have e : (List.range (Txt.split t "\n").length).find? (fun i => (lineB i ((Txt.split t "\n").getD i "")).isNone) = none := by
    rw [List.find?_eq_none]
    intro j hj
    rw [hg j (List.mem_range.mp hj)]
    decide
  simp only [e]
theorem good_rl {ls : List Str} {n j : Nat} (h : goodTo ls n) (hj : j < n) : lineB j (ls.getD j "") = some (rl ls j) := by
  have := h j hj
  unfold rl
  cases e : lineB j (ls.getD j "") with
  | none => rw [e] at this; cases this
  | some r => rfl
theorem good_le {ls : List Str} {n : Nat} (h : goodTo ls n) : n ≤ 6 := by
  rcases Nat.lt_or_ge 6 n with q | q
  · exact absurd (lineB_ok (good_rl h q)).1 (by omega)
  · exact q
theorem good_S {ls : List Str} (h : goodTo ls 6) : OkS ((List.range 6).map (rl ls)) := by
  refine ⟨by simp, fun r hr => ?_⟩
  obtain ⟨j, hj, rfl⟩ := List.mem_map.mp hr
  have q := lineB_ok (good_rl h (List.mem_range.mp hj))
  exact ⟨q.2.1, q.2.2⟩
def ruleD : Option Rule → D
  | none => .non
  | some r => dR r
def dueD : Nat ⊕ Six → D
  | .inl i => .tup [.str "line", .int i]
  | .inr s => .tup [.str "made", dS s]
/-- what trying a value comes to -/
def T11 (CB : Addr) (d out : D) : Prop := ((∀ t, d ≠ .str t) ∧ out = .tup [.tup [.str "line", .int 0], .non]) ∨ ∃ t, d = .str t ∧ t.length ≤ 6000 ∧ out = match readB t with
  | .inl i => .tup [.tup [.str "line", .int i], .non]
  | .inr s => .tup [.tup [.str "made"], bk CB s]
/-- what is due for a value -/
def E11 (d e : D) : Prop := ((∀ t, d ≠ .str t) ∧ e = .tup [.str "line", .int 0]) ∨ ∃ t, d = .str t ∧ t.length ≤ 6000 ∧ e = dueD (readB t)
theorem emp_app (x : Str) : (Str.empty ++ x : Str) = x := TL.ext_tl (by rw [TL.tl_append]; rfl)
theorem colon_len {dn : Str} (h : dn ∈ doors) : (dn ++ ":" : Str).length ≤ 6 := by
  rw [PySem.Str.length_append]
  have := door_len h
  have e2 : (":" : Str).length = 1 := by decide
  omega
theorem door_get {i : Nat} {dn : Str} (h : doors[i]? = some dn) : doors.getD i "" = dn := by rw [List.getD_eq_getElem?_getD, h]; rfl
theorem good_succ {ls : List Str} {n : Nat} (h : goodTo ls n) {x : Str} (hx : ls[n]? = some x) (hs : (lineB n x).isNone = false) : goodTo ls (n + 1) := fun j hj => by
  rcases Nat.lt_succ_iff_lt_or_eq.mp hj with q | q
  · exact h j q
  · rw [q, List.getD_eq_getElem?_getD, hx]; exact hs
theorem rl_at {ls : List Str} {n : Nat} {x : Str} (hx : ls[n]? = some x) : rl ls n = (lineB n x).getD [] := by rw [rl, List.getD_eq_getElem?_getD, hx]; rfl
def heads6 : List Str := ["put:", "look:", "alter:", "back:", "pay:", "again:"]
theorem heads6_at {i : Nat} (h : i < 6) : (heads6.map D.str)[i]? = some (.str (doors.getD i "" ++ ":")) := by
  have k : ∀ i < 6, heads6[i]? = some (doors.getD i "" ++ ":") := by decide +kernel
  rw [List.getElem?_map, k i h]; rfl
theorem cut1 (d : D) (ds : List D) (h : ds.length ≤ 16777216) : cutD (d :: ds) (some 1) none = ds := by
  unfold cutD
  simp [HT.sIx]
theorem take_step {r : List Str} {j : Nat} {w : Str} {S : List Str} (hw : r[j]? = some w) (h : ∀ a ∈ r.take j, a ∈ S) (ha : w ∈ S) : ∀ a ∈ r.take (j + 1), a ∈ S := by
  intro a h2
  rw [List.take_add_one, hw] at h2
  rcases List.mem_append.mp h2 with q | q
  · exact h a q
  · rw [List.mem_singleton.mp q]; exact ha
theorem readB_S {t : Str} {s : Six} (h : readB t = .inr s) : OkS s := by
  by_cases hg : goodTo (Txt.split t "\n") (Txt.split t "\n").length
  · rw [readB_none hg] at h
    have l6 := good_le hg
    split at h
    · cases h
    · rename_i q
      have l7 : (Txt.split t "\n").length = 6 := by omega
      rw [l7] at h hg
      cases h
      exact good_S hg
  · exfalso
    unfold readB at h
    simp only at h
    split at h
    · cases h
    · rename_i e
      rw [List.find?_eq_none] at e
      exact hg fun j hj => by
        have := e j (List.mem_range.mpr hj)
        exact Bool.eq_false_iff.mpr this
theorem E11_two {CB : Addr} {d e : D} (h : E11 d e) : (∃ i : Int, e = .tup [.str "line", .int i] ∧ T11 CB d (.tup [.tup [.str "line", .int i], .non])) ∨ ∃ s : Six, e = .tup [.str "made", dS s] ∧ OkS s ∧ T11 CB d (.tup [.tup [.str "made"], bk CB s]) := by
  rcases h with ⟨hn, rfl⟩ | ⟨t, rfl, ht, rfl⟩
  · exact .inl ⟨0, rfl, .inl ⟨hn, rfl⟩⟩
  · cases hr : readB t with
    | inl i => exact .inl ⟨i, rfl, .inr ⟨t, rfl, ht, by rw [hr]⟩⟩
    | inr s => exact .inr ⟨s, rfl, readB_S hr, .inr ⟨t, rfl, ht, by rw [hr]⟩⟩
/-- a drawn sign -/
theorem sign_at {s : Str} {r : Int} {f : Nat → Nat → Prop} (lo : 0 ≤ r) (hi : r < (s.length : Int)) (hl : s.length ≤ 16777216) (h : ∀ c, f r.toNat c) : ∃ (j c : Nat), (0 ≤ r ∧ r = (j : Int) ∧ j < s.length ∨ r < 0 ∧ r + (s.length : Int) = (j : Int)) ∧ s.cps[j]? = some c ∧ s.length ≤ 16777216 ∧ f j c := by
  have lt : r.toNat < s.cps.size := by show r.toNat < s.length; omega
  exact ⟨r.toNat, _, .inl ⟨lo, by omega, lt⟩, Array.getElem?_eq_getElem lt, hl, h _⟩
theorem nl_pos (x : Str) : 0 < (Txt.split x "\n").length := List.length_pos_iff.mpr (nl_ne x)
theorem tot_set : ∀ (ls : List Str) (j : Nat) (s : Str), tot (ls.set j s) ≤ tot ls + s.length + 1
  | [], _, _ => by simp [tot]
  | x :: ls, 0, s => by rw [List.set_cons_zero, tot_cons, tot_cons]; omega
  | x :: ls, j + 1, s => by have := tot_set ls j s; rw [List.set_cons_succ, tot_cons, tot_cons]; omega
theorem tot_ins (ls : List Str) (j : Nat) (s : Str) : tot (ls.take j ++ [s] ++ ls.drop j) = tot ls + s.length + 1 := by
  have h : tot ls = tot (ls.take j) + tot (ls.drop j) := by rw [← tot_app, List.take_append_drop]
  rw [tot_app, tot_app, h]
  show _ + (s.length + 1 + 0) + _ = _
  omega
theorem tot_erase : ∀ (ls : List Str) (j : Nat), tot (ls.eraseIdx j) ≤ tot ls
  | [], _ => by simp [tot]
  | x :: ls, 0 => by rw [List.eraseIdx_cons_zero, tot_cons]; omega
  | x :: ls, j + 1 => by have := tot_erase ls j; rw [List.eraseIdx_cons_succ, tot_cons, tot_cons]; omega
theorem tot_sum : ∀ ls : List Str, (ls.map (·.length)).sum + ls.length = tot ls
  | [] => rfl
  | x :: ls => by have := tot_sum ls; rw [tot_cons]; simp only [List.map_cons, List.sum_cons, List.length_cons]; omega
theorem nl_fit {ls : List Str} (h : tot ls ≤ 30000) : (ls.map (·.length)).sum + ls.length * ("\n" : Str).length ≤ 16777216 ∧ (Txt.join "\n" ls).length ≤ 30000 := by
  have e : ("\n" : Str).length = 1 := by decide +kernel
  have h1 := join_len "\n" ls
  have h2 := tot_sum ls
  rw [e] at h1 ⊢
  omega
theorem line_at {ls : List Str} {r : Int} {n : Nat} (lo : 0 ≤ r) (hi : r < (n : Int)) (hn : n = ls.length) : ∃ s, ls[r.toNat]? = some s ∧ (ls.map D.str)[r.toNat]? = some (.str s) ∧ s.length + 1 ≤ tot ls ∧ ((r.toNat : Nat) : Int) = r ∧ r.toNat < ls.length := by
  have lt : r.toNat < ls.length := by omega
  exact ⟨_, List.getElem?_eq_getElem lt, by rw [List.getElem?_map, List.getElem?_eq_getElem lt]; rfl, tot_mem (List.getElem_mem lt), by omega, lt⟩
theorem erase_map : ∀ (ls : List Str) (j : Nat), (ls.map D.str).eraseIdx j = (ls.eraseIdx j).map D.str
  | [], _ => rfl
  | _ :: _, 0 => rfl
  | x :: ls, j + 1 => by rw [List.map_cons, List.eraseIdx_cons_succ, List.eraseIdx_cons_succ, List.map_cons, erase_map ls j]
theorem ins_map (ls : List Str) (n : Nat) (s : Str) : (ls.map D.str).take n ++ [.str s] ++ (ls.map D.str).drop n = (ls.take n ++ [s] ++ ls.drop n).map D.str := by simp [List.map_take, List.map_drop]
theorem strs_at {ss : List Str} {b : Nat} (h : ∀ s ∈ ss, s.length ≤ b) {d : D} (hd : d ∈ ss.map D.str) : ∃ s : Str, d = .str s ∧ s.length ≤ b := by
  obtain ⟨s, hs, rfl⟩ := List.mem_map.mp hd
  exact ⟨s, rfl, h s hs⟩
theorem rep_size (x : Array Nat) : ∀ (n : Nat) (a : Array Nat), ((List.replicate n x).foldl (fun x1 x2 => x1 ++ x2) a).size = a.size + n * x.size
  | 0, a => by simp
  | n + 1, a => by rw [List.replicate_succ, List.foldl_cons, rep_size x n, Array.size_append, Nat.succ_mul]; omega
/-- a text so many times -/
def repS (n : Nat) (x : Str) : Str := { cps := List.foldl (fun x1 x2 => x1 ++ x2) #[] (List.replicate n x.cps) }
theorem rep_len (n : Nat) (x : Str) : (repS n x).length = n * x.length := by
  have := rep_size x.cps n #[]
  rw [Array.size_empty, Nat.zero_add] at this
  exact this
theorem bookT_len {s : Six} (h : OkS s) : (bookT s).length ≤ 6000 := by
  have e2 : ("\n" : Str).length = 1 := by decide
  have h1 : ∀ y ∈ ((List.range 6).map fun i => lineT (doors.getD i "") (s.getD i [])), y.length ≤ 50 := fun y hy => by
    obtain ⟨i, hi, rfl⟩ := List.mem_map.mp hy
    have hi6 : i < 6 := List.mem_range.mp hi
    obtain ⟨dn, hdn, hdm, _⟩ := door_at hi6
    have hs : i < s.length := by rw [h.len]; exact hi6
    rw [List.getD_eq_getElem?_getD, List.getD_eq_getElem?_getD, hdn, List.getElem?_eq_getElem hs]
    exact line_len hdm (h.ok _ (List.getElem_mem hs))
  have h2 := sum_le h1
  have h3 := join_len "\n" ((List.range 6).map fun i => lineT (doors.getD i "") (s.getD i []))
  rw [e2] at h3
  simp only [List.length_map, List.length_range] at h2 h3
  unfold bookT
  omega
theorem cut6 (z : Str) : (cutS z none (some 6000)).length ≤ 6000 := by
  unfold cutS
  show (List.toArray _).size ≤ _
  rw [List.size_toArray, List.length_take]
  have h : HT.sIx z.length z.length (some 6000) ≤ 6000 := by
    unfold HT.sIx
    simp
    try omega
  omega
def top (i : Nat) : Stmt := PySem.Challenge.pw_lastshown_k11_book_texts_refused.main.body.getD i (.Pass ⟨0, 0, 0, 0⟩)
abbrev s__wall : Stmt := top 0
abbrev s_is_door : Stmt := top 10
abbrev s_is_rule : Stmt := top 11
abbrev s_read_rule : Stmt := top 14
abbrev s_read_book : Stmt := top 15
abbrev s__law_well : Stmt := top 17
abbrev s__law_draw : Stmt := top 18
abbrev s__law_rule : Stmt := top 19
abbrev s__law_rules : Stmt := top 20
abbrev s__law_line : Stmt := top 21
abbrev s__law_book_text : Stmt := top 22
abbrev s__law_same : Stmt := top 23
abbrev s__law_whole : Stmt := top 24
abbrev s__law_edit : Stmt := top 25
abbrev s__law_lines_spoilt : Stmt := top 26
abbrev s__law_due : Stmt := top 27
abbrev s__law_spoilt : Stmt := top 28
abbrev s__law_tried : Stmt := top 29
abbrev s__law_classes : Stmt := top 30
abbrev s__law_right : Stmt := top 31
abbrev s_law : Stmt := top 32
abbrev s_NoRule_init : Stmt := inClass (top 3) 0
abbrev s_NoDoor_init : Stmt := inClass (top 4) 0
abbrev s_NoText_init : Stmt := inClass (top 5) 0
abbrev s_Book_init : Stmt := inClass (top 12) 0
abbrev s_Book_eq : Stmt := inClass (top 12) 1
abbrev s_Book_rule : Stmt := inClass (top 12) 2
abbrev s_Book_rules : Stmt := inClass (top 12) 3
abbrev s_Book_with_rule : Stmt := inClass (top 12) 4
abbrev s_Book_asking : Stmt := inClass (top 12) 5
/-- what the top has left of names -/
structure Txt (K : PySem.W.Frag) (mg : Str → Option Value) : Prop where
  z_ValueError : mg "ValueError" = none
  z_all : mg "all" = none
  z_bool : mg "bool" = none
  z_enumerate : mg "enumerate" = none
  z_int : mg "int" = none
  z_isinstance : mg "isinstance" = none
  z_len : mg "len" = none
  z_list : mg "list" = none
  z_max : mg "max" = none
  z_min : mg "min" = none
  z_range : mg "range" = none
  z_str : mg "str" = none
  z_tuple : mg "tuple" = none
  z_zip : mg "zip" = none
  g_MOST_ACTIONS : Glob K mg "MOST_ACTIONS" (.int 6)
  r_DOORS : GlobR K mg "DOORS" doors
  r_ACTIONS : GlobR K mg "ACTIONS" acts
section
def R_is_door : RSp := fun ds M k _ => ∃ d, ds = [d] ∧ M = [] ∧ kn d = true ∧ k (.bl (isDoor d)) []
def R_is_rule : RSp := fun ds M k _ => ∃ d, ds = [d] ∧ M = [] ∧ knR d = true ∧ k (.bl (isRule d)) []
def R_Book_init (CB CR : Addr) : RSp := fun ds M k kx => ∃ (a : Addr) (six : List D), ds = .hdl a :: six ∧ M = [(a, .ins CB [] [])] ∧ six.length = 6 ∧ (∀ d ∈ six, knR d = true) ∧
  ((six.all isRule = true ∧ k .non [(a, .ins CB ["row"] [.tup six])]) ∨ (∃ (i : Nat) (e : D), six[i]? = some e ∧ isRule e = false ∧ (∀ d ∈ six.take i, isRule d = true) ∧ kx (.ref CR) [("door", .str (doors.getD i ""))] [(a, .ins CB [] [])]))
def R_Book_rule (CB CD : Addr) : RSp := fun ds M k kx => ∃ (w : D) (six : List D) (d : D), ds = [w, d] ∧ ObjD M w CB ["row"] [.tup six] ∧ kn d = true ∧
  ((∃ (s : Str) (x : D), d = .str s ∧ s ∈ doors ∧ six[doors.idxOf s]? = some x ∧ k x M) ∨ (isDoor d = false ∧ kx (.ref CD) [("door", d)] M))
def R__law_well : RSp := fun ds M k _ => ∃ (ns : List Int) (i : Int), ds = [.seq (ns.map D.int), .int i] ∧ M = [] ∧ 0 ≤ i ∧ i ≤ 1000 ∧
  ∀ (p : Addr) (j : Jar), j.Ok 0 → k (.hdl p) [(p, j.mo)]
def R__law_draw : RSp := fun ds M k _ => ∃ (h : Addr) (j : Jar) (m n : Int), ds = [.hdl h, .int m] ∧ M = [(h, j.mo)] ∧ j.Ok n ∧ n ≤ 1000000 ∧ 0 < m ∧ m ≤ 100000000000000000000000000000000000000000000000000 ∧
  ∀ (r : Int) (j' : Jar), 0 ≤ r → r < m → j'.Ok (n + 1) → k (.int r) [(h, j'.mo)]
def R__law_rule : RSp := fun ds M k _ => ∃ (h : Addr) (j : Jar) (n : Int), ds = [.hdl h] ∧ M = [(h, j.mo)] ∧ j.Ok n ∧ n ≤ 900000 ∧
  ∀ (r : Rule) (j' : Jar), OkR r → j'.Ok (n + 8) → k (dR r) [(h, j'.mo)]
def R__law_rules : RSp := fun ds M k _ => ∃ (h : Addr) (j : Jar) (n : Int), ds = [.hdl h] ∧ M = [(h, j.mo)] ∧ j.Ok n ∧ n ≤ 800000 ∧
  ∀ (s : Six) (j' : Jar), OkS s → j'.Ok (n + 100) → k (dS s) [(h, j'.mo)]
def R__law_line : RSp := fun ds M k _ => ∃ (d : Str) (r : Rule), ds = [.str d, dR r] ∧ M = [] ∧ d ∈ doors ∧ OkR r ∧ k (.str (lineT d r)) []
def R__law_book_text : RSp := fun ds M k _ => ∃ (s2 : Six), ds = [dS s2] ∧ M = [] ∧ OkS s2 ∧ k (.str (bookT s2)) []
def R_Book_rules (CB : Addr) : RSp := fun ds M k _ => ∃ s : Six, ds = [bk CB s] ∧ M = [] ∧ OkS s ∧ k (dS s) []
def R__law_same (n : Nat) : RSp := fun ds M k _ => ∃ d : D, ds = [d, d] ∧ M = [] ∧ rfx n d = true ∧ k (.bl true) []
def R_read_rule : RSp := fun ds M k _ => ∃ (i : Nat) (l : Str), ds = [.int i, .str l] ∧ M = [] ∧ l.length ≤ 6000 ∧ i ≤ 7000 ∧ k (ruleD (lineB i l)) []
def R_read_book (CB XT : Addr) : RSp := fun ds M k kx => ∃ d : D, ds = [d] ∧ M = [] ∧ kn d = true ∧ (((∀ t, d ≠ .str t) ∧ kx (.ref XT) [("line", .int 0)] []) ∨ ∃ t, d = .str t ∧ t.length ≤ 6000 ∧ match readB t with
    | .inl i => kx (.ref XT) [("line", .int i)] []
    | .inr s => k (bk CB s) [])
def R__law_whole : RSp := fun ds M k _ => ∃ i : Int, ds = [.int i, .int i] ∧ M = [] ∧ k (.bl true) []
def R__law_edit : RSp := fun ds M k _ => ∃ (h : Addr) (j : Jar) (n : Int) (t : Str), ds = [.hdl h, .str t] ∧ M = [(h, j.mo)] ∧ j.Ok n ∧ n ≤ 500000 ∧ t.length ≤ 6000 ∧ ∀ (u : Str) (j' : Jar), u.length ≤ 30000 → j'.Ok (n + 4) → k (.str u) [(h, j'.mo)]
def R__law_lines_spoilt : RSp := fun ds M k _ => ∃ (h : Addr) (j : Jar) (n : Int) (t : Str), ds = [.hdl h, .str t] ∧ M = [(h, j.mo)] ∧ j.Ok n ∧ n ≤ 500000 ∧ t.length ≤ 6000 ∧ ∀ (u : Str) (j' : Jar), u.length ≤ 30000 → j'.Ok (n + 4) → k (.str u) [(h, j'.mo)]
def R__law_due : RSp := fun ds M k _ => ∃ t : Str, ds = [.str t] ∧ M = [] ∧ t.length ≤ 6000 ∧ k (dueD (readB t)) []
def R__law_spoilt : RSp := fun ds M k _ => ∃ (h : Addr) (j : Jar) (n : Int) (t : Str), ds = [.hdl h, .str t] ∧ M = [(h, j.mo)] ∧ j.Ok n ∧ n ≤ 400000 ∧ t.length ≤ 6000 ∧ ∀ (u : Str) (j' : Jar), u.length ≤ 30000 → j'.Ok (n + 10) → k (.str u) [(h, j'.mo)]
def R__law_tried (CB : Addr) : RSp := fun ds M k _ => ∃ (d out : D), ds = [d] ∧ M = [] ∧ kn d = true ∧ T11 CB d out ∧ k out []
def R__law_classes (CB : Addr) : RSp := fun ds M k _ => ∃ (d : D), ds = [d] ∧ M = [] ∧ kn d = true ∧ (∃ i : Int, T11 CB d (.tup [.tup [.str "line", .int i], .non])) ∧ k (.tup [.bl true, .bl true, .bl false]) []
def R__law_right : RSp := fun ds M k _ => ∃ (d e : D), ds = [d, e] ∧ M = [] ∧ kn d = true ∧ E11 d e ∧ k (.bl true) []
def R_law : RSp := fun ds M k _ => ∃ (ns : List Int), ds = [.seq (ns.map D.int)] ∧ M = [] ∧ ns.length ≤ 63 ∧ ∀ M', k (.bl true) M'
def w_Book_rules (CB : Addr) : WpS :=
  (wSeq (wRet (wFld CB 0 "row" (wVar 0)))
  wEnd)
def w_read_rule : WpS :=
  (wSeq (wUnstar (gCons (gName 2) (gCons (gName 3) gNil)) (wSplit (wVar 1) (wLit (.str " "))))
  (wSeq (wIf (wOr (wC cGe (wVar 0) (w1 oLen (wLit (.tup (doors.map D.str))))) (wOr (wC cNe (wVar 2) (wFs (wJ1 (wFmt (w2 opIx (wLit (.tup (doors.map D.str))) (wVar 0))) (wJ1 (wLit (.str ":")) wJ0)))) (wC cGt (w1 oLen (wVar 3)) (wLit (.int 6)))))
  (wSeq (wRet (wLit .non))
  wEnd)
  wEnd)
  (wSeq (wRet (wIfe (wB (w1 oAll (wLc (iL (wVar 3)) (gName 4) none (wV (wC cIn (wVar 4) (wLit (.tup (acts.map D.str))))) [4]))) (w1 oTup (wVar 3)) (wLit .non)))
  wEnd)))
def w_read_book (CB CR XT : Addr) : WpS :=
  (wSeq (wIf (wNot (wB (w1 (oIsi isStrD "str") (wVar 0))))
  (wSeq (wRaise XT "line" (wLit (.int 0)))
  wEnd)
  wEnd)
  (wSeq (wSet 1 (wLstM wNil))
  (wSeq (wFor (iEnum (wSplit (wVar 0) (wLit (.str "\n")))) (gTup 2 (gCons (gName 2) (gCons (gName 3) gNil)))
  (wSeq (wSet 4 (wCall R_read_rule [] (wCons (wVar 2) (wCons (wVar 3) wNil))))
  (wSeq (wIf (wC cIs (wVar 4) (wLit .non))
  (wGh (wSeq (wRaise XT "line" (wVar 2))
  wEnd))
  wEnd)
  (wSeq (wExpr (wApp (wVar 1) (wVar 4)))
  wEnd))))
  (wSeq (wIf (wC cLt (wGv (w1 oLen (wVar 1))) (w1 oLen (wLit (.tup (doors.map D.str)))))
  (wSeq (wRaise XT "line" (wGv (w1 oLen (wVar 1))))
  wEnd)
  wEnd)
  (wSeq (wRet (wGv (wMakeStar (R_Book_init CB CR) CB [] (wVar 1))))
  wEnd)))))
def w__law_whole : WpS :=
  (wSeq (wRet (vAnd (w1 (oIsi isIntD "int") (wVar 0)) (vAnd (wV (wNot (wB (w1 (oIsi isBlD "bool") (wVar 0))))) (wV (wC cEq (wVar 0) (wVar 1))))))
  wEnd)
def w__law_edit : WpS :=
  (wSeq (wSet 2 (wLit (.str " !\"#$&'()*+,-./0123456789:;<=>?@ABCDEFGHIJKLMNOPQRSTUVWXYZ[\\]^_`abcdefghijklmnopqrstuvwxyz{|}~\n\t")))
  (wSeq (wPar 3 4 (wCons (wCall R__law_draw [] (wCons (wVar 0) (wCons (wLit (.int 4)) wNil))) (wCons (wCall R__law_draw [] (wCons (wVar 0) (wCons (w2 opAdd (w1 oLen (wVar 1)) (wLit (.int 1))) wNil))) wNil)))
  (wSeq (wSet 5 (w2 opIx (wVar 2) (wCall R__law_draw [] (wCons (wVar 0) (wCons (w1 oLen (wVar 2)) wNil)))))
  (wSeq (wIf (wC cEq (wVar 3) (wLit (.int 0)))
  (wSeq (wRet (w2 opAdd (wSlice isStrK (wVar 1) wO0 (wO1 (wVar 4))) (wSlice isStrK (wVar 1) (wO1 (w2 opAdd (wVar 4) (wLit (.int 1)))) wO0)))
  wEnd)
  wEnd)
  (wSeq (wIf (wC cEq (wVar 3) (wLit (.int 1)))
  (wSeq (wRet (w2 opAdd (w2 opAdd (wSlice isStrK (wVar 1) wO0 (wO1 (wVar 4))) (wVar 5)) (wSlice isStrK (wVar 1) (wO1 (w2 opAdd (wVar 4) (wLit (.int 1)))) wO0)))
  wEnd)
  wEnd)
  (wSeq (wIf (wC cEq (wVar 3) (wLit (.int 2)))
  (wSeq (wSet 5 (w2 opIx (wLit (.str " =:0a9")) (wCall R__law_draw [] (wCons (wVar 0) (wCons (wLit (.int 6)) wNil)))))
  wEnd)
  wEnd)
  (wSeq (wRet (w2 opAdd (w2 opAdd (wSlice isStrK (wVar 1) wO0 (wO1 (wVar 4))) (wVar 5)) (wSlice isStrK (wVar 1) (wO1 (wVar 4)) wO0)))
  wEnd)))))))
def w__law_lines_spoilt : WpS :=
  (wSeq (wPar 2 3 (wCons (wCall R__law_draw [] (wCons (wVar 0) (wCons (wLit (.int 6)) wNil))) (wCons (wSplitM (wVar 1) (wLit (.str "\n"))) wNil)))
  (wSeq (wPar 4 5 (wCons (wCall R__law_draw [] (wCons (wVar 0) (wCons (w1 oLen (wVar 3)) wNil))) (wCons (wCall R__law_draw [] (wCons (wVar 0) (wCons (w1 oLen (wVar 3)) wNil))) wNil)))
  (wSeq (wIf (wC cEq (wVar 2) (wLit (.int 0)))
  (wSeq (wSet 6 (w2 opIx (wVar 3) (wVar 4)))
  (wSeq (wSeti (w2 opIx (wVar 3) (wVar 5)) (wVar 3) (wVar 4))
  (wSeq (wSeti (wVar 6) (wVar 3) (wVar 5))
  wEnd)))
  (wSeq (wIf (wC cEq (wVar 2) (wLit (.int 1)))
  (wSeq (wExpr (wIns (wVar 3) (wVar 4) (w2 opIx (wVar 3) (wVar 5))))
  wEnd)
  (wSeq (wIf (wAnd (wC cEq (wVar 2) (wLit (.int 2))) (wC cGt (w1 oLen (wVar 3)) (wLit (.int 1))))
  (wSeq (wExpr (wPopAt (wVar 3) (wVar 4)))
  wEnd)
  (wSeq (wIf (wC cEq (wVar 2) (wLit (.int 3)))
  (wSeq (wExpr (wIns (wVar 3) (w2 opAdd (wVar 4) (wLit (.int 1))) (w2 opIx (wLst (wCons (wLit (.str "")) (wCons (wLit (.str " ")) wNil))) (w2 opMod (w1 oInt (wVar 5)) (wLit (.int 2))))))
  wEnd)
  (wSeq (wIf (wC cEq (wVar 2) (wLit (.int 4)))
  (wSeq (wExpr (wApp (wVar 3) (wLit (.str ""))))
  wEnd)
  (wSeq (wSet 7 (wLst (wCons (wLit (.str " ")) (wCons (wLit (.str " show")) (wCons (wLit (.str " 1")) (wCons (wLit (.str " a=1")) (wCons (wLit (.str ":")) (wCons (wLit (.str "0")) (wCons (wLit (.str " a")) (wCons (wLit (.str "\t")) wNil))))))))))
  (wSeq (wSeti (w2 opAdd (w2 opIx (wVar 3) (wVar 4)) (w2 opIx (wVar 7) (wCall R__law_draw [] (wCons (wVar 0) (wCons (wLit (.int 8)) wNil))))) (wVar 3) (wVar 4))
  wEnd)))
  wEnd))
  wEnd))
  wEnd))
  wEnd))
  (wSeq (wRet (wGv (wJoin (wLit (.str "\n")) (wVar 3))))
  wEnd))))
def w__law_due : WpS :=
  (wSeq (wPar3 1 2 3 (wCons (wLst (wCons (wLit (.str "put:")) (wCons (wLit (.str "look:")) (wCons (wLit (.str "alter:")) (wCons (wLit (.str "back:")) (wCons (wLit (.str "pay:")) (wCons (wLit (.str "again:")) wNil))))))) (wCons (wLstM wNil) (wCons (wSplit (wVar 0) (wLit (.str "\n"))) wNil))))
  (wSeq (wFor (iR1 (w1 oLen (wVar 3))) (gName 4)
  (wSeq (wSet 5 (wSplit (w2 opIx (wVar 3) (wVar 4)) (wLit (.str " "))))
  (wSeq (wIf (wOr (wC cGt (wVar 4) (wLit (.int 5))) (wOr (wC cNe (w2 opIx (wVar 5) (wLit (.int 0))) (w2 opIx (wVar 1) (w2 oMin2 (wLit (.int 5)) (wVar 4)))) (wC cGt (w1 oLen (wVar 5)) (wLit (.int 7)))))
  (wSeq (wRet (wGv (wTup (wCons (wLit (.str "line")) (wCons (wVar 4) wNil)))))
  wEnd)
  wEnd)
  (wSeq (wFor (iL (wSlice isLstK (wVar 5) (wO1 (wLit (.int 1))) wO0)) (gName 6)
  (wSeq (wIf (wC cNotIn (wVar 6) (wLst (wCons (wLit (.str "take")) (wCons (wLit (.str "least")) (wCons (wLit (.str "last")) (wCons (wLit (.str "show")) (wCons (wLit (.str "ask")) wNil)))))))
  (wSeq (wRet (wGv (wTup (wCons (wLit (.str "line")) (wCons (wVar 4) wNil)))))
  wEnd)
  wEnd)
  wEnd))
  (wSeq (wExpr (wApp (wVar 2) (w1 oTup (wSlice isLstK (wVar 5) (wO1 (wLit (.int 1))) wO0))))
  wEnd)))))
  (wSeq (wRet (wGv (wIfe (wC cEq (w1 oLen (wVar 3)) (wLit (.int 6))) (wTup (wCons (wLit (.str "made")) (wCons (w1 oTup (wVar 2)) wNil))) (wTup (wCons (wLit (.str "line")) (wCons (w1 oLen (wVar 3)) wNil))))))
  wEnd)))
def w__law_spoilt : WpS :=
  (wSeq (wSet 2 (wCall R__law_draw [] (wCons (wVar 0) (wCons (wLit (.int 8)) wNil))))
  (wSeq (wIf (wC cLt (wVar 2) (wLit (.int 2)))
  (wSeq (wRet (wCall R__law_edit [] (wCons (wVar 0) (wCons (wVar 1) wNil))))
  wEnd)
  wEnd)
  (wSeq (wIf (wC cLt (wVar 2) (wLit (.int 5)))
  (wSeq (wRet (wCall R__law_lines_spoilt [] (wCons (wVar 0) (wCons (wVar 1) wNil))))
  wEnd)
  wEnd)
  (wSeq (wSet 3 (wSplitM (wVar 1) (wLit (.str "\n"))))
  (wSeq (wSet 4 (wCall R__law_draw [] (wCons (wVar 0) (wCons (w1 oLen (wVar 3)) wNil))))
  (wSeq (wAsg (gTup 3 (gCons (gName 5) (gCons (gName 6) (gCons (gName 7) gNil)))) (wParti (w2 opIx (wVar 3) (wVar 4)) (wLit (.str " "))))
  (wSeq (wIf (wC cEq (wVar 2) (wLit (.int 5)))
  (wSeq (wSet 8 (wLst (wCons (wLit (.str "put:")) (wCons (wLit (.str "look:")) (wCons (wLit (.str "alter:")) (wCons (wLit (.str "back:")) (wCons (wLit (.str "pay:")) (wCons (wLit (.str "again:")) (wCons (wLit (.str "Put:")) (wCons (wLit (.str "put")) (wCons (wLit (.str "wish:")) (wCons (wLit (.str "")) (wCons (wLit (.str " put:")) (wCons (wLit (.str "look :")) wNil))))))))))))))
  (wSeq (wSeti (w2 opAdd (w2 opAdd (w2 opIx (wVar 8) (wCall R__law_draw [] (wCons (wVar 0) (wCons (wLit (.int 12)) wNil)))) (wVar 6)) (wVar 7)) (wVar 3) (wVar 4))
  wEnd))
  (wSeq (wIf (wC cEq (wVar 2) (wLit (.int 6)))
  (wSeq (wSet 9 (wLst (wCons (wLit (.str "Take")) (wCons (wLit (.str "taken")) (wCons (wLit (.str "")) (wCons (wLit (.str "show,")) (wCons (wLit (.str "asks")) (wCons (wLit (.str "least last")) (wCons (wLit (.str "show ")) (wCons (wLit (.str " ask")) (wCons (wLit (.str "none")) (wCons (wLit (.str "put")) (wCons (wLit (.str "first")) (wCons (wLit (.str "ask;")) wNil))))))))))))))
  (wSeq (wSeti (w2 opAdd (w2 opAdd (w2 opIx (wVar 3) (wVar 4)) (wLit (.str " "))) (w2 opIx (wVar 9) (wCall R__law_draw [] (wCons (wVar 0) (wCons (wLit (.int 12)) wNil))))) (wVar 3) (wVar 4))
  wEnd))
  (wSeq (wSeti (w2 opAdd (w2 opIx (wVar 3) (wVar 4)) (w2 opMul (wLit (.str " show")) (w2 opAdd (wLit (.int 1)) (wCall R__law_draw [] (wCons (wVar 0) (wCons (wLit (.int 7)) wNil)))))) (wVar 3) (wVar 4))
  wEnd))
  wEnd))
  (wSeq (wRet (wGv (wJoin (wLit (.str "\n")) (wVar 3))))
  wEnd))))))))
def w__law_tried (CB XT : Addr) : WpS :=
  (wSeq (wAsg (gTup 2 (gCons (gName 1) (gCons (gName 2) gNil))) (wTup (wCons (wTup (wCons (wLit (.str "made")) wNil)) (wCons (wLit .non) wNil))))
  (wSeq (wTry (wSeq (wSet 2 (wCallK0 (R_read_book CB XT) 1 [(2, 0)] [] (wCons (wVar 0) wNil)))
  wEnd)
  [⟨[(XT, true)], (some 3), fun xa xcl xd => (wSeq (wSet 1 (wTup (wCons (wLit (.str "line")) (wCons (wXf 3 xa xcl xd [XT] "line") wNil))))
  wEnd)⟩])
  (wSeq (wRet (wGv (wTup (wCons (wVar 1) (wCons (wVar 2) wNil)))))
  wEnd)))
def w__law_classes (CB XT : Addr) : WpS :=
  (wSeq (wSet 1 (wTup wNil))
  (wSeq (wTry (wSeq (wExpr (wCall (R_read_book CB XT) [] (wCons (wVar 0) wNil)))
  wEnd)
  [⟨[(XT, true)], (some 2), fun xa xcl xd => (wSeq (wSet 1 (wTup (wCons (wXi 2 xa xcl xd [(XT, true)]) (wCons (wXi 2 xa xcl xd [(XT, true)]) (wCons (wXi 2 xa xcl xd [(XT, false)]) wNil)))))
  wEnd)⟩])
  (wSeq (wRet (wGv (wVar 1)))
  wEnd)))
def w__law_right (CB : Addr) : WpS :=
  (wSeq (wAsg (gTup 2 (gCons (gName 2) (gCons (gName 3) gNil))) (wCall (R__law_tried CB) [] (wCons (wVar 0) wNil)))
  (wSeq (wIf (wC cNe (w2 opIx (wVar 2) (wLit (.int 0))) (w2 opIx (wVar 1) (wLit (.int 0))))
  (wSeq (wRet (wLit (.bl false)))
  wEnd)
  wEnd)
  (wSeq (wIf (wC cEq (w2 opIx (wVar 1) (wLit (.int 0))) (wLit (.str "line")))
  (wSeq (wRet (vAnd (wCall R__law_whole [] (wCons (w2 opIx (wVar 2) (wLit (.int 1))) (wCons (w2 opIx (wVar 1) (wLit (.int 1))) wNil))) (wV (wC cEq (wCall (R__law_classes CB) [] (wCons (wVar 0) wNil)) (wTup (wCons (wLit (.bl true)) (wCons (wLit (.bl true)) (wCons (wLit (.bl false)) wNil))))))))
  wEnd)
  wEnd)
  (wSeq (wRet (vAnd (w1 (oIsiC CB) (wVar 3)) (wCall (R__law_same 2) [] (wCons (wMeth (R_Book_rules CB) CB "rules" [] (wVar 3) wNil) (wCons (w2 opIx (wVar 1) (wLit (.int 1))) wNil)))))
  wEnd))))
def w_law : WpS :=
  (wSeq (wFor (iR1 (w2 oMax2 (wLit (.int 1)) (w1 oLen (wVar 0)))) (gName 1)
  (wSeq (wSet 2 (wCall R__law_well [] (wCons (wVar 0) (wCons (wVar 1) wNil))))
  (wSeq (wPar 3 4 (wCons (wCall R__law_draw [] (wCons (wVar 2) (wCons (wLit (.int 42)) wNil))) (wCons (wCall R__law_draw [] (wCons (wVar 2) (wCons (wLit (.int 4)) wNil))) wNil)))
  (wSeq (wSet 5 (wCall R__law_book_text [] (wCons (wCall R__law_rules [] (wCons (wVar 2) wNil)) wNil)))
  (wCut (wIf (wC cLt (wVar 3) (wLit (.int 7)))
  (wSeq (wSet 6 (w2 opIx (wLst (wCons (wLit .non) (wCons (wLit (.int 0)) (wCons (wLit (.bl true)) (wCons (wLst wNil) (wCons (wLst (wCons (wVar 5) wNil)) (wCons (wTup (wCons (wVar 5) wNil)) (wCons (wGv wDnew) wNil)))))))) (wVar 3)))
  (wSeq (wIf (wNot (wB (wCall R__law_right [] (wCons (wVar 6) (wCons (wTup (wCons (wLit (.str "line")) (wCons (wLit (.int 0)) wNil))) wNil)))))
  (wSeq (wRet (wLit (.bl false)))
  wEnd)
  wEnd)
  wEnd))
  wEnd)
  (wSeq (wFor (iR1 (wVar 4)) (gName 7)
  (wSeq (wSet 5 (wSlice isStrK (wCall R__law_spoilt [] (wCons (wVar 2) (wCons (wVar 5) wNil))) wO0 (wO1 (wLit (.int 6000)))))
  wEnd))
  (wSeq (wIf (wNot (wB (wCall R__law_right [] (wCons (wVar 5) (wCons (wCall R__law_due [] (wCons (wVar 5) wNil)) wNil)))))
  (wSeq (wRet (wLit (.bl false)))
  wEnd)
  wEnd)
  wEnd)))))))
  (wSeq (wRet (wLit (.bl true)))
  wEnd))
end
/-! ### calls of the laws' shared defs; q: where the jar stands -/
section
variable {k : KD} {kx : KX} {h : Addr} {j : Jar} {n m : Int} {B M : Ms}
theorem hp1 {R : RSp} {ds : List D} {o : Addr × MO} (q : Nat) (hm : M[q]? = some o) (hk : R ds [o] (fun d N => ∃ o', N = [o'] ∧ setM M q o' fun M' => k d M') (fun c f N => False)) (mo : ∀ {A : Ms} {k k' : KD} {kx kx' : KX}, R ds A k kx → (∀ d N, k d N → k' d N) → (∀ c f N, kx c f N → kx' c f N) → R ds A k' kx') : HandP R ds M k kx := by
  have hl := (List.getElem?_eq_some_iff.mp hm).1
  have e : M.drop q = o :: M.drop (q + 1) := by rw [List.drop_eq_getElem_cons hl, (List.getElem?_eq_some_iff.mp hm).2]
  refine HandP.seg q 1 ?_
  rw [e]
  simp only [List.take_succ_cons, List.take_zero, List.drop_succ_cons, List.drop_zero]
  refine mo hk (fun d N ⟨o', e1, e2⟩ => ?_) fun _ _ _ z => z.elim
  subst e1
  refine ⟨M.set q o', ?_, setM_eq.mp e2⟩
  rw [List.append_assoc]
  have e3 : M.set q o' = M.take q ++ ([o'] ++ M.drop (q + 1)) := by
    rw [List.set_eq_take_append_cons_drop, if_pos hl]; rfl
  rw [e3]
  exact List.Perm.append_left _ List.perm_append_comm
end
section
variable {k : KD} {kx : KX} {M : Ms} {CB CR CD : Addr}
theorem use_brules {s : Six} (os : OkS s) (hk : k (dS s) M) : HandP (R_Book_rules CB) [bk CB s] M k kx := .none ⟨s, rfl, rfl, os, M, by simp, hk⟩
theorem use_bookPd {s : Six} {x : Addr} {M' : Ms} (os : OkS s) (sub : M'.Sublist M) (hk : k (bk CB s) M') : Hand (R_Book_init CB CR) (.hdl x :: s.map dR) ((x, .ins CB [] []) :: M) (fun d M2 => d = .non ∧ ∃ M3, M2.Perm M3 ∧ GhR (.hdl x) M3 k) kx :=
  ⟨[(x, .ins CB [] [])], M, (List.perm_append_singleton _ _).symm, x, s.map dR, rfl, rfl, by rw [List.length_map, os.len], all_knR (s := s), .inl ⟨all_rules (s := s) os.ok, rfl, (x, .ins CB ["row"] [.tup (s.map dR)]) :: M, List.perm_append_singleton _ _, .mk _ _ ((GhV.frzI 0 rfl).trans (GhV.drop sub)) hk⟩⟩
end
section
variable {k : KD} {kx : KX} {h : Addr} {j : Jar} {n m : Int} {B M : Ms}
theorem use_draw (q : Nat) (jo : j.Ok n) (hn : n ≤ 1000000) (h0 : 0 < m) (h1 : m ≤ 100000000000000000000000000000000000000000000000000) (hk : ∀ r j', 0 ≤ r → r < m → Jar.Ok j' (n + 1) → setM M q (h, j'.mo) fun M' => k (.int r) M') (hm : M[q]? = some (h, j.mo) := by rfl) : HandP R__law_draw [.hdl h, .int m] M k kx :=
  hp1 q hm ⟨h, j, m, n, rfl, rfl, jo, hn, h0, h1, fun r j' a b c => ⟨_, rfl, hk r j' a b c⟩⟩ fun ⟨h, j, m, n, e1, e2, jo, hn, h0, h1, hk⟩ h2 _ => ⟨h, j, m, n, e1, e2, jo, hn, h0, h1, fun r j' a b c => h2 _ _ (hk r j' a b c)⟩
theorem use_edit {t : Str} (q : Nat) (jo : j.Ok n) (hn : n ≤ 500000) (ht : t.length ≤ 6000) (hk : ∀ (u : Str) (j' : Jar), u.length ≤ 30000 → Jar.Ok j' (n + 4) → setM M q (h, j'.mo) fun M' => k (.str u) M') (hm : M[q]? = some (h, j.mo) := by rfl) : HandP R__law_edit [.hdl h, .str t] M k kx :=
  hp1 q hm ⟨h, j, n, t, rfl, rfl, jo, hn, ht, fun u j' a b => ⟨_, rfl, hk u j' a b⟩⟩ fun ⟨h, j, n, t, e1, e2, jo, hn, ht, hk⟩ h2 _ => ⟨h, j, n, t, e1, e2, jo, hn, ht, fun u j' a b => h2 _ _ (hk u j' a b)⟩
theorem use_lines_spoilt {t : Str} (q : Nat) (jo : j.Ok n) (hn : n ≤ 500000) (ht : t.length ≤ 6000) (hk : ∀ (u : Str) (j' : Jar), u.length ≤ 30000 → Jar.Ok j' (n + 4) → setM M q (h, j'.mo) fun M' => k (.str u) M') (hm : M[q]? = some (h, j.mo) := by rfl) : HandP R__law_lines_spoilt [.hdl h, .str t] M k kx :=
  hp1 q hm ⟨h, j, n, t, rfl, rfl, jo, hn, ht, fun u j' a b => ⟨_, rfl, hk u j' a b⟩⟩ fun ⟨h, j, n, t, e1, e2, jo, hn, ht, hk⟩ h2 _ => ⟨h, j, n, t, e1, e2, jo, hn, ht, fun u j' a b => h2 _ _ (hk u j' a b)⟩
theorem use_well {ns : List Int} {i : Int} {M : Ms} (h0 : 0 ≤ i) (h1 : i ≤ 1000) (hk : ∀ p j, Jar.Ok j 0 → ∃ M', ((p, j.mo) :: M).Perm M' ∧ k (.hdl p) M') : HandP R__law_well [.seq (ns.map D.int), .int i] M k kx :=
  .none ⟨ns, i, rfl, rfl, h0, h1, fun p j jo => by
    obtain ⟨M', h1, h2⟩ := hk p j jo
    exact ⟨M', (List.perm_append_singleton _ _).trans h1, h2⟩⟩
theorem use_rules (q : Nat) (jo : j.Ok n) (hn : n ≤ 800000) (hk : ∀ (s : Six) (j' : Jar), OkS s → j'.Ok (n + 100) → setM M q (h, j'.mo) fun M' => k (dS s) M') (hm : M[q]? = some (h, j.mo) := by rfl) : HandP R__law_rules [.hdl h] M k kx :=
  hp1 q hm ⟨h, j, n, rfl, rfl, jo, hn, fun s j' a b => ⟨_, rfl, hk s j' a b⟩⟩ fun ⟨h, j, n, e1, e2, jo, hn, hk⟩ h2 _ => ⟨h, j, n, e1, e2, jo, hn, fun s j' a b => h2 _ _ (hk s j' a b)⟩
theorem use_bookt {s : Six} (os : OkS s) (hk : k (.str (bookT s)) M) : HandP R__law_book_text [dS s] M k kx := .none ⟨s, rfl, rfl, os, M, by simp, hk⟩
theorem use_spoilt {t : Str} (q : Nat) (jo : j.Ok n) (hn : n ≤ 400000) (ht : t.length ≤ 6000) (hk : ∀ (u : Str) (j' : Jar), u.length ≤ 30000 → Jar.Ok j' (n + 10) → setM M q (h, j'.mo) fun M' => k (.str u) M') (hm : M[q]? = some (h, j.mo) := by rfl) : HandP R__law_spoilt [.hdl h, .str t] M k kx :=
  hp1 q hm ⟨h, j, n, t, rfl, rfl, jo, hn, ht, fun u j' a b => ⟨_, rfl, hk u j' a b⟩⟩ fun ⟨h, j, n, t, e1, e2, jo, hn, ht, hk⟩ h2 _ => ⟨h, j, n, t, e1, e2, jo, hn, ht, fun u j' a b => h2 _ _ (hk u j' a b)⟩
theorem use_due {t : Str} (ht : t.length ≤ 6000) (hk : k (dueD (readB t)) M) : HandP R__law_due [.str t] M k kx := .none ⟨t, rfl, rfl, ht, M, by simp, hk⟩
theorem use_right {d e : D} (h1 : kn d = true) (h2 : E11 d e) (hk : k (.bl true) M) : HandP R__law_right [d, e] M k kx := .none ⟨d, e, rfl, rfl, h1, h2, M, by simp, hk⟩
end
section
variable {P : Program} {w : World} {K : PySem.W.Frag} {mg : Str → Option Value} {base : Heap}
theorem sc_is_door : FnScope ["thing"] ["thing"] (defScope s_is_door) := ⟨rfl, rfl, rfl, by decide +kernel, rfl, by decide +kernel, by decide +kernel⟩
theorem ok_is_door {f : Addr} {fd : FuncData}  (F : Fun K "is_door" "is_door" s_is_door f fd) (T : Txt K mg) : FnOk P w K mg base (L2.CX P w) 1 f fd ["thing"] (spD K R_is_door) := by
  have nd := sc_is_door.nd
  refine fn_ok F sc_is_door (fun ds M k kx H0 => by obtain ⟨d, rfl, rfl, hkn, hk⟩ := H0; rfl) fun cdv A outer s H E ds M k kx hr H0 => ?_
  obtain ⟨d, rfl, rfl, hkn, hk⟩ := H0
  have hu := hr.units
  have hu5 := units65 hr
  refine gb_one (gs_ret ?_)
  refine ge_and ?_
  refine ge_callB call_isi T.z_isinstance PyProof.Rows.boot_isinstance ((av_cons (ev_var 0) (av_cons (ev_ty T.z_str b_str) av_nil)).ga (isi_str hkn ⟨_, rfl, fun hs => ?_, fun hs => ?_⟩))
  · cases d <;> simp [isStrD] at hs
    refine ge_one (ge_cmp (op_inU hu5) rfl ((ev_var 0).ge ((ev_glob T.r_DOORS.glob).ge (in_strs rfl ?_))))
    rw [isDoor_any]
    exact hk
  · have : isDoor d = false := by cases d <;> simp_all [isStrD, isDoor]
    rw [this] at hk
    exact hk
theorem sc_is_rule : FnScope ["thing", "action"] ["thing"] (defScope s_is_rule) := ⟨rfl, rfl, rfl, by decide +kernel, rfl, by decide +kernel, by decide +kernel⟩
theorem ok_is_rule {f : Addr} {fd : FuncData}  (F : Fun K "is_rule" "is_rule" s_is_rule f fd) (T : Txt K mg) : FnOk P w K mg base (L2.CX P w) 1 f fd ["thing"] (spD K R_is_rule) := by
  have nd := sc_is_rule.nd
  refine fn_ok F sc_is_rule (fun ds M k kx H0 => by obtain ⟨d, rfl, rfl, hkn, hk⟩ := H0; rfl) fun cdv A outer s H E ds M k kx hr H0 => ?_
  obtain ⟨d, rfl, rfl, hkn, hk⟩ := H0
  have hu := hr.units
  have hu5 := units65 hr
  have hk0 : kn d = true := by simp only [knR, Bool.and_eq_true] at hkn; exact hkn.1
  refine gb_cons (gs_if (gt_bool (gp_or (gt_not (gt_val (ge_callB call_isi T.z_isinstance PyProof.Rows.boot_isinstance ((av_cons (ev_var 0) (av_cons (ev_ty T.z_tuple b_tuple) av_nil)).ga (isi_tup hk0 ⟨_, rfl, fun hs => ?_, fun hs => ?_⟩))))))))
  · cases d <;> simp [isTupD] at hs
    rename_i ds
    have hkn2 : ∀ d ∈ ds, kn d = true := by simp only [knR, Bool.and_eq_true, List.all_eq_true] at hkn; exact hkn.2
    refine gp_or1 ((tv_cmp op_gt (nomark _) (ev_callB call_len T.z_len PySem.boot_len (av_cons (ev_var 0) av_nil) (len_tup ⟨rfl, rfl⟩)) (ev_glob T.g_MOST_ACTIONS) (gt_int ⟨rfl, rfl⟩)).gt ⟨fun hb => ?_, fun hb => ?_⟩)
    · refine gb_one (gs_ret (ev_bl.ge ?_))
      have : isRule (.tup ds) = false := by simp at hb; simp [isRule]; intro h; omega
      rw [this] at hk
      exact hk
    · refine gb_nil ?_
      have h6 : ds.length ≤ 6 := by simp at hb; omega
      refine gb_one (gs_ret (ge_callB (cr_all rfl) T.z_all b_all (ga_cons ?_)))
      refine ge_lc [("action", 1)] rfl nd (blkOk_by (by show blkC ["thing", "action"] (defScope s_is_rule) _ _ = true; decide +kernel)) ?_
      refine gi_tup ((ev_var 0).ge ⟨_, rfl, ?_⟩)
      refine ⟨fun i acc M => acc = (ds.take i).map (fun d => .bl (isAct d)) ∧ M = [], ⟨rfl, rfl⟩, fun _ _ _ _ _ => trivial, fun i d acc M hi hit hP => ?_, fun acc M hP => ?_⟩
      · obtain ⟨rfl, rfl⟩ := hP
        have hd : d ∈ ds := List.mem_of_getElem? hit
        intro _ _ _ _ _
        refine cg_name 1 ?_ nd
        intro _ _ _ _ _
        refine gts_nil ⟨fun _ => ?_, fun z => nomatch z⟩
        intro _ _ _ _ _
        have fin : ∀ b, b = isAct d → ((ds.take i).map (fun d => D.bl (isAct d))).length < 16777216 ∧ (ds.take i).map (fun d => D.bl (isAct d)) ++ [D.bl b] = (ds.take (i + 1)).map (fun d => .bl (isAct d)) ∧ ([] : Ms) = [] := fun b hb => by
          refine ⟨by simp; omega, ?_, rfl⟩
          rw [List.take_add_one, hit, hb]
          simp
        refine ge_and ?_
        refine ge_callB call_isi T.z_isinstance PyProof.Rows.boot_isinstance ((av_cons (ev_var 1) (av_cons (ev_ty T.z_str b_str) av_nil)).ga (isi_str (hkn2 d hd) ⟨_, rfl, fun hs => ?_, fun hs => ?_⟩))
        · cases d <;> simp [isStrD] at hs
          refine ge_one (ge_cmp (op_inU hu5) rfl ((ev_var 1).ge ((ev_glob T.r_ACTIONS.glob).ge (in_strs rfl ?_))))
          rw [isAct_str]
          exact fin _ rfl
        · exact fin _ (by cases d <;> simp_all [isStrD, isAct])
      · obtain ⟨rfl, rfl⟩ := hP
        refine ga_nil (all_lst (bs := ds.map isAct) (by simp) ?_)
        have : isRule (.tup ds) = (ds.map isAct).all id := by
          simp only [isRule, List.all_map]
          simp [h6]
        rw [this] at hk
        exact hk
  · refine ⟨fun _ => ?_, fun z => nomatch z⟩
    refine gb_one (gs_ret (ev_bl.ge ?_))
    have : isRule d = false := by cases d <;> simp_all [isTupD, isRule]
    rw [this] at hk
    exact hk
theorem sc_Book_init : FnScope ["self", "put", "look", "alter", "back", "pay", "again", "row", "door", "rule"] ["self", "put", "look", "alter", "back", "pay", "again"] (defScope s_Book_init) := ⟨rfl, rfl, rfl, by decide +kernel, rfl, by decide +kernel, by decide +kernel⟩
theorem ok_Book_init {f : Addr} {fd : FuncData} {CB CR : Addr} {dvs : List V} {kws : List (Str × V)} (F : FunD K "__init__" "Book.__init__" (defArgs s_Book_init) (defBody s_Book_init) (defScope s_Book_init) dvs kws f fd) (T : Txt K mg) (F_is_rule : FnD P w K mg base 1 "is_rule" [] R_is_rule) (clB : Cls K CB) (na_row : NoAttr K CB "row") (F_NoRule : ExD P w K mg base "NoRule" CR "door") : FnOk P w K mg base (L2.CX P w) 3 f fd ["self", "put", "look", "alter", "back", "pay", "again"] (spD K (R_Book_init CB CR)) := by
  have nd := sc_Book_init.nd
  refine fn_okD F sc_Book_init (fun ds M k kx H0 => by obtain ⟨a, six, rfl, rfl, hl, hkn, hk⟩ := H0; simp [hl]) fun cdv A outer s H E ds M k kx hr H0 => ?_
  obtain ⟨a, six, rfl, rfl, hl, hkn, hk⟩ := H0
  obtain ⟨d0, d1, d2, d3, d4, d5, rfl⟩ := six_getD hl
  have hu := hr.units
  have hu5 := units65 hr
  refine gb_cons (gs_set 7 ?_ nd)
  refine ((ev_tup (av_cons (ev_var 1) (av_cons (ev_var 2) (av_cons (ev_var 3) (av_cons (ev_var 4) (av_cons (ev_var 5) (av_cons (ev_var 6) av_nil)))))))).ge ?_
  refine gb_cons (gs_for (passes_of rfl) rfl ?_)
  refine gi_zipT T.z_zip ?_
  refine ((av_cons (ev_glob T.r_DOORS.glob) (av_cons (ev_var 7) av_nil))).ga ?_
  refine ⟨_, _, rfl, ?_⟩
  refine ⟨fun i Γ M => ∃ (x y : Option D), Γ = [some (.hdl a), some d0, some d1, some d2, some d3, some d4, some d5, some (.tup [d0, d1, d2, d3, d4, d5]), x, y] ∧ (∀ d ∈ [d0, d1, d2, d3, d4, d5].take i, isRule d = true) ∧ M = [(a, .ins CB [] [])], ⟨none, none, rfl, by simp, rfl⟩, fun _ _ _ _ _ => trivial, fun i d Γ M hi hit hP => ?_, fun Γ M hP => ?_⟩
  · obtain ⟨x, y, rfl, hall, rfl⟩ := hP
    obtain ⟨e1, e2, h1, h2, rfl⟩ := hit
    refine gg_tup rfl ?_ rfl
    refine ggs_cons ?_
    refine gg_name 8 ?_ nd
    refine ggs_cons ?_
    refine gg_name 9 ?_ nd
    refine ggs_nil ?_
    refine gb_cons (gs_if ?_)
    refine gt_not ?_
    refine gt_val ?_
    refine ge_call F_is_rule hr (by decide) ?_
    refine ((av_cons (ev_var 9) av_nil)).ga ?_
    refine ⟨[], by simp, by simp, e2, rfl, rfl, hkn e2 (List.mem_of_getElem? h2), ⟨rfl, ?_⟩⟩
    refine ⟨_, rfl, ?_⟩
    refine ⟨fun hb1 => ?_, fun hb1 => ?_⟩
    · have hb1 := hb1
      refine gb_one (gs_raise1 F_NoRule rfl hr (by decide) ?_)
      refine ((ev_var 8)).ge ?_
      have hb2 : isRule e2 = false := by simpa using hb1
      rcases hk with ⟨hk, _⟩ | ⟨i2, e, q1, q2, q3, hk⟩
      · exact absurd (List.all_eq_true.mp hk e2 (List.mem_of_getElem? h2)) (by rw [hb2]; simp)
      · obtain rfl : i = i2 := first_eq h2 hb2 hall q1 q2 q3
        rw [List.getElem?_map] at h1
        cases hh : doors[i]? with
        | none => rw [hh] at h1; cases h1
        | some z =>
          rw [hh] at h1
          cases h1
          rw [List.getD_eq_getElem?_getD, hh] at hk
          exact hk
    · have hb1 := hb1
      refine gb_nil ?_
      refine gb_nil ?_
      exact ⟨_, _, rfl, fun d hd => (mem_take_succ h2 hd).elim (hall d) fun q => by rw [q]; simpa using hb1, rfl⟩
  · obtain ⟨x, y, rfl, hall, rfl⟩ := hP
    refine gb_cons (gs_fld ?_)
    refine ((ev_var 7)).ge ?_
    refine ((ev_var 0)).ge ?_
    refine ⟨0, _, _, _, _, _, _, rfl, rfl, clB, na_row, by decide, .new (by simp), ?_⟩
    refine gb_nil ?_
    rcases hk with ⟨_, hk⟩ | ⟨i, e, h1, h2, _⟩
    · exact hk
    · exact absurd (hall e (List.mem_of_getElem? (i := i) (by have q6 := (List.getElem?_eq_some_iff.mp h1).1; simp at q6; rw [List.getElem?_take, if_pos (by simp [doors]; omega)]; exact h1))) (by rw [h2]; simp)
theorem sc_Book_rule : FnScope ["self", "door"] ["self", "door"] (defScope s_Book_rule) := ⟨rfl, rfl, rfl, by decide +kernel, rfl, by decide +kernel, by decide +kernel⟩
theorem ok_Book_rule {f : Addr} {fd : FuncData} {CB CD : Addr} (F : Fun K "rule" "Book.rule" s_Book_rule f fd) (T : Txt K mg) (F_is_door : FnD P w K mg base 1 "is_door" [] R_is_door) (clB : Cls K CB) (na_row : NoAttr K CB "row") (F_NoDoor : ExD P w K mg base "NoDoor" CD "door") : FnOk P w K mg base (L2.CX P w) 3 f fd ["self", "door"] (spD K (R_Book_rule CB CD)) := by
  have nd := sc_Book_rule.nd
  refine fn_ok F sc_Book_rule (fun ds M k kx H0 => by obtain ⟨w, six, d, rfl, ob, hkn, hk⟩ := H0; rfl) fun cdv A outer s H E ds M k kx hr H0 => ?_
  obtain ⟨w, six, d, rfl, ob, hkn, hk⟩ := H0
  have hu := hr.units
  have hu5 := units65 hr
  refine gb_cons (gs_if (gt_not (gt_val (ge_call F_is_door hr (by decide) ((av_cons (ev_var 1) av_nil).ga ⟨[], by simp, by simp, d, rfl, rfl, hkn, rfl, ⟨_, rfl, ?_⟩⟩)))))
  refine ⟨fun hb => ?_, fun hb => ?_⟩ <;> rw [merge_nil]
  · refine gb_one (gs_raise1 F_NoDoor rfl hr (by decide) ((ev_var 1).ge ?_))
    rcases hk with ⟨s, x, rfl, hs, _⟩ | ⟨_, hk⟩
    · rw [isDoor_str hs] at hb; exact absurd hb (by simp)
    · exact hk
  · refine gb_nil ?_
    rcases hk with ⟨s, x, rfl, hs, hx, hk⟩ | ⟨h, _⟩
    · obtain ⟨h6, h1, h2⟩ := idx_doors hs
      have hl := (List.getElem?_eq_some_iff.mp hx).1
      exact gb_one (gs_ret (ge_ix ix_seq (fun _ _ => rfl) (ge_fld 0 ((ev_var 0).ge ⟨CB, _, _, _, clB, na_row, ob, by simp, rfl, rfl, ge_gindex T.r_DOORS ((ev_var 1).ge ⟨s, doors.idxOf s, rfl, h1, h2, ix_tup' (j := doors.idxOf s) (.inl ⟨by omega, rfl, hl⟩) hx hk⟩)⟩))))
    · rw [h] at hb; exact absurd hb (by simp)
theorem sc__law_well : FnScope ["script", "k", "cell", "deep"] ["script", "k"] (defScope s__law_well) := ⟨rfl, rfl, rfl, by decide +kernel, rfl, by decide +kernel, by decide +kernel⟩
theorem ok__law_well {f : Addr} {fd : FuncData}  (F : Fun K "_law_well" "_law_well" s__law_well f fd) (T : Txt K mg) : FnOk P w K mg base (L2.CX P w) 1 f fd ["script", "k"] (spD K R__law_well) := by
  have nd := sc__law_well.nd
  refine fn_ok F sc__law_well (fun ds M k kx H0 => by obtain ⟨ns, i, rfl, rfl, hi0, hi1, hk⟩ := H0; rfl) fun cdv A outer s H E ds M k kx hr H0 => ?_
  obtain ⟨ns, i, rfl, rfl, hi0, hi1, hk⟩ := H0
  have hu := hr.units
  have hu5 := units65 hr
  have key : ∀ c e : Int, GB (cxOf (L2.CX P w) P w K mg base ["script", "k", "cell", "deep"] "_law_well" (defScope s__law_well) f cdv A outer s H E) [some (.seq (ns.map D.int)), some (.int i), some (.int c), some (.int e)] []
      [(defBody s__law_well).getD 4 (.Pass ⟨0, 0, 0, 0⟩)] { nx := fun _ M' => k .non M', rt := k, ex := fun c f _ M' => kx c f M' } := fun c e => by
    refine gb_one (gs_ret ?_)
    refine ge_lstM ?_
    refine (av_cons (ev_callB (call_max2 rfl) T.z_max PyProof.Rows.boot_max (av_cons ev_int (av_cons (ev_bin op_sub (ev_var 3) (ev_bin op_powX ev_int ev_int (pow_int (pow4 (n := 18) (by decide) (by decide) (by decide)) ⟨rfl, rfl⟩)) (sub_int ⟨rfl, rfl⟩)) av_nil)) (max2_int ⟨rfl, rfl⟩))
      (av_cons (ev_bin op_addU (ev_bin op_mod (ev_callT call_int1 T.z_int PyProof.Rows.boot_int (av_cons (ev_var 3) av_nil) (int_int ⟨rfl, rfl⟩)) (ev_bin op_addU (ev_bin op_powX ev_int ev_int (pow_int (pow4 (n := 27) (by decide) (by decide) (by decide)) ⟨rfl, rfl⟩)) ev_int (add_int ⟨rfl, rfl⟩)) (mod_int (by decide) ⟨rfl, rfl⟩)) (ev_bin op_mulU ev_int (ev_var 1) (mul_int' (mulx (by omega) (by omega) (by omega) (by omega)) ⟨rfl, rfl⟩)) (add_int ⟨rfl, rfl⟩))
      (av_cons ev_int av_nil))).ga ⟨by simp, fun p => ?_⟩
    refine hk p ⟨_, _, _⟩ ⟨?_, ?_, by show (0:Int) ≤ 0; omega, by show (0:Int) ≤ 0; omega⟩
    · have := Int.emod_nonneg e (b := 10 ^ (27 : Int).toNat + 103) (by decide)
      show 0 ≤ e % (10 ^ (27 : Int).toNat + 103) + 65537 * i
      omega
    · have h1 := Int.emod_lt_of_pos e (b := 10 ^ (27 : Int).toNat + 103) (by decide)
      have h2 : (10 : Int) ^ (27 : Int).toNat + 103 < 9999999999999999999999999999999999999999 - 65537000 := by decide
      show e % (10 ^ (27 : Int).toNat + 103) + 65537 * i < 10000000000000000000000000000000000000000
      omega
  have rest : ∀ c : Int, GB (cxOf (L2.CX P w) P w K mg base ["script", "k", "cell", "deep"] "_law_well" (defScope s__law_well) f cdv A outer s H E) [some (.seq (ns.map D.int)), some (.int i), some (.int c), none] []
      ((defBody s__law_well).drop 2) { nx := fun _ M' => k .non M', rt := k, ex := fun c f _ M' => kx c f M' } := fun c => by
    refine gb_cons (gs_set 3 ((ev_bin op_mul ev_int (ev_var 2) (mulS_int (.inl (by decide)) ⟨rfl, rfl⟩)).ge ?_) nd)
    refine gb_cons (gs_if ((tv_cmp op_lt (nomark _) (ev_var 2) ev_int (lt_int ⟨rfl, rfl⟩)).gt ⟨fun hb => ?_, fun hb => ?_⟩))
    · refine gb_cons (gs_set 3 ((ev_bin op_sub (ev_bin op_mul (ev_neg ev_int) (ev_var 2) (mulS_int (.inl (by decide)) ⟨rfl, rfl⟩)) ev_int (sub_int ⟨rfl, rfl⟩)).ge ?_) nd)
      refine gb_nil ?_
      exact key _ _
    · refine gb_nil ?_
      exact key _ _
  refine gb_cons (gs_set 2 (ev_int.ge ?_) nd)
  refine gb_cons (gs_if ((tv_cmp op_lt (nomark _) (ev_var 1) (ev_callB call_len T.z_len PySem.boot_len (av_cons (ev_var 0) av_nil) (len_seq ⟨rfl, rfl⟩)) (lt_int ⟨rfl, rfl⟩)).gt ⟨fun hb => ?_, fun hb => ?_⟩))
  · refine gb_cons (gs_set 2 ?_ nd)
    refine ge_callT call_int1 T.z_int PyProof.Rows.boot_int ?_
    refine ga_cons ?_
    refine ge_ix ix_seq (fun _ _ => rfl) ((ev_var 0).ge ((ev_var 1).ge (ix_seqAny hi0 (by simpa using hb) fun d hd _ => ?_)))
    obtain ⟨c, _, rfl⟩ := List.mem_map.mp hd
    refine ga_nil (int_int ?_)
    refine gb_nil ?_
    exact rest _
  · refine gb_nil ?_
    exact rest _
theorem sc__law_draw : FnScope ["well", "many", "found", "turn", "mixed"] ["well", "many"] (defScope s__law_draw) := ⟨rfl, rfl, rfl, by decide +kernel, rfl, by decide +kernel, by decide +kernel⟩
theorem ok__law_draw {f : Addr} {fd : FuncData}  (F : Fun K "_law_draw" "_law_draw" s__law_draw f fd) (T : Txt K mg) : FnOk P w K mg base (L2.CX P w) 1 f fd ["well", "many"] (spD K R__law_draw) := by
  have nd := sc__law_draw.nd
  refine fn_ok F sc__law_draw (fun ds M k kx H0 => by obtain ⟨h, j, m, n, rfl, rfl, ⟨jb0, jb1, jc0, jc1⟩, hn, h0, h1, hk⟩ := H0; rfl) fun cdv A outer s H E ds M k kx hr H0 => ?_
  obtain ⟨h, j, m, n, rfl, rfl, ⟨jb0, jb1, jc0, jc1⟩, hn, h0, h1, hk⟩ := H0
  have hu := hr.units
  have hu5 := units65 hr
  refine gb_cons (gs_if ?_)
  refine ((tv_cmp op_gt (nomark _) (ev_ix ix_seq (fun _ _ => rfl) (ev_var 0) ev_int (ix_hdl (p := 0) (j := 0) rfl (by walk_at "sd") rfl ⟨rfl, rfl⟩)) ev_int (gt_int ⟨rfl, rfl⟩))).gt ?_
  refine ⟨fun hb1 => ?_, fun hb1 => ?_⟩
  · have hb1 := hb1
    refine gb_cons (gs_set 2 ?_ nd)
    refine ((ev_bin op_mod (ev_callT call_int1 T.z_int PyProof.Rows.boot_int (av_cons (ev_ix ix_seq (fun _ _ => rfl) (ev_var 0) ev_int (ix_hdl (p := 0) (j := 0) rfl (by walk_at "sd") rfl ⟨rfl, rfl⟩)) av_nil) (int_int ⟨rfl, rfl⟩)) (ev_var 1) (mod_int (by walk_at "sd") ⟨rfl, rfl⟩))).ge ?_
    refine gb_cons (gs_seti ?_)
    refine ((ev_bin op_fdivW (ev_ix ix_seq (fun _ _ => rfl) (ev_var 0) ev_int (ix_hdl (p := 0) (j := 0) rfl (by walk_at "sd") rfl ⟨rfl, rfl⟩)) (ev_var 1) (div_int (divx (by walk_at "sd") (by walk_at "sd")) ⟨rfl, rfl⟩))).ge ?_
    refine ((ev_var 0)).ge ?_
    refine (ev_int).ge ?_
    refine ⟨0, _, _, _, 0, rfl, rfl, rfl, by walk_at "sd", ?_⟩
    refine gb_one (gs_ret ?_)
    refine ((ev_var 2)).ge ?_
    exact hk _ ⟨j.a / m, j.b, j.c⟩ (Int.emod_nonneg _ (by omega)) (Int.emod_lt_of_pos _ h0) ⟨jb0, jb1, jc0, by show j.c ≤ n + 1; omega⟩
  · have hb1 := hb1
    refine gb_nil ?_
    refine gb_cons (gs_set 3 ?_ nd)
    refine ((ev_bin op_addU (ev_ix ix_seq (fun _ _ => rfl) (ev_var 0) ev_int (ix_hdl (p := 0) (j := 2) rfl (by walk_at "sd") rfl ⟨rfl, rfl⟩)) ev_int (add_int ⟨rfl, rfl⟩))).ge ?_
    refine gb_cons (gs_seti ?_)
    refine ((ev_var 3)).ge ?_
    refine ((ev_var 0)).ge ?_
    refine (ev_int).ge ?_
    refine ⟨0, _, _, _, 2, rfl, rfl, rfl, by walk_at "sd", ?_⟩
    refine gb_cons (gs_set 4 ?_ nd)
    refine ((ev_bin op_mod (ev_callT call_int1 T.z_int PyProof.Rows.boot_int (av_cons (ev_bin op_addU (ev_bin op_powX (ev_bin op_addU (ev_ix ix_seq (fun _ _ => rfl) (ev_var 0) ev_int (ix_hdl (p := 0) (j := 1) rfl (by walk_at "sd") rfl ⟨rfl, rfl⟩)) (ev_bin op_mulU ev_int (ev_var 3) (mul_int' (mulx (by omega) (by omega) (by omega) (by omega)) ⟨rfl, rfl⟩)) (add_int ⟨rfl, rfl⟩)) ev_int (pow_int (pow4 (n := 3) (by omega) (by omega) (by decide)) ⟨rfl, rfl⟩)) (ev_bin op_mulU ev_int (ev_var 3) (mul_int' (mulx (by omega) (by omega) (by omega) (by omega)) ⟨rfl, rfl⟩)) (add_int ⟨rfl, rfl⟩)) av_nil) (int_int ⟨rfl, rfl⟩)) (ev_bin op_addU (ev_bin op_powX ev_int ev_int (pow_int (pow4 (n := 40) (by decide) (by decide) (by decide)) ⟨rfl, rfl⟩)) ev_int (add_int ⟨rfl, rfl⟩)) (mod_int (by decide) ⟨rfl, rfl⟩))).ge ?_
    have hs := Int.emod_nonneg ((j.b + 15485863 * (j.c + 1)) ^ (3 : Int).toNat + 982451653 * (j.c + 1)) (b := 10 ^ (40 : Int).toNat + 121) (by decide)
    have hs2 := Int.emod_lt_of_pos ((j.b + 15485863 * (j.c + 1)) ^ (3 : Int).toNat + 982451653 * (j.c + 1)) (b := 10 ^ (40 : Int).toNat + 121) (by decide)
    have hs3 : (10 : Int) ^ (40 : Int).toNat + 121 < 10000000000000000000000000000000000000000000 := by decide
    generalize ((j.b + 15485863 * (j.c + 1)) ^ (3 : Int).toNat + 982451653 * (j.c + 1)) % (10 ^ (40 : Int).toNat + 121) = st at hs hs2
    refine gb_cons (gs_set 4 ?_ nd)
    refine ((ev_bin op_mod (ev_callT call_int1 T.z_int PyProof.Rows.boot_int (av_cons (ev_bin op_powX (ev_bin op_addU (ev_var 4) (ev_bin op_mulU ev_int (ev_var 3) (mul_int' (mulx (by omega) (by omega) (by omega) (by omega)) ⟨rfl, rfl⟩)) (add_int ⟨rfl, rfl⟩)) ev_int (pow_int (pow4 (n := 3) (by omega) (by omega) (by decide)) ⟨rfl, rfl⟩)) av_nil) (int_int ⟨rfl, rfl⟩)) (ev_bin op_addU (ev_bin op_powX ev_int ev_int (pow_int (pow4 (n := 38) (by decide) (by decide) (by decide)) ⟨rfl, rfl⟩)) ev_int (add_int ⟨rfl, rfl⟩)) (mod_int (by decide) ⟨rfl, rfl⟩))).ge ?_
    refine gb_one (gs_ret ?_)
    refine ((ev_bin op_mod (ev_callT call_int1 T.z_int PyProof.Rows.boot_int (av_cons (ev_bin op_fdivW (ev_var 4) (ev_bin op_powX ev_int ev_int (pow_int (pow4 (n := 9) (by decide) (by decide) (by decide)) ⟨rfl, rfl⟩)) (div_int (divx (by decide) (by decide)) ⟨rfl, rfl⟩)) av_nil) (int_int ⟨rfl, rfl⟩)) (ev_var 1) (mod_int (by walk_at "sd") ⟨rfl, rfl⟩))).ge ?_
    exact hk _ ⟨j.a, j.b, j.c + 1⟩ (Int.emod_nonneg _ (by omega)) (Int.emod_lt_of_pos _ h0) ⟨jb0, jb1, by show 0 ≤ j.c + 1; omega, by show j.c + 1 ≤ n + 1; omega⟩
theorem sc__law_rule : FnScope ["well", "actions", "k"] ["well"] (defScope s__law_rule) := ⟨rfl, rfl, rfl, by decide +kernel, rfl, by decide +kernel, by decide +kernel⟩
theorem ok__law_rule {f : Addr} {fd : FuncData}  (F : Fun K "_law_rule" "_law_rule" s__law_rule f fd) (T : Txt K mg) (F__law_draw : FnD P w K mg base 1 "_law_draw" [] R__law_draw) : FnOk P w K mg base (L2.CX P w) 2 f fd ["well"] (spD K R__law_rule) := by
  have nd := sc__law_rule.nd
  refine fn_ok F sc__law_rule (fun ds M k kx H0 => by obtain ⟨h, j, n, rfl, rfl, jo, hn, hk⟩ := H0; rfl) fun cdv A outer s H E ds M k kx hr H0 => ?_
  obtain ⟨h, j, n, rfl, rfl, jo, hn, hk⟩ := H0
  have hu := hr.units
  have hu5 := units65 hr
  refine gb_cons (gs_set 1 ?_ nd)
  refine ((ev_lst (av_cons ev_str (av_cons ev_str (av_cons ev_str (av_cons ev_str (av_cons ev_str av_nil))))))).ge ?_
  refine gb_one (gs_ret ?_)
  refine ge_callT call_tuple_of T.z_tuple PyProof.Rows.boot_tuple ?_
  refine ga_cons ?_
  refine ge_lc [("k", 2)] rfl nd (blkOk_by (by show blkC ["well", "actions", "k"] (defScope s__law_rule) _ _ = true; decide +kernel)) ?_
  refine gi_range1 T.z_range ?_
  refine ga_cons ?_
  refine ge_call F__law_draw hr (by decide) ?_
  refine ((av_cons (ev_var 0) (av_cons ev_int av_nil))).ga ?_
  refine ⟨[0], by decide, by simp [merge], _, _, _, _, rfl, rfl, jo, by walk_at "sd", by walk_at "sd", by walk_at "sd", fun r1 j1 lo1 hi1 jo1 => ⟨rfl, ?_⟩⟩
  refine ga_nil ?_
  refine ⟨_, rfl, by walk_at "sd", by walk_at "sd", ?_⟩
  refine ⟨fun i acc M => ∃ (r : Rule) (j2 : Jar), acc = r.map D.str ∧ r.length = i ∧ (∀ a ∈ r, a ∈ acts) ∧ j2.Ok (n + 1 + i) ∧ M = [(h, j2.mo)], ⟨[], j1, rfl, rfl, by simp, by simpa using jo1, rfl⟩, fun _ _ _ _ _ => trivial, fun i d acc M hi hit hP => ?_, fun acc M hP => ?_⟩
  · obtain ⟨r, j2, rfl, hl, hm, jo2, rfl⟩ := hP
    intro _ _ _ _ _
    refine cg_name 2 ?_ nd
    intro _ _ _ _ _
    refine gts_nil ⟨fun _ => ?_, fun z => nomatch z⟩
    intro _ _ _ _ _
    refine ge_ix ix_seq (fun _ _ => rfl) ?_
    refine ((ev_var 1)).ge ?_
    refine ge_call F__law_draw hr (by decide) ?_
    refine ((av_cons (ev_var 0) (av_cons ev_int av_nil))).ga ?_
    refine ⟨[0], by decide, by simp [merge], _, _, _, _, rfl, rfl, jo2, by walk_at "sd", by walk_at "sd", by walk_at "sd", fun r2 j2 lo2 hi2 jo2 => ⟨rfl, ?_⟩⟩
    refine (ix_lstAny (by walk_at "sd") (by simp; omega) fun d hd _ => ?_)
    obtain ⟨a, ha, rfl⟩ := List.mem_map.mp (show d ∈ acts.map D.str from hd)
    exact ⟨by simp; omega, r ++ [a], j2, by simp, by simp [hl], fun b hb => (List.mem_append.mp hb).elim (hm b) fun q => by rw [List.mem_singleton.mp q]; exact ha, jo2.mono (by omega), rfl⟩
  · obtain ⟨r, j2, rfl, hl, hm, jo2, rfl⟩ := hP
    refine ga_nil ?_
    refine (tup_lst ?_)
    exact hk r j2 ⟨by omega, hm⟩ (jo2.mono (by omega))
theorem sc__law_rules : FnScope ["well", "found", "turn"] ["well"] (defScope s__law_rules) := ⟨rfl, rfl, rfl, by decide +kernel, rfl, by decide +kernel, by decide +kernel⟩
theorem ok__law_rules {f : Addr} {fd : FuncData}  (F : Fun K "_law_rules" "_law_rules" s__law_rules f fd) (T : Txt K mg) (F__law_draw : FnD P w K mg base 1 "_law_draw" [] R__law_draw) (F__law_rule : FnD P w K mg base 2 "_law_rule" [] R__law_rule) : FnOk P w K mg base (L2.CX P w) 3 f fd ["well"] (spD K R__law_rules) := by
  have nd := sc__law_rules.nd
  refine fn_ok F sc__law_rules (fun ds M k kx H0 => by obtain ⟨h, j, n, rfl, rfl, jo, hn, hk⟩ := H0; rfl) fun cdv A outer s H E ds M k kx hr H0 => ?_
  obtain ⟨h, j, n, rfl, rfl, jo, hn, hk⟩ := H0
  have hu := hr.units
  have hu5 := units65 hr
  refine gb_cons (gs_set 1 ?_ nd)
  refine ge_lstM ?_
  refine (av_nil).ga ?_
  refine ⟨by walk_at "sd", fun q_found => ?_⟩
  refine gb_cons (gs_for (passes_of rfl) rfl ?_)
  refine gi_range1 T.z_range ?_
  refine ((av_cons ev_int av_nil)).ga ?_
  refine ⟨_, rfl, by walk_at "sd", by walk_at "sd", ?_⟩
  refine ⟨fun i Γ M => ∃ (s2 : Six) (j2 : Jar) (a : Option D), Γ = [some (.hdl h), some (.hdl q_found), a] ∧ s2.length = i ∧ (∀ r ∈ s2, OkR r) ∧ j2.Ok (n + 16 * i) ∧ M = [(h, j2.mo), (q_found, .lst (s2.map dR))], ⟨[], j, none, rfl, rfl, by simp, by simpa using jo, rfl⟩, fun _ _ _ _ _ => trivial, fun i d Γ M hi hit hP => ?_, fun Γ M hP => ?_⟩
  · obtain ⟨s2, j2, a, rfl, hl, hs2, jo2, rfl⟩ := hP
    have hi6 : i < 6 := by simpa using hi
    refine gg_name 2 ?_ nd
    refine gb_cons (gs_if ?_)
    refine gt_bool ?_
    refine gp_and ?_
    refine ((tv_cmp (op_neU hu) (nomark _) (ev_var 1) (ev_lst av_nil) (ne_hdl (p := 1) (n := 2) (m := 1) rfl (rs_sm hs2) rfl ⟨rfl, rfl⟩))).gt ?_
    refine ⟨fun hp1 => ?_, fun hp1 => ?_⟩
    · have hp1 := hp1
      refine gp_and1 ?_
      refine gt_cmp (op_eqU hu) (nomark _) ?_
      refine ge_call F__law_draw hr (by decide) ?_
      refine ((av_cons (ev_var 0) (av_cons ev_int av_nil))).ga ?_
      refine ⟨[0], by decide, by simp [merge], _, _, _, _, rfl, rfl, jo2, by walk_at "sd", by walk_at "sd", by walk_at "sd", fun r1 j1 lo1 hi1 jo1 => ⟨rfl, ?_⟩⟩
      refine (ev_int).ge ?_
      refine (eq_int ⟨_, rfl, ?_⟩)
      refine ⟨fun hb1 => ?_, fun hb1 => ?_⟩
      · have hb1 := hb1
        refine gb_cons (gs_expr ?_)
        refine ge_append ((ev_var 1).ge ⟨⟨1, _, _, rfl, rfl⟩, ?_⟩)
        refine ge_ix ix_seq (fun _ _ => rfl) ?_
        refine ((ev_var 1)).ge ?_
        refine ge_call F__law_draw hr (by decide) ?_
        refine ((av_cons (ev_var 0) (av_cons (ev_callB call_len T.z_len PySem.boot_len (av_cons (ev_var 1) av_nil) (len_hdl (p := 1) rfl ⟨rfl, rfl⟩)) av_nil))).ga ?_
        have hpos : 0 < (s2.length : Int) := by rcases s2 with _ | ⟨x, y⟩ <;> simp_all [eqv_nilL] <;> omega
        refine ⟨[0], by decide, by simp [merge], _, _, _, _, rfl, rfl, jo1, by walk_at "sd", by simpa using hpos, by simp; omega, fun r2 j2 lo2 hi2 jo2 => ⟨rfl, ?_⟩⟩
        refine (ix_hdlAny (p := 1) rfl (by walk_at "sd") (by walk_at "om") fun d3 hd3 _ => ?_)
        refine ⟨1, _, _, rfl, rfl, by walk_at "sd", ?_⟩
        refine gb_nil ?_
        refine gb_nil ?_
        obtain ⟨r5, hr5, rfl⟩ := List.mem_map.mp hd3
        exact ⟨s2 ++ [r5], j2, _, rfl, by simp [hl], fun q hq => (List.mem_append.mp hq).elim (hs2 q) (fun z => by rw [List.mem_singleton.mp z]; exact (hs2 _ hr5)), jo2.mono (by push_cast; omega), by rw [List.map_append]; rfl⟩
      · have hb1 := hb1
        refine gb_cons (gs_expr ?_)
        refine ge_append ((ev_var 1).ge ⟨⟨1, _, _, rfl, rfl⟩, ?_⟩)
        refine ge_call F__law_rule hr (by decide) ?_
        refine ((av_cons (ev_var 0) av_nil)).ga ?_
        refine ⟨[0], by decide, by simp [merge], _, _, _, rfl, rfl, jo1, by walk_at "sd", fun rr j3b okr jo3b => ⟨rfl, ?_⟩⟩
        refine ⟨1, _, _, rfl, rfl, by walk_at "sd", ?_⟩
        refine gb_nil ?_
        refine gb_nil ?_
        exact ⟨s2 ++ [rr], j3b, _, rfl, by simp [hl], fun q hq => (List.mem_append.mp hq).elim (hs2 q) (fun z => by rw [List.mem_singleton.mp z]; exact okr), jo3b.mono (by push_cast; omega), by rw [List.map_append]; rfl⟩
    · have hp1 := hp1
      refine ⟨by walk_at "no", fun _ => ?_⟩
      refine gb_cons (gs_expr ?_)
      refine ge_append ((ev_var 1).ge ⟨⟨1, _, _, rfl, rfl⟩, ?_⟩)
      refine ge_call F__law_rule hr (by decide) ?_
      refine ((av_cons (ev_var 0) av_nil)).ga ?_
      refine ⟨[0], by decide, by simp [merge], _, _, _, rfl, rfl, jo2, by walk_at "sd", fun rr j2b okr jo2b => ⟨rfl, ?_⟩⟩
      refine ⟨1, _, _, rfl, rfl, by walk_at "sd", ?_⟩
      refine gb_nil ?_
      refine gb_nil ?_
      exact ⟨s2 ++ [rr], j2b, _, rfl, by simp [hl], fun q hq => (List.mem_append.mp hq).elim (hs2 q) (fun z => by rw [List.mem_singleton.mp z]; exact okr), jo2b.mono (by push_cast; omega), by rw [List.map_append]; rfl⟩
  · obtain ⟨s2, j2, a, rfl, hl, hs2, jo2, rfl⟩ := hP
    refine gb_one (gs_ret ?_)
    refine ge_callT call_tuple_of T.z_tuple PyProof.Rows.boot_tuple (ga_cons (ge_frz (ge_var 1 ⟨1, _, _, rfl, rfl, ga_nil (tup_lst ?_)⟩)))
    exact hk s2 j2 ⟨by simpa using hl, hs2⟩ (jo2.mono (by walk_at "om"))
theorem sc__law_line : FnScope ["door", "rule"] ["door", "rule"] (defScope s__law_line) := ⟨rfl, rfl, rfl, by decide +kernel, rfl, by decide +kernel, by decide +kernel⟩
theorem ok__law_line {f : Addr} {fd : FuncData}  (F : Fun K "_law_line" "_law_line" s__law_line f fd) (T : Txt K mg) : FnOk P w K mg base (L2.CX P w) 1 f fd ["door", "rule"] (spD K R__law_line) := by
  have nd := sc__law_line.nd
  refine fn_ok F sc__law_line (fun ds M k kx H0 => by obtain ⟨d, r, rfl, rfl, hd, ok, hk⟩ := H0; rfl) fun cdv A outer s H E ds M k kx hr H0 => ?_
  obtain ⟨d, r, rfl, rfl, hd, ok, hk⟩ := H0
  have hu := hr.units
  have hu5 := units65 hr
  have b1 := door_len hd
  refine gb_one (gs_ret (ge_join (ev_str.ge ⟨_, rfl, ?_⟩)))
  refine ge_bin op_addU ?_
  refine (ev_lst (av_cons (ev_bin op_addU (ev_var 0) ev_str (add_str (by show d.length + 1 ≤ 16777216; omega) ⟨rfl, rfl⟩)) av_nil)).ge ?_
  refine ge_callT call_list_of T.z_list PyProof.Rows.boot_list ((av_cons (ev_var 1) av_nil).ga (lst_tup ?_))
  refine add_lst (by have := ok.len; simp; omega) ?_
  exact ⟨(d ++ ":") :: r, .lst, line_fit hd ok, hk⟩
theorem sc__law_book_text : FnScope ["rules", "doors", "k"] ["rules"] (defScope s__law_book_text) := ⟨rfl, rfl, rfl, by decide +kernel, rfl, by decide +kernel, by decide +kernel⟩
theorem ok__law_book_text {f : Addr} {fd : FuncData}  (F : Fun K "_law_book_text" "_law_book_text" s__law_book_text f fd) (T : Txt K mg) (F__law_line : FnD P w K mg base 1 "_law_line" [] R__law_line) : FnOk P w K mg base (L2.CX P w) 2 f fd ["rules"] (spD K R__law_book_text) := by
  have nd := sc__law_book_text.nd
  refine fn_ok F sc__law_book_text (fun ds M k kx H0 => by obtain ⟨s2, rfl, rfl, ok2, hk⟩ := H0; rfl) fun cdv A outer s H E ds M k kx hr H0 => ?_
  obtain ⟨s2, rfl, rfl, ok2, hk⟩ := H0
  have hu := hr.units
  have hu5 := units65 hr
  refine gb_cons (gs_set 1 ?_ nd)
  refine ((ev_lst (av_cons ev_str (av_cons ev_str (av_cons ev_str (av_cons ev_str (av_cons ev_str (av_cons ev_str av_nil)))))))).ge ?_
  refine gb_one (gs_ret ?_)
  refine ge_join ?_
  refine (ev_str).ge ?_
  refine ⟨_, rfl, ?_⟩
  refine ge_lc [("k", 2)] rfl nd (blkOk_by (by show blkC ["rules", "doors", "k"] (defScope s__law_book_text) _ _ = true; decide +kernel)) ?_
  refine gi_range1 T.z_range ?_
  refine ((av_cons ev_int av_nil)).ga ?_
  refine ⟨_, rfl, by walk_at "sd", by walk_at "sd", ?_⟩
  refine ⟨fun i acc M => acc = ((List.range i).map fun i => lineT (doors.getD i "") (s2.getD i [])).map D.str ∧ M = [], ⟨rfl, rfl⟩, fun _ _ _ _ _ => trivial, fun i d acc M hi hit hP => ?_, fun acc M hP => ?_⟩
  · obtain ⟨rfl, rfl⟩ := hP
    obtain rfl : d = .int (0 + (i : Int)) := hit
    have hi6 : i < 6 := by simpa using hi
    obtain ⟨dn, hdn, hdm, hix⟩ := door_at hi6
    obtain ⟨r6, hr6⟩ : ∃ r, s2[i]? = some r := ⟨_, List.getElem?_eq_getElem (by rw [ok2.len]; omega)⟩
    have ok6 := ok2.ok r6 (List.mem_of_getElem? hr6)
    intro _ _ _ _ _
    refine cg_name 2 ?_ nd
    intro _ _ _ _ _
    refine gts_nil ⟨fun _ => ?_, fun z => nomatch z⟩
    intro _ _ _ _ _
    refine ge_call F__law_line hr (by decide) ?_
    refine ((av_cons (ev_ix ix_seq (fun _ _ => rfl) (ev_var 1) (ev_var 2) (ix_lst' (j := i) (d := .str dn) (.inl ⟨by omega, by omega, by simp [doors]; omega⟩) (names_at hdn) ⟨rfl, rfl⟩)) (av_cons (ev_ix ix_seq (fun _ _ => rfl) (ev_var 0) (ev_var 2) (ix_tup' (j := i) (d := dR r6) (.inl ⟨by omega, by omega, by simp; rw [ok2.len]; omega⟩) (by rw [List.getElem?_map, hr6]; rfl) ⟨rfl, rfl⟩)) av_nil))).ga ?_
    refine ⟨[], by simp, by simp, dn, r6, rfl, rfl, hdm, ok6, ⟨rfl, ?_⟩⟩
    exact ⟨by simp; omega, by rw [List.range_succ]; simp [List.getD_eq_getElem?_getD, hdn, hr6], rfl⟩
  · obtain ⟨rfl, rfl⟩ := hP
    refine ⟨_, .lst, book_fit ok2, ?_⟩
    exact hk
theorem sc_Book_rules : FnScope ["self"] ["self"] (defScope s_Book_rules) := ⟨rfl, rfl, rfl, by decide +kernel, rfl, by decide +kernel, by decide +kernel⟩
theorem v_Book_rules {CB : Addr} : VOk (w_Book_rules CB) 1 (R_Book_rules CB) := by
  intro ds M k kx H0
  obtain ⟨s, rfl, rfl, os, hk⟩ := H0
  walk_at "w"
  refine HI.mk _ _ (.inl rfl) ⟨_, ⟨by decide, rfl, rfl⟩, ?_⟩
  exact hk

theorem ok_Book_rules {f : Addr} {fd : FuncData} {CB : Addr} (F : Fun K "rules" "Book.rules" s_Book_rules f fd) (T : Txt K mg) (clB : Cls K CB) (na_row : NoAttr K CB "row") : FnOk P w K mg base (L2.CX P w) 1 f fd ["self"] (spD K (R_Book_rules CB)) := by
  have nd := sc_Book_rules.nd
  refine fn_wp (ww := (w_Book_rules CB)) F sc_Book_rules (fun ds M k kx H0 => by obtain ⟨s, rfl, rfl, os, hk⟩ := H0; rfl) (fun cdv A outer s H E hr => (Cb.cons (CS.ret (CE.fld clB na_row (CE.var 0)))
  Cb.nil)) ?_
  exact (v_Book_rules (CB := CB))
theorem sc__law_same : FnScope ["actual", "expected", "k"] ["actual", "expected"] (defScope s__law_same) := ⟨rfl, rfl, rfl, by decide +kernel, rfl, by decide +kernel, by decide +kernel⟩
theorem ok__law_same {f : Addr} {fd : FuncData} {n : Nat} (F : Fun K "_law_same" "_law_same" s__law_same f fd) (T : Txt K mg) (IH : ∀ m, n = m + 1 → FnD P w K mg base (m + 1) "_law_same" [] (R__law_same m)) : FnOk P w K mg base (L2.CX P w) (n + 1) f fd ["actual", "expected"] (spD K (R__law_same n)) := by
  have nd := sc__law_same.nd
  refine fn_ok F sc__law_same (fun ds M k kx H0 => by obtain ⟨d, rfl, rfl, hx, hk⟩ := H0; rfl) fun cdv A outer s H E ds M k kx hr H0 => ?_
  obtain ⟨d, rfl, rfl, hx, hk⟩ := H0
  have hu := hr.units
  have hu5 := units65 hr
  cases d with
  | str s =>
    refine gb_cons (gs_if (gt_val (ge_isiT2 T.z_isinstance T.z_list b_list T.z_tuple b_tuple ((ev_var 1).ge ⟨"str", false, false, rfl, by decide +kernel, by decide +kernel, _, rfl, fun z => absurd z (by decide), fun _ => ?_⟩))))
    refine gb_nil ?_
    refine gb_cons (gs_if (gt_val (ge_callB call_isi T.z_isinstance PyProof.Rows.boot_isinstance ((av_cons (ev_var 1) (av_cons (ev_ty T.z_str b_str) av_nil)).ga (isi_str rfl ⟨_, rfl, fun _ => ?_, fun z => absurd z (by simp [isStrD])⟩)))))
    refine gb_one (gs_ret (ge_and (ge_callB call_isi T.z_isinstance PyProof.Rows.boot_isinstance ((av_cons (ev_var 0) (av_cons (ev_ty T.z_str b_str) av_nil)).ga (isi_str rfl ⟨_, rfl, fun _ => ?_, fun z => absurd z (by simp [isStrD])⟩)))))
    refine ge_one (ge_cmp (op_eqU hu) (nomark _) ((ev_var 0).ge ((ev_var 1).ge (eq_str ?_))))
    rw [decide_eq_true rfl]
    exact hk
  | tup ds =>
    obtain ⟨m, rfl⟩ : ∃ m, n = m + 1 := by cases n with
      | zero => simp [rfx] at hx
      | succ m => exact ⟨m, rfl⟩
    have hx2 : ds.length ≤ 1000 ∧ ∀ d ∈ ds, rfx m d = true := by simp only [rfx, Bool.and_eq_true, decide_eq_true_eq, List.all_eq_true] at hx; exact hx
    obtain ⟨hl, hx3⟩ := hx2
    have IHm := IH m rfl
    refine gb_cons (gs_if (gt_val (ge_isiT2 T.z_isinstance T.z_list b_list T.z_tuple b_tuple ((ev_var 1).ge ⟨"tuple", false, true, rfl, by decide +kernel, by decide +kernel, _, rfl, fun _ => ?_, fun z => absurd z (by decide)⟩))))
    refine gb_cons (gs_if ((tv_cmp (op_neU hu) (nomark _) (ev_callB call_isi T.z_isinstance PyProof.Rows.boot_isinstance (av_cons (ev_var 0) (av_cons (ev_ty T.z_list b_list) av_nil)) (isi_lst rfl ⟨rfl, rfl⟩)) (ev_callB call_isi T.z_isinstance PyProof.Rows.boot_isinstance (av_cons (ev_var 1) (av_cons (ev_ty T.z_list b_list) av_nil)) (isi_lst rfl ⟨rfl, rfl⟩)) (ne_dat (n := 0) (m := 0) rfl rfl ⟨rfl, rfl⟩)).gt ⟨fun z => absurd z (by simp [py, PyData.eqv]), fun _ => ?_⟩))
    refine gb_nil ?_
    refine gb_cons (gs_if ((tv_bool (pv_or (tv_cmp (op_neU hu) (nomark _) (ev_callB call_isi T.z_isinstance PyProof.Rows.boot_isinstance (av_cons (ev_var 0) (av_cons (ev_ty T.z_tuple b_tuple) av_nil)) (isi_tup rfl ⟨rfl, rfl⟩)) (ev_callB call_isi T.z_isinstance PyProof.Rows.boot_isinstance (av_cons (ev_var 1) (av_cons (ev_ty T.z_tuple b_tuple) av_nil)) (isi_tup rfl ⟨rfl, rfl⟩)) (ne_dat (n := 0) (m := 0) rfl rfl ⟨rfl, rfl⟩))
      (fun _ => pv_or1 (tv_cmp (op_neU hu) (nomark _) (ev_callB call_len T.z_len PySem.boot_len (av_cons (ev_var 0) av_nil) (len_tup ⟨rfl, rfl⟩)) (ev_callB call_len T.z_len PySem.boot_len (av_cons (ev_var 1) av_nil) (len_tup ⟨rfl, rfl⟩)) (ne_int ⟨rfl, rfl⟩))))).gt ⟨fun z => absurd z (by simp [py, PyData.eqv]), fun _ => ?_⟩))
    refine gb_nil ?_
    refine gb_cons (gs_for (passes_of rfl) rfl ?_)
    refine gi_range1 T.z_range ?_
    refine (av_cons (ev_callB call_len T.z_len PySem.boot_len (av_cons (ev_var 1) av_nil) (len_tup ⟨rfl, rfl⟩)) av_nil).ga ?_
    refine ⟨_, rfl, by omega, by omega, ?_⟩
    refine ⟨fun i Γ M => ∃ x, Γ = [some (.tup ds), some (.tup ds), x] ∧ M = [], ⟨none, rfl, rfl⟩, fun _ _ _ _ _ => trivial, fun i d Γ M hi hit hP => ?_, fun Γ M hP => ?_⟩
    · obtain ⟨x, rfl, rfl⟩ := hP
      obtain rfl : d = .int (0 + (i : Int)) := hit
      have hil : i < ds.length := by simpa using hi
      refine gg_name 2 ?_ nd
      refine gb_cons (gs_if (gt_not (gt_val (ge_call IHm hr (by omega) ((av_cons (ev_ix ix_seq (fun _ _ => rfl) (ev_var 0) (ev_var 2) (ix_tup' (j := i) (d := ds[i]) (.inl ⟨by omega, by omega, hil⟩) (List.getElem?_eq_getElem hil) ⟨rfl, rfl⟩)) (av_cons (ev_ix ix_seq (fun _ _ => rfl) (ev_var 1) (ev_var 2) (ix_tup' (j := i) (d := ds[i]) (.inl ⟨by omega, by omega, hil⟩) (List.getElem?_eq_getElem hil) ⟨rfl, rfl⟩)) av_nil)).ga
        ⟨[], by simp, by simp, ds[i], rfl, rfl, hx3 _ (List.getElem_mem hil), ⟨rfl, _, rfl, fun z => absurd z (by decide), fun _ => ?_⟩⟩)))))
      refine gb_nil ?_
      refine gb_nil ?_
      exact ⟨_, rfl, rfl⟩
    · obtain ⟨x, rfl, rfl⟩ := hP
      exact gb_one (gs_ret (ev_bl.ge hk))
  | _ => simp [rfx] at hx
theorem sc_read_rule : FnScope ["index", "line", "head", "actions", "action"] ["index", "line"] (defScope s_read_rule) := ⟨rfl, rfl, rfl, by decide +kernel, rfl, by decide +kernel, by decide +kernel⟩
theorem v_read_rule  : VOk w_read_rule 5 R_read_rule := by
  intro ds M k kx H0
  obtain ⟨i, l, rfl, rfl, hl, hi, hk⟩ := H0
  have e0 := sp_tot l
  have e1 := sp_ne l
  cases es : Txt.split l " " with
  | nil => exact absurd es e1
  | cons h r =>
  rw [es] at e0
  have e2 := tot_len (h :: r)
  rw [List.length_cons] at e2
  have e3 : h.length + 1 ≤ 6001 := by have := tot_mem (ls := h :: r) (s := h) (by simp); omega
  walk_at "w"
  refine Sd.mk ⟨by decide +kernel, by omega⟩ ?_
  refine ⟨.str h, r.map D.str, Sd.mk ⟨by rw [es]; rfl, by rw [List.length_map]; omega⟩ ?_⟩
  walk_at "w"
  have d6 : doors.length = 6 := rfl
  by_cases h6 : i < 6
  · obtain ⟨dn, hdn, hdm, _⟩ := door_at h6
    have dl := door_len hdm
    walk_at "b"
    walk_at "w"
    refine It1.nat (names_at hdn) ?_
    have ee := emp_app dn
    have cl := colon_len hdm
    walk_at "w"
    rw [ee]
    have eg := door_get hdn
    by_cases hh : h = dn ++ ":"
    · subst hh
      walk_at "w"
      walk_at "b"
      walk_at "w"
      by_cases hr : r.length ≤ 6
      · walk_at "b"
        walk_at "w"
        refine Lc.mapT (xs := r) (e := D.str) (fun s => D.bl (decide (s ∈ acts))) trivial (by omega) (fun q d Q hq hQ => ?_) ?_
        · walk_at "w"
          rw [any_strs]
          exact hQ
        · walk_at "w"
          refine ⟨r.map fun s => decide (s ∈ acts), Sd.mk (by rw [List.map_map]; rfl) ?_⟩
          rw [List.all_map]
          cases ha : r.all fun s => decide (s ∈ acts) with
          | false =>
            have ha2 : r.all (id ∘ fun s => decide (s ∈ acts)) = false := ha
            rw [ha2]
            rw [lineB_none es (fun q => by
              have : r.all (fun s => decide (s ∈ acts)) = true := by simpa [List.all_eq_true] using q.2.2.2
              rw [this] at ha
              cases ha)] at hk
            walk_at "w"
            walk_at "b"
            walk_at "w"
            exact hk
          | true =>
            have ha2 : r.all (id ∘ fun s => decide (s ∈ acts)) = true := ha
            rw [ha2]
            have hm : ∀ s ∈ r, s ∈ acts := by simpa [List.all_eq_true] using ha
            rw [lineB_some es h6 (by rw [eg]) hr hm] at hk
            walk_at "w"
            walk_at "b"
            walk_at "w"
            exact hk
      · rw [lineB_none es (fun q => hr q.2.2.1)] at hk
        walk_at "b"
        walk_at "w"
        exact hk
    · rw [lineB_none es (fun q => hh (eg ▸ q.2.1))] at hk
      walk_at "w"
      walk_at "b"
      walk_at "w"
      walk_at "b"
      walk_at "w"
      exact hk
  · rw [lineB_none es (fun q => h6 q.1)] at hk
    walk_at "b"
    walk_at "w"
    walk_at "b"
    walk_at "w"
    exact hk

theorem ok_read_rule {f : Addr} {fd : FuncData}  (F : Fun K "read_rule" "read_rule" s_read_rule f fd) (T : Txt K mg) : FnOk P w K mg base (L2.CX P w) 1 f fd ["index", "line"] (spD K R_read_rule) := by
  have nd := sc_read_rule.nd
  refine fn_wp (ww := w_read_rule) F sc_read_rule (fun ds M k kx H0 => by obtain ⟨i, l, rfl, rfl, hl, hi, hk⟩ := H0; rfl) (fun cdv A outer s H E hr => (Cb.cons (CS.unstar rfl (CE.split (CE.var 1) CE.str) (CTs.cons (CTg.name 2 nd) (CTs.cons (CTg.name 3 nd) CTs.nil)))
  (Cb.cons (CS.if (CT.bool (CP.or (Kc.ge (CE.var 0) (CE.callB call_len oLen_ok T.z_len PySem.boot_len (CE.glob T.r_DOORS.glob))).t (CP.or (Kc.ne (units65 hr) (CE.var 2) (CE.fs (CJ.cons (CE.fmt (CE.ix (fun _ _ => rfl) (CE.glob T.r_DOORS.glob) (CE.var 0))) (CJ.cons CE.str CJ.nil)))).t (CP.or1 (Kc.gt (CE.callB call_len oLen_ok T.z_len PySem.boot_len (CE.var 3)) (CE.glob T.g_MOST_ACTIONS)).t))))
  (Cb.cons (CS.ret CE.non)
  Cb.nil)
  Cb.nil)
  (Cb.cons (CS.ret (CE.ife (CT.val (CE.callB (cr_all rfl) oAll_ok T.z_all b_all (CE.lc [("action", 4)] rfl nd (blkOk_by (by show blkC ["index", "line", "head", "actions", "action"] (defScope s_read_rule) _ _ = true; decide +kernel)) (Ki.lst (CE.var 3)) (fun _ _ _ _ _ => (CGc.name 4 nd)) .none (fun _ _ _ _ _ => (Kc.in (units65 hr) rfl (CE.var 4) (CE.glob T.r_ACTIONS.glob)).v)))) (CE.callT call_tuple_of oTup_ok T.z_tuple PyProof.Rows.boot_tuple (CE.var 3)) CE.non))
  Cb.nil)))) ?_
  exact v_read_rule
theorem sc_read_book : FnScope ["text", "rules", "index", "line", "rule"] ["text"] (defScope s_read_book) := ⟨rfl, rfl, rfl, by decide +kernel, rfl, by decide +kernel, by decide +kernel⟩
theorem v_read_book {CB CR XT : Addr} : VOk (w_read_book CB CR XT) 5 (R_read_book CB XT) := by
  intro ds M k kx H0
  obtain ⟨d, rfl, rfl, hkn, hk⟩ := H0
  by_cases hs : ∃ t, d = .str t
  · obtain ⟨t, rfl⟩ := hs
    rcases hk with ⟨h1, _⟩ | ⟨u, hu, ht, hk⟩
    · exact absurd rfl (h1 t)
    · cases hu
      have e0 := nl_tot t
      have e2 := tot_len (Txt.split t "\n")
      have len6 : (doors.map D.str).length = 6 := rfl
      walk_at "w"
      walk_at "b"
      walk_at "w"
      intro q
      walk_at "w"
      refine Sd.mk ⟨by decide +kernel, by omega⟩ ?_
      walk_at "w"
      refine Loop.of (fun i Γ M => ∃ (a b c : Option D), Γ = [some (.str t), some (.hdl q), a, b, c] ∧ goodTo (Txt.split t "\n") i ∧ M = [(q, .lst (((List.range i).map (rl (Txt.split t "\n"))).map dR))]) ⟨_, _, _, rfl, fun j hj => absurd hj (Nat.not_lt_zero _), rfl⟩ ?_ ?_
      · rintro i e Γ M he ⟨a, b, c, rfl, hg, rfl⟩
        obtain ⟨x, hx, rfl⟩ := enumD_at he
        rw [List.getElem?_map] at hx
        cases hxx : (Txt.split t "\n")[i]? with
        | none => rw [hxx] at hx; cases hx
        | some y =>
        rw [hxx] at hx
        cases hx
        have hlt := (List.getElem?_eq_some_iff.mp hxx).1
        have hy := tot_mem (List.mem_of_getElem? hxx)
        have ey : (Txt.split t "\n").getD i "" = y := by rw [List.getD_eq_getElem?_getD, hxx]; rfl
        walk_at "w"
        refine .none ⟨i, y, rfl, rfl, by omega, by omega, _, .of_eq (List.append_nil _), ?_⟩
        cases hb : lineB i y with
        | none =>
          rw [readB_bad hlt hg (by rw [ey, hb])] at hk
          walk_at "w"
          refine Sd.mk (fun u z => nomatch z) ?_
          walk_at "w"
          walk_at "b"
          refine Gh.mk _ _ (GhS.drop (List.nil_sublist _)) ?_
          walk_at "w"
          exact hk
        | some r =>
          have ok6 := lineB_ok hb
          walk_at "w"
          refine Sd.mk (fun u z => nomatch z) ?_
          walk_at "w"
          walk_at "b"
          walk_at "w"
          exact ⟨_, _, _, rfl, good_succ hg hxx (by rw [hb]; rfl), by rw [List.range_succ, List.map_append, List.map_append]; simp [rl_at hxx, hb, ruleD]⟩
      · rintro Γ M ⟨a, b, c, rfl, hg, rfl⟩
        have el : (enumD ((Txt.split t "\n").map D.str)).length = (Txt.split t "\n").length := by simp [enumD]
        rw [el] at hg ⊢
        have l6 := good_le hg
        rw [readB_none hg] at hk
        by_cases h6 : (Txt.split t "\n").length < 6
        · rw [if_pos h6] at hk
          walk_at "w"
          refine .mk _ _ (GhV.drop (List.Sublist.refl _)) ?_
          walk_at "w"
          walk_at "b"
          walk_at "w"
          refine .mk _ _ (GhV.drop (List.nil_sublist _)) ?_
          walk_at "w"
          rw [List.length_map, List.length_map, List.length_range]
          exact hk
        · rw [if_neg h6] at hk
          have l7 : (Txt.split t "\n").length = 6 := by omega
          rw [l7] at hg hk ⊢
          have oks := good_S hg
          walk_at "w"
          refine .mk _ _ (GhV.drop (List.Sublist.refl _)) ?_
          walk_at "w"
          walk_at "b"
          walk_at "w"
          refine ⟨_, Sd.mk (.hdl 0 rfl) fun x => ?_⟩
          rw [List.append_nil]
          exact use_bookPd oks (List.nil_sublist _) hk
  · rcases hk with ⟨h1, hk⟩ | ⟨u, hu, _⟩
    · cases d <;> first | (simp [kn, tyN] at hkn; done) | (exact absurd ⟨_, rfl⟩ hs) | skip
      all_goals (walk_at "w"; walk_at "b"; walk_at "w"; exact hk)
    · exact absurd ⟨u, hu⟩ hs

theorem ok_read_book {f : Addr} {fd : FuncData} {CB CR XT : Addr} (F : Fun K "read_book" "read_book" s_read_book f fd) (T : Txt K mg) (F_read_rule : FnD P w K mg base 1 "read_rule" [] R_read_rule) (F_Bp6 : MkD P w K mg base 3 CB "Book" [] (R_Book_init CB CR)) (F_NoText : ExD P w K mg base "NoText" XT "line") : FnOk P w K mg base (L2.CX P w) 5 f fd ["text"] (spD K (R_read_book CB XT)) := by
  have nd := sc_read_book.nd
  refine fn_wp (ww := (w_read_book CB CR XT)) F sc_read_book (fun ds M k kx H0 => by obtain ⟨d, rfl, rfl, hkn, hk⟩ := H0; rfl) (fun cdv A outer s H E hr => (Cb.cons (CS.if (CT.not (CT.val (CE.isi isi_str T.z_isinstance T.z_str b_str (CE.var 0))))
  (Cb.cons (CS.raise1 (p2 := ⟨0, 0, 0, 0⟩) F_NoText rfl hr (by decide) CE.int)
  Cb.nil)
  Cb.nil)
  (Cb.cons (CS.set 1 (CE.lstM CA.nil) nd)
  (Cb.cons (CS.for (passes_of rfl) rfl (Ki.enum T.z_enumerate (CE.split (CE.var 0) CE.str)) (CTg.tup (n := 2) rfl (CTs.cons (CTg.name 2 nd) (CTs.cons (CTg.name 3 nd) CTs.nil)))
  (Cb.cons (CS.set 4 (CE.call F_read_rule hr (by decide) (CA.cons (CE.var 2) (CA.cons (CE.var 3) CA.nil))) nd)
  (Cb.cons (CS.if (Kc.is (CE.var 4) CE.non).t
  (Cb.gh (Cb.cons (CS.raise1 (p2 := ⟨0, 0, 0, 0⟩) F_NoText rfl hr (by decide) (CE.var 2))
  Cb.nil))
  Cb.nil)
  (Cb.cons (CS.expr (CE.app (CE.var 1) (CE.var 4)))
  Cb.nil))))
  (Cb.cons (CS.if (Kc.lt (CE.gv (CE.callB call_len oLen_ok T.z_len PySem.boot_len (CE.var 1))) (CE.callB call_len oLen_ok T.z_len PySem.boot_len (CE.glob T.r_DOORS.glob))).t
  (Cb.cons (CS.raise1 (p2 := ⟨0, 0, 0, 0⟩) F_NoText rfl hr (by decide) (CE.gv (CE.callB call_len oLen_ok T.z_len PySem.boot_len (CE.var 1))))
  Cb.nil)
  Cb.nil)
  (Cb.cons (CS.ret (CE.gv (CE.makeStar F_Bp6 hr (by decide) (CE.var 1))))
  Cb.nil)))))) ?_
  exact (v_read_book (CB := CB) (CR := CR) (XT := XT))
theorem sc__law_whole : FnScope ["actual", "expected"] ["actual", "expected"] (defScope s__law_whole) := ⟨rfl, rfl, rfl, by decide +kernel, rfl, by decide +kernel, by decide +kernel⟩
theorem v__law_whole  : VOk w__law_whole 2 R__law_whole := by
  intro ds M k kx H0
  obtain ⟨i, rfl, rfl, hk⟩ := H0
  walk_at "w"
  walk_at "b"
  walk_at "w"
  walk_at "b"
  walk_at "w"
  rw [show decide (i = i) = true by simp]
  exact hk

theorem ok__law_whole {f : Addr} {fd : FuncData}  (F : Fun K "_law_whole" "_law_whole" s__law_whole f fd) (T : Txt K mg) : FnOk P w K mg base (L2.CX P w) 1 f fd ["actual", "expected"] (spD K R__law_whole) := by
  have nd := sc__law_whole.nd
  refine fn_wp (ww := w__law_whole) F sc__law_whole (fun ds M k kx H0 => by obtain ⟨i, rfl, rfl, hk⟩ := H0; rfl) (fun cdv A outer s H E hr => (Cb.cons (CS.ret (CE.and (CE.isi isi_int T.z_isinstance T.z_int b_int (CE.var 0)) (CE.and (CE.not (CE.isi isi_bool T.z_isinstance T.z_bool b_bool (CE.var 0))) (CE.one (Kc.eq (units65 hr) (CE.var 0) (CE.var 1)).v))))
  Cb.nil)) ?_
  exact v__law_whole
theorem sc__law_edit : FnScope ["well", "page", "signs", "way", "at", "sign"] ["well", "page"] (defScope s__law_edit) := ⟨rfl, rfl, rfl, by decide +kernel, rfl, by decide +kernel, by decide +kernel⟩
theorem v__law_edit  : VOk w__law_edit 6 R__law_edit := by
  intro ds M k kx H0
  obtain ⟨h, j, n, t, rfl, rfl, jo, hn, ht, hk⟩ := H0
  walk_at "w"
  refine use_draw 0 jo (by omega) (by decide) (by decide) fun r1 j1 lo1 hi1 jo1 => ?_
  walk_at "w"
  refine use_draw 0 jo1 (by omega) (by omega) (by omega) fun r2 j2 lo2 hi2 jo2 => ?_
  walk_at "w"
  refine Sd.mk (by decide +kernel) ?_
  walk_at "w"
  refine use_draw 0 jo2 (by omega) (by decide +kernel) (by decide +kernel) fun r3 j3 lo3 hi3 jo3 => ?_
  walk_at "w"
  refine sign_at lo3 hi3 (by decide +kernel) fun c => ?_
  have l1 := cutS_length t none (some r2)
  have l2 := cutS_length t (some (r2 + 1)) none
  have l2b := cutS_length t (some r2) none
  have l3 : ({ cps := #[c] } : Str).length = 1 := rfl
  walk_at "w"
  refine Br.mk (fun z1 => ?_) (fun z1 => ?_)
  · walk_at "w"
    exact hk _ j3 (by rw [PySem.Str.length_append]; omega) (jo3.mono (by omega))
  · walk_at "w"
    refine Br.mk (fun z2 => ?_) (fun z2 => ?_)
    · walk_at "w"
      refine Sd.mk (by rw [PySem.Str.length_append]; show _ + 1 + _ ≤ _; omega) ?_
      walk_at "w"
      exact hk _ j3 (by rw [PySem.Str.length_append, PySem.Str.length_append]; show _ + 1 + _ ≤ _; omega) (jo3.mono (by omega))
    · walk_at "w"
      refine Br.mk (fun z3 => ?_) (fun z3 => ?_)
      · walk_at "w"
        refine use_draw 0 jo3 (by omega) (by decide) (by decide) fun r4 j4 lo4 hi4 jo4 => ?_
        walk_at "w"
        refine sign_at lo4 (by first | exact hi4 | simpa using hi4) (by decide +kernel) fun c2 => ?_
        have l4 : ({ cps := #[c2] } : Str).length = 1 := rfl
        walk_at "w"
        refine Sd.mk (by rw [PySem.Str.length_append]; show _ + 1 + _ ≤ _; omega) ?_
        walk_at "w"
        exact hk _ j4 (by rw [PySem.Str.length_append, PySem.Str.length_append]; show _ + 1 + _ ≤ _; omega) (jo4.mono (by omega))
      · walk_at "w"
        refine Sd.mk (by rw [PySem.Str.length_append]; show _ + 1 + _ ≤ _; omega) ?_
        walk_at "w"
        exact hk _ j3 (by rw [PySem.Str.length_append, PySem.Str.length_append]; show _ + 1 + _ ≤ _; omega) (jo3.mono (by omega))

theorem ok__law_edit {f : Addr} {fd : FuncData}  (F : Fun K "_law_edit" "_law_edit" s__law_edit f fd) (T : Txt K mg) (F__law_draw : FnD P w K mg base 1 "_law_draw" [] R__law_draw) : FnOk P w K mg base (L2.CX P w) 3 f fd ["well", "page"] (spD K R__law_edit) := by
  have nd := sc__law_edit.nd
  refine fn_wp (ww := w__law_edit) F sc__law_edit (fun ds M k kx H0 => by obtain ⟨h, j, n, t, rfl, rfl, jo, hn, ht, hk⟩ := H0; rfl) (fun cdv A outer s H E hr => (Cb.cons (CS.set 2 CE.str nd)
  (Cb.cons (CS.par 3 4 rfl (CA.cons (CE.call F__law_draw hr (by decide) (CA.cons (CE.var 0) (CA.cons CE.int CA.nil))) (CA.cons (CE.call F__law_draw hr (by decide) (CA.cons (CE.var 0) (CA.cons (CE.add (CE.callB call_len oLen_ok T.z_len PySem.boot_len (CE.var 1)) CE.int) CA.nil))) CA.nil)) nd)
  (Cb.cons (CS.set 5 (CE.ix (fun _ _ => rfl) (CE.var 2) (CE.call F__law_draw hr (by decide) (CA.cons (CE.var 0) (CA.cons (CE.callB call_len oLen_ok T.z_len PySem.boot_len (CE.var 2)) CA.nil)))) nd)
  (Cb.cons (CS.if (Kc.eq (units65 hr) (CE.var 3) CE.int).t
  (Cb.cons (CS.ret (CE.add (CE.sliceS (CE.var 1) CO.none (CO.some (CE.var 4))) (CE.sliceS (CE.var 1) (CO.some (CE.add (CE.var 4) CE.int)) CO.none)))
  Cb.nil)
  Cb.nil)
  (Cb.cons (CS.if (Kc.eq (units65 hr) (CE.var 3) CE.int).t
  (Cb.cons (CS.ret (CE.add (CE.add (CE.sliceS (CE.var 1) CO.none (CO.some (CE.var 4))) (CE.var 5)) (CE.sliceS (CE.var 1) (CO.some (CE.add (CE.var 4) CE.int)) CO.none)))
  Cb.nil)
  Cb.nil)
  (Cb.cons (CS.if (Kc.eq (units65 hr) (CE.var 3) CE.int).t
  (Cb.cons (CS.set 5 (CE.ix (fun _ _ => rfl) CE.str (CE.call F__law_draw hr (by decide) (CA.cons (CE.var 0) (CA.cons CE.int CA.nil)))) nd)
  Cb.nil)
  Cb.nil)
  (Cb.cons (CS.ret (CE.add (CE.add (CE.sliceS (CE.var 1) CO.none (CO.some (CE.var 4))) (CE.var 5)) (CE.sliceS (CE.var 1) (CO.some (CE.var 4)) CO.none)))
  Cb.nil)))))))) ?_
  exact v__law_edit
theorem sc__law_lines_spoilt : FnScope ["well", "page", "way", "lines", "spot", "other", "kept", "more"] ["well", "page"] (defScope s__law_lines_spoilt) := ⟨rfl, rfl, rfl, by decide +kernel, rfl, by decide +kernel, by decide +kernel⟩
theorem v__law_lines_spoilt  : VOk w__law_lines_spoilt 8 R__law_lines_spoilt := by
  intro ds M k kx H0
  obtain ⟨h, j, n, t, rfl, rfl, jo, hn, ht, hk⟩ := H0
  have e0 := nl_tot t
  have e2 := tot_len (Txt.split t "\n")
  have e3 := nl_pos t
  walk_at "w"
  refine use_draw 0 jo (by omega) (by decide) (by decide) fun r1 j1 lo1 hi1 jo1 => ?_
  walk_at "w"
  refine Sd.mk ⟨by decide +kernel, by omega⟩ ?_
  intro q
  walk_at "w"
  refine use_draw 1 jo1 (by omega) (by simpa using e3) (by simp; omega) fun r2 j2 lo2 hi2 jo2 => ?_
  walk_at "w"
  refine use_draw 1 jo2 (by omega) (by simpa using e3) (by simp; omega) fun r3 j3 lo3 hi3 jo3 => ?_
  walk_at "w"
  obtain ⟨a, ga, gam, la, ra, lta⟩ := line_at (ls := Txt.split t "\n") lo2 hi2 (by simp)
  obtain ⟨b, gb, gbm, lb, rb, ltb⟩ := line_at (ls := Txt.split t "\n") lo3 hi3 (by simp)
  generalize r2.toNat = n2 at *
  generalize r3.toNat = n3 at *
  subst ra rb
  generalize Txt.split t "\n" = ls at *
  walk_at "w"
  refine Br.mk (fun z1 => ?_) (fun z1 => ?_)
  · walk_at "w"
    refine It1.nat gam ?_
    walk_at "w"
    refine It1.nat gbm ?_
    walk_at "w"
    refine ⟨n2, Sd.mk (.inl ⟨by omega, rfl, by simpa using lta⟩) ?_⟩
    walk_at "w"
    refine ⟨n3, Sd.mk (.inl ⟨by omega, rfl, by simpa using ltb⟩) ?_⟩
    walk_at "w"
    rw [← List.map_set, ← List.map_set]
    have y1 := tot_set ls n2 b
    have y2 := tot_set (ls.set n2 b) n3 a
    obtain ⟨f1, f2⟩ := nl_fit (ls := (ls.set n2 b).set n3 a) (by omega)
    refine ⟨_, Sd.mk ⟨.hdl 0 rfl, f1⟩ ?_⟩
    refine GhR.mk _ _ (GhV.drop (List.sublist_cons_self _ _)) ?_
    exact hk _ j3 f2 (jo3.mono (by omega))
  · walk_at "w"
    refine Br.mk (fun z2 => ?_) (fun z2 => ?_)
    · walk_at "w"
      refine It1.nat gbm ?_
      walk_at "w"
      have y1 := tot_ins ls n2 b
      obtain ⟨f1, f2⟩ := nl_fit (ls := ls.take n2 ++ [b] ++ ls.drop n2) (by omega)
      have em : (ls.map D.str).take n2 ++ [.str b] ++ (ls.map D.str).drop n2 = (ls.take n2 ++ [b] ++ ls.drop n2).map D.str := by simp [List.map_take, List.map_drop]
      rw [Int.toNat_natCast, em]
      refine ⟨_, Sd.mk ⟨.hdl 0 rfl, f1⟩ ?_⟩
      refine GhR.mk _ _ (GhV.drop (List.sublist_cons_self _ _)) ?_
      exact hk _ j3 f2 (jo3.mono (by omega))
    · walk_at "w"
      refine Br.mk (fun z3 => ?_) (fun z3 => ?_)
      · walk_at "w"
        refine Br.mk (fun z4 => ?_) (fun z4 => ?_)
        · walk_at "w"
          refine ⟨n2, .str a, Sd.mk ⟨rfl, by omega, gam⟩ ?_⟩
          walk_at "w"
          have y1 := tot_erase ls n2
          obtain ⟨f1, f2⟩ := nl_fit (ls := ls.eraseIdx n2) (by omega)
          rw [erase_map]
          refine ⟨_, Sd.mk ⟨.hdl 0 rfl, f1⟩ ?_⟩
          refine GhR.mk _ _ (GhV.drop (List.sublist_cons_self _ _)) ?_
          exact hk _ j3 f2 (jo3.mono (by omega))
        · have z3' : r1 = 2 := by simpa using z3
          have z5 : decide (r1 = 3) = false := by rw [z3']; decide
          have z6 : decide (r1 = 4) = false := by rw [z3']; decide
          walk_at "w"
          rw [z5]
          walk_at "b"
          walk_at "w"
          rw [z6]
          walk_at "b"
          walk_at "w"
          refine It1.nat gam ?_
          walk_at "w"
          refine use_draw 1 jo3 (by omega) (by decide) (by decide) fun r4 j4 lo4 hi4 jo4 => ?_
          walk_at "w"
          refine It1.any (by omega) (by simpa using hi4) fun d hd _ => ?_
          obtain ⟨s, rfl, hs⟩ := strs_at (ss := [" ", " show", " 1", " a=1", ":", "0", " a", "\t"]) (b := 5) (by decide +kernel) hd
          have hap := PySem.Str.length_append a s
          walk_at "w"
          refine ⟨n2, Sd.mk (.inl ⟨by omega, rfl, by simpa using lta⟩) ?_⟩
          walk_at "w"
          rw [← List.map_set]
          have y1 := tot_set ls n2 (a ++ s)
          obtain ⟨f1, f2⟩ := nl_fit (ls := ls.set n2 (a ++ s)) (by omega)
          refine ⟨_, Sd.mk ⟨.hdl 0 rfl, f1⟩ ?_⟩
          refine GhR.mk _ _ (GhV.drop (List.sublist_cons_self _ _)) ?_
          exact hk _ j4 f2 (jo4.mono (by omega))
      · walk_at "w"
        walk_at "b"
        walk_at "w"
        refine Br.mk (fun z5 => ?_) (fun z5 => ?_)
        · walk_at "w"
          have m1 := Int.emod_lt_of_pos (n3 : Int) (by decide : (0:Int) < 2)
          have m0 := Int.emod_nonneg (n3 : Int) (by decide : (2:Int) ≠ 0)
          refine It1.any m0 m1 fun d hd _ => ?_
          obtain ⟨s, rfl, hs⟩ : ∃ s : Str, d = .str s ∧ s.length ≤ 1 := by
            rcases List.mem_cons.mp hd with e | e
            · exact ⟨_, e, by decide +kernel⟩
            · rw [List.mem_singleton.mp e]; exact ⟨_, rfl, by decide +kernel⟩
          walk_at "w"
          have y1 := tot_ins ls (n2 + 1) s
          obtain ⟨f1, f2⟩ := nl_fit (ls := ls.take (n2 + 1) ++ [s] ++ ls.drop (n2 + 1)) (by omega)
          rw [show (((n2 : Nat) : Int) + 1).toNat = n2 + 1 by omega, ins_map]
          refine ⟨_, Sd.mk ⟨.hdl 0 rfl, f1⟩ ?_⟩
          refine GhR.mk _ _ (GhV.drop (List.sublist_cons_self _ _)) ?_
          exact hk _ j3 f2 (jo3.mono (by omega))
        · walk_at "w"
          refine Br.mk (fun z6 => ?_) (fun z6 => ?_)
          · walk_at "w"
            have y1 := tot_app ls [("" : Str)]
            have y2 : tot ([""] : List Str) = 1 := by decide +kernel
            obtain ⟨f1, f2⟩ := nl_fit (ls := ls ++ [("" : Str)]) (by omega)
            have em : ls.map D.str ++ [.str ""] = (ls ++ [("" : Str)]).map D.str := by simp
            rw [em]
            refine ⟨_, Sd.mk ⟨.hdl 0 rfl, f1⟩ ?_⟩
            refine GhR.mk _ _ (GhV.drop (List.sublist_cons_self _ _)) ?_
            exact hk _ j3 f2 (jo3.mono (by omega))
          · walk_at "w"
            refine It1.nat gam ?_
            walk_at "w"
            refine use_draw 1 jo3 (by omega) (by decide) (by decide) fun r4 j4 lo4 hi4 jo4 => ?_
            walk_at "w"
            refine It1.any (by omega) (by simpa using hi4) fun d hd _ => ?_
            obtain ⟨s, rfl, hs⟩ := strs_at (ss := [" ", " show", " 1", " a=1", ":", "0", " a", "\t"]) (b := 5) (by decide +kernel) hd
            have hap := PySem.Str.length_append a s
            walk_at "w"
            refine ⟨n2, Sd.mk (.inl ⟨by omega, rfl, by simpa using lta⟩) ?_⟩
            walk_at "w"
            rw [← List.map_set]
            have y1 := tot_set ls n2 (a ++ s)
            obtain ⟨f1, f2⟩ := nl_fit (ls := ls.set n2 (a ++ s)) (by omega)
            refine ⟨_, Sd.mk ⟨.hdl 0 rfl, f1⟩ ?_⟩
            refine GhR.mk _ _ (GhV.drop (List.sublist_cons_self _ _)) ?_
            exact hk _ j4 f2 (jo4.mono (by omega))

theorem ok__law_lines_spoilt {f : Addr} {fd : FuncData}  (F : Fun K "_law_lines_spoilt" "_law_lines_spoilt" s__law_lines_spoilt f fd) (T : Txt K mg) (F__law_draw : FnD P w K mg base 1 "_law_draw" [] R__law_draw) : FnOk P w K mg base (L2.CX P w) 3 f fd ["well", "page"] (spD K R__law_lines_spoilt) := by
  have nd := sc__law_lines_spoilt.nd
  refine fn_wp (ww := w__law_lines_spoilt) F sc__law_lines_spoilt (fun ds M k kx H0 => by obtain ⟨h, j, n, t, rfl, rfl, jo, hn, ht, hk⟩ := H0; rfl) (fun cdv A outer s H E hr => (Cb.cons (CS.par 2 3 rfl (CA.cons (CE.call F__law_draw hr (by decide) (CA.cons (CE.var 0) (CA.cons CE.int CA.nil))) (CA.cons (CE.splitM (CE.var 1) CE.str) CA.nil)) nd)
  (Cb.cons (CS.par 4 5 rfl (CA.cons (CE.call F__law_draw hr (by decide) (CA.cons (CE.var 0) (CA.cons (CE.callB call_len oLen_ok T.z_len PySem.boot_len (CE.var 3)) CA.nil))) (CA.cons (CE.call F__law_draw hr (by decide) (CA.cons (CE.var 0) (CA.cons (CE.callB call_len oLen_ok T.z_len PySem.boot_len (CE.var 3)) CA.nil))) CA.nil)) nd)
  (Cb.cons (CS.if (Kc.eq (units65 hr) (CE.var 2) CE.int).t
  (Cb.cons (CS.set 6 (CE.ix (fun _ _ => rfl) (CE.var 3) (CE.var 4)) nd)
  (Cb.cons (CS.seti (CE.ix (fun _ _ => rfl) (CE.var 3) (CE.var 5)) (CE.var 3) (CE.var 4))
  (Cb.cons (CS.seti (CE.var 6) (CE.var 3) (CE.var 5))
  Cb.nil)))
  (Cb.cons (CS.if (Kc.eq (units65 hr) (CE.var 2) CE.int).t
  (Cb.cons (CS.expr (CE.ins (CE.var 3) (CE.var 4) (CE.ix (fun _ _ => rfl) (CE.var 3) (CE.var 5))))
  Cb.nil)
  (Cb.cons (CS.if (CT.bool (CP.and (Kc.eq (units65 hr) (CE.var 2) CE.int).t (CP.and1 (Kc.gt (CE.callB call_len oLen_ok T.z_len PySem.boot_len (CE.var 3)) CE.int).t)))
  (Cb.cons (CS.expr (CE.popAt (CE.var 3) (CE.var 4)))
  Cb.nil)
  (Cb.cons (CS.if (Kc.eq (units65 hr) (CE.var 2) CE.int).t
  (Cb.cons (CS.expr (CE.ins (CE.var 3) (CE.add (CE.var 4) CE.int) (CE.ix (fun _ _ => rfl) (CE.lst (CA.cons CE.str (CA.cons CE.str CA.nil))) (CE.mod (CE.callT call_int1 oInt_ok T.z_int PyProof.Rows.boot_int (CE.var 5)) CE.int))))
  Cb.nil)
  (Cb.cons (CS.if (Kc.eq (units65 hr) (CE.var 2) CE.int).t
  (Cb.cons (CS.expr (CE.app (CE.var 3) CE.str))
  Cb.nil)
  (Cb.cons (CS.set 7 (CE.lst (CA.cons CE.str (CA.cons CE.str (CA.cons CE.str (CA.cons CE.str (CA.cons CE.str (CA.cons CE.str (CA.cons CE.str (CA.cons CE.str CA.nil))))))))) nd)
  (Cb.cons (CS.seti (CE.add (CE.ix (fun _ _ => rfl) (CE.var 3) (CE.var 4)) (CE.ix (fun _ _ => rfl) (CE.var 7) (CE.call F__law_draw hr (by decide) (CA.cons (CE.var 0) (CA.cons CE.int CA.nil))))) (CE.var 3) (CE.var 4))
  Cb.nil)))
  Cb.nil))
  Cb.nil))
  Cb.nil))
  Cb.nil))
  (Cb.cons (CS.ret (CE.gv (CE.join CE.str (CE.var 3))))
  Cb.nil))))) ?_
  exact v__law_lines_spoilt
theorem sc__law_due : FnScope ["page", "doors", "rules", "lines", "k", "words", "word"] ["page"] (defScope s__law_due) := ⟨rfl, rfl, rfl, by decide +kernel, rfl, by decide +kernel, by decide +kernel⟩
theorem v__law_due  : VOk w__law_due 7 R__law_due := by
  intro ds M k kx H0
  obtain ⟨t, rfl, rfl, ht, hk⟩ := H0
  have e0 := nl_tot t
  have e2 := tot_len (Txt.split t "\n")
  walk_at "w"
  intro q
  walk_at "w"
  refine Sd.mk ⟨by decide +kernel, by omega⟩ ?_
  walk_at "w"
  have el : (0 + (((Txt.split t "\n").map D.str).length : Int)).toNat = (Txt.split t "\n").length := by simp
  refine Loop.range (fun i Γ M => ∃ (a b c : Option D), Γ = [some (.str t), some (.lst (heads6.map D.str)), some (.hdl q), some (.lst ((Txt.split t "\n").map D.str)), a, b, c] ∧ goodTo (Txt.split t "\n") i ∧ M = [(q, .lst (((List.range i).map (rl (Txt.split t "\n"))).map dR))]) ⟨_, _, _, rfl, fun j hj => absurd hj (Nat.not_lt_zero _), rfl⟩ ?_ ?_
  · rintro i Γ M hi ⟨a, b, c, rfl, hg, rfl⟩
    have hlt : i < (Txt.split t "\n").length := by simpa using hi
    obtain ⟨y, hxx⟩ : ∃ y, (Txt.split t "\n")[i]? = some y := ⟨_, List.getElem?_eq_getElem hlt⟩
    have hy := tot_mem (List.mem_of_getElem? hxx)
    have ey : (Txt.split t "\n").getD i "" = y := by rw [List.getD_eq_getElem?_getD, hxx]; rfl
    have hym : ((Txt.split t "\n").map D.str)[i]? = some (.str y) := by rw [List.getElem?_map, hxx]; rfl
    have f0 := sp_tot y
    have f1 := sp_ne y
    rw [Int.zero_add]
    walk_at "w"
    refine It1.nat hym ?_
    walk_at "w"
    refine Sd.mk ⟨by decide +kernel, by omega⟩ ?_
    cases es : Txt.split y " " with
    | nil => exact absurd es f1
    | cons h r =>
    rw [es] at f0
    have f2 := tot_len (h :: r)
    rw [List.length_cons] at f2
    have BAD : lineB i y = none → k (.tup [.str "line", .int i]) [] := fun hb => by
      rw [readB_bad hlt hg (by rw [ey, hb])] at hk
      exact hk
    by_cases h6 : i < 6
    · walk_at "b"
      walk_at "w"
      rw [show (if (i : Int) < 5 then (i : Int) else 5) = (i : Int) by split <;> omega]
      refine It1.nat (heads6_at h6) ?_
      walk_at "w"
      by_cases hh : h = doors.getD i "" ++ ":"
      · walk_at "b"
        walk_at "w"
        by_cases hr : r.length ≤ 6
        · walk_at "b"
          walk_at "w"
          have ec : cutD ((h :: r).map D.str) (some 1) none = r.map D.str := cut1 _ _ (by rw [List.length_map]; omega)
          rw [ec]
          refine Loop.ofT (fun j Γ M => ∃ d : Option D, Γ = [some (.str t), some (.lst (heads6.map D.str)), some (.hdl q), some (.lst ((Txt.split t "\n").map D.str)), some (.int i), some (.lst ((h :: r).map D.str)), d] ∧ (∀ a ∈ r.take j, a ∈ acts) ∧ M = [(q, .lst (((List.range i).map (rl (Txt.split t "\n"))).map dR))]) ⟨_, rfl, fun a ha => by simp at ha, rfl⟩ (fun _ _ _ _ _ => trivial) ?_ ?_
          · rintro j w Γ M hw ⟨d, rfl, hj, rfl⟩
            walk_at "w"
            rw [show ([.str "take", .str "least", .str "last", .str "show", .str "ask"] : List D).any (isS w) = decide (w ∈ acts) from any_strs acts w]
            refine Br.mk (fun z => ?_) (fun z => ?_)
            · have hna : w ∉ acts := by simpa using z
              walk_at "w"
              refine GhR.mk _ _ (GhV.drop (List.nil_sublist _)) ?_
              exact BAD (lineB_none es (fun q => hna (q.2.2.2 w (List.mem_of_getElem? hw))))
            · have ha : w ∈ acts := by simpa using z
              walk_at "w"
              exact ⟨_, rfl, take_step hw hj ha, rfl⟩
          · rintro Γ M ⟨d, rfl, hj, rfl⟩
            rw [List.take_length] at hj
            have hb := lineB_some (k := i) es h6 hh hr hj
            walk_at "w"
            rw [ec]
            walk_at "w"
            exact ⟨_, _, _, rfl, good_succ hg hxx (by rw [hb]; rfl), by rw [List.range_succ, List.map_append, List.map_append]; simp [rl_at hxx, hb, dR]⟩
        · have hb := lineB_none (k := i) es (fun q => hr q.2.2.1)
          walk_at "b"
          walk_at "w"
          refine GhR.mk _ _ (GhV.drop (List.nil_sublist _)) ?_
          exact BAD hb
      · have hb := lineB_none (k := i) es (fun q => hh q.2.1)
        walk_at "b"
        walk_at "w"
        walk_at "b"
        walk_at "w"
        refine GhR.mk _ _ (GhV.drop (List.nil_sublist _)) ?_
        exact BAD hb
    · have hb := lineB_none (k := i) es (fun q => h6 q.1)
      walk_at "b"
      walk_at "w"
      walk_at "b"
      walk_at "w"
      refine GhR.mk _ _ (GhV.drop (List.nil_sublist _)) ?_
      exact BAD hb
  · rintro Γ M ⟨a, b, c, rfl, hg, rfl⟩
    have el2 : (((Txt.split t "\n").map D.str).length : Int).toNat = (Txt.split t "\n").length := by simp
    have el3 : ((Txt.split t "\n").map D.str).length = (Txt.split t "\n").length := by simp
    rw [el2] at hg ⊢
    have l6 := good_le hg
    rw [readB_none hg] at hk
    by_cases h6 : (Txt.split t "\n").length < 6
    · rw [if_pos h6] at hk
      walk_at "w"
      walk_at "b"
      walk_at "w"
      refine GhR.mk _ _ (GhV.drop (List.nil_sublist _)) ?_
      rw [el3]
      exact hk
    · rw [if_neg h6] at hk
      have l7 : (Txt.split t "\n").length = 6 := by omega
      rw [l7] at hg hk ⊢
      have oks := good_S hg
      walk_at "w"
      walk_at "b"
      walk_at "w"
      refine GhR.mk _ _ (GhV.drop (List.nil_sublist _)) ?_
      exact hk

theorem ok__law_due {f : Addr} {fd : FuncData}  (F : Fun K "_law_due" "_law_due" s__law_due f fd) (T : Txt K mg) : FnOk P w K mg base (L2.CX P w) 2 f fd ["page"] (spD K R__law_due) := by
  have nd := sc__law_due.nd
  refine fn_wp (ww := w__law_due) F sc__law_due (fun ds M k kx H0 => by obtain ⟨t, rfl, rfl, ht, hk⟩ := H0; rfl) (fun cdv A outer s H E hr => (Cb.cons (CS.par3 1 2 3 rfl (CA.cons (CE.lst (CA.cons CE.str (CA.cons CE.str (CA.cons CE.str (CA.cons CE.str (CA.cons CE.str (CA.cons CE.str CA.nil))))))) (CA.cons (CE.lstM CA.nil) (CA.cons (CE.split (CE.var 0) CE.str) CA.nil))) nd)
  (Cb.cons (CS.for (passes_of rfl) rfl (Ki.range1 T.z_range (CE.callB call_len oLen_ok T.z_len PySem.boot_len (CE.var 3))) (CTg.name 4 nd)
  (Cb.cons (CS.set 5 (CE.split (CE.ix (fun _ _ => rfl) (CE.var 3) (CE.var 4)) CE.str) nd)
  (Cb.cons (CS.if (CT.bool (CP.or (Kc.gt (CE.var 4) CE.int).t (CP.or (Kc.ne (units65 hr) (CE.ix (fun _ _ => rfl) (CE.var 5) CE.int) (CE.ix (fun _ _ => rfl) (CE.var 1) (CE.callB2 (call_min2 rfl) oMin2_ok T.z_min PyProof.Rows.boot_min CE.int (CE.var 4)))).t (CP.or1 (Kc.gt (CE.callB call_len oLen_ok T.z_len PySem.boot_len (CE.var 5)) CE.int).t))))
  (Cb.cons (CS.ret (CE.gv (CE.tup (CA.cons CE.str (CA.cons (CE.var 4) CA.nil)))))
  Cb.nil)
  Cb.nil)
  (Cb.cons (CS.for (passes_of rfl) rfl (Ki.lst (CE.sliceL (CE.var 5) (CO.some CE.int) CO.none)) (CTg.name 6 nd)
  (Cb.cons (CS.if (Kc.notIn (units65 hr) rfl (CE.var 6) (CE.lst (CA.cons CE.str (CA.cons CE.str (CA.cons CE.str (CA.cons CE.str (CA.cons CE.str CA.nil))))))).t
  (Cb.cons (CS.ret (CE.gv (CE.tup (CA.cons CE.str (CA.cons (CE.var 4) CA.nil)))))
  Cb.nil)
  Cb.nil)
  Cb.nil))
  (Cb.cons (CS.expr (CE.app (CE.var 2) (CE.callT call_tuple_of oTup_ok T.z_tuple PyProof.Rows.boot_tuple (CE.sliceL (CE.var 5) (CO.some CE.int) CO.none))))
  Cb.nil)))))
  (Cb.cons (CS.ret (CE.gv (CE.ife (Kc.eq (units65 hr) (CE.callB call_len oLen_ok T.z_len PySem.boot_len (CE.var 3)) CE.int).t (CE.tup (CA.cons CE.str (CA.cons (CE.callT call_tuple_of oTup_ok T.z_tuple PyProof.Rows.boot_tuple (CE.var 2)) CA.nil))) (CE.tup (CA.cons CE.str (CA.cons (CE.callB call_len oLen_ok T.z_len PySem.boot_len (CE.var 3)) CA.nil))))))
  Cb.nil)))) ?_
  exact v__law_due
theorem sc__law_spoilt : FnScope ["well", "page", "way", "lines", "spot", "head", "space", "rest", "heads", "more"] ["well", "page"] (defScope s__law_spoilt) := ⟨rfl, rfl, rfl, by decide +kernel, rfl, by decide +kernel, by decide +kernel⟩
theorem v__law_spoilt  : VOk w__law_spoilt 10 R__law_spoilt := by
  intro ds M k kx H0
  obtain ⟨h, j, n, t, rfl, rfl, jo, hn, ht, hk⟩ := H0
  have e0 := nl_tot t
  have e2 := tot_len (Txt.split t "\n")
  have e3 := nl_pos t
  walk_at "w"
  refine use_draw 0 jo (by omega) (by decide) (by decide) fun r1 j1 lo1 hi1 jo1 => ?_
  walk_at "w"
  refine Br.mk (fun z1 => ?_) (fun z1 => ?_)
  · walk_at "w"
    refine use_edit 0 jo1 (by omega) ht fun u j2 hu jo2 => ?_
    walk_at "w"
    exact hk _ j2 hu (jo2.mono (by omega))
  · walk_at "w"
    refine Br.mk (fun z2 => ?_) (fun z2 => ?_)
    · walk_at "w"
      refine use_lines_spoilt 0 jo1 (by omega) ht fun u j2 hu jo2 => ?_
      walk_at "w"
      exact hk _ j2 hu (jo2.mono (by omega))
    · walk_at "w"
      refine Sd.mk ⟨by decide +kernel, by omega⟩ ?_
      intro q
      walk_at "w"
      refine use_draw 1 jo1 (by omega) (by simpa using e3) (by simp; omega) fun r2 j2 lo2 hi2 jo2 => ?_
      walk_at "w"
      obtain ⟨a, ga, gam, la, ra, lta⟩ := line_at (ls := Txt.split t "\n") lo2 hi2 (by simp)
      generalize r2.toNat = n2 at *
      subst ra
      generalize Txt.split t "\n" = ls at *
      refine It1.nat gam ?_
      obtain ⟨pt1, pt2, pt3⟩ := PyProof.Rows.fact_partition a " "
      have sp1 : (" " : Str).length = 1 := by decide +kernel
      walk_at "w"
      walk_at "w"
      refine Br.mk (fun z3 => ?_) (fun z3 => ?_)
      · walk_at "w"
        refine use_draw 1 jo2 (by omega) (by decide) (by decide) fun r3 j3 lo3 hi3 jo3 => ?_
        walk_at "w"
        refine It1.any lo3 (by simpa using hi3) fun d hd _ => ?_
        obtain ⟨s, rfl, hs⟩ := strs_at (ss := ["put:", "look:", "alter:", "back:", "pay:", "again:", "Put:", "put", "wish:", "", " put:", "look :"]) (b := 6) (by decide +kernel) hd
        have a1 := PySem.Str.length_append s (Txt.partition a " ").2.1
        have a2 := PySem.Str.length_append (s ++ (Txt.partition a " ").2.1) (Txt.partition a " ").2.2
        walk_at "w"
        refine ⟨n2, Sd.mk (.inl ⟨by omega, rfl, by simpa using lta⟩) ?_⟩
        walk_at "w"
        rw [← List.map_set]
        have y1 := tot_set ls n2 (s ++ (Txt.partition a " ").2.1 ++ (Txt.partition a " ").2.2)
        obtain ⟨f1, f2⟩ := nl_fit (ls := ls.set n2 (s ++ (Txt.partition a " ").2.1 ++ (Txt.partition a " ").2.2)) (by omega)
        refine ⟨_, Sd.mk ⟨.hdl 0 rfl, f1⟩ ?_⟩
        refine GhR.mk _ _ (GhV.drop (List.sublist_cons_self _ _)) ?_
        exact hk _ j3 f2 (jo3.mono (by omega))
      · walk_at "w"
        refine Br.mk (fun z4 => ?_) (fun z4 => ?_)
        · walk_at "w"
          refine It1.nat gam ?_
          have a0 := PySem.Str.length_append a " "
          walk_at "w"
          refine use_draw 1 jo2 (by omega) (by decide) (by decide) fun r3 j3 lo3 hi3 jo3 => ?_
          walk_at "w"
          refine It1.any lo3 (by simpa using hi3) fun d hd _ => ?_
          obtain ⟨s, rfl, hs⟩ := strs_at (ss := ["Take", "taken", "", "show,", "asks", "least last", "show ", " ask", "none", "put", "first", "ask;"]) (b := 10) (by decide +kernel) hd
          have a1 := PySem.Str.length_append (a ++ " ") s
          walk_at "w"
          refine ⟨n2, Sd.mk (.inl ⟨by omega, rfl, by simpa using lta⟩) ?_⟩
          walk_at "w"
          rw [← List.map_set]
          have y1 := tot_set ls n2 (a ++ " " ++ s)
          obtain ⟨f1, f2⟩ := nl_fit (ls := ls.set n2 (a ++ " " ++ s)) (by omega)
          refine ⟨_, Sd.mk ⟨.hdl 0 rfl, f1⟩ ?_⟩
          refine GhR.mk _ _ (GhV.drop (List.sublist_cons_self _ _)) ?_
          exact hk _ j3 f2 (jo3.mono (by omega))
        · walk_at "w"
          refine It1.nat gam ?_
          walk_at "w"
          refine use_draw 1 jo2 (by omega) (by decide) (by decide) fun r3 j3 lo3 hi3 jo3 => ?_
          walk_at "w"
          refine Sd.mk ⟨by omega, by omega, by decide +kernel⟩ ?_
          have l5 : (" show" : Str).length = 5 := by decide +kernel
          have rl := rep_len (1 + r3).toNat " show"
          rw [l5] at rl
          generalize er : repS (1 + r3).toNat " show" = rs at rl
          have a1 := PySem.Str.length_append a rs
          conv => whnf
          change Sd (a.length + (repS (1 + r3).toNat " show").length ≤ 16777216) _
          rw [er]
          refine Sd.mk (by omega) ?_
          walk_at "w"
          refine ⟨n2, Sd.mk (.inl ⟨by omega, rfl, by simpa using lta⟩) ?_⟩
          walk_at "w"
          rw [← List.map_set]
          have y1 := tot_set ls n2 (a ++ rs)
          obtain ⟨f1, f2⟩ := nl_fit (ls := ls.set n2 (a ++ rs)) (by omega)
          subst er
          refine ⟨_, Sd.mk ⟨.hdl 0 rfl, f1⟩ ?_⟩
          refine GhR.mk _ _ (GhV.drop (List.sublist_cons_self _ _)) ?_
          exact hk _ j3 f2 (jo3.mono (by omega))

theorem ok__law_spoilt {f : Addr} {fd : FuncData}  (F : Fun K "_law_spoilt" "_law_spoilt" s__law_spoilt f fd) (T : Txt K mg) (F__law_draw : FnD P w K mg base 1 "_law_draw" [] R__law_draw) (F__law_lines_spoilt : FnD P w K mg base 3 "_law_lines_spoilt" [] R__law_lines_spoilt) (F__law_edit : FnD P w K mg base 3 "_law_edit" [] R__law_edit) : FnOk P w K mg base (L2.CX P w) 4 f fd ["well", "page"] (spD K R__law_spoilt) := by
  have nd := sc__law_spoilt.nd
  refine fn_wp (ww := w__law_spoilt) F sc__law_spoilt (fun ds M k kx H0 => by obtain ⟨h, j, n, t, rfl, rfl, jo, hn, ht, hk⟩ := H0; rfl) (fun cdv A outer s H E hr => (Cb.cons (CS.set 2 (CE.call F__law_draw hr (by decide) (CA.cons (CE.var 0) (CA.cons CE.int CA.nil))) nd)
  (Cb.cons (CS.if (Kc.lt (CE.var 2) CE.int).t
  (Cb.cons (CS.ret (CE.call F__law_edit hr (by decide) (CA.cons (CE.var 0) (CA.cons (CE.var 1) CA.nil))))
  Cb.nil)
  Cb.nil)
  (Cb.cons (CS.if (Kc.lt (CE.var 2) CE.int).t
  (Cb.cons (CS.ret (CE.call F__law_lines_spoilt hr (by decide) (CA.cons (CE.var 0) (CA.cons (CE.var 1) CA.nil))))
  Cb.nil)
  Cb.nil)
  (Cb.cons (CS.set 3 (CE.splitM (CE.var 1) CE.str) nd)
  (Cb.cons (CS.set 4 (CE.call F__law_draw hr (by decide) (CA.cons (CE.var 0) (CA.cons (CE.callB call_len oLen_ok T.z_len PySem.boot_len (CE.var 3)) CA.nil))) nd)
  (Cb.cons (CS.asg (CE.parti (CE.ix (fun _ _ => rfl) (CE.var 3) (CE.var 4)) CE.str) (CTg.tup (n := 3) rfl (CTs.cons (CTg.name 5 nd) (CTs.cons (CTg.name 6 nd) (CTs.cons (CTg.name 7 nd) CTs.nil)))))
  (Cb.cons (CS.if (Kc.eq (units65 hr) (CE.var 2) CE.int).t
  (Cb.cons (CS.set 8 (CE.lst (CA.cons CE.str (CA.cons CE.str (CA.cons CE.str (CA.cons CE.str (CA.cons CE.str (CA.cons CE.str (CA.cons CE.str (CA.cons CE.str (CA.cons CE.str (CA.cons CE.str (CA.cons CE.str (CA.cons CE.str CA.nil))))))))))))) nd)
  (Cb.cons (CS.seti (CE.add (CE.add (CE.ix (fun _ _ => rfl) (CE.var 8) (CE.call F__law_draw hr (by decide) (CA.cons (CE.var 0) (CA.cons CE.int CA.nil)))) (CE.var 6)) (CE.var 7)) (CE.var 3) (CE.var 4))
  Cb.nil))
  (Cb.cons (CS.if (Kc.eq (units65 hr) (CE.var 2) CE.int).t
  (Cb.cons (CS.set 9 (CE.lst (CA.cons CE.str (CA.cons CE.str (CA.cons CE.str (CA.cons CE.str (CA.cons CE.str (CA.cons CE.str (CA.cons CE.str (CA.cons CE.str (CA.cons CE.str (CA.cons CE.str (CA.cons CE.str (CA.cons CE.str CA.nil))))))))))))) nd)
  (Cb.cons (CS.seti (CE.add (CE.add (CE.ix (fun _ _ => rfl) (CE.var 3) (CE.var 4)) CE.str) (CE.ix (fun _ _ => rfl) (CE.var 9) (CE.call F__law_draw hr (by decide) (CA.cons (CE.var 0) (CA.cons CE.int CA.nil))))) (CE.var 3) (CE.var 4))
  Cb.nil))
  (Cb.cons (CS.seti (CE.add (CE.ix (fun _ _ => rfl) (CE.var 3) (CE.var 4)) (CE.mul CE.str (CE.add CE.int (CE.call F__law_draw hr (by decide) (CA.cons (CE.var 0) (CA.cons CE.int CA.nil)))))) (CE.var 3) (CE.var 4))
  Cb.nil))
  Cb.nil))
  (Cb.cons (CS.ret (CE.gv (CE.join CE.str (CE.var 3))))
  Cb.nil))))))))) ?_
  exact v__law_spoilt
theorem sc__law_tried : FnScope ["page", "found", "result", "e"] ["page"] (defScope s__law_tried) := ⟨rfl, rfl, rfl, by decide +kernel, rfl, by decide +kernel, by decide +kernel⟩
theorem v__law_tried {CB XT : Addr} : VOk (w__law_tried CB XT) 4 (R__law_tried CB) := by
  intro ds M k kx H0
  obtain ⟨d, out, rfl, rfl, hkn, ho, hk⟩ := H0
  rcases ho with ⟨hn, rfl⟩ | ⟨t, rfl, ht, rfl⟩
  · walk_at "w"
    refine .none ⟨d, rfl, rfl, hkn, .inl ⟨hn, ?_⟩⟩
    walk_at "w"
    walk_at "mt"
    walk_at "b"
    intro xa
    walk_at "h"
    intro xd
    walk_at "w"
    walk_at "xf"
    walk_at "w"
    walk_at "dx"
    walk_at "w"
    refine GhR.mk _ _ (GhV.drop (List.nil_sublist _)) ?_
    exact hk
  · walk_at "w"
    refine .none ⟨_, rfl, rfl, hkn, .inr ⟨t, rfl, ht, ?_⟩⟩
    cases hr : readB t with
    | inl i =>
      rw [hr] at hk
      walk_at "w"
      walk_at "mt"
      walk_at "b"
      intro xa
      walk_at "h"
      intro xd
      walk_at "w"
      walk_at "xf"
      walk_at "w"
      walk_at "dx"
      walk_at "w"
      refine GhR.mk _ _ (GhV.drop (List.nil_sublist _)) ?_
      exact hk
    | inr s =>
      rw [hr] at hk
      refine ⟨_, List.Perm.refl _, ?_⟩
      walk_at "w"
      refine GhR.mk _ _ GhV.refl ?_
      exact hk

theorem ok__law_tried {f : Addr} {fd : FuncData} {CB XT : Addr} (F : Fun K "_law_tried" "_law_tried" s__law_tried f fd) (T : Txt K mg) (F_read_bookK0 : FnK P w K mg base 5 "read_book" 0 ["text"] [(2, 0)] [] (R_read_book CB XT)) (M_NoText_NoText : MtC K XT (.ref XT) true) (Y_NoText : XcOk K mg "NoText" XT) (N_NoText : PySem.W.findIn K (.ref XT) "line" = some none) : FnOk P w K mg base (L2.CX P w) 6 f fd ["page"] (spD K (R__law_tried CB)) := by
  have nd := sc__law_tried.nd
  refine fn_wp (ww := (w__law_tried CB XT)) F sc__law_tried (fun ds M k kx H0 => by obtain ⟨d, out, rfl, rfl, hkn, ho, hk⟩ := H0; rfl) (fun cdv A outer s H E hr => (Cb.cons (CS.asg (CE.tup (CA.cons (CE.tup (CA.cons CE.str CA.nil)) (CA.cons CE.non CA.nil))) (CTg.tup (n := 2) rfl (CTs.cons (CTg.name 1 nd) (CTs.cons (CTg.name 2 nd) CTs.nil))))
  (Cb.cons (CS.try nd (fun pn xe pp => (Cb.cons (CS.set 2 (CE.callK0 (ks := ["text"]) F_read_bookK0 hr (by decide) (CK.cons (CE.var 0) CK.nil)) nd)
  Cb.nil))
  (.cons Y_NoText.nm (tbc M_NoText_NoText tb0) (fun xa oe xcl xd pn hz hf => (Cb.cons (CS.set 1 (CE.tup (CA.cons CE.str (CA.cons (CE.xf 3 [XT] (xfc Y_NoText N_NoText xf0) hz hf) CA.nil))) nd)
  Cb.nil)) .nil))
  (Cb.cons (CS.ret (CE.gv (CE.tup (CA.cons (CE.var 1) (CA.cons (CE.var 2) CA.nil)))))
  Cb.nil)))) ?_
  exact (v__law_tried (CB := CB) (XT := XT))
theorem sc__law_classes : FnScope ["page", "found", "e"] ["page"] (defScope s__law_classes) := ⟨rfl, rfl, rfl, by decide +kernel, rfl, by decide +kernel, by decide +kernel⟩
theorem v__law_classes {CB XT : Addr} : VOk (w__law_classes CB XT) 3 (R__law_classes CB) := by
  intro ds M k kx H0
  obtain ⟨d, rfl, rfl, hkn, ho, hk⟩ := H0
  obtain ⟨i0, ho⟩ := ho
  rcases ho with ⟨hn, he⟩ | ⟨t, rfl, ht, he⟩
  · walk_at "w"
    refine .none ⟨d, rfl, rfl, hkn, .inl ⟨hn, ?_⟩⟩
    walk_at "w"
    walk_at "mt"
    walk_at "b"
    intro xa
    walk_at "h"
    intro xd
    walk_at "w"
    walk_at "xi"
    walk_at "w"
    walk_at "xi"
    walk_at "w"
    walk_at "xi"
    walk_at "w"
    walk_at "dx"
    walk_at "w"
    refine GhR.mk _ _ (GhV.drop (List.nil_sublist _)) ?_
    exact hk
  · walk_at "w"
    refine .none ⟨_, rfl, rfl, hkn, .inr ⟨t, rfl, ht, ?_⟩⟩
    cases hr : readB t with
    | inr s => rw [hr] at he; simp at he
    | inl i =>
      walk_at "w"
      walk_at "mt"
      walk_at "b"
      intro xa
      walk_at "h"
      intro xd
      walk_at "w"
      walk_at "xi"
      walk_at "w"
      walk_at "xi"
      walk_at "w"
      walk_at "xi"
      walk_at "w"
      walk_at "dx"
      walk_at "w"
      refine GhR.mk _ _ (GhV.drop (List.nil_sublist _)) ?_
      exact hk

theorem ok__law_classes {f : Addr} {fd : FuncData} {CB CR XS XT : Addr} (F : Fun K "_law_classes" "_law_classes" s__law_classes f fd) (T : Txt K mg) (F_read_book : FnD P w K mg base 5 "read_book" [] (R_read_book CB XT)) (M_NoText_ShownError : MtC K XT (.ref XS) true) (Y_ShownError : XcOk K mg "ShownError" XS) (Y_NoText : XcOk K mg "NoText" XT) (M_NoText_NoRule : MtC K XT (.ref CR) false) (Y_NoRule : XcOk K mg "NoRule" CR) (M_NoText_NoText : MtC K XT (.ref XT) true) (M_NoText_ValueError : PySem.W.kitOne K (.ref XT) (.type "ValueError") = some true) : FnOk P w K mg base (L2.CX P w) 6 f fd ["page"] (spD K (R__law_classes CB)) := by
  have nd := sc__law_classes.nd
  refine fn_wp (ww := (w__law_classes CB XT)) F sc__law_classes (fun ds M k kx H0 => by obtain ⟨d, rfl, rfl, hkn, ho, hk⟩ := H0; rfl) (fun cdv A outer s H E hr => (Cb.cons (CS.set 1 (CE.tup CA.nil) nd)
  (Cb.cons (CS.try nd (fun pn xe pp => (Cb.cons (CS.expr (CE.call F_read_book hr (by decide) (CA.cons (CE.var 0) CA.nil)))
  Cb.nil))
  (.cons Y_ShownError.nm (tbc M_NoText_ShownError tb0) (fun xa oe xcl xd pn hz hf => (Cb.cons (CS.set 1 (CE.tup (CA.cons (CE.xi (c := .ty "ValueError") (cv := .type "ValueError") 2 [(XT, true)] (xic Y_NoText M_NoText_ValueError xi0) hz hf (fun _ h => h) (fun h => ge_ty T.z_ValueError b_valueError h) T.z_isinstance) (CA.cons (CE.xi (c := .ref XT) (cv := .ref XT) 2 [(XT, true)] (xic Y_NoText M_NoText_NoText.2 xi0) hz hf (fun _ h => h) (fun h => ge_cls Y_NoText.g h) T.z_isinstance) (CA.cons (CE.xi (c := .ref CR) (cv := .ref CR) 2 [(XT, false)] (xic Y_NoText M_NoText_NoRule.2 xi0) hz hf (fun _ h => h) (fun h => ge_cls Y_NoRule.g h) T.z_isinstance) CA.nil)))) nd)
  Cb.nil)) .nil))
  (Cb.cons (CS.ret (CE.gv (CE.var 1)))
  Cb.nil)))) ?_
  exact (v__law_classes (CB := CB) (XT := XT))
theorem sc__law_right : FnScope ["page", "due", "found", "result"] ["page", "due"] (defScope s__law_right) := ⟨rfl, rfl, rfl, by decide +kernel, rfl, by decide +kernel, by decide +kernel⟩
theorem v__law_right {CB : Addr} : VOk (w__law_right CB) 4 R__law_right := by
  intro ds M k kx H0
  obtain ⟨d, e, rfl, rfl, hkn, he, hk⟩ := H0
  rcases E11_two (CB := CB) he with ⟨i, rfl, ht⟩ | ⟨s, rfl, os, ht⟩
  · walk_at "w"
    refine .none ⟨d, _, rfl, rfl, hkn, ht, [], by simp, ?_⟩
    walk_at "w"
    walk_at "b"
    walk_at "w"
    walk_at "b"
    walk_at "w"
    refine .none ⟨i, rfl, rfl, [], by simp, ?_⟩
    walk_at "w"
    walk_at "b"
    walk_at "w"
    refine .none ⟨d, rfl, rfl, hkn, ⟨i, ht⟩, [], by simp, ?_⟩
    walk_at "w"
    refine ⟨_, _, .dat 1 rfl (by decide), .dat 1 rfl (by decide), ?_⟩
    exact hk
  · walk_at "w"
    refine .none ⟨d, _, rfl, rfl, hkn, ht, [], by simp, ?_⟩
    walk_at "w"
    walk_at "b"
    walk_at "w"
    walk_at "b"
    walk_at "w"
    refine HI.mk _ _ (.inl rfl) ?_
    walk_at "w"
    walk_at "b"
    walk_at "w"
    refine HI.mk _ _ (.inl rfl) ?_
    walk_at "w"
    refine Sd.mk (by decide) ?_
    walk_at "w"
    refine use_brules os ?_
    walk_at "w"
    refine .none ⟨dS s, rfl, rfl, rfx_S os, [], by simp, ?_⟩
    exact hk

theorem ok__law_right {f : Addr} {fd : FuncData} {CB : Addr} (F : Fun K "_law_right" "_law_right" s__law_right f fd) (T : Txt K mg) (F_Book_rules : MtD P w K mg base 1 CB "rules" [] (R_Book_rules CB)) (F__law_classes : FnD P w K mg base 6 "_law_classes" [] (R__law_classes CB)) (F__law_whole : FnD P w K mg base 1 "_law_whole" [] R__law_whole) (F__law_tried : FnD P w K mg base 6 "_law_tried" [] (R__law_tried CB)) (icB : IsC K CB) (gB : mg "Book" = some (.ref CB)) (F__law_same : FnD P w K mg base 3 "_law_same" [] (R__law_same 2)) : FnOk P w K mg base (L2.CX P w) 7 f fd ["page", "due"] (spD K R__law_right) := by
  have nd := sc__law_right.nd
  refine fn_wp (ww := (w__law_right CB)) F sc__law_right (fun ds M k kx H0 => by obtain ⟨d, e, rfl, rfl, hkn, he, hk⟩ := H0; rfl) (fun cdv A outer s H E hr => (Cb.cons (CS.asg (CE.call F__law_tried hr (by decide) (CA.cons (CE.var 0) CA.nil)) (CTg.tup (n := 2) rfl (CTs.cons (CTg.name 2 nd) (CTs.cons (CTg.name 3 nd) CTs.nil))))
  (Cb.cons (CS.if (Kc.ne (units65 hr) (CE.ix (fun _ _ => rfl) (CE.var 2) CE.int) (CE.ix (fun _ _ => rfl) (CE.var 1) CE.int)).t
  (Cb.cons (CS.ret CE.bl)
  Cb.nil)
  Cb.nil)
  (Cb.cons (CS.if (Kc.eq (units65 hr) (CE.ix (fun _ _ => rfl) (CE.var 1) CE.int) CE.str).t
  (Cb.cons (CS.ret (CE.and (CE.call F__law_whole hr (by decide) (CA.cons (CE.ix (fun _ _ => rfl) (CE.var 2) CE.int) (CA.cons (CE.ix (fun _ _ => rfl) (CE.var 1) CE.int) CA.nil))) (CE.one (Kc.eq (units65 hr) (CE.call F__law_classes hr (by decide) (CA.cons (CE.var 0) CA.nil)) (CE.tup (CA.cons CE.bl (CA.cons CE.bl (CA.cons CE.bl CA.nil))))).v)))
  Cb.nil)
  Cb.nil)
  (Cb.cons (CS.ret (CE.and (CE.isiC icB T.z_isinstance gB (CE.var 3)) (CE.one (CE.call F__law_same hr (by decide) (CA.cons (CE.meth0 F_Book_rules hr (by decide) (CE.var 3)) (CA.cons (CE.ix (fun _ _ => rfl) (CE.var 1) CE.int) CA.nil))))))
  Cb.nil))))) ?_
  exact (v__law_right (CB := CB))
theorem sc_law : FnScope ["script", "k", "well", "way", "spoils", "page", "thing", "turn"] ["script"] (defScope s_law) := ⟨rfl, rfl, rfl, by decide +kernel, rfl, by decide +kernel, by decide +kernel⟩
theorem v_law  : VOk w_law 8 R_law := by
  intro ds M k kx H0
  obtain ⟨ns, rfl, rfl, hns, hk⟩ := H0
  walk_at "w"
  refine Loop.range (fun i Γ M => ∃ (b1 b2 b3 b4 b5 b6 b7 : Option D) (J : Ms), Γ = [some (.seq (ns.map D.int)), b1, b2, b3, b4, b5, b6, b7] ∧ M = J) ⟨_, _, _, _, _, _, _, [], rfl, rfl⟩ ?_ ?_
  · rintro i Γ M hi ⟨b1, b2, b3, b4, b5, b6, b7, J, rfl, rfl⟩
    have hi60 : i < 64 := by simp only [List.length_map] at hi; split at hi <;> omega
    walk_at "w"
    refine use_well (by omega) (by omega) fun pw jw jow => ⟨_, List.Perm.refl _, ?_⟩
    walk_at "w"
    refine use_draw 0 jow (by omega) (by decide) (by decide) fun r1 j1 lo1 hi1 jo1 => ?_
    walk_at "w"
    refine use_draw 0 jo1 (by omega) (by decide) (by decide) fun r2 j2 lo2 hi2 jo2 => ?_
    walk_at "w"
    refine use_rules 0 jo2 (by omega) fun s j3 os jo3 => ?_
    walk_at "w"
    refine use_bookt os ?_
    have bl := bookT_len os
    generalize bookT s = pg at *
    walk_at "w"
    refine Cut.mk (fun Γ1 M1 => ∃ x : Option D, Γ1 = [some (.seq (ns.map D.int)), some (.int (0 + (i : Int))), some (.hdl pw), some (.int r1), some (.int r2), some (.str pg), x, b7] ∧ M1 = (pw, j3.mo) :: M) ?_ ?_
    · walk_at "w"
      refine Br.mk (fun z1 => ?_) (fun z1 => ?_)
      · walk_at "w"
        intro q1
        refine GhR.mk _ _ (GhV.frzD 0 rfl) ?_
        walk_at "w"
        refine It1.any lo1 (by have : r1 < 7 := by simpa using z1
                               simpa using this) fun d hd _ => ?_
        walk_at "w"
        have hd2 : kn d = true ∧ ∀ t, d ≠ .str t := by
          simp only [List.mem_cons, List.not_mem_nil, or_false] at hd
          rcases hd with rfl | rfl | rfl | rfl | rfl | rfl | rfl <;> exact ⟨rfl, fun _ h => by cases h⟩
        refine use_right hd2.1 (.inl ⟨hd2.2, rfl⟩) ?_
        walk_at "w"
        walk_at "b"
        walk_at "w"
        exact ⟨_, rfl, rfl⟩
      · walk_at "w"
        exact ⟨_, rfl, rfl⟩
    rintro Γ1 M1 ⟨x, rfl, rfl⟩
    walk_at "w"
    refine Loop.range (fun n Γ M1 => ∃ (t : Str) (y : Option D) (jn : Jar), Γ = [some (.seq (ns.map D.int)), some (.int (0 + (i : Int))), some (.hdl pw), some (.int r1), some (.int r2), some (.str t), x, y] ∧ t.length ≤ 6000 ∧ jn.Ok (1000 + 10 * n) ∧ M1 = (pw, jn.mo) :: M) ⟨_, _, _, rfl, bl, jo3.mono (by omega), rfl⟩ ?_ ?_
    · rintro n Γ M1 hn ⟨t, y, jn, rfl, ht, jon, rfl⟩
      walk_at "w"
      refine use_spoilt 0 jon (by omega) ht fun u j4 hu jo4 => ?_
      walk_at "w"
      exact ⟨_, _, j4, rfl, cut6 u, jo4.mono (by omega), rfl⟩
    · rintro Γ M1 ⟨t, y, jn, rfl, ht, jon, rfl⟩
      walk_at "w"
      refine use_due ht ?_
      walk_at "w"
      refine use_right rfl (.inr ⟨t, rfl, ht, rfl⟩) ?_
      walk_at "w"
      walk_at "b"
      walk_at "w"
      exact ⟨_, _, _, _, _, _, _, _, rfl, rfl⟩
  · rintro Γ M ⟨b1, b2, b3, b4, b5, b6, b7, J, rfl, rfl⟩
    walk_at "w"
    exact hk _


theorem ok_law {f : Addr} {fd : FuncData}  (F : Fun K "law" "law" s_law f fd) (T : Txt K mg) (F__law_right : FnD P w K mg base 7 "_law_right" [] R__law_right) (F__law_due : FnD P w K mg base 2 "_law_due" [] R__law_due) (F__law_spoilt : FnD P w K mg base 4 "_law_spoilt" [] R__law_spoilt) (F__law_book_text : FnD P w K mg base 2 "_law_book_text" [] R__law_book_text) (F__law_rules : FnD P w K mg base 3 "_law_rules" [] R__law_rules) (F__law_draw : FnD P w K mg base 1 "_law_draw" [] R__law_draw) (F__law_well : FnD P w K mg base 1 "_law_well" [] R__law_well) : FnOk P w K mg base (L2.CX P w) 8 f fd ["script"] (spD K R_law) := by
  have nd := sc_law.nd
  refine fn_wp (ww := w_law) F sc_law (fun ds M k kx H0 => by obtain ⟨ns, rfl, rfl, hns, hk⟩ := H0; rfl) (fun cdv A outer s H E hr => (Cb.cons (CS.for (passes_of rfl) rfl (Ki.range1 T.z_range (CE.callB2 (call_max2 rfl) oMax2_ok T.z_max PyProof.Rows.boot_max CE.int (CE.callB call_len oLen_ok T.z_len PySem.boot_len (CE.var 0)))) (CTg.name 1 nd)
  (Cb.cons (CS.set 2 (CE.call F__law_well hr (by decide) (CA.cons (CE.var 0) (CA.cons (CE.var 1) CA.nil))) nd)
  (Cb.cons (CS.par 3 4 rfl (CA.cons (CE.call F__law_draw hr (by decide) (CA.cons (CE.var 2) (CA.cons CE.int CA.nil))) (CA.cons (CE.call F__law_draw hr (by decide) (CA.cons (CE.var 2) (CA.cons CE.int CA.nil))) CA.nil)) nd)
  (Cb.cons (CS.set 5 (CE.call F__law_book_text hr (by decide) (CA.cons (CE.call F__law_rules hr (by decide) (CA.cons (CE.var 2) CA.nil)) CA.nil)) nd)
  (Cb.cut (CS.if (Kc.lt (CE.var 3) CE.int).t
  (Cb.cons (CS.set 6 (CE.ix (fun _ _ => rfl) (CE.lst (CA.cons CE.non (CA.cons CE.int (CA.cons CE.bl (CA.cons (CE.lst CA.nil) (CA.cons (CE.lst (CA.cons (CE.var 5) CA.nil)) (CA.cons (CE.tup (CA.cons (CE.var 5) CA.nil)) (CA.cons (CE.gv CE.dnew) CA.nil)))))))) (CE.var 3)) nd)
  (Cb.cons (CS.if (CT.not (CT.val (CE.call F__law_right hr (by decide) (CA.cons (CE.var 6) (CA.cons (CE.tup (CA.cons CE.str (CA.cons CE.int CA.nil))) CA.nil)))))
  (Cb.cons (CS.ret CE.bl)
  Cb.nil)
  Cb.nil)
  Cb.nil))
  Cb.nil)
  (Cb.cons (CS.for (passes_of rfl) rfl (Ki.range1 T.z_range (CE.var 4)) (CTg.name 7 nd)
  (Cb.cons (CS.set 5 (CE.sliceS (CE.call F__law_spoilt hr (by decide) (CA.cons (CE.var 2) (CA.cons (CE.var 5) CA.nil))) CO.none (CO.some CE.int)) nd)
  Cb.nil))
  (Cb.cons (CS.if (CT.not (CT.val (CE.call F__law_right hr (by decide) (CA.cons (CE.var 5) (CA.cons (CE.call F__law_due hr (by decide) (CA.cons (CE.var 5) CA.nil)) CA.nil)))))
  (Cb.cons (CS.ret CE.bl)
  Cb.nil)
  Cb.nil)
  Cb.nil)))))))
  (Cb.cons (CS.ret CE.bl)
  Cb.nil))) ?_
  exact v_law
end
theorem all_mk {l : PySem.W.OpenLaw} {w : World} {K : PySem.W.Frag} {h : Heap} {mg : Str → Option Value} {fa : Addr} (X : K.In h) (G : h.Ns mainGlobals mg) (hfa : mg "law" = some (.ref fa))
    {t_MOST_ACTIONS : Tok}
    {g_DOORS : Addr} {gi_DOORS : Array Value} {gn_DOORS : Nat} {gs_DOORS : Array (Option Value)}
    {g_ACTIONS : Addr} {gi_ACTIONS : Array Value} {gn_ACTIONS : Nat} {gs_ACTIONS : Array (Option Value)}
    {C_Book : Addr}
    {C_NoRule : Addr}
    {f_NoRule_init : Addr} {od_NoRule_init an_NoRule_init : Option Addr} {sl_NoRule_init : Array (Option Value)} {oc_NoRule_init kV_NoRule_init dc_NoRule_init pm_NoRule_init cd_NoRule_init ct_NoRule_init : Value}
    {C_NoDoor : Addr}
    {f_NoDoor_init : Addr} {od_NoDoor_init an_NoDoor_init : Option Addr} {sl_NoDoor_init : Array (Option Value)} {oc_NoDoor_init kV_NoDoor_init dc_NoDoor_init pm_NoDoor_init cd_NoDoor_init ct_NoDoor_init : Value}
    {f_is_door : Addr} {od_is_door an_is_door : Option Addr} {sl_is_door : Array (Option Value)} {oc_is_door kV_is_door dc_is_door pm_is_door cd_is_door ct_is_door : Value}
    {f_is_rule : Addr} {od_is_rule an_is_rule : Option Addr} {sl_is_rule : Array (Option Value)} {oc_is_rule kV_is_rule dc_is_rule pm_is_rule cd_is_rule ct_is_rule : Value}
    {f_Book_init : Addr} {od_Book_init an_Book_init : Option Addr} {sl_Book_init : Array (Option Value)} {oc_Book_init kV_Book_init dc_Book_init pm_Book_init cd_Book_init ct_Book_init : Value}
    {T_Book_init : Addr}
    {oT_Book_init : Value} {dT_Book_init : Option Addr} {iT_Book_init : Array Value} {nT_Book_init : Nat} {sT_Book_init : Array (Option Value)} {e_Book_init0 : Addr} {e_Book_init1 : Addr} {e_Book_init2 : Addr} {e_Book_init3 : Addr} {e_Book_init4 : Addr} {e_Book_init5 : Addr}
    {d_Book_init0 : Option Addr} {n_Book_init0 : Nat} {s_Book_init0 : Array (Option Value)}
    {d_Book_init1 : Option Addr} {n_Book_init1 : Nat} {s_Book_init1 : Array (Option Value)}
    {d_Book_init2 : Option Addr} {n_Book_init2 : Nat} {s_Book_init2 : Array (Option Value)}
    {d_Book_init3 : Option Addr} {n_Book_init3 : Nat} {s_Book_init3 : Array (Option Value)}
    {d_Book_init4 : Option Addr} {n_Book_init4 : Nat} {s_Book_init4 : Array (Option Value)}
    {d_Book_init5 : Option Addr} {n_Book_init5 : Nat} {s_Book_init5 : Array (Option Value)}
    {f_Book_rule : Addr} {od_Book_rule an_Book_rule : Option Addr} {sl_Book_rule : Array (Option Value)} {oc_Book_rule kV_Book_rule dc_Book_rule pm_Book_rule cd_Book_rule ct_Book_rule : Value}
    {f__law_well : Addr} {od__law_well an__law_well : Option Addr} {sl__law_well : Array (Option Value)} {oc__law_well kV__law_well dc__law_well pm__law_well cd__law_well ct__law_well : Value}
    {f__law_draw : Addr} {od__law_draw an__law_draw : Option Addr} {sl__law_draw : Array (Option Value)} {oc__law_draw kV__law_draw dc__law_draw pm__law_draw cd__law_draw ct__law_draw : Value}
    {f__law_rule : Addr} {od__law_rule an__law_rule : Option Addr} {sl__law_rule : Array (Option Value)} {oc__law_rule kV__law_rule dc__law_rule pm__law_rule cd__law_rule ct__law_rule : Value}
    {f__law_rules : Addr} {od__law_rules an__law_rules : Option Addr} {sl__law_rules : Array (Option Value)} {oc__law_rules kV__law_rules dc__law_rules pm__law_rules cd__law_rules ct__law_rules : Value}
    {f__law_line : Addr} {od__law_line an__law_line : Option Addr} {sl__law_line : Array (Option Value)} {oc__law_line kV__law_line dc__law_line pm__law_line cd__law_line ct__law_line : Value}
    {f__law_book_text : Addr} {od__law_book_text an__law_book_text : Option Addr} {sl__law_book_text : Array (Option Value)} {oc__law_book_text kV__law_book_text dc__law_book_text pm__law_book_text cd__law_book_text ct__law_book_text : Value}
    {f_Book_rules : Addr} {od_Book_rules an_Book_rules : Option Addr} {sl_Book_rules : Array (Option Value)} {oc_Book_rules kV_Book_rules dc_Book_rules pm_Book_rules cd_Book_rules ct_Book_rules : Value}
    {f__law_same : Addr} {od__law_same an__law_same : Option Addr} {sl__law_same : Array (Option Value)} {oc__law_same kV__law_same dc__law_same pm__law_same cd__law_same ct__law_same : Value}
    {f_read_rule : Addr} {od_read_rule an_read_rule : Option Addr} {sl_read_rule : Array (Option Value)} {oc_read_rule kV_read_rule dc_read_rule pm_read_rule cd_read_rule ct_read_rule : Value}
    {f_read_book : Addr} {od_read_book an_read_book : Option Addr} {sl_read_book : Array (Option Value)} {oc_read_book kV_read_book dc_read_book pm_read_book cd_read_book ct_read_book : Value}
    {f__law_whole : Addr} {od__law_whole an__law_whole : Option Addr} {sl__law_whole : Array (Option Value)} {oc__law_whole kV__law_whole dc__law_whole pm__law_whole cd__law_whole ct__law_whole : Value}
    {f__law_edit : Addr} {od__law_edit an__law_edit : Option Addr} {sl__law_edit : Array (Option Value)} {oc__law_edit kV__law_edit dc__law_edit pm__law_edit cd__law_edit ct__law_edit : Value}
    {f__law_lines_spoilt : Addr} {od__law_lines_spoilt an__law_lines_spoilt : Option Addr} {sl__law_lines_spoilt : Array (Option Value)} {oc__law_lines_spoilt kV__law_lines_spoilt dc__law_lines_spoilt pm__law_lines_spoilt cd__law_lines_spoilt ct__law_lines_spoilt : Value}
    {f__law_due : Addr} {od__law_due an__law_due : Option Addr} {sl__law_due : Array (Option Value)} {oc__law_due kV__law_due dc__law_due pm__law_due cd__law_due ct__law_due : Value}
    {f__law_spoilt : Addr} {od__law_spoilt an__law_spoilt : Option Addr} {sl__law_spoilt : Array (Option Value)} {oc__law_spoilt kV__law_spoilt dc__law_spoilt pm__law_spoilt cd__law_spoilt ct__law_spoilt : Value}
    {f__law_tried : Addr} {od__law_tried an__law_tried : Option Addr} {sl__law_tried : Array (Option Value)} {oc__law_tried kV__law_tried dc__law_tried pm__law_tried cd__law_tried ct__law_tried : Value}
    {f__law_classes : Addr} {od__law_classes an__law_classes : Option Addr} {sl__law_classes : Array (Option Value)} {oc__law_classes kV__law_classes dc__law_classes pm__law_classes cd__law_classes ct__law_classes : Value}
    {f__law_right : Addr} {od__law_right an__law_right : Option Addr} {sl__law_right : Array (Option Value)} {oc__law_right kV__law_right dc__law_right pm__law_right cd__law_right ct__law_right : Value}
    {f_law : Addr} {od_law an_law : Option Addr} {sl_law : Array (Option Value)} {oc_law kV_law dc_law pm_law cd_law ct_law : Value}
    {C_NoText : Addr}
    {f_NoText_init : Addr} {od_NoText_init an_NoText_init : Option Addr} {sl_NoText_init : Array (Option Value)} {oc_NoText_init kV_NoText_init dc_NoText_init pm_NoText_init cd_NoText_init ct_NoText_init : Value}
    {C_ShownError : Addr}
    (z_ValueError : PySem.W.nsIn K mainGlobals "ValueError" = some none)
    (z_all : PySem.W.nsIn K mainGlobals "all" = some none)
    (z_bool : PySem.W.nsIn K mainGlobals "bool" = some none)
    (z_enumerate : PySem.W.nsIn K mainGlobals "enumerate" = some none)
    (z_int : PySem.W.nsIn K mainGlobals "int" = some none)
    (z_isinstance : PySem.W.nsIn K mainGlobals "isinstance" = some none)
    (z_len : PySem.W.nsIn K mainGlobals "len" = some none)
    (z_list : PySem.W.nsIn K mainGlobals "list" = some none)
    (z_max : PySem.W.nsIn K mainGlobals "max" = some none)
    (z_min : PySem.W.nsIn K mainGlobals "min" = some none)
    (z_range : PySem.W.nsIn K mainGlobals "range" = some none)
    (z_str : PySem.W.nsIn K mainGlobals "str" = some none)
    (z_tuple : PySem.W.nsIn K mainGlobals "tuple" = some none)
    (z_zip : PySem.W.nsIn K mainGlobals "zip" = some none)
    (g_MOST_ACTIONS : PySem.W.nsIn K mainGlobals "MOST_ACTIONS" = some (some (.int 6 t_MOST_ACTIONS)))
    (ag_DOORS : PySem.W.nsIn K mainGlobals "DOORS" = some (some (.ref g_DOORS)))
    (lg_DOORS : K.lookup g_DOORS = some ⟨.type "tuple", none, .seq gi_DOORS gn_DOORS, gs_DOORS⟩)
    (vg_DOORS : Vals (doors.map V.str) gi_DOORS.toList)
    (sg_DOORS : gi_DOORS.size ≤ sizeLine)
    (ag_ACTIONS : PySem.W.nsIn K mainGlobals "ACTIONS" = some (some (.ref g_ACTIONS)))
    (lg_ACTIONS : K.lookup g_ACTIONS = some ⟨.type "tuple", none, .seq gi_ACTIONS gn_ACTIONS, gs_ACTIONS⟩)
    (vg_ACTIONS : Vals (acts.map V.str) gi_ACTIONS.toList)
    (sg_ACTIONS : gi_ACTIONS.size ≤ sizeLine)
    (aC_Book : PySem.W.nsIn K mainGlobals "Book" = some (some (.ref C_Book)))
    (pg_Book : PySem.W.plainGet K C_Book Str.empty = true)
    (hd_Book : PySem.W.hasDictIn K C_Book = true)
    (po_Book : PySem.W.plainOver K C_Book = true)
    (sa_Book : PySem.W.findIn K (.ref C_Book) "__setattr__" = some (some (.builtin "object.__setattr__")))
    (mk_Book : PySem.W.makesIn K C_Book = true)
    (kc_Book : PySem.W.keepIn K (.ref C_Book) = true)
    (na_Book_row : PySem.W.findIn K (.ref C_Book) "row" = some none)
    (aC_NoRule : PySem.W.nsIn K mainGlobals "NoRule" = some (some (.ref C_NoRule)))
    (xl_NoRule : ∃ nm q N bs bm sn sub ab col dd k0 k1 k2 k3 k5, K.lookup C_NoRule = some (excClassObj nm q C_NoRule N bs bm true sn sub ab col dd k0 k1 k2 k3 k5 "ValueError.__new__") ∧ PySem.HandSPX.refsVE bm = true)
    (xa_NoRule : PySem.W.findIn K (.ref C_NoRule) "__setattr__" = some (some (.builtin "object.__setattr__")))
    (xe_NoRule : PySem.W.subIn K (.ref C_NoRule) (.type "BaseException") = some true)
    (xt_NoRule : PySem.W.typeIn K (.ref C_NoRule) = some (.type "type"))
    (xk_NoRule : PySem.W.keepIn K (.ref C_NoRule) = true)
    (xn_NoRule : PySem.W.findIn K (.ref C_NoRule) "door" = some none)
    (a_NoRule_init : PySem.W.findIn K (.ref C_NoRule) "__init__" = some (some (.ref f_NoRule_init)))
    (l_NoRule_init : K.lookup f_NoRule_init = some ⟨oc_NoRule_init, od_NoRule_init, .func (PySem.W.fnOf "__init__" "NoRule.__init__" (defArgs s_NoRule_init) (defBody s_NoRule_init) (defScope s_NoRule_init) .none kV_NoRule_init dc_NoRule_init pm_NoRule_init an_NoRule_init cd_NoRule_init ct_NoRule_init), sl_NoRule_init⟩)
    (c_NoRule_init : PySem.W.codeIn K cd_NoRule_init "NoRule.__init__" = true)
    (k_NoRule_init : PySem.W.keepIn K (.ref f_NoRule_init) = true)
    (ti_NoRule_init : PySem.W.typeIn K (.ref f_NoRule_init) = some (.type "function"))
    (aC_NoDoor : PySem.W.nsIn K mainGlobals "NoDoor" = some (some (.ref C_NoDoor)))
    (xl_NoDoor : ∃ nm q N bs bm sn sub ab col dd k0 k1 k2 k3 k5, K.lookup C_NoDoor = some (excClassObj nm q C_NoDoor N bs bm true sn sub ab col dd k0 k1 k2 k3 k5 "ValueError.__new__") ∧ PySem.HandSPX.refsVE bm = true)
    (xa_NoDoor : PySem.W.findIn K (.ref C_NoDoor) "__setattr__" = some (some (.builtin "object.__setattr__")))
    (xe_NoDoor : PySem.W.subIn K (.ref C_NoDoor) (.type "BaseException") = some true)
    (xt_NoDoor : PySem.W.typeIn K (.ref C_NoDoor) = some (.type "type"))
    (xk_NoDoor : PySem.W.keepIn K (.ref C_NoDoor) = true)
    (xn_NoDoor : PySem.W.findIn K (.ref C_NoDoor) "door" = some none)
    (a_NoDoor_init : PySem.W.findIn K (.ref C_NoDoor) "__init__" = some (some (.ref f_NoDoor_init)))
    (l_NoDoor_init : K.lookup f_NoDoor_init = some ⟨oc_NoDoor_init, od_NoDoor_init, .func (PySem.W.fnOf "__init__" "NoDoor.__init__" (defArgs s_NoDoor_init) (defBody s_NoDoor_init) (defScope s_NoDoor_init) .none kV_NoDoor_init dc_NoDoor_init pm_NoDoor_init an_NoDoor_init cd_NoDoor_init ct_NoDoor_init), sl_NoDoor_init⟩)
    (c_NoDoor_init : PySem.W.codeIn K cd_NoDoor_init "NoDoor.__init__" = true)
    (k_NoDoor_init : PySem.W.keepIn K (.ref f_NoDoor_init) = true)
    (ti_NoDoor_init : PySem.W.typeIn K (.ref f_NoDoor_init) = some (.type "function"))
    (a_is_door : PySem.W.nsIn K mainGlobals "is_door" = some (some (.ref f_is_door)))
    (l_is_door : K.lookup f_is_door = some ⟨oc_is_door, od_is_door, .func (PySem.W.fnOf "is_door" "is_door" (defArgs s_is_door) (defBody s_is_door) (defScope s_is_door) .none kV_is_door dc_is_door pm_is_door an_is_door cd_is_door ct_is_door), sl_is_door⟩)
    (c_is_door : PySem.W.codeIn K cd_is_door "is_door" = true)
    (k_is_door : PySem.W.keepIn K (.ref f_is_door) = true)
    (a_is_rule : PySem.W.nsIn K mainGlobals "is_rule" = some (some (.ref f_is_rule)))
    (l_is_rule : K.lookup f_is_rule = some ⟨oc_is_rule, od_is_rule, .func (PySem.W.fnOf "is_rule" "is_rule" (defArgs s_is_rule) (defBody s_is_rule) (defScope s_is_rule) .none kV_is_rule dc_is_rule pm_is_rule an_is_rule cd_is_rule ct_is_rule), sl_is_rule⟩)
    (c_is_rule : PySem.W.codeIn K cd_is_rule "is_rule" = true)
    (k_is_rule : PySem.W.keepIn K (.ref f_is_rule) = true)
    (a_Book_init : PySem.W.findIn K (.ref C_Book) "__init__" = some (some (.ref f_Book_init)))
    (i_Book_init : PySem.W.isFn K (.ref f_Book_init) = true)
    (l_Book_init : K.lookup f_Book_init = some ⟨oc_Book_init, od_Book_init, .func (PySem.W.fnOf "__init__" "Book.__init__" (defArgs s_Book_init) (defBody s_Book_init) (defScope s_Book_init) (.ref T_Book_init) kV_Book_init dc_Book_init pm_Book_init an_Book_init cd_Book_init ct_Book_init), sl_Book_init⟩)
    (c_Book_init : PySem.W.codeIn K cd_Book_init "Book.__init__" = true)
    (k_Book_init : PySem.W.keepIn K (.ref f_Book_init) = true)
    (lT_Book_init : K.lookup T_Book_init = some ⟨oT_Book_init, dT_Book_init, .seq iT_Book_init nT_Book_init, sT_Book_init⟩)
    (vT_Book_init : Vals [V.ref e_Book_init0, V.ref e_Book_init1, V.ref e_Book_init2, V.ref e_Book_init3, V.ref e_Book_init4, V.ref e_Book_init5] iT_Book_init.toList)
    (e_Book_initl0 : K.lookup e_Book_init0 = some ⟨.type "tuple", d_Book_init0, .seq #[] n_Book_init0, s_Book_init0⟩)
    (e_Book_initl1 : K.lookup e_Book_init1 = some ⟨.type "tuple", d_Book_init1, .seq #[] n_Book_init1, s_Book_init1⟩)
    (e_Book_initl2 : K.lookup e_Book_init2 = some ⟨.type "tuple", d_Book_init2, .seq #[] n_Book_init2, s_Book_init2⟩)
    (e_Book_initl3 : K.lookup e_Book_init3 = some ⟨.type "tuple", d_Book_init3, .seq #[] n_Book_init3, s_Book_init3⟩)
    (e_Book_initl4 : K.lookup e_Book_init4 = some ⟨.type "tuple", d_Book_init4, .seq #[] n_Book_init4, s_Book_init4⟩)
    (e_Book_initl5 : K.lookup e_Book_init5 = some ⟨.type "tuple", d_Book_init5, .seq #[] n_Book_init5, s_Book_init5⟩)
    (a_Book_rule : PySem.W.findIn K (.ref C_Book) "rule" = some (some (.ref f_Book_rule)))
    (i_Book_rule : PySem.W.isFn K (.ref f_Book_rule) = true)
    (l_Book_rule : K.lookup f_Book_rule = some ⟨oc_Book_rule, od_Book_rule, .func (PySem.W.fnOf "rule" "Book.rule" (defArgs s_Book_rule) (defBody s_Book_rule) (defScope s_Book_rule) .none kV_Book_rule dc_Book_rule pm_Book_rule an_Book_rule cd_Book_rule ct_Book_rule), sl_Book_rule⟩)
    (c_Book_rule : PySem.W.codeIn K cd_Book_rule "Book.rule" = true)
    (k_Book_rule : PySem.W.keepIn K (.ref f_Book_rule) = true)
    (a__law_well : PySem.W.nsIn K mainGlobals "_law_well" = some (some (.ref f__law_well)))
    (l__law_well : K.lookup f__law_well = some ⟨oc__law_well, od__law_well, .func (PySem.W.fnOf "_law_well" "_law_well" (defArgs s__law_well) (defBody s__law_well) (defScope s__law_well) .none kV__law_well dc__law_well pm__law_well an__law_well cd__law_well ct__law_well), sl__law_well⟩)
    (c__law_well : PySem.W.codeIn K cd__law_well "_law_well" = true)
    (k__law_well : PySem.W.keepIn K (.ref f__law_well) = true)
    (a__law_draw : PySem.W.nsIn K mainGlobals "_law_draw" = some (some (.ref f__law_draw)))
    (l__law_draw : K.lookup f__law_draw = some ⟨oc__law_draw, od__law_draw, .func (PySem.W.fnOf "_law_draw" "_law_draw" (defArgs s__law_draw) (defBody s__law_draw) (defScope s__law_draw) .none kV__law_draw dc__law_draw pm__law_draw an__law_draw cd__law_draw ct__law_draw), sl__law_draw⟩)
    (c__law_draw : PySem.W.codeIn K cd__law_draw "_law_draw" = true)
    (k__law_draw : PySem.W.keepIn K (.ref f__law_draw) = true)
    (a__law_rule : PySem.W.nsIn K mainGlobals "_law_rule" = some (some (.ref f__law_rule)))
    (l__law_rule : K.lookup f__law_rule = some ⟨oc__law_rule, od__law_rule, .func (PySem.W.fnOf "_law_rule" "_law_rule" (defArgs s__law_rule) (defBody s__law_rule) (defScope s__law_rule) .none kV__law_rule dc__law_rule pm__law_rule an__law_rule cd__law_rule ct__law_rule), sl__law_rule⟩)
    (c__law_rule : PySem.W.codeIn K cd__law_rule "_law_rule" = true)
    (k__law_rule : PySem.W.keepIn K (.ref f__law_rule) = true)
    (a__law_rules : PySem.W.nsIn K mainGlobals "_law_rules" = some (some (.ref f__law_rules)))
    (l__law_rules : K.lookup f__law_rules = some ⟨oc__law_rules, od__law_rules, .func (PySem.W.fnOf "_law_rules" "_law_rules" (defArgs s__law_rules) (defBody s__law_rules) (defScope s__law_rules) .none kV__law_rules dc__law_rules pm__law_rules an__law_rules cd__law_rules ct__law_rules), sl__law_rules⟩)
    (c__law_rules : PySem.W.codeIn K cd__law_rules "_law_rules" = true)
    (k__law_rules : PySem.W.keepIn K (.ref f__law_rules) = true)
    (a__law_line : PySem.W.nsIn K mainGlobals "_law_line" = some (some (.ref f__law_line)))
    (l__law_line : K.lookup f__law_line = some ⟨oc__law_line, od__law_line, .func (PySem.W.fnOf "_law_line" "_law_line" (defArgs s__law_line) (defBody s__law_line) (defScope s__law_line) .none kV__law_line dc__law_line pm__law_line an__law_line cd__law_line ct__law_line), sl__law_line⟩)
    (c__law_line : PySem.W.codeIn K cd__law_line "_law_line" = true)
    (k__law_line : PySem.W.keepIn K (.ref f__law_line) = true)
    (a__law_book_text : PySem.W.nsIn K mainGlobals "_law_book_text" = some (some (.ref f__law_book_text)))
    (l__law_book_text : K.lookup f__law_book_text = some ⟨oc__law_book_text, od__law_book_text, .func (PySem.W.fnOf "_law_book_text" "_law_book_text" (defArgs s__law_book_text) (defBody s__law_book_text) (defScope s__law_book_text) .none kV__law_book_text dc__law_book_text pm__law_book_text an__law_book_text cd__law_book_text ct__law_book_text), sl__law_book_text⟩)
    (c__law_book_text : PySem.W.codeIn K cd__law_book_text "_law_book_text" = true)
    (k__law_book_text : PySem.W.keepIn K (.ref f__law_book_text) = true)
    (a_Book_rules : PySem.W.findIn K (.ref C_Book) "rules" = some (some (.ref f_Book_rules)))
    (i_Book_rules : PySem.W.isFn K (.ref f_Book_rules) = true)
    (l_Book_rules : K.lookup f_Book_rules = some ⟨oc_Book_rules, od_Book_rules, .func (PySem.W.fnOf "rules" "Book.rules" (defArgs s_Book_rules) (defBody s_Book_rules) (defScope s_Book_rules) .none kV_Book_rules dc_Book_rules pm_Book_rules an_Book_rules cd_Book_rules ct_Book_rules), sl_Book_rules⟩)
    (c_Book_rules : PySem.W.codeIn K cd_Book_rules "Book.rules" = true)
    (k_Book_rules : PySem.W.keepIn K (.ref f_Book_rules) = true)
    (a__law_same : PySem.W.nsIn K mainGlobals "_law_same" = some (some (.ref f__law_same)))
    (l__law_same : K.lookup f__law_same = some ⟨oc__law_same, od__law_same, .func (PySem.W.fnOf "_law_same" "_law_same" (defArgs s__law_same) (defBody s__law_same) (defScope s__law_same) .none kV__law_same dc__law_same pm__law_same an__law_same cd__law_same ct__law_same), sl__law_same⟩)
    (c__law_same : PySem.W.codeIn K cd__law_same "_law_same" = true)
    (k__law_same : PySem.W.keepIn K (.ref f__law_same) = true)
    (a_read_rule : PySem.W.nsIn K mainGlobals "read_rule" = some (some (.ref f_read_rule)))
    (l_read_rule : K.lookup f_read_rule = some ⟨oc_read_rule, od_read_rule, .func (PySem.W.fnOf "read_rule" "read_rule" (defArgs s_read_rule) (defBody s_read_rule) (defScope s_read_rule) .none kV_read_rule dc_read_rule pm_read_rule an_read_rule cd_read_rule ct_read_rule), sl_read_rule⟩)
    (c_read_rule : PySem.W.codeIn K cd_read_rule "read_rule" = true)
    (k_read_rule : PySem.W.keepIn K (.ref f_read_rule) = true)
    (a_read_book : PySem.W.nsIn K mainGlobals "read_book" = some (some (.ref f_read_book)))
    (l_read_book : K.lookup f_read_book = some ⟨oc_read_book, od_read_book, .func (PySem.W.fnOf "read_book" "read_book" (defArgs s_read_book) (defBody s_read_book) (defScope s_read_book) .none kV_read_book dc_read_book pm_read_book an_read_book cd_read_book ct_read_book), sl_read_book⟩)
    (c_read_book : PySem.W.codeIn K cd_read_book "read_book" = true)
    (k_read_book : PySem.W.keepIn K (.ref f_read_book) = true)
    (a__law_whole : PySem.W.nsIn K mainGlobals "_law_whole" = some (some (.ref f__law_whole)))
    (l__law_whole : K.lookup f__law_whole = some ⟨oc__law_whole, od__law_whole, .func (PySem.W.fnOf "_law_whole" "_law_whole" (defArgs s__law_whole) (defBody s__law_whole) (defScope s__law_whole) .none kV__law_whole dc__law_whole pm__law_whole an__law_whole cd__law_whole ct__law_whole), sl__law_whole⟩)
    (c__law_whole : PySem.W.codeIn K cd__law_whole "_law_whole" = true)
    (k__law_whole : PySem.W.keepIn K (.ref f__law_whole) = true)
    (a__law_edit : PySem.W.nsIn K mainGlobals "_law_edit" = some (some (.ref f__law_edit)))
    (l__law_edit : K.lookup f__law_edit = some ⟨oc__law_edit, od__law_edit, .func (PySem.W.fnOf "_law_edit" "_law_edit" (defArgs s__law_edit) (defBody s__law_edit) (defScope s__law_edit) .none kV__law_edit dc__law_edit pm__law_edit an__law_edit cd__law_edit ct__law_edit), sl__law_edit⟩)
    (c__law_edit : PySem.W.codeIn K cd__law_edit "_law_edit" = true)
    (k__law_edit : PySem.W.keepIn K (.ref f__law_edit) = true)
    (a__law_lines_spoilt : PySem.W.nsIn K mainGlobals "_law_lines_spoilt" = some (some (.ref f__law_lines_spoilt)))
    (l__law_lines_spoilt : K.lookup f__law_lines_spoilt = some ⟨oc__law_lines_spoilt, od__law_lines_spoilt, .func (PySem.W.fnOf "_law_lines_spoilt" "_law_lines_spoilt" (defArgs s__law_lines_spoilt) (defBody s__law_lines_spoilt) (defScope s__law_lines_spoilt) .none kV__law_lines_spoilt dc__law_lines_spoilt pm__law_lines_spoilt an__law_lines_spoilt cd__law_lines_spoilt ct__law_lines_spoilt), sl__law_lines_spoilt⟩)
    (c__law_lines_spoilt : PySem.W.codeIn K cd__law_lines_spoilt "_law_lines_spoilt" = true)
    (k__law_lines_spoilt : PySem.W.keepIn K (.ref f__law_lines_spoilt) = true)
    (a__law_due : PySem.W.nsIn K mainGlobals "_law_due" = some (some (.ref f__law_due)))
    (l__law_due : K.lookup f__law_due = some ⟨oc__law_due, od__law_due, .func (PySem.W.fnOf "_law_due" "_law_due" (defArgs s__law_due) (defBody s__law_due) (defScope s__law_due) .none kV__law_due dc__law_due pm__law_due an__law_due cd__law_due ct__law_due), sl__law_due⟩)
    (c__law_due : PySem.W.codeIn K cd__law_due "_law_due" = true)
    (k__law_due : PySem.W.keepIn K (.ref f__law_due) = true)
    (a__law_spoilt : PySem.W.nsIn K mainGlobals "_law_spoilt" = some (some (.ref f__law_spoilt)))
    (l__law_spoilt : K.lookup f__law_spoilt = some ⟨oc__law_spoilt, od__law_spoilt, .func (PySem.W.fnOf "_law_spoilt" "_law_spoilt" (defArgs s__law_spoilt) (defBody s__law_spoilt) (defScope s__law_spoilt) .none kV__law_spoilt dc__law_spoilt pm__law_spoilt an__law_spoilt cd__law_spoilt ct__law_spoilt), sl__law_spoilt⟩)
    (c__law_spoilt : PySem.W.codeIn K cd__law_spoilt "_law_spoilt" = true)
    (k__law_spoilt : PySem.W.keepIn K (.ref f__law_spoilt) = true)
    (a__law_tried : PySem.W.nsIn K mainGlobals "_law_tried" = some (some (.ref f__law_tried)))
    (l__law_tried : K.lookup f__law_tried = some ⟨oc__law_tried, od__law_tried, .func (PySem.W.fnOf "_law_tried" "_law_tried" (defArgs s__law_tried) (defBody s__law_tried) (defScope s__law_tried) .none kV__law_tried dc__law_tried pm__law_tried an__law_tried cd__law_tried ct__law_tried), sl__law_tried⟩)
    (c__law_tried : PySem.W.codeIn K cd__law_tried "_law_tried" = true)
    (k__law_tried : PySem.W.keepIn K (.ref f__law_tried) = true)
    (a__law_classes : PySem.W.nsIn K mainGlobals "_law_classes" = some (some (.ref f__law_classes)))
    (l__law_classes : K.lookup f__law_classes = some ⟨oc__law_classes, od__law_classes, .func (PySem.W.fnOf "_law_classes" "_law_classes" (defArgs s__law_classes) (defBody s__law_classes) (defScope s__law_classes) .none kV__law_classes dc__law_classes pm__law_classes an__law_classes cd__law_classes ct__law_classes), sl__law_classes⟩)
    (c__law_classes : PySem.W.codeIn K cd__law_classes "_law_classes" = true)
    (k__law_classes : PySem.W.keepIn K (.ref f__law_classes) = true)
    (a__law_right : PySem.W.nsIn K mainGlobals "_law_right" = some (some (.ref f__law_right)))
    (l__law_right : K.lookup f__law_right = some ⟨oc__law_right, od__law_right, .func (PySem.W.fnOf "_law_right" "_law_right" (defArgs s__law_right) (defBody s__law_right) (defScope s__law_right) .none kV__law_right dc__law_right pm__law_right an__law_right cd__law_right ct__law_right), sl__law_right⟩)
    (c__law_right : PySem.W.codeIn K cd__law_right "_law_right" = true)
    (k__law_right : PySem.W.keepIn K (.ref f__law_right) = true)
    (a_law : PySem.W.nsIn K mainGlobals "law" = some (some (.ref f_law)))
    (l_law : K.lookup f_law = some ⟨oc_law, od_law, .func (PySem.W.fnOf "law" "law" (defArgs s_law) (defBody s_law) (defScope s_law) .none kV_law dc_law pm_law an_law cd_law ct_law), sl_law⟩)
    (c_law : PySem.W.codeIn K cd_law "law" = true)
    (k_law : PySem.W.keepIn K (.ref f_law) = true)
    (jh_Book : PySem.W.findIn K (.ref C_Book) "__class__" = some (some (.builtin "object.__class__")))
    (jm_Book : PySem.W.mroIn K C_Book (.type "object") = some true)
    (jn : PySem.W.specialIn K (.builtin "object.__class__") "__get__" = some (some (.builtin "getset_descriptor.__get__")))
    (jt : PySem.W.takesIn K (.builtin "object.__class__") = some true)
    (aC_NoText : PySem.W.nsIn K mainGlobals "NoText" = some (some (.ref C_NoText)))
    (xl_NoText : ∃ nm q N bs bm sn sub ab col dd k0 k1 k2 k3 k5, K.lookup C_NoText = some (excClassObj nm q C_NoText N bs bm true sn sub ab col dd k0 k1 k2 k3 k5 "ValueError.__new__") ∧ PySem.HandSPX.refsVE bm = true)
    (xa_NoText : PySem.W.findIn K (.ref C_NoText) "__setattr__" = some (some (.builtin "object.__setattr__")))
    (xe_NoText : PySem.W.subIn K (.ref C_NoText) (.type "BaseException") = some true)
    (xt_NoText : PySem.W.typeIn K (.ref C_NoText) = some (.type "type"))
    (xk_NoText : PySem.W.keepIn K (.ref C_NoText) = true)
    (xn_NoText : PySem.W.findIn K (.ref C_NoText) "line" = some none)
    (a_NoText_init : PySem.W.findIn K (.ref C_NoText) "__init__" = some (some (.ref f_NoText_init)))
    (l_NoText_init : K.lookup f_NoText_init = some ⟨oc_NoText_init, od_NoText_init, .func (PySem.W.fnOf "__init__" "NoText.__init__" (defArgs s_NoText_init) (defBody s_NoText_init) (defScope s_NoText_init) .none kV_NoText_init dc_NoText_init pm_NoText_init an_NoText_init cd_NoText_init ct_NoText_init), sl_NoText_init⟩)
    (c_NoText_init : PySem.W.codeIn K cd_NoText_init "NoText.__init__" = true)
    (k_NoText_init : PySem.W.keepIn K (.ref f_NoText_init) = true)
    (ti_NoText_init : PySem.W.typeIn K (.ref f_NoText_init) = some (.type "function"))
    (x1_NoText : PySem.W.findIn K (.ref C_NoText) "__getattribute__" = some (some (.builtin "BaseException.__getattribute__")))
    (x2_NoText : PySem.W.findIn K (.ref C_NoText) "__getattr__" = some none)
    (x3_NoText : PySem.W.subIn K (.ref C_NoText) (.type "BaseException") = some true)
    (x4_NoText : PySem.W.hasDictIn K C_NoText = true)
    (x5_NoText : PySem.W.findIn K (.ref C_NoText) "__class__" = some (some (.builtin "object.__class__")))
    (x6_NoText : PySem.W.mroIn K C_NoText (.type "object") = some true)
    (x7_NoText : PySem.W.typeIn K (.ref C_NoText) = some (.type "type"))
    (aC_ShownError : PySem.W.nsIn K mainGlobals "ShownError" = some (some (.ref C_ShownError)))
    (x1_ShownError : PySem.W.findIn K (.ref C_ShownError) "__getattribute__" = some (some (.builtin "BaseException.__getattribute__")))
    (x2_ShownError : PySem.W.findIn K (.ref C_ShownError) "__getattr__" = some none)
    (x3_ShownError : PySem.W.subIn K (.ref C_ShownError) (.type "BaseException") = some true)
    (x4_ShownError : PySem.W.hasDictIn K C_ShownError = true)
    (x5_ShownError : PySem.W.findIn K (.ref C_ShownError) "__class__" = some (some (.builtin "object.__class__")))
    (x6_ShownError : PySem.W.mroIn K C_ShownError (.type "object") = some true)
    (x7_ShownError : PySem.W.typeIn K (.ref C_ShownError) = some (.type "type"))
    (x1_NoRule : PySem.W.findIn K (.ref C_NoRule) "__getattribute__" = some (some (.builtin "BaseException.__getattribute__")))
    (x2_NoRule : PySem.W.findIn K (.ref C_NoRule) "__getattr__" = some none)
    (x3_NoRule : PySem.W.subIn K (.ref C_NoRule) (.type "BaseException") = some true)
    (x4_NoRule : PySem.W.hasDictIn K C_NoRule = true)
    (x5_NoRule : PySem.W.findIn K (.ref C_NoRule) "__class__" = some (some (.builtin "object.__class__")))
    (x6_NoRule : PySem.W.mroIn K C_NoRule (.type "object") = some true)
    (x7_NoRule : PySem.W.typeIn K (.ref C_NoRule) = some (.type "type"))
    (s_NoText_NoText : PySem.W.subIn K (.ref C_NoText) (.ref C_NoText) = some true)
    (n_NoText_NoText : (true || C_NoText != C_NoText) = true)
    (s_NoText_ShownError : PySem.W.subIn K (.ref C_NoText) (.ref C_ShownError) = some true)
    (n_NoText_ShownError : (true || C_NoText != C_ShownError) = true)
    (s_NoText_NoRule : PySem.W.subIn K (.ref C_NoText) (.ref C_NoRule) = some false)
    (n_NoText_NoRule : (false || C_NoText != C_NoRule) = true)
    (s_NoText_ValueError : PySem.W.subIn K (.ref C_NoText) (.type "ValueError") = some true)
    : ∃ fd : FuncData, (∀ (s : Shared) (v : Value), BindsTo s fd ⟨[v], []⟩ [("script", v)]) ∧ ∀ base : Heap, K.In base → base.Ns mainGlobals mg → ∃ R : RSp, (∀ ns : List Int, ns.length ≤ 63 → R [.seq (ns.map D.int)] [] (fun d _ => d = .bl true) (fun _ _ _ => False)) ∧ FnOk l.prog w K mg base (L2.CX l.prog w) 8 fa fd ["script"] (spD K R) := by
  have e := hfa.symm.trans (PySem.W.mg_of X G a_law)
  cases e
  have T : Txt K mg := ⟨PySem.W.mg_none_of X G z_ValueError, PySem.W.mg_none_of X G z_all, PySem.W.mg_none_of X G z_bool, PySem.W.mg_none_of X G z_enumerate, PySem.W.mg_none_of X G z_int, PySem.W.mg_none_of X G z_isinstance, PySem.W.mg_none_of X G z_len, PySem.W.mg_none_of X G z_list, PySem.W.mg_none_of X G z_max, PySem.W.mg_none_of X G z_min, PySem.W.mg_none_of X G z_range, PySem.W.mg_none_of X G z_str, PySem.W.mg_none_of X G z_tuple, PySem.W.mg_none_of X G z_zip, ⟨_, .int 6, PySem.W.mg_of X G g_MOST_ACTIONS, ⟨_, rfl⟩, fun _ => rfl⟩, ⟨_, PySem.W.mg_of X G ag_DOORS, ⟨_, lg_DOORS, rfl, rfl⟩, fun H => .inr ⟨_, _, _, lg_DOORS, rfl, rfl, sg_DOORS, vg_DOORS⟩⟩, ⟨_, PySem.W.mg_of X G ag_ACTIONS, ⟨_, lg_ACTIONS, rfl, rfl⟩, fun H => .inr ⟨_, _, _, lg_ACTIONS, rfl, rfl, sg_ACTIONS, vg_ACTIONS⟩⟩⟩
  have cl_Book : Cls K C_Book := ⟨pg_Book, hd_Book, po_Book, sa_Book⟩
  have U_NoRule_init := fun_mk (st := s_NoRule_init) l_NoRule_init c_NoRule_init k_NoRule_init
  have X_NoRule : OexC K C_NoRule := ⟨xl_NoRule, xa_NoRule, xe_NoRule, xt_NoRule, xk_NoRule⟩
  have U_NoDoor_init := fun_mk (st := s_NoDoor_init) l_NoDoor_init c_NoDoor_init k_NoDoor_init
  have X_NoDoor : OexC K C_NoDoor := ⟨xl_NoDoor, xa_NoDoor, xe_NoDoor, xt_NoDoor, xk_NoDoor⟩
  have U_is_door := fun_mk (st := s_is_door) l_is_door c_is_door k_is_door
  have U_is_rule := fun_mk (st := s_is_rule) l_is_rule c_is_rule k_is_rule
  have U_Book_init : FunD K "__init__" "Book.__init__" (defArgs s_Book_init) (defBody s_Book_init) (defScope s_Book_init) [V.ref e_Book_init0, V.ref e_Book_init1, V.ref e_Book_init2, V.ref e_Book_init3, V.ref e_Book_init4, V.ref e_Book_init5] [] f_Book_init (PySem.W.fnOf "__init__" "Book.__init__" (defArgs s_Book_init) (defBody s_Book_init) (defScope s_Book_init) (.ref T_Book_init) kV_Book_init dc_Book_init pm_Book_init an_Book_init cd_Book_init ct_Book_init) := ⟨⟨_, _, _, _, _, _, _, _, _, _, rfl, l_Book_init, c_Book_init, .inr ⟨by simp, T_Book_init, _, iT_Book_init.toList, nT_Book_init, rfl, lT_Book_init, rfl, vT_Book_init⟩, .inl rfl⟩, k_Book_init⟩
  have D_Book_init : ∀ S, RepL K S [dR [], dR [], dR [], dR [], dR [], dR []] [V.ref e_Book_init0, V.ref e_Book_init1, V.ref e_Book_init2, V.ref e_Book_init3, V.ref e_Book_init4, V.ref e_Book_init5] := fun S => .cons ⟨e_Book_init0, [], rfl, .inr ⟨_, #[], _, e_Book_initl0, rfl, rfl, by decide, .nil⟩, RepL.nil⟩ (.cons ⟨e_Book_init1, [], rfl, .inr ⟨_, #[], _, e_Book_initl1, rfl, rfl, by decide, .nil⟩, RepL.nil⟩ (.cons ⟨e_Book_init2, [], rfl, .inr ⟨_, #[], _, e_Book_initl2, rfl, rfl, by decide, .nil⟩, RepL.nil⟩ (.cons ⟨e_Book_init3, [], rfl, .inr ⟨_, #[], _, e_Book_initl3, rfl, rfl, by decide, .nil⟩, RepL.nil⟩ (.cons ⟨e_Book_init4, [], rfl, .inr ⟨_, #[], _, e_Book_initl4, rfl, rfl, by decide, .nil⟩, RepL.nil⟩ (.cons ⟨e_Book_init5, [], rfl, .inr ⟨_, #[], _, e_Book_initl5, rfl, rfl, by decide, .nil⟩, RepL.nil⟩ (RepL.nil))))))
  have U_Book_rule := fun_mk (st := s_Book_rule) l_Book_rule c_Book_rule k_Book_rule
  have U__law_well := fun_mk (st := s__law_well) l__law_well c__law_well k__law_well
  have U__law_draw := fun_mk (st := s__law_draw) l__law_draw c__law_draw k__law_draw
  have U__law_rule := fun_mk (st := s__law_rule) l__law_rule c__law_rule k__law_rule
  have U__law_rules := fun_mk (st := s__law_rules) l__law_rules c__law_rules k__law_rules
  have U__law_line := fun_mk (st := s__law_line) l__law_line c__law_line k__law_line
  have U__law_book_text := fun_mk (st := s__law_book_text) l__law_book_text c__law_book_text k__law_book_text
  have U_Book_rules := fun_mk (st := s_Book_rules) l_Book_rules c_Book_rules k_Book_rules
  have U__law_same := fun_mk (st := s__law_same) l__law_same c__law_same k__law_same
  have U_read_rule := fun_mk (st := s_read_rule) l_read_rule c_read_rule k_read_rule
  have U_read_book := fun_mk (st := s_read_book) l_read_book c_read_book k_read_book
  have U__law_whole := fun_mk (st := s__law_whole) l__law_whole c__law_whole k__law_whole
  have U__law_edit := fun_mk (st := s__law_edit) l__law_edit c__law_edit k__law_edit
  have U__law_lines_spoilt := fun_mk (st := s__law_lines_spoilt) l__law_lines_spoilt c__law_lines_spoilt k__law_lines_spoilt
  have U__law_due := fun_mk (st := s__law_due) l__law_due c__law_due k__law_due
  have U__law_spoilt := fun_mk (st := s__law_spoilt) l__law_spoilt c__law_spoilt k__law_spoilt
  have U__law_tried := fun_mk (st := s__law_tried) l__law_tried c__law_tried k__law_tried
  have U__law_classes := fun_mk (st := s__law_classes) l__law_classes c__law_classes k__law_classes
  have U__law_right := fun_mk (st := s__law_right) l__law_right c__law_right k__law_right
  have U_law := fun_mk (st := s_law) l_law c_law k_law
  have IC_Book : IsC K C_Book := ⟨cl_Book, jh_Book, jn, jt, jm_Book⟩
  have U_NoText_init := fun_mk (st := s_NoText_init) l_NoText_init c_NoText_init k_NoText_init
  have X_NoText : OexC K C_NoText := ⟨xl_NoText, xa_NoText, xe_NoText, xt_NoText, xk_NoText⟩
  have N_NoText := xn_NoText
  have Y_NoText : XcOk K mg "NoText" C_NoText := ⟨PySem.W.mg_of X G aC_NoText, ⟨x1_NoText, x2_NoText, x3_NoText, x4_NoText, x5_NoText, jn, jt, x6_NoText⟩, x7_NoText⟩
  have Y_ShownError : XcOk K mg "ShownError" C_ShownError := ⟨PySem.W.mg_of X G aC_ShownError, ⟨x1_ShownError, x2_ShownError, x3_ShownError, x4_ShownError, x5_ShownError, jn, jt, x6_ShownError⟩, x7_ShownError⟩
  have Y_NoRule : XcOk K mg "NoRule" C_NoRule := ⟨PySem.W.mg_of X G aC_NoRule, ⟨x1_NoRule, x2_NoRule, x3_NoRule, x4_NoRule, x5_NoRule, jn, jt, x6_NoRule⟩, x7_NoRule⟩
  have M_NoText_NoText : MtC K C_NoText (.ref C_NoText) true := MtC.of Y_NoText s_NoText_NoText n_NoText_NoText
  have M_NoText_ShownError : MtC K C_NoText (.ref C_ShownError) true := MtC.of Y_ShownError s_NoText_ShownError n_NoText_ShownError
  have M_NoText_NoRule : MtC K C_NoText (.ref C_NoRule) false := MtC.of Y_NoRule s_NoText_NoRule n_NoText_NoRule
  have M_NoText_ValueError : PySem.W.kitOne K (.ref C_NoText) (.type "ValueError") = some true := kit_ty (by decide +kernel) s_NoText_ValueError
  refine ⟨PySem.W.fnOf "law" "law" (defArgs s_law) (defBody s_law) (defScope s_law) .none kV_law dc_law pm_law an_law cd_law ct_law, fun s v => .of_eq rfl, fun base _ _ => ⟨R_law, fun ns hl => ⟨ns, rfl, rfl, hl, fun _ => rfl⟩, ?_⟩⟩
  have F_NoRule : ExD l.prog w K mg base "NoRule" C_NoRule "door" := ⟨PySem.W.mg_of X G aC_NoRule, X_NoRule, xn_NoRule, _, _, a_NoRule_init, ti_NoRule_init, (U_NoRule_init.binds (ps := ["self", "door"]) fun _ _ _ _ _ _ us hl => match us, hl with | [_, _], _ => rfl), ex_init U_NoRule_init ⟨rfl, rfl, rfl, by decide +kernel, rfl, by decide +kernel, by decide +kernel⟩ X_NoRule xn_NoRule rfl rfl rfl (by decide) (by decide) (fun _ => rfl)⟩
  have F_NoDoor : ExD l.prog w K mg base "NoDoor" C_NoDoor "door" := ⟨PySem.W.mg_of X G aC_NoDoor, X_NoDoor, xn_NoDoor, _, _, a_NoDoor_init, ti_NoDoor_init, (U_NoDoor_init.binds (ps := ["self", "door"]) fun _ _ _ _ _ _ us hl => match us, hl with | [_, _], _ => rfl), ex_init U_NoDoor_init ⟨rfl, rfl, rfl, by decide +kernel, rfl, by decide +kernel, by decide +kernel⟩ X_NoDoor xn_NoDoor rfl rfl rfl (by decide) (by decide) (fun _ => rfl)⟩
  have F_NoText : ExD l.prog w K mg base "NoText" C_NoText "line" := ⟨PySem.W.mg_of X G aC_NoText, X_NoText, xn_NoText, _, _, a_NoText_init, ti_NoText_init, (U_NoText_init.binds (ps := ["self", "line"]) fun _ _ _ _ _ _ us hl => match us, hl with | [_, _], _ => rfl), ex_init U_NoText_init ⟨rfl, rfl, rfl, by decide +kernel, rfl, by decide +kernel, by decide +kernel⟩ X_NoText xn_NoText rfl rfl rfl (by decide) (by decide) (fun _ => rfl)⟩
  have F_is_door : FnD l.prog w K mg base 1 "is_door" [] R_is_door := ⟨_, _, _, [], [], PySem.W.mg_of X G a_is_door, k_is_door, (U_is_door.binds (ps := ["thing"]) fun _ _ _ _ _ _ us hl => match us, hl with | [_], _ => rfl), .nil, fun S => RepL.nil, ok_is_door  U_is_door T ⟩
  have F_is_rule : FnD l.prog w K mg base 1 "is_rule" [] R_is_rule := ⟨_, _, _, [], [], PySem.W.mg_of X G a_is_rule, k_is_rule, (U_is_rule.binds (ps := ["thing"]) fun _ _ _ _ _ _ us hl => match us, hl with | [_], _ => rfl), .nil, fun S => RepL.nil, ok_is_rule  U_is_rule T ⟩
  have M_Book : Mk K C_Book f_Book_init := ⟨mk_Book, a_Book_init, i_Book_init, kc_Book⟩
  have K_init := ok_Book_init (P := l.prog) (w := w) (mg := mg) (base := base) (CB := C_Book) (CR := C_NoRule) U_Book_init T F_is_rule cl_Book na_Book_row F_NoRule
  have B_F_Bp6 := U_Book_init.binds1 (ps := ["self", "put", "look", "alter", "back", "pay", "again"]) 7 6 (by simp) rfl fun _ _ _ _ _ _ _ us its h1 h2 => by
    match us, its, h1, h2 with
    | [_, _, _, _, _, _, _], [_, _, _, _, _, _], _, _ => exact ⟨_, rfl, rfl⟩
  obtain ⟨ds_F_Bp6, v_F_Bp6, BB_F_Bp6⟩ := B_F_Bp6
  have F_Bp6 : MkD l.prog w K mg base 3 C_Book "Book" [] (R_Book_init C_Book C_NoRule) := ⟨cl_Book, PySem.W.mg_of X G aC_Book, _, _, _, _, _, M_Book, BB_F_Bp6, v_F_Bp6, fun S => (D_Book_init S).drop 6, K_init⟩
  have F_Book_rule : MtD l.prog w K mg base 3 C_Book "rule" [] (R_Book_rule C_Book C_NoDoor) := ⟨cl_Book, _, _, _, [], [], ⟨a_Book_rule, i_Book_rule, k_Book_rule⟩, (U_Book_rule.binds (ps := ["self", "door"]) fun _ _ _ _ _ _ us hl => match us, hl with | [_, _], _ => rfl), .nil, fun S => RepL.nil, ok_Book_rule (CB := C_Book) (CD := C_NoDoor) U_Book_rule T F_is_door cl_Book na_Book_row F_NoDoor⟩
  have F__law_well : FnD l.prog w K mg base 1 "_law_well" [] R__law_well := ⟨_, _, _, [], [], PySem.W.mg_of X G a__law_well, k__law_well, (U__law_well.binds (ps := ["script", "k"]) fun _ _ _ _ _ _ us hl => match us, hl with | [_, _], _ => rfl), .nil, fun S => RepL.nil, ok__law_well  U__law_well T ⟩
  have F__law_draw : FnD l.prog w K mg base 1 "_law_draw" [] R__law_draw := ⟨_, _, _, [], [], PySem.W.mg_of X G a__law_draw, k__law_draw, (U__law_draw.binds (ps := ["well", "many"]) fun _ _ _ _ _ _ us hl => match us, hl with | [_, _], _ => rfl), .nil, fun S => RepL.nil, ok__law_draw  U__law_draw T ⟩
  have F__law_rule : FnD l.prog w K mg base 2 "_law_rule" [] R__law_rule := ⟨_, _, _, [], [], PySem.W.mg_of X G a__law_rule, k__law_rule, (U__law_rule.binds (ps := ["well"]) fun _ _ _ _ _ _ us hl => match us, hl with | [_], _ => rfl), .nil, fun S => RepL.nil, ok__law_rule  U__law_rule T F__law_draw⟩
  have F__law_rules : FnD l.prog w K mg base 3 "_law_rules" [] R__law_rules := ⟨_, _, _, [], [], PySem.W.mg_of X G a__law_rules, k__law_rules, (U__law_rules.binds (ps := ["well"]) fun _ _ _ _ _ _ us hl => match us, hl with | [_], _ => rfl), .nil, fun S => RepL.nil, ok__law_rules  U__law_rules T F__law_draw F__law_rule⟩
  have F__law_line : FnD l.prog w K mg base 1 "_law_line" [] R__law_line := ⟨_, _, _, [], [], PySem.W.mg_of X G a__law_line, k__law_line, (U__law_line.binds (ps := ["door", "rule"]) fun _ _ _ _ _ _ us hl => match us, hl with | [_, _], _ => rfl), .nil, fun S => RepL.nil, ok__law_line  U__law_line T ⟩
  have F__law_book_text : FnD l.prog w K mg base 2 "_law_book_text" [] R__law_book_text := ⟨_, _, _, [], [], PySem.W.mg_of X G a__law_book_text, k__law_book_text, (U__law_book_text.binds (ps := ["rules"]) fun _ _ _ _ _ _ us hl => match us, hl with | [_], _ => rfl), .nil, fun S => RepL.nil, ok__law_book_text  U__law_book_text T F__law_line⟩
  have F_Book_rules : MtD l.prog w K mg base 1 C_Book "rules" [] (R_Book_rules C_Book) := ⟨cl_Book, _, _, _, [], [], ⟨a_Book_rules, i_Book_rules, k_Book_rules⟩, (U_Book_rules.binds (ps := ["self"]) fun _ _ _ _ _ _ us hl => match us, hl with | [_], _ => rfl), .nil, fun S => RepL.nil, ok_Book_rules (CB := C_Book) U_Book_rules T cl_Book na_Book_row⟩
  have F_like : ∀ n, FnD l.prog w K mg base (n + 1) "_law_same" [] (R__law_same n) := fun n => by
    induction n with
    | zero => exact ⟨_, _, _, [], [], PySem.W.mg_of X G a__law_same, k__law_same, (U__law_same.binds (ps := ["actual", "expected"]) fun _ _ _ _ _ _ us hl => match us, hl with | [_, _], _ => rfl), .nil, fun S => RepL.nil, ok__law_same U__law_same T fun m h => (nomatch h)⟩
    | succ n ih => exact ⟨_, _, _, [], [], PySem.W.mg_of X G a__law_same, k__law_same, (U__law_same.binds (ps := ["actual", "expected"]) fun _ _ _ _ _ _ us hl => match us, hl with | [_, _], _ => rfl), .nil, fun S => RepL.nil, ok__law_same U__law_same T fun m h => by cases h; exact ih⟩
  have F__law_same := F_like 2
  have F_read_rule : FnD l.prog w K mg base 1 "read_rule" [] R_read_rule := ⟨_, _, _, [], [], PySem.W.mg_of X G a_read_rule, k_read_rule, (U_read_rule.binds (ps := ["index", "line"]) fun _ _ _ _ _ _ us hl => match us, hl with | [_, _], _ => rfl), .nil, fun S => RepL.nil, ok_read_rule  U_read_rule T ⟩
  have F_read_book : FnD l.prog w K mg base 5 "read_book" [] (R_read_book C_Book C_NoText) := ⟨_, _, _, [], [], PySem.W.mg_of X G a_read_book, k_read_book, (U_read_book.binds (ps := ["text"]) fun _ _ _ _ _ _ us hl => match us, hl with | [_], _ => rfl), .nil, fun S => RepL.nil, ok_read_book (CB := C_Book) (CR := C_NoRule) (XT := C_NoText) U_read_book T F_read_rule F_Bp6 F_NoText⟩
  have F_read_bookK0 : FnK l.prog w K mg base 5 "read_book" 0 ["text"] [(2, 0)] [] (R_read_book C_Book C_NoText) := ⟨_, _, _, PySem.W.mg_of X G a_read_book, k_read_book, Fun.kwB (ps := ["text"]) U_read_book 0 ["text"] [(2, 0)] (fun _ _ _ _ _ _ us ws h1 h2 => match us, ws, h1, h2 with | [], [_], _, _ => rfl), ok_read_book (CB := C_Book) (CR := C_NoRule) (XT := C_NoText) U_read_book T F_read_rule F_Bp6 F_NoText⟩
  have F__law_whole : FnD l.prog w K mg base 1 "_law_whole" [] R__law_whole := ⟨_, _, _, [], [], PySem.W.mg_of X G a__law_whole, k__law_whole, (U__law_whole.binds (ps := ["actual", "expected"]) fun _ _ _ _ _ _ us hl => match us, hl with | [_, _], _ => rfl), .nil, fun S => RepL.nil, ok__law_whole  U__law_whole T ⟩
  have F__law_edit : FnD l.prog w K mg base 3 "_law_edit" [] R__law_edit := ⟨_, _, _, [], [], PySem.W.mg_of X G a__law_edit, k__law_edit, (U__law_edit.binds (ps := ["well", "page"]) fun _ _ _ _ _ _ us hl => match us, hl with | [_, _], _ => rfl), .nil, fun S => RepL.nil, ok__law_edit  U__law_edit T F__law_draw⟩
  have F__law_lines_spoilt : FnD l.prog w K mg base 3 "_law_lines_spoilt" [] R__law_lines_spoilt := ⟨_, _, _, [], [], PySem.W.mg_of X G a__law_lines_spoilt, k__law_lines_spoilt, (U__law_lines_spoilt.binds (ps := ["well", "page"]) fun _ _ _ _ _ _ us hl => match us, hl with | [_, _], _ => rfl), .nil, fun S => RepL.nil, ok__law_lines_spoilt  U__law_lines_spoilt T F__law_draw⟩
  have F__law_due : FnD l.prog w K mg base 2 "_law_due" [] R__law_due := ⟨_, _, _, [], [], PySem.W.mg_of X G a__law_due, k__law_due, (U__law_due.binds (ps := ["page"]) fun _ _ _ _ _ _ us hl => match us, hl with | [_], _ => rfl), .nil, fun S => RepL.nil, ok__law_due  U__law_due T ⟩
  have F__law_spoilt : FnD l.prog w K mg base 4 "_law_spoilt" [] R__law_spoilt := ⟨_, _, _, [], [], PySem.W.mg_of X G a__law_spoilt, k__law_spoilt, (U__law_spoilt.binds (ps := ["well", "page"]) fun _ _ _ _ _ _ us hl => match us, hl with | [_, _], _ => rfl), .nil, fun S => RepL.nil, ok__law_spoilt  U__law_spoilt T F__law_draw F__law_lines_spoilt F__law_edit⟩
  have F__law_tried : FnD l.prog w K mg base 6 "_law_tried" [] (R__law_tried C_Book) := ⟨_, _, _, [], [], PySem.W.mg_of X G a__law_tried, k__law_tried, (U__law_tried.binds (ps := ["page"]) fun _ _ _ _ _ _ us hl => match us, hl with | [_], _ => rfl), .nil, fun S => RepL.nil, ok__law_tried (CB := C_Book) (XT := C_NoText) U__law_tried T F_read_bookK0 M_NoText_NoText Y_NoText N_NoText⟩
  have F__law_classes : FnD l.prog w K mg base 6 "_law_classes" [] (R__law_classes C_Book) := ⟨_, _, _, [], [], PySem.W.mg_of X G a__law_classes, k__law_classes, (U__law_classes.binds (ps := ["page"]) fun _ _ _ _ _ _ us hl => match us, hl with | [_], _ => rfl), .nil, fun S => RepL.nil, ok__law_classes (CB := C_Book) (CR := C_NoRule) (XS := C_ShownError) (XT := C_NoText) U__law_classes T F_read_book M_NoText_ShownError Y_ShownError Y_NoText M_NoText_NoRule Y_NoRule M_NoText_NoText M_NoText_ValueError⟩
  have F__law_right : FnD l.prog w K mg base 7 "_law_right" [] R__law_right := ⟨_, _, _, [], [], PySem.W.mg_of X G a__law_right, k__law_right, (U__law_right.binds (ps := ["page", "due"]) fun _ _ _ _ _ _ us hl => match us, hl with | [_, _], _ => rfl), .nil, fun S => RepL.nil, ok__law_right (CB := C_Book) U__law_right T F_Book_rules F__law_classes F__law_whole F__law_tried IC_Book (PySem.W.mg_of X G aC_Book) F__law_same⟩
  exact ok_law  U_law T F__law_right F__law_due F__law_spoilt F__law_book_text F__law_rules F__law_draw F__law_well
theorem walk {l : PySem.W.OpenLaw} {q : Program} {loose : List Str} {XP : (Str → Option Value) → Heap → Prop} {YP : World → Heap → Prop} {d : DefRec} {K : Params → PySem.W.Frag} (hn : l.most = some 63) (hdf : d.params.defaults = [])
    (hY : ∀ (w : World) (h : Heap), YP w h → (K w.params).In h)
    (F : ∀ (w : World) (mg : Str → Option Value) (fa : Addr) (h : Heap), (K w.params).In h → h.Ns mainGlobals mg → mg d.name = some (.ref fa) →
      ∃ fd : FuncData, (∀ (s : Shared) (u : Value), BindsTo s fd ⟨[u], []⟩ [("script", u)]) ∧ ∀ base : Heap, (K w.params).In base → base.Ns mainGlobals mg → ∃ R : RSp, (∀ ns : List Int, ns.length ≤ 63 → R [.seq (ns.map D.int)] [] (fun d _ => d = .bl true) (fun _ _ _ => False)) ∧ FnOk l.prog w (K w.params) mg base (L2.CX l.prog w) 8 fa fd ["script"] (spD (K w.params) R)) :
    PySem.W.WalkO q loose XP YP l.row.toRowW d [] (fun f vs => PySem.call f vs) :=
  L2.walk_of (n := 63) (k := 8) (x := "script") (CX := fun w => L2.CX l.prog w) (sp := fun w vs H Q E => ∃ (a : Addr) (ns : List Int), vs = [.ref a] ∧ ns.length ≤ 63 ∧ SqL (K w.params) H a (ns.map V.int) ∧ Q = (fun v _ => v = .bl true) ∧ E = fun _ _ _ => False) hn (by decide) hdf ⟨rfl, by decide, by decide⟩ hY
    (fun w mg fa h KX G hm => by
      obtain ⟨fd, hb, hF⟩ := F w mg fa h KX G hm
      refine ⟨fd, hb, fun base b1 b2 => ?_⟩
      obtain ⟨R, hR, ok⟩ := hF base b1 b2
      exact fn_top ok fun ns hl => hR ns hl)
    (fun _ _ a ns hl _ hS => ⟨a, ns, rfl, hl, hS, rfl, rfl⟩) fun _ _ _ _ _ z => by
      obtain ⟨_, _, _, _, _, _, _, _, _, _, _, _, z⟩ := z
      exact z.elim
end W
open PySem PySem.W PyProof.Rows
set_option maxRecDepth 100000 in
set_option maxHeartbeats 0 in
theorem PySem.Challenge.cw_lastshown_k11_book_texts_refused_holds : PySem.Challenge.rw_lastshown_k11_book_texts_refused.Holds := by
  w_on; o_law; k_head; (case hw => w_witness2)
  k_fill
  refine W.walk (l := PySem.Challenge.rw_lastshown_k11_book_texts_refused) rfl rfl (fun w h Y => PySem.W.kIn_of Y) ?F
  case F =>
    intro w mg fa h KX G hmg
    refine' W.all_mk (l := PySem.Challenge.rw_lastshown_k11_book_texts_refused) KX G hmg ?z_ValueError ?z_all ?z_bool ?z_enumerate ?z_int ?z_isinstance ?z_len ?z_list ?z_max ?z_min ?z_range ?z_str ?z_tuple ?z_zip ?g_MOST_ACTIONS ?ag_DOORS ?lg_DOORS ?vg_DOORS ?sg_DOORS ?ag_ACTIONS ?lg_ACTIONS ?vg_ACTIONS ?sg_ACTIONS ?aC_Book ?pg_Book ?hd_Book ?po_Book ?sa_Book ?mk_Book ?kc_Book ?na_Book_row ?aC_NoRule ?xl_NoRule ?xa_NoRule ?xe_NoRule ?xt_NoRule ?xk_NoRule ?xn_NoRule ?a_NoRule_init ?l_NoRule_init ?c_NoRule_init ?k_NoRule_init ?ti_NoRule_init ?aC_NoDoor ?xl_NoDoor ?xa_NoDoor ?xe_NoDoor ?xt_NoDoor ?xk_NoDoor ?xn_NoDoor ?a_NoDoor_init ?l_NoDoor_init ?c_NoDoor_init ?k_NoDoor_init ?ti_NoDoor_init ?a_is_door ?l_is_door ?c_is_door ?k_is_door ?a_is_rule ?l_is_rule ?c_is_rule ?k_is_rule ?a_Book_init ?i_Book_init ?l_Book_init ?c_Book_init ?k_Book_init ?lT_Book_init ?vT_Book_init ?e_Book_initl0 ?e_Book_initl1 ?e_Book_initl2 ?e_Book_initl3 ?e_Book_initl4 ?e_Book_initl5 ?a_Book_rule ?i_Book_rule ?l_Book_rule ?c_Book_rule ?k_Book_rule ?a__law_well ?l__law_well ?c__law_well ?k__law_well ?a__law_draw ?l__law_draw ?c__law_draw ?k__law_draw ?a__law_rule ?l__law_rule ?c__law_rule ?k__law_rule ?a__law_rules ?l__law_rules ?c__law_rules ?k__law_rules ?a__law_line ?l__law_line ?c__law_line ?k__law_line ?a__law_book_text ?l__law_book_text ?c__law_book_text ?k__law_book_text ?a_Book_rules ?i_Book_rules ?l_Book_rules ?c_Book_rules ?k_Book_rules ?a__law_same ?l__law_same ?c__law_same ?k__law_same ?a_read_rule ?l_read_rule ?c_read_rule ?k_read_rule ?a_read_book ?l_read_book ?c_read_book ?k_read_book ?a__law_whole ?l__law_whole ?c__law_whole ?k__law_whole ?a__law_edit ?l__law_edit ?c__law_edit ?k__law_edit ?a__law_lines_spoilt ?l__law_lines_spoilt ?c__law_lines_spoilt ?k__law_lines_spoilt ?a__law_due ?l__law_due ?c__law_due ?k__law_due ?a__law_spoilt ?l__law_spoilt ?c__law_spoilt ?k__law_spoilt ?a__law_tried ?l__law_tried ?c__law_tried ?k__law_tried ?a__law_classes ?l__law_classes ?c__law_classes ?k__law_classes ?a__law_right ?l__law_right ?c__law_right ?k__law_right ?a_law ?l_law ?c_law ?k_law ?jh_Book ?jm_Book ?jn ?jt ?aC_NoText ?xl_NoText ?xa_NoText ?xe_NoText ?xt_NoText ?xk_NoText ?xn_NoText ?a_NoText_init ?l_NoText_init ?c_NoText_init ?k_NoText_init ?ti_NoText_init ?x1_NoText ?x2_NoText ?x3_NoText ?x4_NoText ?x5_NoText ?x6_NoText ?x7_NoText ?aC_ShownError ?x1_ShownError ?x2_ShownError ?x3_ShownError ?x4_ShownError ?x5_ShownError ?x6_ShownError ?x7_ShownError ?x1_NoRule ?x2_NoRule ?x3_NoRule ?x4_NoRule ?x5_NoRule ?x6_NoRule ?x7_NoRule ?s_NoText_NoText ?n_NoText_NoText ?s_NoText_ShownError ?n_NoText_ShownError ?s_NoText_NoRule ?n_NoText_NoRule ?s_NoText_ValueError
    (case z_ValueError => k_is)
    (case z_all => k_is)
    (case z_bool => k_is)
    (case z_enumerate => k_is)
    (case z_int => k_is)
    (case z_isinstance => k_is)
    (case z_len => k_is)
    (case z_list => k_is)
    (case z_max => k_is)
    (case z_min => k_is)
    (case z_range => k_is)
    (case z_str => k_is)
    (case z_tuple => k_is)
    (case z_zip => k_is)
    (case g_MOST_ACTIONS => k_is)
    (case ag_DOORS => k_is)
    (case lg_DOORS => k_is)
    (case vg_DOORS => exact (.cons ⟨_, rfl⟩ (.cons ⟨_, rfl⟩ (.cons ⟨_, rfl⟩ (.cons ⟨_, rfl⟩ (.cons ⟨_, rfl⟩ (.cons ⟨_, rfl⟩ .nil)))))))
    (case sg_DOORS => decide)
    (case ag_ACTIONS => k_is)
    (case lg_ACTIONS => k_is)
    (case vg_ACTIONS => exact (.cons ⟨_, rfl⟩ (.cons ⟨_, rfl⟩ (.cons ⟨_, rfl⟩ (.cons ⟨_, rfl⟩ (.cons ⟨_, rfl⟩ .nil))))))
    (case sg_ACTIONS => decide)
    (case aC_Book => k_is)
    (case pg_Book => k_is)
    (case hd_Book => k_is)
    (case po_Book => k_is)
    (case sa_Book => k_is)
    (case mk_Book => k_is)
    (case kc_Book => k_is)
    (case na_Book_row => k_is)
    (case aC_NoRule => k_is)
    (case xl_NoRule => exact ⟨_, _, _, _, _, _, _, _, _, _, _, _, _, _, _, (by k_is), (by decide +kernel)⟩)
    (case xa_NoRule => k_is)
    (case xe_NoRule => k_is)
    (case xt_NoRule => k_is)
    (case xk_NoRule => k_is)
    (case xn_NoRule => k_is)
    (case a_NoRule_init => k_is)
    (case l_NoRule_init => k_is)
    (case c_NoRule_init => k_is)
    (case k_NoRule_init => k_is)
    (case ti_NoRule_init => k_is)
    (case aC_NoDoor => k_is)
    (case xl_NoDoor => exact ⟨_, _, _, _, _, _, _, _, _, _, _, _, _, _, _, (by k_is), (by decide +kernel)⟩)
    (case xa_NoDoor => k_is)
    (case xe_NoDoor => k_is)
    (case xt_NoDoor => k_is)
    (case xk_NoDoor => k_is)
    (case xn_NoDoor => k_is)
    (case a_NoDoor_init => k_is)
    (case l_NoDoor_init => k_is)
    (case c_NoDoor_init => k_is)
    (case k_NoDoor_init => k_is)
    (case ti_NoDoor_init => k_is)
    (case a_is_door => k_is)
    (case l_is_door => k_is)
    (case c_is_door => k_is)
    (case k_is_door => k_is)
    (case a_is_rule => k_is)
    (case l_is_rule => k_is)
    (case c_is_rule => k_is)
    (case k_is_rule => k_is)
    (case a_Book_init => k_is)
    (case i_Book_init => k_is)
    (case l_Book_init => k_is)
    (case c_Book_init => k_is)
    (case k_Book_init => k_is)
    (case lT_Book_init => k_is)
    (case vT_Book_init => exact (.cons rfl (.cons rfl (.cons rfl (.cons rfl (.cons rfl (.cons rfl .nil)))))))
    (case e_Book_initl0 => k_is)
    (case e_Book_initl1 => k_is)
    (case e_Book_initl2 => k_is)
    (case e_Book_initl3 => k_is)
    (case e_Book_initl4 => k_is)
    (case e_Book_initl5 => k_is)
    (case a_Book_rule => k_is)
    (case i_Book_rule => k_is)
    (case l_Book_rule => k_is)
    (case c_Book_rule => k_is)
    (case k_Book_rule => k_is)
    (case a__law_well => k_is)
    (case l__law_well => k_is)
    (case c__law_well => k_is)
    (case k__law_well => k_is)
    (case a__law_draw => k_is)
    (case l__law_draw => k_is)
    (case c__law_draw => k_is)
    (case k__law_draw => k_is)
    (case a__law_rule => k_is)
    (case l__law_rule => k_is)
    (case c__law_rule => k_is)
    (case k__law_rule => k_is)
    (case a__law_rules => k_is)
    (case l__law_rules => k_is)
    (case c__law_rules => k_is)
    (case k__law_rules => k_is)
    (case a__law_line => k_is)
    (case l__law_line => k_is)
    (case c__law_line => k_is)
    (case k__law_line => k_is)
    (case a__law_book_text => k_is)
    (case l__law_book_text => k_is)
    (case c__law_book_text => k_is)
    (case k__law_book_text => k_is)
    (case a_Book_rules => k_is)
    (case i_Book_rules => k_is)
    (case l_Book_rules => k_is)
    (case c_Book_rules => k_is)
    (case k_Book_rules => k_is)
    (case a__law_same => k_is)
    (case l__law_same => k_is)
    (case c__law_same => k_is)
    (case k__law_same => k_is)
    (case a_read_rule => k_is)
    (case l_read_rule => k_is)
    (case c_read_rule => k_is)
    (case k_read_rule => k_is)
    (case a_read_book => k_is)
    (case l_read_book => k_is)
    (case c_read_book => k_is)
    (case k_read_book => k_is)
    (case a__law_whole => k_is)
    (case l__law_whole => k_is)
    (case c__law_whole => k_is)
    (case k__law_whole => k_is)
    (case a__law_edit => k_is)
    (case l__law_edit => k_is)
    (case c__law_edit => k_is)
    (case k__law_edit => k_is)
    (case a__law_lines_spoilt => k_is)
    (case l__law_lines_spoilt => k_is)
    (case c__law_lines_spoilt => k_is)
    (case k__law_lines_spoilt => k_is)
    (case a__law_due => k_is)
    (case l__law_due => k_is)
    (case c__law_due => k_is)
    (case k__law_due => k_is)
    (case a__law_spoilt => k_is)
    (case l__law_spoilt => k_is)
    (case c__law_spoilt => k_is)
    (case k__law_spoilt => k_is)
    (case a__law_tried => k_is)
    (case l__law_tried => k_is)
    (case c__law_tried => k_is)
    (case k__law_tried => k_is)
    (case a__law_classes => k_is)
    (case l__law_classes => k_is)
    (case c__law_classes => k_is)
    (case k__law_classes => k_is)
    (case a__law_right => k_is)
    (case l__law_right => k_is)
    (case c__law_right => k_is)
    (case k__law_right => k_is)
    (case a_law => k_is)
    (case l_law => k_is)
    (case c_law => k_is)
    (case k_law => k_is)
    (case jh_Book => k_is)
    (case jm_Book => k_is)
    (case jn => k_is)
    (case jt => k_is)
    (case aC_NoText => k_is)
    (case xl_NoText => exact ⟨_, _, _, _, _, _, _, _, _, _, _, _, _, _, _, (by k_is), (by decide +kernel)⟩)
    (case xa_NoText => k_is)
    (case xe_NoText => k_is)
    (case xt_NoText => k_is)
    (case xk_NoText => k_is)
    (case xn_NoText => k_is)
    (case a_NoText_init => k_is)
    (case l_NoText_init => k_is)
    (case c_NoText_init => k_is)
    (case k_NoText_init => k_is)
    (case ti_NoText_init => k_is)
    (case x1_NoText => k_is)
    (case x2_NoText => k_is)
    (case x3_NoText => k_is)
    (case x4_NoText => k_is)
    (case x5_NoText => k_is)
    (case x6_NoText => k_is)
    (case x7_NoText => k_is)
    (case aC_ShownError => k_is)
    (case x1_ShownError => k_is)
    (case x2_ShownError => k_is)
    (case x3_ShownError => k_is)
    (case x4_ShownError => k_is)
    (case x5_ShownError => k_is)
    (case x6_ShownError => k_is)
    (case x7_ShownError => k_is)
    (case x1_NoRule => k_is)
    (case x2_NoRule => k_is)
    (case x3_NoRule => k_is)
    (case x4_NoRule => k_is)
    (case x5_NoRule => k_is)
    (case x6_NoRule => k_is)
    (case x7_NoRule => k_is)
    (case s_NoText_NoText => k_is)
    (case n_NoText_NoText => decide)
    (case s_NoText_ShownError => k_is)
    (case n_NoText_ShownError => decide)
    (case s_NoText_NoRule => k_is)
    (case n_NoText_NoRule => decide)
    (case s_NoText_ValueError => k_is)
