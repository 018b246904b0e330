import PyProof.Rows.All
import Wide.All
import OpenK.AllK
import Wide.FinOn
import HandS.ForMost
import HandS.Evl
import HandS.Exc
import HandS.TryOnly
import HandS.TryMany
import HandS.ExcOwn
import HandS.WordsExc
import HandS.Walk
import HandS.WideBits
import HandS.Wide
import HandS.Steps
import HandS.IsInst
import HandS.TupAny
import HandS.TupMul
import HandS.Deep
import HandS.Zip
import PyProof.Rows.RuleB_pow
import HandS.CallSlots
import HandS.Star
import HandS.Defaults
import HandS.MakeKw
import HandS.MakeKwOnly
import HandS.ExcInit
import HandS.Strs
import HandS.FStr
import HandS.Text
import PySem.Challenge.RW_lastshown_k10_book_texts
set_option Elab.async false
set_option linter.all false
set_option maxRecDepth 100000
set_option maxHeartbeats 4000000
/-! PD: a second layer over the hand layer: values as data D, mutable objects by handles, judgements over the syntax. -/
namespace PD
open PySem L2
open Evl (Ex ex_rd ex_l ex_t)

/-- data: what a value stands for; hdl a: the object at a, which may change -/
inductive D where
  | non | bl (b : Bool) | int (i : Int) | str (s : Str)
  | tup (ds : List D) | lst (ds : List D) | seq (ds : List D)
  | dct (ks : List Key) (ds : List D)
  | ins (C : Addr) (fs : List Str) (ds : List D)
  | hdl (a : Addr) | raw (v : V)
  deriving Inhabited
/-- an object that may change -/
inductive MO where
  | lst (ds : List D) | dct (ks : List Key) (ds : List D) | ins (C : Addr) (fs : List Str) (ds : List D) | ext (o : Addr → HO) | gone
  deriving Inhabited
/-- where things stand: the addresses of what may change, the heap of what never changes, the heap -/
structure Sg where
  as : List Addr
  Z : Hp
  H : Hp
theorem _root_.Evl.Ex.none {H H' : Hp} (e : Ex H H') {a : Addr} (h : H' a = Option.none) : H a = Option.none := by
  cases q : H a with
  | none => rfl
  | some o => rw [e a o q] at h; cases h
theorem ex_new {H : Hp} {p : Addr} {o : HO} (h : H p = none) : Ex H (upd H p o) := fun a u e => by
  rw [upd_ne (ne_of_none e h)]; exact e
theorem ex_up {Z H : Hp} {p : Addr} {o : HO} (e : Ex Z H) : Ex (upd Z p o) (upd H p o) := fun a u h => by
  by_cases q : a = p
  · subst q; rw [upd_same] at h ⊢; exact h
  · rw [upd_ne q] at h ⊢; exact e a u h

section
variable (K : PySem.W.Frag) (S : Sg)
mutual
/-- v stands for d -/
def Rep : D → V → Prop
  | .non, v => v = .non
  | .bl b, v => v = .bl b
  | .int i, v => v = .int i
  | .str s, v => v = .str s
  | .tup ds, v => ∃ a xs, v = .ref a ∧ SqT K S.Z a xs ∧ RepL ds xs
  | .lst ds, v => ∃ a xs, v = .ref a ∧ S.Z a = some (.lst xs) ∧ RepL ds xs
  | .seq ds, v => ∃ a xs, v = .ref a ∧ SqL K S.Z a xs ∧ RepL ds xs
  | .dct ks ds, v => ∃ a kvs, v = .ref a ∧ S.Z a = some (.dK kvs) ∧ kvs.map (·.1) = ks ∧ RepL ds (kvs.map (·.2))
  | .ins C fs ds, v => ∃ a dx kvs, v = .ref a ∧ S.Z a = some (.ins C dx kvs) ∧ kvs.map (·.1) = fs ∧ RepL ds (kvs.map (·.2))
  | .hdl a, v => v = .ref a
  | .raw u, v => v = u
def RepL : List D → List V → Prop
  | [], xs => xs = []
  | d :: ds, xs => ∃ x r, xs = x :: r ∧ Rep d x ∧ RepL ds r
end
def MRep (a : Addr) : MO → Prop
  | .lst ds => S.Z a = none ∧ ∃ xs, S.H a = some (.lst xs) ∧ RepL K S ds xs
  | .dct ks ds => S.Z a = none ∧ ∃ kvs, S.H a = some (.dK kvs) ∧ kvs.map (·.1) = ks ∧ RepL K S ds (kvs.map (·.2))
  | .ins C fs ds => S.Z a = none ∧ ∃ dx kvs, S.H a = some (.ins C dx kvs) ∧ kvs.map (·.1) = fs ∧ RepL K S ds (kvs.map (·.2))
  | .ext o => S.Z a = none ∧ S.H a = some (o a)
  | .gone => True
abbrev Ms := List (Addr × MO)
structure OkM (M : Ms) : Prop where
  len : S.as = M.map (·.1)
  nd : S.as.Nodup
  zh : Ex S.Z S.H
  mo : ∀ p ∈ M, MRep K S p.1 p.2
  dom : ∀ a ∈ S.as, S.H a ≠ none
def EnvOk (σ : L2.St) (Γ : List (Option D)) : Prop := σ.length = Γ.length ∧ ∀ (i : Nat) d, Γ[i]? = some (some d) → ∃ v, σ[i]? = some (some v) ∧ Rep K S d v
def XRep (dd : Option Addr) (fs : List (Str × D)) : Prop := match dd with
  | none => fs = []
  | some a => ∃ kvs, S.H a = some (.xd kvs) ∧ kvs.map (·.1) = fs.map (·.1) ∧ RepL K S (fs.map (·.2)) (kvs.map (·.2))
end
structure Grow (S S' : Sg) : Prop where
  pre : ∀ a ∈ S'.as, a ∈ S.as ∨ S.H a = none
  zz : Ex S.Z S'.Z
  keep : ∀ q o, S.H q = some o → q ∉ S.as → S'.H q = some o
  dom : ∀ q, S.H q ≠ none → S'.H q ≠ none
  sep : ∀ q, S.H q ≠ none → S.Z q = none → q ∉ S.as → S'.Z q = none
theorem Grow.refl (S : Sg) : Grow S S := ⟨fun _ h => .inl h, Ex.refl _, fun _ _ h _ => h, fun _ h => h, fun _ _ h _ => h⟩
theorem Grow.out {S S1 : Sg} (a : Grow S S1) {q : Addr} (h : S.H q ≠ none) (n : q ∉ S.as) : q ∉ S1.as := fun m => (a.pre q m).elim n h
theorem Grow.trans {S S1 S2 : Sg} (a : Grow S S1) (b : Grow S1 S2) : Grow S S2 := by
  refine ⟨fun x m => ?_, a.zz.trans b.zz, fun q o h n => b.keep q o (a.keep q o h n) (a.out (by rw [h]; simp) n), fun q h => b.dom q (a.dom q h), fun q h z n => b.sep q (a.dom q h) (a.sep q h z n) (a.out h n)⟩
  rcases b.pre x m with m | m
  · exact a.pre x m
  · right
    cases q : S.H x with
    | none => rfl
    | some o => exact absurd m (a.dom x (by rw [q]; simp))
section
variable {K : PySem.W.Frag} {S S' : Sg}
theorem sg_mono (hz : Ex S.Z S'.Z) : (∀ d v, Rep K S d v → Rep K S' d v) ∧ ∀ ds xs, RepL K S ds xs → RepL K S' ds xs := by
  have key : ∀ n : Nat, (∀ d, sizeOf d < n → ∀ v, Rep K S d v → Rep K S' d v) ∧ ∀ ds : List D, sizeOf ds < n → ∀ xs, RepL K S ds xs → RepL K S' ds xs := by
    intro n
    induction n with
    | zero => exact ⟨fun _ h => absurd h (Nat.not_lt_zero _), fun _ h => absurd h (Nat.not_lt_zero _)⟩
    | succ n ih =>
      refine ⟨fun d hd v h => ?_, fun ds hd xs h => ?_⟩
      · cases d with
        | non => exact h
        | bl b => exact h
        | int i => exact h
        | str s => exact h
        | tup ds => obtain ⟨a, xs, e, s, r⟩ := h; exact ⟨a, xs, e, ex_t hz s, ih.2 ds (by simp at hd; omega) xs r⟩
        | lst ds => obtain ⟨a, xs, e, s, r⟩ := h; exact ⟨a, xs, e, hz _ _ s, ih.2 ds (by simp at hd; omega) xs r⟩
        | seq ds => obtain ⟨a, xs, e, s, r⟩ := h; exact ⟨a, xs, e, ex_l hz s, ih.2 ds (by simp at hd; omega) xs r⟩
        | dct ks ds => obtain ⟨a, xs, e, s, t, r⟩ := h; exact ⟨a, xs, e, hz _ _ s, t, ih.2 ds (by simp at hd; omega) _ r⟩
        | ins C fs ds => obtain ⟨a, dx, xs, e, s, t, r⟩ := h; exact ⟨a, dx, xs, e, hz _ _ s, t, ih.2 ds (by simp at hd; omega) _ r⟩
        | hdl a => exact h
        | raw u => exact h
      · cases ds with
        | nil => exact h
        | cons d r =>
          obtain ⟨x, q, e, h1, h2⟩ := h
          exact ⟨x, q, e, ih.1 d (by simp at hd; omega) x h1, ih.2 r (by simp at hd; omega) q h2⟩
  exact ⟨fun d v => (key (sizeOf d + 1)).1 d (by omega) v, fun ds xs => (key (sizeOf ds + 1)).2 ds (by omega) xs⟩
theorem Rep.grow {d : D} {v : V} (h : Rep K S d v) (g : Grow S S') : Rep K S' d v := (sg_mono g.zz).1 d v h
theorem RepL.grow {ds : List D} {xs : List V} (h : RepL K S ds xs) (g : Grow S S') : RepL K S' ds xs := (sg_mono g.zz).2 ds xs h
theorem RepL.len : ∀ {ds : List D} {xs : List V}, RepL K S ds xs → xs.length = ds.length
  | [], _, h => by have e : _ = [] := h; subst e; rfl
  | d :: ds, _, h => by obtain ⟨x, r, rfl, _, h⟩ := h; simp [RepL.len h]
theorem RepL.get : ∀ {ds : List D} {xs : List V} {i : Nat} {d : D}, RepL K S ds xs → ds[i]? = some d → ∃ x, xs[i]? = some x ∧ Rep K S d x
  | [], _, _, _, _, e => by simp at e
  | d :: ds, _, 0, _, h, e => by obtain ⟨x, r, rfl, h1, _⟩ := h; simp at e; subst e; exact ⟨x, rfl, h1⟩
  | d :: ds, _, i + 1, _, h, e => by
    obtain ⟨x, r, rfl, _, h2⟩ := h
    obtain ⟨y, h3, h4⟩ := RepL.get (i := i) h2 (by simpa using e)
    exact ⟨y, by simpa using h3, h4⟩
theorem RepL.get' : ∀ {ds : List D} {xs : List V} {i : Nat} {x : V}, RepL K S ds xs → xs[i]? = some x → ∃ d, ds[i]? = some d ∧ Rep K S d x := fun {ds xs i x} h e => by
  have hi : i < ds.length := by rw [← h.len]; exact (List.getElem?_eq_some_iff.mp e).1
  obtain ⟨y, e2, r⟩ := h.get (i := i) (d := ds[i]) (by simp [hi])
  rw [e] at e2; cases e2
  exact ⟨ds[i], by simp [hi], r⟩
theorem RepL.nil : RepL K S [] [] := rfl
theorem RepL.cons {d : D} {ds : List D} {x : V} {xs : List V} (h : Rep K S d x) (r : RepL K S ds xs) : RepL K S (d :: ds) (x :: xs) := ⟨x, xs, rfl, h, r⟩
theorem RepL.app : ∀ {ds es : List D} {xs ys : List V}, RepL K S ds xs → RepL K S es ys → RepL K S (ds ++ es) (xs ++ ys)
  | [], _, _, _, h, q => by have e : _ = [] := h; subst e; exact q
  | d :: ds, _, _, _, h, q => by obtain ⟨x, r, rfl, h1, h2⟩ := h; exact .cons h1 (RepL.app h2 q)
theorem RepL.one {d : D} {x : V} (h : Rep K S d x) : RepL K S [d] [x] := .cons h .nil
theorem RepL.take : ∀ {ds : List D} {xs : List V} (n : Nat), RepL K S ds xs → RepL K S (ds.take n) (xs.take n)
  | _, _, 0, _ => by simp only [List.take_zero]; exact .nil
  | [], _, n + 1, h => by have e : _ = [] := h; subst e; exact .nil
  | d :: ds, _, n + 1, h => by obtain ⟨x, r, rfl, h1, h2⟩ := h; exact .cons h1 (RepL.take n h2)
theorem RepL.drop : ∀ {ds : List D} {xs : List V} (n : Nat), RepL K S ds xs → RepL K S (ds.drop n) (xs.drop n)
  | _, _, 0, h => h
  | [], _, n + 1, h => by have e : _ = [] := h; subst e; exact .nil
  | d :: ds, _, n + 1, h => by obtain ⟨x, r, rfl, h1, h2⟩ := h; exact RepL.drop n h2
theorem RepL.set : ∀ {ds : List D} {xs : List V} {d : D} {x : V} (i : Nat), RepL K S ds xs → Rep K S d x → RepL K S (ds.set i d) (xs.set i x)
  | [], _, _, _, _, h, _ => by have e : _ = [] := h; subst e; exact .nil
  | d :: ds, _, _, _, 0, h, q => by obtain ⟨x, r, rfl, h1, h2⟩ := h; exact .cons q h2
  | d :: ds, _, _, _, i + 1, h, q => by obtain ⟨x, r, rfl, h1, h2⟩ := h; exact .cons h1 (RepL.set i h2 q)
theorem EnvOk.grow {σ : L2.St} {Γ : List (Option D)} (h : EnvOk K S σ Γ) (g : Grow S S') : EnvOk K S' σ Γ := ⟨h.1, fun i d e => by
  obtain ⟨v, h1, h2⟩ := h.2 i d e
  exact ⟨v, h1, h2.grow g⟩⟩
theorem EnvOk.set {σ : L2.St} {Γ : List (Option D)} {i : Nat} {d : D} {v : V} (h : EnvOk K S σ Γ) (r : Rep K S d v) : EnvOk K S (σ.set i (some v)) (Γ.set i (some d)) := by
  refine ⟨by simp [h.1], fun j e hj => ?_⟩
  by_cases q : i = j
  · subst q
    by_cases hl : i < Γ.length
    · rw [List.getElem?_set_self hl] at hj
      cases hj
      exact ⟨v, by rw [List.getElem?_set_self (by rw [h.1]; exact hl)], r⟩
    · rw [List.getElem?_eq_none (by simpa using hl)] at hj; cases hj
  · rw [List.getElem?_set_ne q] at hj ⊢
    exact h.2 j e hj
theorem EnvOk.weak {σ : L2.St} {Γ Γ' : List (Option D)} (h : EnvOk K S σ Γ) (hl : Γ'.length = Γ.length) (w : ∀ (i : Nat) d, Γ'[i]? = some (some d) → Γ[i]? = some (some d)) : EnvOk K S σ Γ' :=
  ⟨h.1.trans hl.symm, fun i d e => h.2 i d (w i d e)⟩
/-- the description of an object that is not touched -/
theorem MRep.keep {a : Addr} {m : MO} (h : MRep K S a m) (zz : Ex S.Z S'.Z) (hz : S.Z a = none → S'.Z a = none) (hh : ∀ o, S.H a = some o → S'.H a = some o) : MRep K S' a m := by
  cases m with
  | lst ds => obtain ⟨a1, xs, a2, a3⟩ := h; exact ⟨hz a1, xs, hh _ a2, (sg_mono zz).2 _ _ a3⟩
  | dct ks ds => obtain ⟨a1, xs, a2, a4, a3⟩ := h; exact ⟨hz a1, xs, hh _ a2, a4, (sg_mono zz).2 _ _ a3⟩
  | ins C fs ds => obtain ⟨a1, dx, xs, a2, a4, a3⟩ := h; exact ⟨hz a1, dx, xs, hh _ a2, a4, (sg_mono zz).2 _ _ a3⟩
  | ext f => obtain ⟨a1, a2⟩ := h; exact ⟨hz a1, hh _ a2⟩
  | gone => trivial
theorem OkM.in {M : Ms} (h : OkM K S M) {p : Addr × MO} (hp : p ∈ M) : p.1 ∈ S.as := by rw [h.len]; exact List.mem_map_of_mem hp
/-- something new that never changes -/
theorem new_z {M : Ms} {p : Addr} {o : HO} (h : OkM K S M) (hp : S.H p = none) : OkM K ⟨S.as, upd S.Z p o, upd S.H p o⟩ M ∧ Grow S ⟨S.as, upd S.Z p o, upd S.H p o⟩ := by
  have hz : S.Z p = none := h.zh.none hp
  have np : ∀ a ∈ S.as, a ≠ p := fun a m e => h.dom a m (by rw [e]; exact hp)
  have g : Grow S ⟨S.as, upd S.Z p o, upd S.H p o⟩ := ⟨fun _ m => .inl m, ex_new hz, fun q u e _ => ex_new hp q u e, fun q e => by
    by_cases z : q = p
    · show upd S.H p o q ≠ none
      rw [z, upd_same]; simp
    · show upd S.H p o q ≠ none
      rw [upd_ne z]; exact e, fun q e z _ => by
    have : q ≠ p := fun c => e (by rw [c]; exact hp)
    show upd S.Z p o q = none
    rw [upd_ne this]; exact z⟩
  refine ⟨⟨h.len, h.nd, ex_up h.zh, fun q hq => ?_, fun a m => g.dom a (h.dom a m)⟩, g⟩
  have hn : q.1 ≠ p := np _ (h.in hq)
  exact (h.mo q hq).keep g.zz (fun e => by show upd S.Z p o q.1 = none; rw [upd_ne hn]; exact e) (fun u e => by show upd S.H p o q.1 = some u; rw [upd_ne hn]; exact e)
/-- something new that may change -/
theorem new_m {M : Ms} {p : Addr} {o : HO} {m : MO} (h : OkM K S M) (hp : S.H p = none) (hm : Grow S ⟨S.as ++ [p], S.Z, upd S.H p o⟩ → MRep K ⟨S.as ++ [p], S.Z, upd S.H p o⟩ p m) :
    OkM K ⟨S.as ++ [p], S.Z, upd S.H p o⟩ (M ++ [(p, m)]) ∧ Grow S ⟨S.as ++ [p], S.Z, upd S.H p o⟩ := by
  have hz : S.Z p = none := h.zh.none hp
  have np : ∀ a ∈ S.as, a ≠ p := fun a m e => h.dom a m (by rw [e]; exact hp)
  have g : Grow S ⟨S.as ++ [p], S.Z, upd S.H p o⟩ := ⟨fun a m => by
    rcases List.mem_append.mp m with m | m
    · exact .inl m
    · right
      have e : a = p := by simpa using m
      rw [e]; exact hp, Ex.refl _, fun q u e _ => ex_new hp q u e, fun q e => by
    by_cases z : q = p
    · show upd S.H p o q ≠ none
      rw [z, upd_same]; simp
    · show upd S.H p o q ≠ none
      rw [upd_ne z]; exact e, fun q e z _ => z⟩
  refine ⟨⟨by simp [h.len], ?_, h.zh.trans (ex_new hp), fun q hq => ?_, fun a ma => ?_⟩, g⟩
  · rw [List.nodup_append]
    exact ⟨h.nd, by simp, fun a ha b hb => by simp at hb; subst hb; exact np a ha⟩
  · rcases List.mem_append.mp hq with hq | hq
    · have hn : q.1 ≠ p := np _ (h.in hq)
      exact (h.mo q hq).keep g.zz (fun e => e) (fun u e => by show upd S.H p o q.1 = some u; rw [upd_ne hn]; exact e)
    · have e : q = (p, m) := by simpa using hq
      subst e
      exact hm g
  · rcases List.mem_append.mp ma with ma | ma
    · exact g.dom a (h.dom a ma)
    · have ea : a = p := by simpa using ma
      subst ea
      show upd S.H a o a ≠ none
      rw [upd_same]; simp
theorem at_ne {M : Ms} {k j : Nat} {a b : Addr} {m m' : MO} (h : OkM K S M) (hk : M[k]? = some (a, m)) (hj : M[j]? = some (b, m')) (n : j ≠ k) : b ≠ a := fun z => by
  subst z
  have e1 : S.as[k]? = some b := by rw [h.len, List.getElem?_map, hk]; rfl
  have e2 : S.as[j]? = some b := by rw [h.len, List.getElem?_map, hj]; rfl
  obtain ⟨l1, q1⟩ := List.getElem?_eq_some_iff.mp e1
  obtain ⟨l2, q2⟩ := List.getElem?_eq_some_iff.mp e2
  exact n ((List.getElem_inj h.nd).mp (q2.trans q1.symm))
theorem set_names {M : Ms} {k : Nat} {a : Addr} {m m' : MO} (hk : M[k]? = some (a, m)) : (M.set k (a, m')).map (·.1) = M.map (·.1) := by
  apply List.ext_getElem?
  intro j
  rw [List.getElem?_map, List.getElem?_map]
  by_cases q : k = j
  · subst q
    rw [List.getElem?_set_self (List.getElem?_eq_some_iff.mp hk).1, hk]; rfl
  · rw [List.getElem?_set_ne q]
theorem OkM.at {M : Ms} {k : Nat} {a : Addr} {m : MO} (h : OkM K S M) (hk : M[k]? = some (a, m)) : MRep K S a m := h.mo _ (List.mem_of_getElem? hk)
/-- an object that may change is changed -/
theorem set_m {M : Ms} {k : Nat} {a : Addr} {o : HO} {m m' : MO} (h : OkM K S M) (hk : M[k]? = some (a, m')) (hz : S.Z a = none) (hm : Grow S ⟨S.as, S.Z, upd S.H a o⟩ → MRep K ⟨S.as, S.Z, upd S.H a o⟩ a m) :
    OkM K ⟨S.as, S.Z, upd S.H a o⟩ (M.set k (a, m)) ∧ Grow S ⟨S.as, S.Z, upd S.H a o⟩ := by
  have mem : a ∈ S.as := h.in (List.mem_of_getElem? hk)
  have g : Grow S ⟨S.as, S.Z, upd S.H a o⟩ := ⟨fun _ m => .inl m, Ex.refl _, fun q u e n => by
    have : q ≠ a := fun z => n (by rw [z]; exact mem)
    show upd S.H a o q = some u
    rw [upd_ne this]; exact e, fun q e => by
    by_cases z : q = a
    · show upd S.H a o q ≠ none
      rw [z, upd_same]; simp
    · show upd S.H a o q ≠ none
      rw [upd_ne z]; exact e, fun q e z _ => z⟩
  refine ⟨⟨by rw [set_names hk]; exact h.len, h.nd, fun b u e => ?_, fun q hq => ?_, fun b mb => g.dom b (h.dom b mb)⟩, g⟩
  · have : b ≠ a := fun z => by rw [z, hz] at e; cases e
    show upd S.H a o b = some u
    rw [upd_ne this]; exact h.zh b u e
  · obtain ⟨j, hj⟩ := List.mem_iff_getElem?.mp hq
    by_cases c : k = j
    · subst c
      rw [List.getElem?_set_self (List.getElem?_eq_some_iff.mp hk).1] at hj
      cases hj
      exact hm g
    · rw [List.getElem?_set_ne c] at hj
      have hn : q.1 ≠ a := at_ne h hk hj (Ne.symm c)
      exact (h.at hj).keep g.zz (fun e => e) (fun u e => by show upd S.H a o q.1 = some u; rw [upd_ne hn]; exact e)
/-- from now on the object at k never changes -/
theorem frz_m {M : Ms} {k : Nat} {a : Addr} {o : HO} {m' : MO} (h : OkM K S M) (hk : M[k]? = some (a, m')) (hz : S.Z a = none) (ho : S.H a = some o) :
    OkM K ⟨S.as, upd S.Z a o, S.H⟩ (M.set k (a, .gone)) ∧ Grow S ⟨S.as, upd S.Z a o, S.H⟩ := by
  have mem : a ∈ S.as := h.in (List.mem_of_getElem? hk)
  have g : Grow S ⟨S.as, upd S.Z a o, S.H⟩ := ⟨fun _ m => .inl m, ex_new hz, fun q u e _ => e, fun q e => e, fun q e z n => by
    have : q ≠ a := fun c => n (by rw [c]; exact mem)
    show upd S.Z a o q = none
    rw [upd_ne this]; exact z⟩
  refine ⟨⟨by rw [set_names hk]; exact h.len, h.nd, fun b u e => ?_, fun q hq => ?_, h.dom⟩, g⟩
  · by_cases q : b = a
    · subst q
      have e' : upd S.Z b o b = some u := e
      rw [upd_same] at e'; cases e'; exact ho
    · have e' : upd S.Z a o b = some u := e
      rw [upd_ne q] at e'; exact h.zh b u e'
  · obtain ⟨j, hj⟩ := List.mem_iff_getElem?.mp hq
    by_cases c : k = j
    · subst c
      rw [List.getElem?_set_self (List.getElem?_eq_some_iff.mp hk).1] at hj
      cases hj
      trivial
    · rw [List.getElem?_set_ne c] at hj
      have hn : q.1 ≠ a := at_ne h hk hj (Ne.symm c)
      exact (h.at hj).keep g.zz (fun e => by show upd S.Z a o q.1 = none; rw [upd_ne hn]; exact e) (fun u e => e)
/-- what may change is looked at no more -/
theorem drop_m {M M' : Ms} (h : OkM K S M) (hs : M'.Sublist M) : OkM K ⟨M'.map (·.1), S.Z, S.H⟩ M' ∧ ∀ S0, Grow S0 S → Grow S0 ⟨M'.map (·.1), S.Z, S.H⟩ := by
  have sub : (M'.map (·.1)).Sublist S.as := by rw [h.len]; exact hs.map _
  refine ⟨⟨rfl, sub.nodup h.nd, h.zh, fun p hp => (h.mo p (hs.subset hp)).keep (S' := ⟨M'.map (·.1), S.Z, S.H⟩) (Ex.refl _) (fun e => e) (fun _ e => e), fun a ha => h.dom a (sub.subset ha)⟩, fun S0 g => ⟨fun a ha => g.pre a (sub.subset ha), g.zz, g.keep, g.dom, g.sep⟩⟩
/-- the objects at the places ks -/
def pick (ks : List Nat) (M : Ms) : Ms := ks.filterMap (M[·]?)
/-- .. back in their places; what is new comes behind -/
def merge : List Nat → Ms → Ms → Ms
  | [], M, N => M ++ N
  | _ :: _, M, [] => M
  | k :: ks, M, p :: N => merge ks (M.set k p) N
theorem merge_mem : ∀ {ks : List Nat} {M N : Ms} {p : Addr × MO}, p ∈ merge ks M N → p ∈ N ∨ ∃ j : Nat, M[j]? = some p ∧ (j ∉ ks ∨ N.length < ks.length)
  | [], M, N, p, h => by
    rcases List.mem_append.mp h with h | h
    · obtain ⟨j, hj⟩ := List.mem_iff_getElem?.mp h
      exact .inr ⟨j, hj, .inl (by simp)⟩
    · exact .inl h
  | k :: ks, M, [], p, h => by
    obtain ⟨j, hj⟩ := List.mem_iff_getElem?.mp (show p ∈ M from h)
    exact .inr ⟨j, hj, .inr (by simp)⟩
  | k :: ks, M, q :: N, p, h => by
    rcases merge_mem (ks := ks) (M := M.set k q) (N := N) h with h | ⟨j, hj, hn⟩
    · exact .inl (List.mem_cons_of_mem _ h)
    · by_cases c : k = j
      · subst c
        by_cases hl : k < M.length
        · rw [List.getElem?_set_self hl] at hj
          cases hj
          exact .inl List.mem_cons_self
        · rw [List.getElem?_eq_none (by simpa using hl)] at hj; cases hj
      · rw [List.getElem?_set_ne c] at hj
        refine .inr ⟨j, hj, ?_⟩
        rcases hn with hn | hn
        · left
          intro m
          rcases List.mem_cons.mp m with m | m
          · exact c m.symm
          · exact hn m
        · right; simp; omega
theorem merge_names : ∀ {ks : List Nat} {M N : Ms}, (N.take ks.length).map (·.1) = (pick ks M).map (·.1) → (∀ k ∈ ks, k < M.length) → ks.Nodup → (merge ks M N).map (·.1) = M.map (·.1) ++ (N.drop ks.length).map (·.1)
  | [], M, N, _, _, _ => by simp [merge]
  | k :: ks, M, [], h, hk, _ => by
    have hl : k < M.length := hk k List.mem_cons_self
    have e : pick (k :: ks) M = M[k] :: pick ks M := by
      unfold pick
      rw [List.filterMap_cons_some (b := M[k]) (by simp [hl])]
    rw [e] at h
    simp at h
  | k :: ks, M, p :: N, h, hk, nd => by
    have hl : k < M.length := hk k List.mem_cons_self
    have e : pick (k :: ks) M = M[k] :: pick ks M := by
      unfold pick
      rw [List.filterMap_cons_some (b := M[k]) (by simp [hl])]
    rw [e] at h
    simp only [List.length_cons, List.take_succ_cons, List.map_cons, List.cons.injEq] at h
    have hk2 : M[k]? = some (M[k].1, M[k].2) := by simp [hl]
    have hs : (M.set k p).map (·.1) = M.map (·.1) := by
      have : p = (M[k].1, p.2) := by rw [← h.1]
      rw [this]
      exact set_names (m := M[k].2) hk2
    have hp : (pick ks (M.set k p)) = pick ks M := by
      unfold pick
      have : ∀ l : List Nat, (∀ j ∈ l, j ≠ k) → l.filterMap (fun j => (M.set k p)[j]?) = l.filterMap (fun j => M[j]?) := by
        intro l
        induction l with
        | nil => intro _; rfl
        | cons j l ih =>
          intro hj
          have e1 : (M.set k p)[j]? = M[j]? := List.getElem?_set_ne (Ne.symm (hj j List.mem_cons_self))
          simp only [List.filterMap_cons, e1]
          rw [ih fun i hi => hj i (List.mem_cons_of_mem _ hi)]
      exact this ks fun j hj c => by
        subst c
        exact (List.nodup_cons.mp nd).1 hj
    have ih := merge_names (ks := ks) (M := M.set k p) (N := N) (by rw [hp]; exact h.2) (fun j hj => by rw [List.length_set]; exact hk j (List.mem_cons_of_mem _ hj)) (List.nodup_cons.mp nd).2
    show (merge ks (M.set k p) N).map (·.1) = _
    rw [ih, hs]
    simp
theorem pick_mem {ks : List Nat} {M : Ms} {p : Addr × MO} (h : p ∈ pick ks M) : ∃ k ∈ ks, M[k]? = some p := by
  unfold pick at h
  obtain ⟨k, hk, e⟩ := List.mem_filterMap.mp h
  exact ⟨k, hk, e⟩
theorem pick_names {ks : List Nat} {M : Ms} (h : OkM K S M) (nd : ks.Nodup) : ((pick ks M).map (·.1)).Nodup := by
  unfold pick
  induction ks with
  | nil => simp
  | cons k ks ih =>
    have ih := ih (List.nodup_cons.mp nd).2
    cases e : M[k]? with
    | none => rw [List.filterMap_cons_none e]; exact ih
    | some p =>
      rw [List.filterMap_cons_some e, List.map_cons, List.nodup_cons]
      refine ⟨fun m => ?_, ih⟩
      obtain ⟨q, hq, e1⟩ := List.mem_map.mp m
      obtain ⟨j, hj, e2⟩ := pick_mem (ks := ks) (M := M) hq
      have : j ≠ k := fun c => (List.nodup_cons.mp nd).1 (by rw [← c]; exact hj)
      exact at_ne (a := p.1) (m := p.2) (b := q.1) (m' := q.2) h e e2 this e1
theorem pick_ok {ks : List Nat} {M : Ms} (h : OkM K S M) (nd : ks.Nodup) : OkM K ⟨(pick ks M).map (·.1), S.Z, S.H⟩ (pick ks M) :=
  ⟨rfl, pick_names h nd, h.zh, fun p hp => by
    obtain ⟨k, _, e⟩ := pick_mem hp
    exact (h.at (a := p.1) (m := p.2) e).keep (S' := ⟨(pick ks M).map (·.1), S.Z, S.H⟩) (Ex.refl _) (fun e => e) (fun _ e => e), fun a ha => by
    obtain ⟨p, hp, e⟩ := List.mem_map.mp ha
    obtain ⟨k, _, e2⟩ := pick_mem hp
    rw [← e]; exact h.dom _ (h.in (List.mem_of_getElem? e2))⟩
/-- behind a call that was handed the objects at ks -/
theorem merge_ok {ks : List Nat} {M N : Ms} {S2 : Sg} (h : OkM K S M) (nd : ks.Nodup) (hk : ∀ k ∈ ks, k < M.length) (h2 : OkM K S2 N) (g : Grow ⟨(pick ks M).map (·.1), S.Z, S.H⟩ S2) (hn : (N.take ks.length).map (·.1) = (pick ks M).map (·.1)) :
    OkM K ⟨(merge ks M N).map (·.1), S2.Z, S2.H⟩ (merge ks M N) ∧ Grow S ⟨(merge ks M N).map (·.1), S2.Z, S2.H⟩ := by
  have names := merge_names hn hk nd
  have ndN : (N.map (·.1)).Nodup := by rw [← h2.len]; exact h2.nd
  have split : N.map (·.1) = (pick ks M).map (·.1) ++ (N.drop ks.length).map (·.1) := by
    rw [← hn, ← List.map_append, List.take_append_drop]
  have subM : ∀ a ∈ (pick ks M).map (·.1), a ∈ S.as := fun a ha => by
    obtain ⟨p, hp, e⟩ := List.mem_map.mp ha
    obtain ⟨k, _, e2⟩ := pick_mem hp
    rw [← e]; exact h.in (List.mem_of_getElem? e2)
  have new : ∀ a ∈ (N.drop ks.length).map (·.1), S.H a = none := fun a ha => by
    have ha2 : a ∈ S2.as := by rw [h2.len, split]; exact List.mem_append_right _ ha
    rcases g.pre a ha2 with q | q
    · exfalso
      rw [split] at ndN
      exact (List.nodup_append.mp ndN).2.2 a q a ha rfl
    · exact q
  have len : ks.length ≤ N.length := by
    have l1 : (pick ks M).length = ks.length := by
      unfold pick
      clear names split subM new hn g h2 ndN
      induction ks with
      | nil => rfl
      | cons k ks ih =>
        have hl : k < M.length := hk k List.mem_cons_self
        rw [List.filterMap_cons_some (b := M[k]) (by simp [hl])]
        simp [ih (List.nodup_cons.mp nd).2 fun j hj => hk j (List.mem_cons_of_mem _ hj)]
    have l2 := congrArg List.length hn
    simp [l1] at l2
    omega
  refine ⟨⟨rfl, ?_, h2.zh, fun p hp => ?_, fun a ha => ?_⟩, ⟨fun a ha => ?_, g.zz, fun q o e n => g.keep q o e fun m => n (subM q m), g.dom, fun q e z n => g.sep q e z fun m => n (subM q m)⟩⟩
  · show ((merge ks M N).map (·.1)).Nodup
    rw [names, List.nodup_append]
    refine ⟨by rw [← h.len]; exact h.nd, ?_, fun a ha b hb e => ?_⟩
    · rw [split] at ndN; exact (List.nodup_append.mp ndN).2.1
    · subst e
      exact h.dom a (by rw [h.len]; exact ha) (new a hb)
  · rcases merge_mem hp with hp | ⟨j, hj, hn'⟩
    · exact (h2.mo p hp).keep (S' := ⟨(merge ks M N).map (·.1), S2.Z, S2.H⟩) (Ex.refl _) (fun e => e) (fun _ e => e)
    · have hjk : j ∉ ks := hn'.elim id fun c => absurd len (by omega)
      have notin : p.1 ∉ (pick ks M).map (·.1) := fun m => by
        obtain ⟨q, hq, e⟩ := List.mem_map.mp m
        obtain ⟨k, hk', e2⟩ := pick_mem hq
        exact at_ne (a := q.1) (m := q.2) (b := p.1) (m' := p.2) h e2 hj (fun c => hjk (by rw [c]; exact hk')) e.symm
      have hd : S.H p.1 ≠ none := h.dom _ (h.in (List.mem_of_getElem? hj))
      exact (h.at (a := p.1) (m := p.2) hj).keep (S' := ⟨(merge ks M N).map (·.1), S2.Z, S2.H⟩) g.zz (fun e => g.sep p.1 hd e notin) (fun o e => g.keep p.1 o e notin)
  · have ha' : a ∈ M.map (·.1) ++ (N.drop ks.length).map (·.1) := by rw [← names]; exact ha
    rcases List.mem_append.mp ha' with q | q
    · exact g.dom a (h.dom a (by rw [h.len]; exact q))
    · exact h2.dom a (by rw [h2.len, split]; exact List.mem_append_right _ q)
  · have ha' : a ∈ M.map (·.1) ++ (N.drop ks.length).map (·.1) := by rw [← names]; exact ha
    rcases List.mem_append.mp ha' with q | q
    · left; rw [h.len]; exact q
    · exact .inr (new a q)
end
end PD

set_option Elab.async false
set_option linter.all false
set_option maxRecDepth 100000
set_option maxHeartbeats 4000000
/-! PD: the judgements, names, constants, operators, tests, statements. -/
namespace PD
open PySem L2
open Evl (Ex ex_rd ex_l ex_t)

def WE (X : Cx) (e : Expr) : TE := fun σ H Q => ∀ (pins : List (Addr × Obj)) (s : Shared), Inv X pins σ H s → wpAny (model X.prog X.w) X.A (eval e X.env) (EP X pins σ Q) X.xe s
def WT (X : Cx) (e : Expr) : TT := fun σ H Q => ∀ (pins : List (Addr × Obj)) (s : Shared), Inv X pins σ H s → wpAny (model X.prog X.w) X.A (isTrue e X.env (eval e X.env)) (TP X pins σ Q) X.xe s
def WP (X : Cx) (e : Expr) : TT := fun σ H Q => ∀ (whole : Sem Value) (pins : List (Addr × Obj)) (s : Shared), Inv X pins σ H s → wpAny (model X.prog X.w) X.A (isTrue e X.env whole) (TP X pins σ Q) X.xe s
def WA (X : Cx) (es : List Expr) : TA := fun σ H Q => ∀ (pos : Pos) (pins : List (Addr × Obj)) (s : Shared), Inv X pins σ H s → wpAny (model X.prog X.w) X.A (spliced (backTo pos (starEach es X.env))) (AP X pins σ Q) X.xe s
def WS (X : Cx) (st : Stmt) : TS := fun D σ H => ∀ (pins : List (Addr × Obj)) (s : Shared), Inv X pins σ H s → wpAny (model X.prog X.w) X.A (exec st X.env) (SP X pins D) X.xe s
def WB (X : Cx) (st : List Stmt) : TS := fun D σ H => ∀ (pins : List (Addr × Obj)) (s : Shared), Inv X pins σ H s → wpAny (model X.prog X.w) X.A (execs st X.env) (SP X pins D) X.xe s
def WG (X : Cx) (tg : Expr) : TG := fun v σ H Q => ∀ (pins : List (Addr × Obj)) (s : Shared) (u : Value), Inv X pins σ H s → RelV v u →
    wpAny (model X.prog X.w) X.A (assign tg X.env u) (fun _ s' => ∃ σ' H', Inv X pins σ' H' s' ∧ Q σ' H') X.xe s
section
variable {X : Cx} {e : Expr} {es : List Expr} {st : Stmt} {sts : List Stmt}
theorem we : PE X e (WE X e) := ⟨fun pins s _ _ _ I h => h pins s I⟩
theorem wt : PT X e (WT X e) := ⟨fun pins s _ _ _ I h => h pins s I⟩
theorem wpw : PW X e (WP X e) := ⟨fun w pins s _ _ _ I h => h w pins s I⟩
theorem wa : PA X es (WA X es) := ⟨fun pos pins s _ _ _ I h => h pos pins s I⟩
theorem wst : PS X st (WS X st) := ⟨fun pins s _ _ _ I h => h pins s I⟩
theorem wb : PSs X sts (WB X sts) := ⟨fun pins s _ _ _ I h => h pins s I⟩
theorem wg : PG X e (WG X e) := ⟨fun pins s _ _ _ u _ I r h => h pins s u I r⟩
theorem of_pe {t : TE} {σ : L2.St} {H : Hp} {Q : VK} (p : PE X e t) (h : t σ H Q) : WE X e σ H Q := fun pins s I => p.run pins s σ H Q I h
theorem of_pt {t : TT} {σ : L2.St} {H : Hp} {Q : Bool → Hp → Prop} (p : PT X e t) (h : t σ H Q) : WT X e σ H Q := fun pins s I => p.run pins s σ H Q I h
theorem of_pw {t : TT} {σ : L2.St} {H : Hp} {Q : Bool → Hp → Prop} (p : PW X e t) (h : t σ H Q) : WP X e σ H Q := fun w pins s I => p.run w pins s σ H Q I h
theorem of_pa {t : TA} {σ : L2.St} {H : Hp} {Q : List V → Hp → Prop} (p : PA X es t) (h : t σ H Q) : WA X es σ H Q := fun pos pins s I => p.run pos pins s σ H Q I h
theorem of_ps {t : TS} {σ : L2.St} {H : Hp} {D : Ends} (p : PS X st t) (h : t D σ H) : WS X st D σ H := fun pins s I => p.run pins s σ H D I h
theorem of_pb {t : TS} {σ : L2.St} {H : Hp} {D : Ends} (p : PSs X sts t) (h : t D σ H) : WB X sts D σ H := fun pins s I => p.run pins s σ H D I h
end

abbrev En := List (Option D)
abbrev KD := D → Ms → Prop
abbrev KB := Bool → Ms → Prop
abbrev KDs := List D → Ms → Prop
abbrev KX := Value → List (Str × D) → Ms → Prop
section
variable (K : PySem.W.Frag) (S : Sg)
def KV (k : KD) (Q : VK) : Prop := ∀ d M' S' v, k d M' → OkM K S' M' → Grow S S' → Rep K S' d v → Q v S'.H
def KT (k : KB) (Q : Bool → Hp → Prop) : Prop := ∀ b M' S', k b M' → OkM K S' M' → Grow S S' → Q b S'.H
def KA (k : KDs) (Q : List V → Hp → Prop) : Prop := ∀ ds M' S' vs, k ds M' → OkM K S' M' → Grow S S' → RepL K S' ds vs → Q vs S'.H
def KW (kx : KX) (W : WX) (σ : L2.St) : Prop := ∀ cls fs M' S' dd, kx cls fs M' → OkM K S' M' → Grow S S' → XRep K S' dd fs → W cls dd σ S'.H
/-- the wishes behind a statement, by its ways out -/
structure ED where
  nx : En → Ms → Prop
  rt : KD
  bk : En → Ms → Prop := fun _ _ => False
  ct : En → Ms → Prop := fun _ _ => False
  ex : Value → List (Str × D) → En → Ms → Prop := fun _ _ _ _ => False
def KN (k : En → Ms → Prop) (Q : L2.St → Hp → Prop) : Prop := ∀ Γ' M' S' σ', k Γ' M' → OkM K S' M' → Grow S S' → EnvOk K S' σ' Γ' → Q σ' S'.H
structure LK (E : ED) (De : Ends) (W : WX) : Prop where
  nx : KN K S E.nx De.nx
  rt : KV K S E.rt De.rt
  bk : KN K S E.bk De.bk
  ct : KN K S E.ct De.ct
  ex : ∀ cls fs Γ' M' S' σ' dd, E.ex cls fs Γ' M' → OkM K S' M' → Grow S S' → EnvOk K S' σ' Γ' → XRep K S' dd fs → W cls dd σ' S'.H
end
section
variable {K : PySem.W.Frag} {S S' : Sg}
theorem KV.grow {k : KD} {Q : VK} (h : KV K S k Q) (g : Grow S S') : KV K S' k Q := fun d M' S2 v a b c r => h d M' S2 v a b (g.trans c) r
theorem KT.grow {k : KB} {Q : Bool → Hp → Prop} (h : KT K S k Q) (g : Grow S S') : KT K S' k Q := fun d M' S2 a b c => h d M' S2 a b (g.trans c)
theorem KA.grow {k : KDs} {Q : List V → Hp → Prop} (h : KA K S k Q) (g : Grow S S') : KA K S' k Q := fun d M' S2 v a b c r => h d M' S2 v a b (g.trans c) r
theorem KN.grow {k : En → Ms → Prop} {Q : L2.St → Hp → Prop} (h : KN K S k Q) (g : Grow S S') : KN K S' k Q := fun d M' S2 v a b c r => h d M' S2 v a b (g.trans c) r
theorem KW.grow {kx : KX} {W : WX} {σ : L2.St} (h : KW K S kx W σ) (g : Grow S S') : KW K S' kx W σ := fun c f M' S2 dd a b q r => h c f M' S2 dd a b (g.trans q) r
theorem LK.grow {E : ED} {De : Ends} {W : WX} (h : LK K S E De W) (g : Grow S S') : LK K S' E De W :=
  ⟨h.nx.grow g, h.rt.grow g, h.bk.grow g, h.ct.grow g, fun c f Γ M' S2 σ dd a b q r x => h.ex c f Γ M' S2 σ dd a b (g.trans q) r x⟩
end
section
variable (X : Cx) (Γ : En) (M : Ms)
def GE (e : Expr) (k : KD) (kx : KX) : Prop := ∀ S σ, OkM X.K S M → EnvOk X.K S σ Γ → ∀ W, Takes X W → KW X.K S kx W σ → ∀ Q, KV X.K S k Q → WE X e σ S.H Q
def GT (e : Expr) (k : KB) (kx : KX) : Prop := ∀ S σ, OkM X.K S M → EnvOk X.K S σ Γ → ∀ W, Takes X W → KW X.K S kx W σ → ∀ Q, KT X.K S k Q → WT X e σ S.H Q
def GP (e : Expr) (k : KB) (kx : KX) : Prop := ∀ S σ, OkM X.K S M → EnvOk X.K S σ Γ → ∀ W, Takes X W → KW X.K S kx W σ → ∀ Q, KT X.K S k Q → WP X e σ S.H Q
def GA (es : List Expr) (k : KDs) (kx : KX) : Prop := ∀ S σ, OkM X.K S M → EnvOk X.K S σ Γ → ∀ W, Takes X W → KW X.K S kx W σ → ∀ Q, KA X.K S k Q → WA X es σ S.H Q
def GS (st : Stmt) (E : ED) : Prop := ∀ S σ, OkM X.K S M → EnvOk X.K S σ Γ → ∀ W, Takes X W → ∀ De, LK X.K S E De W → WS X st De σ S.H
def GB (sts : List Stmt) (E : ED) : Prop := ∀ S σ, OkM X.K S M → EnvOk X.K S σ Γ → ∀ W, Takes X W → ∀ De, LK X.K S E De W → WB X sts De σ S.H
/-- the target of an assignment: the value d (standing) is stored -/
def GG (tg : Expr) (d : D) (k : En → Prop) : Prop := ∀ S σ, OkM X.K S M → EnvOk X.K S σ Γ → ∀ v, Rep X.K S d v → ∀ Q : L2.St → Hp → Prop, (∀ Γ' σ', k Γ' → EnvOk X.K S σ' Γ' → Q σ' S.H) → WG X tg v σ S.H Q
/-- e is worth d, nothing else happens -/
def EV (e : Expr) (d : D) : Prop := GE X Γ M e (fun d' M' => d' = d ∧ M' = M) fun _ _ _ => False
def TV (e : Expr) (b : Bool) : Prop := GT X Γ M e (fun b' M' => b' = b ∧ M' = M) fun _ _ _ => False
def PV (e : Expr) (b : Bool) : Prop := GP X Γ M e (fun b' M' => b' = b ∧ M' = M) fun _ _ _ => False
def AV (es : List Expr) (ds : List D) : Prop := GA X Γ M es (fun d' M' => d' = ds ∧ M' = M) fun _ _ _ => False
end
section
variable {X : Cx} {Γ : En} {M : Ms} {e a b c : Expr} {es : List Expr} {st : Stmt} {rest : List Stmt} {k : KD} {kx : KX} {E : ED} {d x y z : D} {pos : Pos}
theorem GE.mono {k' : KD} {kx' : KX} (h : GE X Γ M e k kx) (hk : ∀ d M', k d M' → k' d M') (hx : ∀ c f M', kx c f M' → kx' c f M') : GE X Γ M e k' kx' := fun S σ hM hE W tk hW Q hQ =>
  h S σ hM hE W tk (fun c f M' S' dd a => hW c f M' S' dd (hx _ _ _ a)) Q fun d M' S' v a => hQ d M' S' v (hk _ _ a)
theorem GT.mono {k k' : KB} {kx' : KX} (h : GT X Γ M e k kx) (hk : ∀ d M', k d M' → k' d M') (hx : ∀ c f M', kx c f M' → kx' c f M') : GT X Γ M e k' kx' := fun S σ hM hE W tk hW Q hQ =>
  h S σ hM hE W tk (fun c f M' S' dd a => hW c f M' S' dd (hx _ _ _ a)) Q fun d M' S' a => hQ d M' S' (hk _ _ a)
theorem GP.mono {k k' : KB} {kx' : KX} (h : GP X Γ M e k kx) (hk : ∀ d M', k d M' → k' d M') (hx : ∀ c f M', kx c f M' → kx' c f M') : GP X Γ M e k' kx' := fun S σ hM hE W tk hW Q hQ =>
  h S σ hM hE W tk (fun c f M' S' dd a => hW c f M' S' dd (hx _ _ _ a)) Q fun d M' S' a => hQ d M' S' (hk _ _ a)
theorem GA.mono {k k' : KDs} {kx' : KX} (h : GA X Γ M es k kx) (hk : ∀ d M', k d M' → k' d M') (hx : ∀ c f M', kx c f M' → kx' c f M') : GA X Γ M es k' kx' := fun S σ hM hE W tk hW Q hQ =>
  h S σ hM hE W tk (fun c f M' S' dd a => hW c f M' S' dd (hx _ _ _ a)) Q fun d M' S' v a => hQ d M' S' v (hk _ _ a)
/-- a pure expression, in its place -/
theorem EV.ge (h : EV X Γ M e d) (hk : k d M) : GE X Γ M e k kx := GE.mono h (fun _ _ ⟨a, b⟩ => by rw [a, b]; exact hk) fun _ _ _ z => z.elim
theorem TV.gt {k : KB} {v : Bool} (h : TV X Γ M e v) (hk : k v M) : GT X Γ M e k kx := GT.mono h (fun _ _ ⟨a, b⟩ => by rw [a, b]; exact hk) fun _ _ _ z => z.elim
theorem PV.gp {k : KB} {v : Bool} (h : PV X Γ M e v) (hk : k v M) : GP X Γ M e k kx := GP.mono h (fun _ _ ⟨a, b⟩ => by rw [a, b]; exact hk) fun _ _ _ z => z.elim
theorem AV.ga {k : KDs} {ds : List D} (h : AV X Γ M es ds) (hk : k ds M) : GA X Γ M es k kx := GA.mono h (fun _ _ ⟨a, b⟩ => by rw [a, b]; exact hk) fun _ _ _ z => z.elim
theorem EV.eq {d' : D} (h : EV X Γ M e d) (q : d = d') : EV X Γ M e d' := by rw [← q]; exact h
theorem TV.eq {v v' : Bool} (h : TV X Γ M e v) (q : v = v') : TV X Γ M e v' := by rw [← q]; exact h

/-! ### plain names, literals -/
theorem ge_var (i : Nat) {x : Str} (hk : k d M) (hN : X.N[i]? = some x := by rfl) (hv : Vis X.env.scope x := by first | exact Or.inl rfl | exact Or.inr (Or.inl rfl) | exact Or.inr (Or.inr rfl)) (hd : Γ[i]? = some (some d) := by rfl)
    (h1 : (x == ("__debug__" : Str)) = false := by decide) (h2 : (x == ("__classdict__" : Str)) = false := by decide) : GE X Γ M (.Name x pos) k kx := fun S σ hM hE W tk hW Q hQ =>
  of_pe (pe_var hN hv h1 h2) (by
    obtain ⟨v, e1, r⟩ := hE.2 i d hd
    exact ⟨v, e1, hQ d M S v hk hM (Grow.refl _) r⟩)
theorem ge_int {i : Int} {j : Nat} (hk : k (.int i) M) : GE X Γ M (.Constant (.int i) j pos) k kx := fun S σ hM hE W tk hW Q hQ => of_pe pe_int (hQ (.int i) M S _ hk hM (Grow.refl _) rfl)
theorem ge_bl {v : Bool} {j : Nat} (hk : k (.bl v) M) : GE X Γ M (.Constant (.bool v) j pos) k kx := fun S σ hM hE W tk hW Q hQ => of_pe pe_bl (hQ (.bl v) M S _ hk hM (Grow.refl _) rfl)
theorem ge_non {j : Nat} (hk : k .non M) : GE X Γ M (.Constant .none j pos) k kx := fun S σ hM hE W tk hW Q hQ => of_pe pe_non (hQ .non M S _ hk hM (Grow.refl _) rfl)
theorem ge_str {v : Str} {j : Nat} (hk : k (.str v) M) : GE X Γ M (.Constant (.str v) j pos) k kx := fun S σ hM hE W tk hW Q hQ => of_pe pe_str (hQ (.str v) M S _ hk hM (Grow.refl _) rfl)
/-- a constant of the module -/
def Glob (K : PySem.W.Frag) (mg : Str → Option Value) (x : Str) (d : D) : Prop := ∃ u v, mg x = some u ∧ RelV v u ∧ ∀ S, Rep K S d v
theorem ge_glob {x : Str} (g : Glob X.K X.mg x d) (hk : k d M) (hg : Gl X x := by rfl) (h1 : (x == ("__debug__" : Str)) = false := by decide) : GE X Γ M (.Name x pos) k kx := fun S σ hM hE W tk hW Q hQ => by
  obtain ⟨u, v, hm, r, hr⟩ := g
  exact of_pe (pe_glob hg hm r h1) (hQ d M S v hk hM (Grow.refl _) (hr S))
theorem ev_var (i : Nat) {x : Str} (hN : X.N[i]? = some x := by rfl) (hv : Vis X.env.scope x := by first | exact Or.inl rfl | exact Or.inr (Or.inl rfl) | exact Or.inr (Or.inr rfl)) (hd : Γ[i]? = some (some d) := by rfl)
    (h1 : (x == ("__debug__" : Str)) = false := by decide) (h2 : (x == ("__classdict__" : Str)) = false := by decide) : EV X Γ M (.Name x pos) d := ge_var i ⟨rfl, rfl⟩ hN hv hd h1 h2
theorem ev_int {i : Int} {j : Nat} : EV X Γ M (.Constant (.int i) j pos) (.int i) := ge_int ⟨rfl, rfl⟩
theorem ev_bl {v : Bool} {j : Nat} : EV X Γ M (.Constant (.bool v) j pos) (.bl v) := ge_bl ⟨rfl, rfl⟩
theorem ev_non {j : Nat} : EV X Γ M (.Constant .none j pos) .non := ge_non ⟨rfl, rfl⟩
theorem ev_str {v : Str} {j : Nat} : EV X Γ M (.Constant (.str v) j pos) (.str v) := ge_str ⟨rfl, rfl⟩
theorem ev_glob {x : Str} (g : Glob X.K X.mg x d) (hg : Gl X x := by rfl) (h1 : (x == ("__debug__" : Str)) = false := by decide) : EV X Γ M (.Name x pos) d := ge_glob g ⟨rfl, rfl⟩ hg h1

/-! ### operators -/
/-- what the values' rule r makes of x and y, said of data -/
def Bin (K : PySem.W.Frag) (r : R2) (x y : D) (M : Ms) (k : KD) : Prop := ∀ S vx vy, OkM K S M → Rep K S x vx → Rep K S y vy → ∀ Q, KV K S k Q → r vx vy S.H Q
/-- .. nothing else happens -/
def BinV (K : PySem.W.Frag) (r : R2) (x y : D) (M : Ms) (z : D) : Prop := Bin K r x y M fun d M' => d = z ∧ M' = M
theorem BinV.bin {K : PySem.W.Frag} {r : R2} (h : BinV K r x y M z) (hk : k z M) : Bin K r x y M k := fun S vx vy hM rx ry Q hQ => h S vx vy hM rx ry Q fun d M' S' v ⟨a, b⟩ => by
  rw [a, b]; exact hQ z M S' v hk
theorem ge_bin {op : Operator} {r : R2} (ho : OpR X (binaryOp op) r) (h : GE X Γ M a (fun x M1 => GE X Γ M1 b (fun y M2 => Bin X.K r x y M2 k) kx) kx) : GE X Γ M (.BinOp a op b pos) k kx := fun S σ hM hE W tk hW Q hQ =>
  of_pe (pe_op ho we we) (h S σ hM hE W tk hW _ fun x M1 S1 vx h1 hM1 g1 rx => h1 S1 σ hM1 (hE.grow g1) W tk (hW.grow g1) _ fun y M2 S2 vy h2 hM2 g2 ry =>
    h2 S2 vx vy hM2 (rx.grow g2) ry Q ((hQ.grow g1).grow g2))
theorem ge_cmp {op : CmpOp} {r : R2} (ho : OpR X (compareOp op) r) (hm : behindInMarks op b = false) (h : GE X Γ M a (fun x M1 => GE X Γ M1 b (fun y M2 => Bin X.K r x y M2 k) kx) kx) : GE X Γ M (.Compare a [op] [b] pos) k kx := fun S σ hM hE W tk hW Q hQ =>
  of_pe (pe_cmpR ho we we hm) (h S σ hM hE W tk hW _ fun x M1 S1 vx h1 hM1 g1 rx => h1 S1 σ hM1 (hE.grow g1) W tk (hW.grow g1) _ fun y M2 S2 vy h2 hM2 g2 ry =>
    h2 S2 vx vy hM2 (rx.grow g2) ry Q ((hQ.grow g1).grow g2))
theorem gt_cmp {op : CmpOp} {r : R2} {k : KB} (ho : OpR X (compareOp op) r) (hm : behindInMarks op b = false) (h : GE X Γ M a (fun x M1 => GE X Γ M1 b (fun y M2 => Bin X.K r x y M2 fun d M' => ∃ v, d = .bl v ∧ k v M') kx) kx) : GT X Γ M (.Compare a [op] [b] pos) k kx := fun S σ hM hE W tk hW Q hQ =>
  of_pt (pt_cmpR ho we we hm) (h S σ hM hE W tk hW _ fun x M1 S1 vx h1 hM1 g1 rx => h1 S1 σ hM1 (hE.grow g1) W tk (hW.grow g1) _ fun y M2 S2 vy h2 hM2 g2 ry =>
    h2 S2 vx vy hM2 (rx.grow g2) ry _ fun d M' S3 v ⟨w, e, hk⟩ hM3 g3 r3 => by
      subst e
      exact ⟨w, r3, hQ w M' S3 hk hM3 (g1.trans (g2.trans g3))⟩)
theorem ge_ix {r : R2} (ho : IxR X r) (hs : PlainIx b) (h : GE X Γ M a (fun x M1 => GE X Γ M1 b (fun y M2 => Bin X.K r x y M2 k) kx) kx) : GE X Γ M (.Subscript a b pos) k kx := fun S σ hM hE W tk hW Q hQ =>
  of_pe (pe_ix ho we we hs) (h S σ hM hE W tk hW _ fun x M1 S1 vx h1 hM1 g1 rx => h1 S1 σ hM1 (hE.grow g1) W tk (hW.grow g1) _ fun y M2 S2 vy h2 hM2 g2 ry =>
    h2 S2 vx vy hM2 (rx.grow g2) ry Q ((hQ.grow g1).grow g2))
theorem ev_bin {op : Operator} {r : R2} (ho : OpR X (binaryOp op) r) (ha : EV X Γ M a x) (hb : EV X Γ M b y) (h : BinV X.K r x y M z) : EV X Γ M (.BinOp a op b pos) z := ge_bin ho (ha.ge (hb.ge h))
theorem ev_cmp {op : CmpOp} {r : R2} (ho : OpR X (compareOp op) r) (hm : behindInMarks op b = false) (ha : EV X Γ M a x) (hb : EV X Γ M b y) (h : BinV X.K r x y M z) : EV X Γ M (.Compare a [op] [b] pos) z := ge_cmp ho hm (ha.ge (hb.ge h))
theorem tv_cmp {op : CmpOp} {r : R2} {v : Bool} (ho : OpR X (compareOp op) r) (hm : behindInMarks op b = false) (ha : EV X Γ M a x) (hb : EV X Γ M b y) (h : BinV X.K r x y M (.bl v)) : TV X Γ M (.Compare a [op] [b] pos) v :=
  gt_cmp ho hm (ha.ge (hb.ge (h.bin ⟨v, rfl, rfl, rfl⟩)))
theorem ev_ix {r : R2} (ho : IxR X r) (hs : PlainIx b) (ha : EV X Γ M a x) (hb : EV X Γ M b y) (h : BinV X.K r x y M z) : EV X Γ M (.Subscript a b pos) z := ge_ix ho hs (ha.ge (hb.ge h))

/-! ### tests -/
theorem gt_val {k : KB} (h : GE X Γ M e (fun d M' => ∃ v, d = .bl v ∧ k v M') kx) (he : ∀ whole, isTrue e X.env whole = (do let v ← whole; standAt e.pos; holding [v] (truthy v)) := by intro _; rfl) : GT X Γ M e k kx := fun S σ hM hE W tk hW Q hQ =>
  of_pt (pt_val we he) (h S σ hM hE W tk hW _ fun d M' S' v ⟨w, e, hk⟩ hM' g r => by
    subst e
    exact ⟨w, r, hQ w M' S' hk hM' g⟩)
theorem tv_val {v : Bool} (h : EV X Γ M e (.bl v)) (he : ∀ whole, isTrue e X.env whole = (do let v ← whole; standAt e.pos; holding [v] (truthy v)) := by intro _; rfl) : TV X Γ M e v := gt_val (h.ge ⟨v, rfl, rfl, rfl⟩) he
theorem gt_not {k : KB} (h : GT X Γ M a (fun v M' => k (!v) M') kx) : GT X Γ M (.UnaryOp .Not a pos) k kx := fun S σ hM hE W tk hW Q hQ =>
  of_pt (pt_not wt) (h S σ hM hE W tk hW _ fun v M' S' hk hM' g => hQ (!v) M' S' hk hM' g)
theorem tv_not {v : Bool} (h : TV X Γ M a v) : TV X Γ M (.UnaryOp .Not a pos) (!v) := gt_not (h.gt ⟨rfl, rfl⟩)
theorem gt_bool {k : KB} {op : BoolOp} (h : GP X Γ M (.BoolOp op es pos) k kx) : GT X Γ M (.BoolOp op es pos) k kx := fun S σ hM hE W tk hW Q hQ => of_pt wpw.pt (h S σ hM hE W tk hW Q hQ)
theorem gp_and1 {k : KB} (h : GT X Γ M a k kx) : GP X Γ M (.BoolOp .And [a] pos) k kx := fun S σ hM hE W tk hW Q hQ => of_pw (pw_and1 wt) (h S σ hM hE W tk hW Q hQ)
theorem gp_or1 {k : KB} (h : GT X Γ M a k kx) : GP X Γ M (.BoolOp .Or [a] pos) k kx := fun S σ hM hE W tk hW Q hQ => of_pw (pw_or1 wt) (h S σ hM hE W tk hW Q hQ)
theorem gp_and {k : KB} (h : GT X Γ M a (fun v M1 => (v = true → GP X Γ M1 (.BoolOp .And (b :: es) pos) k kx) ∧ (v = false → k false M1)) kx) : GP X Γ M (.BoolOp .And (a :: b :: es) pos) k kx := fun S σ hM hE W tk hW Q hQ =>
  of_pw (pw_and wt wpw) (h S σ hM hE W tk hW _ fun v M1 S1 h1 hM1 g1 => by
    cases v with
    | true => exact (h1.1 rfl) S1 σ hM1 (hE.grow g1) W tk (hW.grow g1) Q (hQ.grow g1)
    | false => exact hQ false M1 S1 (h1.2 rfl) hM1 g1)
theorem gp_or {k : KB} (h : GT X Γ M a (fun v M1 => (v = false → GP X Γ M1 (.BoolOp .Or (b :: es) pos) k kx) ∧ (v = true → k true M1)) kx) : GP X Γ M (.BoolOp .Or (a :: b :: es) pos) k kx := fun S σ hM hE W tk hW Q hQ =>
  of_pw (pw_or wt wpw) (h S σ hM hE W tk hW _ fun v M1 S1 h1 hM1 g1 => by
    cases v with
    | false => exact (h1.1 rfl) S1 σ hM1 (hE.grow g1) W tk (hW.grow g1) Q (hQ.grow g1)
    | true => exact hQ true M1 S1 (h1.2 rfl) hM1 g1)
theorem tv_bool {op : BoolOp} {v : Bool} (h : PV X Γ M (.BoolOp op es pos) v) : TV X Γ M (.BoolOp op es pos) v := gt_bool h
theorem pv_and1 {v : Bool} (h : TV X Γ M a v) : PV X Γ M (.BoolOp .And [a] pos) v := gp_and1 h
theorem pv_or1 {v : Bool} (h : TV X Γ M a v) : PV X Γ M (.BoolOp .Or [a] pos) v := gp_or1 h
theorem pv_and {v w : Bool} (h : TV X Γ M a v) (h2 : v = true → PV X Γ M (.BoolOp .And (b :: es) pos) w) : PV X Γ M (.BoolOp .And (a :: b :: es) pos) (v && w) := gp_and (h.gt ⟨fun q => (h2 q).gp ⟨by rw [q]; rfl, rfl⟩, fun q => ⟨by rw [q]; rfl, rfl⟩⟩)
theorem pv_or {v w : Bool} (h : TV X Γ M a v) (h2 : v = false → PV X Γ M (.BoolOp .Or (b :: es) pos) w) : PV X Γ M (.BoolOp .Or (a :: b :: es) pos) (v || w) := gp_or (h.gt ⟨fun q => (h2 q).gp ⟨by rw [q]; rfl, rfl⟩, fun q => ⟨by rw [q]; rfl, rfl⟩⟩)
/-- a and b as a value -/
theorem ge_one {op : BoolOp} (h : GE X Γ M a k kx) : GE X Γ M (.BoolOp op [a] pos) k kx := fun S σ hM hE W tk hW Q hQ => of_pe (pe_one we) (h S σ hM hE W tk hW Q hQ)
theorem ge_and (h : GE X Γ M a (fun d M1 => ∃ v, d = .bl v ∧ (v = true → GE X Γ M1 (.BoolOp .And (b :: es) pos) k kx) ∧ (v = false → k (.bl false) M1)) kx) : GE X Γ M (.BoolOp .And (a :: b :: es) pos) k kx := fun S σ hM hE W tk hW Q hQ =>
  of_pe (pe_and we we) (h S σ hM hE W tk hW _ fun d M1 S1 x ⟨v, e, h1, h2⟩ hM1 g1 r => by
    subst e
    refine ⟨v, r, ?_⟩
    cases v with
    | true => exact (h1 rfl) S1 σ hM1 (hE.grow g1) W tk (hW.grow g1) Q (hQ.grow g1)
    | false => exact hQ _ M1 S1 _ (h2 rfl) hM1 g1 rfl)
theorem ge_or (h : GE X Γ M a (fun d M1 => ∃ v, d = .bl v ∧ (v = false → GE X Γ M1 (.BoolOp .Or (b :: es) pos) k kx) ∧ (v = true → k (.bl true) M1)) kx) : GE X Γ M (.BoolOp .Or (a :: b :: es) pos) k kx := fun S σ hM hE W tk hW Q hQ =>
  of_pe (pe_or we we) (h S σ hM hE W tk hW _ fun d M1 S1 x ⟨v, e, h1, h2⟩ hM1 g1 r => by
    subst e
    refine ⟨v, r, ?_⟩
    cases v with
    | false => exact (h1 rfl) S1 σ hM1 (hE.grow g1) W tk (hW.grow g1) Q (hQ.grow g1)
    | true => exact hQ _ M1 S1 _ (h2 rfl) hM1 g1 rfl)
theorem ge_not (h : GE X Γ M a (fun d M1 => ∃ v, d = .bl v ∧ k (.bl (!v)) M1) kx) : GE X Γ M (.UnaryOp .Not a pos) k kx := fun S σ hM hE W tk hW Q hQ =>
  of_pe (pe_not we) (h S σ hM hE W tk hW _ fun d M1 S1 x ⟨v, e, h1⟩ hM1 g1 r => by
    subst e
    exact ⟨v, r, hQ _ M1 S1 _ h1 hM1 g1 rfl⟩)
theorem ev_one {op : BoolOp} (h : EV X Γ M a d) : EV X Γ M (.BoolOp op [a] pos) d := ge_one h
theorem ev_and {v w : Bool} (h : EV X Γ M a (.bl v)) (h2 : v = true → EV X Γ M (.BoolOp .And (b :: es) pos) (.bl w)) : EV X Γ M (.BoolOp .And (a :: b :: es) pos) (.bl (v && w)) :=
  ge_and (h.ge ⟨v, rfl, fun q => (h2 q).ge ⟨by rw [q]; rfl, rfl⟩, fun q => ⟨by rw [q]; rfl, rfl⟩⟩)
theorem ev_or {v w : Bool} (h : EV X Γ M a (.bl v)) (h2 : v = false → EV X Γ M (.BoolOp .Or (b :: es) pos) (.bl w)) : EV X Γ M (.BoolOp .Or (a :: b :: es) pos) (.bl (v || w)) :=
  ge_or (h.ge ⟨v, rfl, fun q => (h2 q).ge ⟨by rw [q]; rfl, rfl⟩, fun q => ⟨by rw [q]; rfl, rfl⟩⟩)
theorem ev_not {v : Bool} (h : EV X Γ M a (.bl v)) : EV X Γ M (.UnaryOp .Not a pos) (.bl (!v)) := ge_not (h.ge ⟨v, rfl, rfl, rfl⟩)
theorem ge_ife (h : GT X Γ M c (fun v M1 => (v = true → GE X Γ M1 a k kx) ∧ (v = false → GE X Γ M1 b k kx)) kx) : GE X Γ M (.IfExp c a b pos) k kx := fun S σ hM hE W tk hW Q hQ =>
  of_pe (pe_ifExp wt we we) (h S σ hM hE W tk hW _ fun v M1 S1 h1 hM1 g1 => by
    cases v with
    | true => exact (h1.1 rfl) S1 σ hM1 (hE.grow g1) W tk (hW.grow g1) Q (hQ.grow g1)
    | false => exact (h1.2 rfl) S1 σ hM1 (hE.grow g1) W tk (hW.grow g1) Q (hQ.grow g1))
theorem ev_ife {v : Bool} (h : TV X Γ M c v) (h1 : v = true → EV X Γ M a x) (h2 : v = false → EV X Γ M b y) : EV X Γ M (.IfExp c a b pos) (if v = true then x else y) :=
  ge_ife (h.gt ⟨fun q => (h1 q).ge ⟨by rw [q]; rfl, rfl⟩, fun q => (h2 q).ge ⟨by rw [q]; rfl, rfl⟩⟩)

/-! ### arguments, displays -/
theorem ga_nil {k : KDs} (hk : k [] M) : GA X Γ M [] k kx := fun S σ hM hE W tk hW Q hQ => of_pa pa_nil (hQ [] M S [] hk hM (Grow.refl _) RepL.nil)
theorem ga_cons {k : KDs} (h : GE X Γ M e (fun d M1 => GA X Γ M1 es (fun ds M2 => k (d :: ds) M2) kx) kx) (hs : starEach (e :: es) X.env = (false, eval e X.env) :: starEach es X.env := by rfl) : GA X Γ M (e :: es) k kx := fun S σ hM hE W tk hW Q hQ =>
  of_pa (pa_cons we wa hs) (h S σ hM hE W tk hW _ fun d M1 S1 x h1 hM1 g1 r => h1 S1 σ hM1 (hE.grow g1) W tk (hW.grow g1) _ fun ds M2 S2 xs h2 hM2 g2 r2 => hQ (d :: ds) M2 S2 _ h2 hM2 (g1.trans g2) (.cons (r.grow g2) r2))
theorem av_nil : AV X Γ M [] [] := ga_nil ⟨rfl, rfl⟩
theorem av_cons {ds : List D} (h : EV X Γ M e d) (hr : AV X Γ M es ds) (hs : starEach (e :: es) X.env = (false, eval e X.env) :: starEach es X.env := by rfl) : AV X Γ M (e :: es) (d :: ds) := ga_cons (h.ge (hr.ga ⟨rfl, rfl⟩)) hs
theorem ge_tup {j : Nat} (h : GA X Γ M es (fun ds M1 => ds.length ≤ 16777216 ∧ k (.tup ds) M1) kx) : GE X Γ M (.Tuple es j pos) k kx := fun S σ hM hE W tk hW Q hQ =>
  of_pe (pe_tup wa) (h S σ hM hE W tk hW _ fun ds M1 S1 xs ⟨hl, hk⟩ hM1 g1 r => ⟨by rw [r.len]; exact hl, fun p hp => by
    obtain ⟨hM2, g2⟩ := new_z (o := .tup xs) hM1 hp
    exact hQ (.tup ds) M1 ⟨S1.as, upd S1.Z p (.tup xs), upd S1.H p (.tup xs)⟩ (.ref p) hk hM2 (g1.trans g2) ⟨p, xs, rfl, SqT.of upd_same, r.grow g2⟩⟩)
theorem ge_lst (h : GA X Γ M es (fun ds M1 => ds.length ≤ 16777216 ∧ k (.lst ds) M1) kx) : GE X Γ M (.List es pos) k kx := fun S σ hM hE W tk hW Q hQ =>
  of_pe (pe_lst wa) (h S σ hM hE W tk hW _ fun ds M1 S1 xs ⟨hl, hk⟩ hM1 g1 r => ⟨by rw [r.len]; exact hl, fun p hp => by
    obtain ⟨hM2, g2⟩ := new_z (o := .lst xs) hM1 hp
    exact hQ (.lst ds) M1 ⟨S1.as, upd S1.Z p (.lst xs), upd S1.H p (.lst xs)⟩ (.ref p) hk hM2 (g1.trans g2) ⟨p, xs, rfl, upd_same, r.grow g2⟩⟩)
/-- a list that may change -/
theorem ge_lstM (h : GA X Γ M es (fun ds M1 => ds.length ≤ 16777216 ∧ ∀ p, k (.hdl p) (M1 ++ [(p, .lst ds)])) kx) : GE X Γ M (.List es pos) k kx := fun S σ hM hE W tk hW Q hQ =>
  of_pe (pe_lst wa) (h S σ hM hE W tk hW _ fun ds M1 S1 xs ⟨hl, hk⟩ hM1 g1 r => ⟨by rw [r.len]; exact hl, fun p hp => by
    obtain ⟨hM2, g2⟩ := new_m (m := .lst ds) (o := .lst xs) hM1 hp (fun g => ⟨hM1.zh.none hp, xs, upd_same, r.grow g⟩)
    exact hQ _ _ ⟨S1.as ++ [p], S1.Z, upd S1.H p (.lst xs)⟩ (.ref p) (hk p) hM2 (g1.trans g2) rfl⟩)
theorem ev_tup {ds : List D} {j : Nat} (h : AV X Γ M es ds) (hl : ds.length ≤ 16777216 := by simp) : EV X Γ M (.Tuple es j pos) (.tup ds) := ge_tup (h.ga ⟨hl, rfl, rfl⟩)
theorem ev_lst {ds : List D} (h : AV X Γ M es ds) (hl : ds.length ≤ 16777216 := by simp) : EV X Γ M (.List es pos) (.lst ds) := ge_lst (h.ga ⟨hl, rfl, rfl⟩)
/-- what was made to change is not changed any more -/
theorem ge_frz (h : GE X Γ M e (fun d M1 => ∃ (j : Nat) (a : Addr) (ds : List D), d = .hdl a ∧ M1[j]? = some (a, MO.lst ds) ∧ k (.lst ds) (M1.eraseIdx j)) kx) : GE X Γ M e k kx := fun S σ hM hE W tk hW Q hQ =>
  h S σ hM hE W tk hW Q fun d M1 S1 v ⟨j, a, ds, e, hj, hk⟩ hM1 g1 r => by
    subst e
    cases r
    obtain ⟨hz, xs, hh, hr⟩ := hM1.at hj
    obtain ⟨hM2, g2⟩ := frz_m hM1 hj hz hh
    have hs : (M1.eraseIdx j).Sublist (M1.set j (a, .gone)) := by
      rw [← List.eraseIdx_set_eq (l := M1) (i := j) (a := (a, MO.gone))]
      exact List.eraseIdx_sublist _ _
    obtain ⟨hM3, g3⟩ := drop_m hM2 hs
    exact hQ (.lst ds) _ ⟨(M1.eraseIdx j).map (·.1), upd S1.Z a (.lst xs), S1.H⟩ (.ref a) hk hM3 (g1.trans (g3 S1 g2)) ⟨a, xs, rfl, upd_same, (sg_mono (S' := ⟨(M1.eraseIdx j).map (·.1), upd S1.Z a (.lst xs), S1.H⟩) (ex_new hz)).2 _ _ hr⟩

/-! ### statements -/
theorem gb_nil (h : E.nx Γ M) : GB X Γ M [] E := fun S σ hM hE W tk De L => of_pb pss_nil (L.nx Γ M S σ h hM (Grow.refl _) hE)
theorem gb_cons (h : GS X Γ M st { E with nx := fun Γ1 M1 => GB X Γ1 M1 rest E }) : GB X Γ M (st :: rest) E := fun S σ hM hE W tk De L =>
  of_pb (pss_cons wst wb) (h S σ hM hE W tk { De with nx := WB X rest De } ⟨fun Γ1 M1 S1 σ1 h1 hM1 g1 e1 => h1 S1 σ1 hM1 e1 W tk De (L.grow g1), L.rt, L.bk, L.ct, L.ex⟩)
theorem gb_one (h : GS X Γ M st E) : GB X Γ M [st] E := fun S σ hM hE W tk De L => of_pb (pss_one wst) (h S σ hM hE W tk De L)
/-- a cut behind a statement -/
theorem gb_cut (J : En → Ms → Prop) (h : GS X Γ M st { E with nx := J }) (hr : ∀ Γ1 M1, J Γ1 M1 → GB X Γ1 M1 rest E) : GB X Γ M (st :: rest) E := fun S σ hM hE W tk De L =>
  of_pb (pss_cons wst wb) (h S σ hM hE W tk { De with nx := WB X rest De } ⟨fun Γ1 M1 S1 σ1 h1 hM1 g1 e1 => hr Γ1 M1 h1 S1 σ1 hM1 e1 W tk De (L.grow g1), L.rt, L.bk, L.ct, L.ex⟩)
theorem LK.kw {K : PySem.W.Frag} {S : Sg} {De : Ends} {W : WX} {σ : L2.St} (L : LK K S E De W) (hE : EnvOk K S σ Γ) : KW K S (fun c f M1 => E.ex c f Γ M1) W σ := fun c f M1 S1 dd h hM1 g r => L.ex c f Γ M1 S1 σ dd h hM1 g (hE.grow g) r
theorem gs_set (i : Nat) {x : Str} {px : Pos} (h : GE X Γ M e (fun d M1 => E.nx (Γ.set i (some d)) M1) (fun c f M1 => E.ex c f Γ M1)) (hN : X.N.Nodup) (hi : X.N[i]? = some x := by rfl) (hx : Loc X.env.scope x := by first | exact Or.inl rfl | exact Or.inr rfl)
    (hs : swapsWith e (some (.Name x px)) pos.line X.env = pure false := by rfl) (hf : X.fn x = true ∨ X.env.scope.names.lookup x = some .local := by first | exact .inl rfl | exact .inr rfl) : GS X Γ M (.Assign [.Name x px] e pos) E := fun S σ hM hE W tk De L =>
  of_ps (ps_set hN hi hx we hs hf) (h S σ hM hE W tk (L.kw hE) _ fun d M1 S1 v h1 hM1 g1 r => L.nx _ M1 S1 _ h1 hM1 g1 ((hE.grow g1).set r))
theorem gs_expr (h : GE X Γ M e (fun _ M1 => E.nx Γ M1) (fun c f M1 => E.ex c f Γ M1)) (hs : swapsWith e none pos.line X.env = pure false := by rfl) : GS X Γ M (.Expr e pos) E := fun S σ hM hE W tk De L =>
  of_ps (ps_expr we hs) (h S σ hM hE W tk (L.kw hE) _ fun d M1 S1 v h1 hM1 g1 r => L.nx _ M1 S1 _ h1 hM1 g1 (hE.grow g1))
theorem gs_ret (h : GE X Γ M e E.rt (fun c f M1 => E.ex c f Γ M1)) : GS X Γ M (.Return (some e) pos) E := fun S σ hM hE W tk De L => of_ps (ps_ret we) (h S σ hM hE W tk (L.kw hE) _ L.rt)
theorem gs_retN (h : E.rt .non M) : GS X Γ M (.Return none pos) E := fun S σ hM hE W tk De L => of_ps ps_retN (L.rt _ M S _ h hM (Grow.refl _) rfl)
theorem gs_pass (h : E.nx Γ M) : GS X Γ M (.Pass pos) E := fun S σ hM hE W tk De L => of_ps ps_pass (L.nx Γ M S σ h hM (Grow.refl _) hE)
theorem gs_break (h : E.bk Γ M) : GS X Γ M (.Break pos) E := fun S σ hM hE W tk De L => of_ps ps_break (L.bk Γ M S σ h hM (Grow.refl _) hE)
theorem gs_continue (h : E.ct Γ M) : GS X Γ M (.Continue pos) E := fun S σ hM hE W tk De L => of_ps ps_continue (L.ct Γ M S σ h hM (Grow.refl _) hE)
theorem gs_if {s1 s2 : List Stmt} (h : GT X Γ M c (fun v M1 => (v = true → GB X Γ M1 s1 E) ∧ (v = false → GB X Γ M1 s2 E)) (fun c f M1 => E.ex c f Γ M1)) : GS X Γ M (.If c s1 s2 pos) E := fun S σ hM hE W tk De L =>
  of_ps (ps_if wt wb wb) (h S σ hM hE W tk (L.kw hE) _ fun v M1 S1 h1 hM1 g1 => by
    cases v with
    | true => exact (h1.1 rfl) S1 σ hM1 (hE.grow g1) W tk De (L.grow g1)
    | false => exact (h1.2 rfl) S1 σ hM1 (hE.grow g1) W tk De (L.grow g1))
end
end PD

set_option Elab.async false
set_option linter.all false
set_option maxRecDepth 100000
set_option maxHeartbeats 4000000
/-! PD: what the operators make of data. -/
namespace PD
open PySem L2
open Evl (Ex ex_rd ex_l ex_t)

/-! ### data as the library's plain data, for == -/
mutual
def py : D → PyData
  | .bl b => .bool b
  | .int i => .int i
  | .str s => .str s
  | .tup ds => .tuple (pys ds)
  | .lst ds => .list (pys ds)
  | .seq ds => .list (pys ds)
  | _ => .none
def pys : List D → List PyData
  | [] => []
  | d :: ds => py d :: pys ds
end
mutual
/-- plain data, at most n deep -/
def sm : Nat → D → Bool
  | _, .non => true
  | _, .bl _ => true
  | _, .int _ => true
  | _, .str s => PyData.canLay0 (.str s)
  | n, .tup ds => match n with | 0 => false | n + 1 => sms n ds
  | n, .lst ds => match n with | 0 => false | n + 1 => sms n ds
  | n, .seq ds => match n with | 0 => false | n + 1 => sms n ds
  | _, _ => false
def sms : Nat → List D → Bool
  | _, [] => true
  | n, d :: ds => sm n d && sms n ds
end
theorem sms_iff : ∀ {n : Nat} {ds : List D}, sms n ds = true ↔ ∀ d ∈ ds, sm n d = true
  | n, [] => by simp [sms]
  | n, d :: ds => by simp [sms, sms_iff (ds := ds)]
theorem pys_map : ∀ ds : List D, pys ds = ds.map py
  | [] => rfl
  | d :: ds => by simp [pys, pys_map ds]
theorem sm_all : ∀ N : Nat, (∀ d, sizeOf d < N → ∀ n, sm n d = true → (py d).canLay0 = true ∧ (py d).depth ≤ n) ∧ ∀ ds : List D, sizeOf ds < N → ∀ n, sms n ds = true → PyData.canLayAll0 (pys ds) = true ∧ PyData.depthAll (pys ds) ≤ n := by
  intro N
  induction N with
  | zero => exact ⟨fun _ h => absurd h (Nat.not_lt_zero _), fun _ h => absurd h (Nat.not_lt_zero _)⟩
  | succ N ih =>
    refine ⟨fun d hd n h => ?_, fun ds hd n h => ?_⟩
    · cases d with
      | non => exact ⟨rfl, Nat.zero_le _⟩
      | bl b => exact ⟨rfl, Nat.zero_le _⟩
      | int i => exact ⟨rfl, Nat.zero_le _⟩
      | str s => simp only [sm] at h; exact ⟨h, Nat.zero_le _⟩
      | tup ds =>
        cases n with
        | zero => simp [sm] at h
        | succ n =>
          simp only [sm] at h
          obtain ⟨h1, h2⟩ := ih.2 ds (by simp at hd; omega) n h
          exact ⟨by simpa only [py, PyData.canLay0] using h1, by simp only [py, PyData.depth]; omega⟩
      | lst ds =>
        cases n with
        | zero => simp [sm] at h
        | succ n =>
          simp only [sm] at h
          obtain ⟨h1, h2⟩ := ih.2 ds (by simp at hd; omega) n h
          exact ⟨by simpa only [py, PyData.canLay0] using h1, by simp only [py, PyData.depth]; omega⟩
      | seq ds =>
        cases n with
        | zero => simp [sm] at h
        | succ n =>
          simp only [sm] at h
          obtain ⟨h1, h2⟩ := ih.2 ds (by simp at hd; omega) n h
          exact ⟨by simpa only [py, PyData.canLay0] using h1, by simp only [py, PyData.depth]; omega⟩
      | dct ks ds => simp [sm] at h
      | ins C fs ds => simp [sm] at h
      | hdl k => simp [sm] at h
      | raw v => simp [sm] at h
    · cases ds with
      | nil => exact ⟨rfl, Nat.zero_le _⟩
      | cons d r =>
        simp only [sms, Bool.and_eq_true] at h
        obtain ⟨a1, a2⟩ := ih.1 d (by simp at hd; omega) n h.1
        obtain ⟨b1, b2⟩ := ih.2 r (by simp at hd; omega) n h.2
        exact ⟨by simp only [pys, PyData.canLayAll0, a1, b1, Bool.and_self], by simp only [pys, PyData.depthAll]; omega⟩
theorem shaped_of {d : D} {n : Nat} (h : sm n d = true) (hn : n ≤ 64) : SeqAt.shaped (py d) = true := by
  obtain ⟨h1, h2⟩ := (sm_all (sizeOf d + 1)).1 d (by omega) n h
  unfold SeqAt.shaped
  rw [h1, decide_eq_true (by omega)]; rfl
section
variable {K : PySem.W.Frag} {S : Sg}
theorem dp_all (zh : Ex S.Z S.H) : ∀ N : Nat, (∀ d, sizeOf d < N → ∀ n v, sm n d = true → Rep K S d v → Dp K S.H v (py d)) ∧ ∀ ds : List D, sizeOf ds < N → ∀ n xs, sms n ds = true → RepL K S ds xs → DpAll K S.H xs (pys ds) := by
  intro N
  induction N with
  | zero => exact ⟨fun _ h => absurd h (Nat.not_lt_zero _), fun _ h => absurd h (Nat.not_lt_zero _)⟩
  | succ N ih =>
    refine ⟨fun d hd n v h r => ?_, fun ds hd n xs h r => ?_⟩
    · cases d with
      | non => cases r; exact .non
      | bl b => cases r; exact .bl b
      | int i => cases r; exact .int i
      | str s => cases r; exact .str s
      | tup ds =>
        obtain ⟨a, xs, rfl, s, r⟩ := r
        cases n with
        | zero => simp [sm] at h
        | succ n => simp only [sm] at h; exact .tup (ex_t zh s) (ih.2 ds (by simp at hd; omega) n xs h r)
      | lst ds =>
        obtain ⟨a, xs, rfl, s, r⟩ := r
        cases n with
        | zero => simp [sm] at h
        | succ n => simp only [sm] at h; exact .lst (SqL.of (zh _ _ s)) (ih.2 ds (by simp at hd; omega) n xs h r)
      | seq ds =>
        obtain ⟨a, xs, rfl, s, r⟩ := r
        cases n with
        | zero => simp [sm] at h
        | succ n => simp only [sm] at h; exact .lst (ex_l zh s) (ih.2 ds (by simp at hd; omega) n xs h r)
      | dct ks ds => simp [sm] at h
      | ins C fs ds => simp [sm] at h
      | hdl k => simp [sm] at h
      | raw v => simp [sm] at h
    · cases ds with
      | nil => have e : xs = [] := r; subst e; exact .nil
      | cons d q =>
        obtain ⟨x, ys, rfl, r1, r2⟩ := r
        simp only [sms, Bool.and_eq_true] at h
        exact .cons (ih.1 d (by simp at hd; omega) n x h.1 r1) (ih.2 q (by simp at hd; omega) n ys h.2 r2)
theorem dp_of {M : Ms} {d : D} {v : V} {n : Nat} (hM : OkM K S M) (h : sm n d = true) (r : Rep K S d v) : Dp K S.H v (py d) := (dp_all hM.zh (sizeOf d + 1)).1 d (by omega) n v h r
end

/-! ### rules that serve several kinds -/
def rAddU (K : PySem.W.Frag) : R2 := fun x y H Q => rI0 (fun i j => .int (i + j)) x y H Q ∨ (∃ i j, x = .str i ∧ y = .str j ∧ i.length + j.length ≤ sizeLine ∧ Q (.str (i ++ j)) H) ∨ rCat x y H Q ∨ rCatA K x y H Q
def CPowX (i j : Int) : Prop := 0 ≤ j ∧ (Builtin.Int.intBits i : Int) * j ≤ 2 ^ 27
def rStrMul : R2 := fun x y H Q => ∃ z k, x = .str z ∧ y = .int k ∧ 0 ≤ k ∧ k ≤ 1000 ∧ z.length ≤ 1000 ∧ Q (.str ⟨(List.replicate k.toNat z.cps).foldl (· ++ ·) #[]⟩) H
def rMulU (K : PySem.W.Frag) : R2 := fun x y H Q => rI CMulX (fun i j => .int (i * j)) x y H Q ∨ rRep x y H Q ∨ rRepT K x y H Q ∨ rStrMul x y H Q
def rEqU (K : PySem.W.Frag) : R2 := fun x y H Q => rEq x y H Q ∨ rEqD K x y H Q
def rNeU (K : PySem.W.Frag) : R2 := fun x y H Q => rNe x y H Q ∨ rNeD K x y H Q
def rInU (K : PySem.W.Frag) : R2 := fun x y H Q => rIn K false x y H Q ∨ (∃ i j, x = .str i ∧ y = .str j ∧ Q (.bl (!(Builtin.Str.occurrences j i 0 j.length 1).isEmpty)) H) ∨ rInD K x y H Q
def rNotInU (K : PySem.W.Frag) : R2 := fun x y H Q => rIn K true x y H Q ∨ (∃ i j, x = .str i ∧ y = .str j ∧ Q (.bl (!(!(Builtin.Str.occurrences j i 0 j.length 1).isEmpty))) H) ∨ rNotInD K x y H Q
section
variable {X : Cx}
theorem op_addU : OpR X (binaryOp .Add) (rAddU X.K) := op_add.or (op_add_str.or (op_cat.or op_catA))
theorem op_powX : OpR X (binaryOp .Pow) (rI CPowX fun i j => .int (i ^ j.toNat)) := opI fun _ _ _ _ _ _ _ hc q => PyProof.Rows.pow_int hc.1 hc.2 q
theorem op_eqU (hu : X.A.units + 64 < cLine) : OpR X (compareOp .Eq) (rEqU X.K) := op_eq.or (op_eqD hu)
theorem op_neU (hu : X.A.units + 64 < cLine) : OpR X (compareOp .NotEq) (rNeU X.K) := op_ne.or (op_neD hu)
theorem op_inU (hu : X.A.units + 65 < cLine) : OpR X (compareOp .In) (rInU X.K) := op_in_seq.or (op_in_str.or (op_inD hu))
theorem op_notInU (hu : X.A.units + 65 < cLine) : OpR X (compareOp .NotIn) (rNotInU X.K) := op_notIn_seq.or (op_notIn_str.or (op_notInD hu))
theorem op_strMul : OpR X (binaryOp .Mult) rStrMul := by
  intro pins s σ H x y v u Q I rx ry h
  obtain ⟨z, k, rfl, rfl, h0, h1, h2, q⟩ := h
  obtain ⟨t, rfl⟩ := rx
  obtain ⟨t', rfl⟩ := ry
  have two : (2 : Int) ^ 63 = 9223372036854775808 := by decide
  refine PySem.P.mul_str (by
    have a1 : ¬ k < -(2 ^ 63 : Int) := by omega
    have a2 : ¬ k ≥ 2 ^ 63 := by omega
    rw [decide_eq_false a1, decide_eq_false a2]; rfl) (fun a _ b => ?_) (fun a _ => ?_) ?_
  · have h3 : (0 : Int) < k := by omega
    have h4 : (2 ^ 63 - 1) / k ≥ (2 ^ 63 - 1) / 1000 := by
      have : (1000 : Int) * ((2 ^ 63 - 1) / 1000) ≤ 2 ^ 63 - 1 := by omega
      refine Int.le_ediv_of_mul_le h3 ?_
      have h6 : (0:Int) ≤ (2 ^ 63 - 1) / 1000 := by omega
      calc (2 ^ 63 - 1) / 1000 * k ≤ (2 ^ 63 - 1) / 1000 * 1000 := Int.mul_le_mul_of_nonneg_left h1 h6
        _ ≤ 2 ^ 63 - 1 := by omega
    have h5 : ((2:Int) ^ 63 - 1) / 1000 > 1000 := by omega
    omega
  · have h3 : z.length * k.toNat ≤ 1000 * 1000 := Nat.mul_le_mul h2 (by omega)
    show decide (z.length * k.toNat > sizeLine) = false
    rw [sizeLine_eq]
    exact decide_eq_false (by omega)
  · by_cases c1 : k < 1
    · rw [if_pos c1]
      have : k = 0 := by omega
      subst this
      exact ⟨by decide, ⟨.str Str.empty, H, I.tok _, ⟨_, rfl⟩, q⟩⟩
    · rw [if_neg c1]
      by_cases c2 : (k == 1 || z.length == 0) = true
      · rw [if_pos c2]
        have e : (⟨(List.replicate k.toNat z.cps).foldl (· ++ ·) #[]⟩ : Str) = z := by
          simp only [Bool.or_eq_true, beq_iff_eq] at c2
          rcases c2 with c | c
          · subst c
            obtain ⟨zc⟩ := z
            simp
          · obtain ⟨zc⟩ := z
            have hz : zc = #[] := by
              have : zc.size = 0 := c
              exact Array.eq_empty_of_size_eq_zero this
            subst hz
            have : ∀ n : Nat, (List.replicate n (#[] : Array Nat)).foldl (· ++ ·) #[] = #[] := by
              intro n
              induction n with
              | zero => rfl
              | succ n ih => simp [List.replicate_succ, ih]
            simp [this]
        rw [e] at q
        exact ⟨.str z, H, I, ⟨_, rfl⟩, q⟩
      · rw [if_neg c2]
        refine ⟨?_, ⟨.str _, H, I.tok _, ⟨_, rfl⟩, q⟩⟩
        rw [sizeLine_eq]
        have e : ∀ (n : Nat) (b : Array Nat), ((List.replicate n z.cps).foldl (· ++ ·) b).size = b.size + n * z.cps.size := by
          intro n
          induction n with
          | zero => intro b; simp
          | succ n ih => intro b; rw [List.replicate_succ, List.foldl_cons, ih, Array.size_append, Nat.succ_mul]; omega
        have e2 := e k.toNat #[]
        have h3 : k.toNat * z.cps.size ≤ 1000 * 1000 := Nat.mul_le_mul (by omega) h2
        show ((List.replicate k.toNat z.cps).foldl (· ++ ·) #[]).size ≤ 16777216
        rw [e2]
        simp only [List.size_toArray, List.length_nil]
        omega
theorem op_mulU : OpR X (binaryOp .Mult) (rMulU X.K) := op_mulX.or (op_rep.or (op_repT.or op_strMul))
end

/-! ### leaves: what an operator makes of data -/
section
variable {K : PySem.W.Frag} {M : Ms} {k : KD} {i j : Int} {s t : Str} {ds es : List D} {x y d : D} {b : Bool}
/-- a rule that keeps the heap and hands back a flat value -/
theorem bin_flat {r : R2} {v : V} (h : ∀ S vx vy, OkM K S M → Rep K S x vx → Rep K S y vy → ∀ Q : VK, Q v S.H → r vx vy S.H Q) (hk : k d M) (hd : ∀ S, Rep K S d v := by intro _; rfl) : Bin K r x y M k := fun S vx vy hM rx ry Q hQ =>
  h S vx vy hM rx ry Q (hQ d M S v hk hM (Grow.refl _) (hd S))
theorem add_int (hk : k (.int (i + j)) M) : Bin K (rAddU K) (.int i) (.int j) M k := bin_flat (v := .int (i + j)) (fun S vx vy _ rx ry Q q => .inl ⟨i, j, rx, ry, q⟩) hk
theorem add_str (hl : s.length + t.length ≤ 16777216) (hk : k (.str (s ++ t)) M) : Bin K (rAddU K) (.str s) (.str t) M k := bin_flat (v := .str (s ++ t)) (fun S vx vy _ rx ry Q q => .inr (.inl ⟨s, t, rx, ry, hl, q⟩)) hk
theorem add_lst (hl : ds.length + es.length ≤ 16777216) (hk : k (.lst (ds ++ es)) M) : Bin K (rAddU K) (.lst ds) (.lst es) M k := fun S vx vy hM rx ry Q hQ => by
  obtain ⟨a, xs, rfl, h1, r1⟩ := rx
  obtain ⟨b, ys, rfl, h2, r2⟩ := ry
  refine .inr (.inr (.inl ⟨a, b, xs, ys, rfl, rfl, hM.zh _ _ h1, hM.zh _ _ h2, by rw [r1.len, r2.len]; exact hl, fun p hp => ?_⟩))
  obtain ⟨hM2, g2⟩ := new_z (o := .lst (xs ++ ys)) hM hp
  exact hQ _ M ⟨S.as, upd S.Z p (.lst (xs ++ ys)), upd S.H p (.lst (xs ++ ys))⟩ (.ref p) hk hM2 g2 ⟨p, _, rfl, upd_same, (r1.app r2).grow g2⟩
theorem add_lstM {p1 : Nat} {h1 : Addr} (e1 : M[p1]? = some (h1, .lst ds)) (hl : ds.length + es.length ≤ 16777216) (hk : k (.lst (ds ++ es)) M) : Bin K (rAddU K) (.hdl h1) (.lst es) M k := fun S vx vy hM rx ry Q hQ => by
  cases rx
  obtain ⟨_, xs, h1', r1⟩ := hM.at e1
  obtain ⟨b, ys, rfl, h2, r2⟩ := ry
  refine .inr (.inr (.inl ⟨h1, b, xs, ys, rfl, rfl, h1', hM.zh _ _ h2, by rw [r1.len, r2.len]; exact hl, fun p hp => ?_⟩))
  obtain ⟨hM2, g2⟩ := new_z (o := .lst (xs ++ ys)) hM hp
  exact hQ _ M ⟨S.as, upd S.Z p (.lst (xs ++ ys)), upd S.H p (.lst (xs ++ ys))⟩ (.ref p) hk hM2 g2 ⟨p, _, rfl, upd_same, (r1.app r2).grow g2⟩
theorem add_tup (hl : ds.length + es.length ≤ 16777216) (hk : k (.tup (ds ++ es)) M) : Bin K (rAddU K) (.tup ds) (.tup es) M k := fun S vx vy hM rx ry Q hQ => by
  obtain ⟨a, xs, rfl, h1, r1⟩ := rx
  obtain ⟨b, ys, rfl, h2, r2⟩ := ry
  have l1 := r1.len
  have l2 := r2.len
  refine .inr (.inr (.inr ⟨a, b, xs, ys, rfl, rfl, ex_t hM.zh h1, ex_t hM.zh h2, by rw [l1, l2]; exact hl, fun e => ?_, fun _ e => ?_, fun _ _ p hp => ?_⟩))
  · have : ds = [] := by cases ds with | nil => rfl | cons _ _ => rw [e] at l1; simp at l1
    subst this
    exact hQ _ M S _ hk hM (Grow.refl _) ⟨b, ys, rfl, h2, r2⟩
  · have : es = [] := by cases es with | nil => rfl | cons _ _ => rw [e] at l2; simp at l2
    subst this
    rw [List.append_nil] at hk
    exact hQ _ M S _ hk hM (Grow.refl _) ⟨a, xs, rfl, h1, r1⟩
  · obtain ⟨hM2, g2⟩ := new_z (o := .tup (xs ++ ys)) hM hp
    exact hQ _ M ⟨S.as, upd S.Z p (.tup (xs ++ ys)), upd S.H p (.tup (xs ++ ys))⟩ (.ref p) hk hM2 g2 ⟨p, _, rfl, SqT.of upd_same, (r1.app r2).grow g2⟩
theorem sub_int (hk : k (.int (i - j)) M) : Bin K (rI0 fun i j => .int (i - j)) (.int i) (.int j) M k := bin_flat (v := .int (i - j)) (fun S vx vy _ rx ry Q q => ⟨i, j, rx, ry, q⟩) hk
theorem mul_int' (hc : CMulX i j) (hk : k (.int (i * j)) M) : Bin K (rMulU K) (.int i) (.int j) M k := bin_flat (v := .int (i * j)) (fun S vx vy _ rx ry Q q => .inl ⟨i, j, rx, ry, hc, q⟩) hk
theorem mul_lst (h1 : -(2 ^ 63) ≤ j) (h2 : j < 2 ^ 63) (hl : ds.length * j.toNat ≤ 16777216) (hk : k (.lst (List.replicate j.toNat ds).flatten) M) : Bin K (rMulU K) (.lst ds) (.int j) M k := fun S vx vy hM rx ry Q hQ => by
  obtain ⟨a, xs, rfl, e1, r1⟩ := rx
  refine .inr (.inl ⟨a, j, xs, rfl, ry, hM.zh _ _ e1, h1, h2, by rw [r1.len]; exact hl, fun p hp => ?_⟩)
  obtain ⟨hM2, g2⟩ := new_z (o := .lst (List.replicate j.toNat xs).flatten) hM hp
  have rr : ∀ n : Nat, RepL K S (List.replicate n ds).flatten (List.replicate n xs).flatten := by
    intro n
    induction n with
    | zero => exact RepL.nil
    | succ n ih => simp only [List.replicate_succ, List.flatten_cons]; exact r1.app ih
  exact hQ _ M ⟨S.as, upd S.Z p (.lst (List.replicate j.toNat xs).flatten), upd S.H p (.lst (List.replicate j.toNat xs).flatten)⟩ (.ref p) hk hM2 g2 ⟨p, _, rfl, upd_same, (rr _).grow g2⟩
theorem mul_tup (h0 : ds ≠ []) (h1 : 2 ≤ j) (h2 : j ≤ 1000) (hl : ds.length ≤ 1000) (hk : k (.tup (List.replicate j.toNat ds).flatten) M) : Bin K (rMulU K) (.tup ds) (.int j) M k := fun S vx vy hM rx ry Q hQ => by
  obtain ⟨a, xs, rfl, e1, r1⟩ := rx
  have l1 := r1.len
  refine .inr (.inr (.inl ⟨a, j, xs, rfl, ry, ex_t hM.zh e1, fun e => h0 (by cases ds with | nil => rfl | cons _ _ => rw [e] at l1; simp at l1), h1, h2, by omega, fun p hp => ?_⟩))
  obtain ⟨hM2, g2⟩ := new_z (o := .tup (List.replicate j.toNat xs).flatten) hM hp
  have rr : ∀ n : Nat, RepL K S (List.replicate n ds).flatten (List.replicate n xs).flatten := by
    intro n
    induction n with
    | zero => exact RepL.nil
    | succ n ih => simp only [List.replicate_succ, List.flatten_cons]; exact r1.app ih
  exact hQ _ M ⟨S.as, upd S.Z p (.tup (List.replicate j.toNat xs).flatten), upd S.H p (.tup (List.replicate j.toNat xs).flatten)⟩ (.ref p) hk hM2 g2 ⟨p, _, rfl, SqT.of upd_same, (rr _).grow g2⟩
theorem mul_str (h1 : 0 ≤ j) (h2 : j ≤ 1000) (hl : s.length ≤ 1000) (hk : k (.str ⟨(List.replicate j.toNat s.cps).foldl (· ++ ·) #[]⟩) M) : Bin K (rMulU K) (.str s) (.int j) M k :=
  bin_flat (v := .str _) (fun S vx vy _ rx ry Q q => .inr (.inr (.inr ⟨s, j, rx, ry, h1, h2, hl, q⟩))) hk
theorem div_int (hc : CDivW i j) (hk : k (.int (i / j)) M) : Bin K (rI CDivW fun i j => .int (i / j)) (.int i) (.int j) M k := bin_flat (v := .int (i / j)) (fun S vx vy _ rx ry Q q => ⟨i, j, rx, ry, hc, q⟩) hk
theorem mod_int (hc : 0 < j) (hk : k (.int (i % j)) M) : Bin K (rI (fun _ j => 0 < j) fun i j => .int (i % j)) (.int i) (.int j) M k := bin_flat (v := .int (i % j)) (fun S vx vy _ rx ry Q q => ⟨i, j, rx, ry, hc, q⟩) hk
theorem pow_int (hc : CPowX i j) (hk : k (.int (i ^ j.toNat)) M) : Bin K (rI CPowX fun i j => .int (i ^ j.toNat)) (.int i) (.int j) M k := bin_flat (v := .int (i ^ j.toNat)) (fun S vx vy _ rx ry Q q => ⟨i, j, rx, ry, hc, q⟩) hk
theorem lt_int (hk : k (.bl (decide (i < j))) M) : Bin K (rI0 fun i j => .bl (decide (i < j))) (.int i) (.int j) M k := bin_flat (v := .bl (decide (i < j))) (fun S vx vy _ rx ry Q q => ⟨i, j, rx, ry, q⟩) hk
theorem le_int (hk : k (.bl (decide (i ≤ j))) M) : Bin K (rI0 fun i j => .bl (decide (i ≤ j))) (.int i) (.int j) M k := bin_flat (v := .bl (decide (i ≤ j))) (fun S vx vy _ rx ry Q q => ⟨i, j, rx, ry, q⟩) hk
theorem gt_int (hk : k (.bl (decide (j < i))) M) : Bin K (rI0 fun i j => .bl (decide (j < i))) (.int i) (.int j) M k := bin_flat (v := .bl (decide (j < i))) (fun S vx vy _ rx ry Q q => ⟨i, j, rx, ry, q⟩) hk
theorem ge_int' (hk : k (.bl (decide (j ≤ i))) M) : Bin K (rI0 fun i j => .bl (decide (j ≤ i))) (.int i) (.int j) M k := bin_flat (v := .bl (decide (j ≤ i))) (fun S vx vy _ rx ry Q q => ⟨i, j, rx, ry, q⟩) hk
/-- ==, flat data -/
theorem eq_int (hk : k (.bl (decide (i = j))) M) : Bin K (rEqU K) (.int i) (.int j) M k := bin_flat (v := .bl (decide (i = j))) (fun S vx vy _ rx ry Q q => by
  cases rx; cases ry
  exact .inl ⟨rfl, by rw [show decide (V.int i = V.int j) = decide (i = j) from by rw [dec_int, Bool.beq_eq_decide_eq]]; exact q⟩) hk
theorem ne_int (hk : k (.bl (!decide (i = j))) M) : Bin K (rNeU K) (.int i) (.int j) M k := bin_flat (v := .bl (!decide (i = j))) (fun S vx vy _ rx ry Q q => by
  cases rx; cases ry
  exact .inl ⟨rfl, by rw [show decide (V.int i = V.int j) = decide (i = j) from by rw [dec_int, Bool.beq_eq_decide_eq]]; exact q⟩) hk
theorem eq_str (hk : k (.bl (decide (s = t))) M) : Bin K (rEqU K) (.str s) (.str t) M k := bin_flat (v := .bl (decide (s = t))) (fun S vx vy _ rx ry Q q => by
  cases rx; cases ry
  exact .inl ⟨rfl, by rw [show decide (V.str s = V.str t) = decide (s = t) from by rw [dec_str]; by_cases h : s = t <;> simp [h]]; exact q⟩) hk
theorem ne_str (hk : k (.bl (!decide (s = t))) M) : Bin K (rNeU K) (.str s) (.str t) M k := bin_flat (v := .bl (!decide (s = t))) (fun S vx vy _ rx ry Q q => by
  cases rx; cases ry
  exact .inl ⟨rfl, by rw [show decide (V.str s = V.str t) = decide (s = t) from by rw [dec_str]; by_cases h : s = t <;> simp [h]]; exact q⟩) hk
/-- ==, data of any kind -/
theorem eq_dat {n m : Nat} (hx : sm n x = true) (hy : sm m y = true) (hk : k (.bl (PyData.eqv (py x) (py y))) M) (hn : n ≤ 64 := by decide) (hm : m ≤ 64 := by decide) : Bin K (rEqU K) x y M k :=
  bin_flat (v := .bl (PyData.eqv (py x) (py y))) (fun S vx vy hM rx ry Q q => .inr ⟨_, _, dp_of hM hx rx, dp_of hM hy ry, shaped_of hx hn, shaped_of hy hm, q⟩) hk
theorem ne_dat {n m : Nat} (hx : sm n x = true) (hy : sm m y = true) (hk : k (.bl (!PyData.eqv (py x) (py y))) M) (hn : n ≤ 64 := by decide) (hm : m ≤ 64 := by decide) : Bin K (rNeU K) x y M k :=
  bin_flat (v := .bl (!PyData.eqv (py x) (py y))) (fun S vx vy hM rx ry Q q => .inr ⟨_, _, dp_of hM hx rx, dp_of hM hy ry, shaped_of hx hn, shaped_of hy hm, q⟩) hk
def isNon : D → Bool
  | .non => true
  | _ => false
theorem rep_non {S : Sg} {v : V} {d : D} (h : Rep K S d v) (hr : ∀ u, d ≠ .raw u) : decide (v = .non) = isNon d := by
  cases d with
  | non => cases h; rfl
  | bl b => cases h; rfl
  | int i => cases h; rfl
  | str s => cases h; rfl
  | tup ds => obtain ⟨a, xs, rfl, _⟩ := h; rfl
  | lst ds => obtain ⟨a, xs, rfl, _⟩ := h; rfl
  | seq ds => obtain ⟨a, xs, rfl, _⟩ := h; rfl
  | dct ks ds => obtain ⟨a, xs, rfl, _⟩ := h; rfl
  | ins C fs ds => obtain ⟨a, dx, xs, rfl, _⟩ := h; rfl
  | hdl a => cases h; rfl
  | raw v => exact absurd rfl (hr v)
theorem is_non (hk : k (.bl (isNon x)) M) (hr : ∀ u, x ≠ .raw u := by intro _ h; cases h) : Bin K rIsN x .non M k := bin_flat (v := .bl (isNon x)) (fun S vx vy _ rx ry Q q => ⟨ry, by rw [rep_non rx hr]; exact q⟩) hk
theorem not_non (hk : k (.bl (!isNon x)) M) (hr : ∀ u, x ≠ .raw u := by intro _ h; cases h) : Bin K rNotN x .non M k := bin_flat (v := .bl (!isNon x)) (fun S vx vy _ rx ry Q q => ⟨ry, by rw [rep_non rx hr]; exact q⟩) hk
/-- items -/
theorem ixN_of {n j : Nat} {i : Int} (h : (0 ≤ i ∧ i = j ∧ j < n) ∨ (i < 0 ∧ i + n = j)) : ixN n i = some j := by
  unfold ixN
  rcases h with ⟨h0, h1, h2⟩ | ⟨h0, h1⟩
  · rw [if_pos h0, if_pos (by omega)]; simp [h1]
  · rw [if_neg (by omega)]
    first
      | (rw [if_pos (by omega)]; congr 1; omega)
      | (split
         · congr 1; omega
         · omega)
theorem ix_tup' {j : Nat} (hi : (0 ≤ i ∧ i = j ∧ j < ds.length) ∨ (i < 0 ∧ i + ds.length = j)) (hd : ds[j]? = some d) (hk : k d M) : Bin K (rIx K) (.tup ds) (.int i) M k := fun S vx vy hM rx ry Q hQ => by
  obtain ⟨a, xs, rfl, h1, r1⟩ := rx
  obtain ⟨x, e, r⟩ := r1.get hd
  refine .inr (.inl ⟨a, xs, i, x, rfl, ry, ex_t hM.zh h1, ?_, hQ d M S x hk hM (Grow.refl _) r⟩)
  unfold atI
  rw [ixN_of (n := xs.length) (j := j) (by rw [r1.len]; exact hi)]; exact e
theorem ix_lst' {j : Nat} (hi : (0 ≤ i ∧ i = j ∧ j < ds.length) ∨ (i < 0 ∧ i + ds.length = j)) (hd : ds[j]? = some d) (hk : k d M) : Bin K (rIx K) (.lst ds) (.int i) M k := fun S vx vy hM rx ry Q hQ => by
  obtain ⟨a, xs, rfl, h1, r1⟩ := rx
  obtain ⟨x, e, r⟩ := r1.get hd
  refine .inl ⟨a, xs, i, x, rfl, ry, SqL.of (hM.zh _ _ h1), ?_, hQ d M S x hk hM (Grow.refl _) r⟩
  unfold atI
  rw [ixN_of (n := xs.length) (j := j) (by rw [r1.len]; exact hi)]; exact e
theorem ix_seq' {j : Nat} (hi : (0 ≤ i ∧ i = j ∧ j < ds.length) ∨ (i < 0 ∧ i + ds.length = j)) (hd : ds[j]? = some d) (hk : k d M) : Bin K (rIx K) (.seq ds) (.int i) M k := fun S vx vy hM rx ry Q hQ => by
  obtain ⟨a, xs, rfl, h1, r1⟩ := rx
  obtain ⟨x, e, r⟩ := r1.get hd
  refine .inl ⟨a, xs, i, x, rfl, ry, ex_l hM.zh h1, ?_, hQ d M S x hk hM (Grow.refl _) r⟩
  unfold atI
  rw [ixN_of (n := xs.length) (j := j) (by rw [r1.len]; exact hi)]; exact e
theorem ix_hdl {j p : Nat} {h : Addr} (hm : M[p]? = some (h, .lst ds)) (hi : (0 ≤ i ∧ i = j ∧ j < ds.length) ∨ (i < 0 ∧ i + ds.length = j)) (hd : ds[j]? = some d) (hk : k d M) : Bin K (rIx K) (.hdl h) (.int i) M k := fun S vx vy hM rx ry Q hQ => by
  cases rx
  obtain ⟨_, xs, h1, r1⟩ := hM.at hm
  obtain ⟨x, e, r⟩ := r1.get hd
  refine .inl ⟨h, xs, i, x, rfl, ry, SqL.of h1, ?_, hQ d M S x hk hM (Grow.refl _) r⟩
  unfold atI
  rw [ixN_of (n := xs.length) (j := j) (by rw [r1.len]; exact hi)]; exact e
theorem ix_str' {j c : Nat} (hi : (0 ≤ i ∧ i = j ∧ j < s.length) ∨ (i < 0 ∧ i + s.length = j)) (hd : s.cps[j]? = some c) (hl : s.length ≤ 16777216) (hk : k (.str ⟨#[c]⟩) M) : Bin K (rIx K) (.str s) (.int i) M k :=
  bin_flat (v := .str ⟨#[c]⟩) (fun S vx vy _ rx ry Q q => .inr (.inr ⟨s, i, c, rx, ry, hl, by
    unfold atI
    rw [ixN_of (n := s.cps.toList.length) (j := j) (by rw [show s.cps.toList.length = s.length from by simp [Str.length]]; exact hi)]
    simpa using hd, q⟩)) hk
end
end PD

set_option Elab.async false
set_option linter.all false
set_option maxRecDepth 100000
set_option maxHeartbeats 4000000
/-! PD: calls, objects. -/
namespace PD
open PySem L2
open Evl (Ex ex_rd ex_l ex_t)

/-! ### built-ins -/
def CallD (K : PySem.W.Frag) (r : List V → Hp → VK → Prop) (ds : List D) (M : Ms) (k : KD) : Prop := ∀ S vs, OkM K S M → RepL K S ds vs → ∀ Q, KV K S k Q → r vs S.H Q
section
variable {X : Cx} {Γ : En} {M : Ms} {e a b c o : Expr} {es : List Expr} {st : Stmt} {rest : List Stmt} {k : KD} {kx : KX} {E : ED} {d x y z : D} {pos apos p : Pos} {id T : String} {nm : Str} {r : List V → Hp → VK → Prop}
theorem ge_callB (hc : CallR X (.builtin id) r) (hm : X.mg nm = none) (hv : bootBuiltins nm = some (.builtin id)) (h : GA X Γ M (e :: es) (fun ds M1 => CallD X.K r ds M1 k) kx) (hg : Gl X nm := by rfl) (hn : nm ≠ "__name__" := by decide) (hdb : (nm == ("__debug__" : Str)) = false := by decide)
    (he : starEach (e :: es) X.env = (false, eval e X.env) :: starEach es X.env := by rfl) (hpl : (backTo pos (starEach es X.env)).any (·.1) = false := by rfl) : GE X Γ M (.Call (.Name nm p) (e :: es) [] pos) k kx := fun S σ hM hE W tk hW Q hQ =>
  of_pe (pe_callB hc hg hm hv wa hn hdb he hpl) (h S σ hM hE W tk hW _ fun ds M1 S1 vs h1 hM1 g1 r1 => h1 S1 vs hM1 r1 Q (hQ.grow g1))
theorem ge_callT (hc : CallR X (.type T) r) (hm : X.mg nm = none) (hv : bootBuiltins nm = some (.type T)) (h : GA X Γ M (e :: es) (fun ds M1 => CallD X.K r ds M1 k) kx) (hg : Gl X nm := by rfl) (hn : nm ≠ "__name__" := by decide) (hdb : (nm == ("__debug__" : Str)) = false := by decide)
    (he : starEach (e :: es) X.env = (false, eval e X.env) :: starEach es X.env := by rfl) (hpl : (backTo pos (starEach es X.env)).any (·.1) = false := by rfl) : GE X Γ M (.Call (.Name nm p) (e :: es) [] pos) k kx := fun S σ hM hE W tk hW Q hQ =>
  of_pe (pe_callTy hc hg hm hv wa hn hdb he hpl) (h S σ hM hE W tk hW _ fun ds M1 S1 vs h1 hM1 g1 r1 => h1 S1 vs hM1 r1 Q (hQ.grow g1))
def CallV (K : PySem.W.Frag) (r : List V → Hp → VK → Prop) (ds : List D) (M : Ms) (z : D) : Prop := CallD K r ds M fun d M' => d = z ∧ M' = M
theorem CallV.cd {K : PySem.W.Frag} {ds : List D} (h : CallV K r ds M z) (hk : k z M) : CallD K r ds M k := fun S vs hM r1 Q hQ => h S vs hM r1 Q fun d M' S' v ⟨q1, q2⟩ => by rw [q1, q2]; exact hQ z M S' v hk
theorem ev_callB {ds : List D} (hc : CallR X (.builtin id) r) (hm : X.mg nm = none) (hv : bootBuiltins nm = some (.builtin id)) (h : AV X Γ M (e :: es) ds) (hr : CallV X.K r ds M z) (hg : Gl X nm := by rfl) (hn : nm ≠ "__name__" := by decide) (hdb : (nm == ("__debug__" : Str)) = false := by decide)
    (he : starEach (e :: es) X.env = (false, eval e X.env) :: starEach es X.env := by rfl) (hpl : (backTo pos (starEach es X.env)).any (·.1) = false := by rfl) : EV X Γ M (.Call (.Name nm p) (e :: es) [] pos) z := ge_callB hc hm hv (h.ga hr) hg hn hdb he hpl
theorem ev_callT {ds : List D} (hc : CallR X (.type T) r) (hm : X.mg nm = none) (hv : bootBuiltins nm = some (.type T)) (h : AV X Γ M (e :: es) ds) (hr : CallV X.K r ds M z) (hg : Gl X nm := by rfl) (hn : nm ≠ "__name__" := by decide) (hdb : (nm == ("__debug__" : Str)) = false := by decide)
    (he : starEach (e :: es) X.env = (false, eval e X.env) :: starEach es X.env := by rfl) (hpl : (backTo pos (starEach es X.env)).any (·.1) = false := by rfl) : EV X Γ M (.Call (.Name nm p) (e :: es) [] pos) z := ge_callT hc hm hv (h.ga hr) hg hn hdb he hpl
end
section
variable {K : PySem.W.Frag} {M : Ms} {k : KD} {i j : Int} {s t : Str} {ds es : List D} {x y d : D} {b : Bool} {r : List V → Hp → VK → Prop}
theorem call_flat {v : V} (h : ∀ S vs, OkM K S M → RepL K S ds vs → ∀ Q : VK, Q v S.H → r vs S.H Q) (hk : k d M) (hd : ∀ S, Rep K S d v := by intro _; rfl) : CallD K r ds M k := fun S vs hM rv Q hQ => h S vs hM rv Q (hQ d M S v hk hM (Grow.refl _) (hd S))
theorem rep1 {S : Sg} {vs : List V} (h : RepL K S [x] vs) : ∃ v, vs = [v] ∧ Rep K S x v := by
  obtain ⟨v, r, rfl, h1, h2⟩ := h
  have e : r = [] := h2
  subst e
  exact ⟨v, rfl, h1⟩
theorem rep2 {S : Sg} {vs : List V} (h : RepL K S [x, y] vs) : ∃ v w, vs = [v, w] ∧ Rep K S x v ∧ Rep K S y w := by
  obtain ⟨v, r, rfl, h1, h2⟩ := h
  obtain ⟨w, rfl, h3⟩ := rep1 h2
  exact ⟨v, w, rfl, h1, h3⟩
def rLen (K : PySem.W.Frag) : List V → Hp → VK → Prop := fun xs H Q => (∃ x n, xs = [x] ∧ LenV K x H n ∧ Q (.int n) H) ∨ (∃ a kvs, xs = [.ref a] ∧ H a = some (.dK kvs) ∧ Q (.int (kvs.length : Nat)) H)
theorem len_str (hl : s.length ≤ 16777216) (hk : k (.int s.length) M) : CallD K (fun xs H Q => ∃ x n, xs = [x] ∧ LenV K x H n ∧ Q (.int (n : Nat)) H) [.str s] M k := call_flat (v := .int (s.length : Nat)) (fun S vs _ rv Q q => by
  obtain ⟨v, rfl, r⟩ := rep1 rv
  cases r
  exact ⟨_, s.length, rfl, ⟨hl, rfl⟩, q⟩) hk
theorem len_tup (hk : k (.int ds.length) M) : CallD K (fun xs H Q => ∃ x n, xs = [x] ∧ LenV K x H n ∧ Q (.int (n : Nat)) H) [.tup ds] M k := call_flat (v := .int (ds.length : Nat)) (fun S vs hM rv Q q => by
  obtain ⟨v, rfl, a, xs, rfl, h, r⟩ := rep1 rv
  exact ⟨_, ds.length, rfl, .inr ⟨xs, ex_t hM.zh h, r.len.symm⟩, q⟩) hk
theorem len_lst (hk : k (.int ds.length) M) : CallD K (fun xs H Q => ∃ x n, xs = [x] ∧ LenV K x H n ∧ Q (.int (n : Nat)) H) [.lst ds] M k := call_flat (v := .int (ds.length : Nat)) (fun S vs hM rv Q q => by
  obtain ⟨v, rfl, a, xs, rfl, h, r⟩ := rep1 rv
  exact ⟨_, ds.length, rfl, .inl ⟨xs, SqL.of (hM.zh _ _ h), r.len.symm⟩, q⟩) hk
theorem len_seq (hk : k (.int ds.length) M) : CallD K (fun xs H Q => ∃ x n, xs = [x] ∧ LenV K x H n ∧ Q (.int (n : Nat)) H) [.seq ds] M k := call_flat (v := .int (ds.length : Nat)) (fun S vs hM rv Q q => by
  obtain ⟨v, rfl, a, xs, rfl, h, r⟩ := rep1 rv
  exact ⟨_, ds.length, rfl, .inl ⟨xs, ex_l hM.zh h, r.len.symm⟩, q⟩) hk
theorem len_hdl {p : Nat} {h : Addr} (hm : M[p]? = some (h, .lst ds)) (hk : k (.int ds.length) M) : CallD K (fun xs H Q => ∃ x n, xs = [x] ∧ LenV K x H n ∧ Q (.int (n : Nat)) H) [.hdl h] M k := call_flat (v := .int (ds.length : Nat)) (fun S vs hM rv Q q => by
  obtain ⟨v, rfl, rfl⟩ := rep1 rv
  obtain ⟨_, xs, h, r⟩ := hM.at hm
  exact ⟨_, ds.length, rfl, .inl ⟨xs, SqL.of h, r.len.symm⟩, q⟩) hk
def rInt1 : List V → Hp → VK → Prop := fun xs H Q => (∃ i, xs = [.int i] ∧ Q (.int i) H) ∨ ∃ k, xs = [.bl k] ∧ Q (.int (if k then 1 else 0)) H
theorem int_int (hk : k (.int i) M) : CallD K rInt1 [.int i] M k := call_flat (v := .int i) (fun S vs _ rv Q q => by
  obtain ⟨v, rfl, r⟩ := rep1 rv
  cases r
  exact .inl ⟨i, rfl, q⟩) hk
theorem int_bl (hk : k (.int (if b then 1 else 0)) M) : CallD K rInt1 [.bl b] M k := call_flat (v := .int (if b then 1 else 0)) (fun S vs _ rv Q q => by
  obtain ⟨v, rfl, r⟩ := rep1 rv
  cases r
  exact .inr ⟨b, rfl, q⟩) hk
def rAbs : List V → Hp → VK → Prop := fun xs H Q => ∃ i, xs = [.int i] ∧ Q (.int (if i < 0 then -i else i)) H
theorem abs_int (hk : k (.int (if i < 0 then -i else i)) M) : CallD K rAbs [.int i] M k := call_flat (v := .int (if i < 0 then -i else i)) (fun S vs _ rv Q q => by
  obtain ⟨v, rfl, r⟩ := rep1 rv
  cases r
  exact ⟨i, rfl, q⟩) hk
def rMin2 : List V → Hp → VK → Prop := fun xs H Q => ∃ i j, xs = [.int i, .int j] ∧ Q (.int (if j < i then j else i)) H
theorem max2_int (hk : k (.int (if j > i then j else i)) M) : CallD K Evl.rMax2 [.int i, .int j] M k := call_flat (v := .int (if j > i then j else i)) (fun S vs _ rv Q q => by
  obtain ⟨v, w, rfl, r1, r2⟩ := rep2 rv
  cases r1; cases r2
  exact ⟨i, j, rfl, q⟩) hk
theorem min2_int (hk : k (.int (if j < i then j else i)) M) : CallD K rMin2 [.int i, .int j] M k := call_flat (v := .int (if j < i then j else i)) (fun S vs _ rv Q q => by
  obtain ⟨v, w, rfl, r1, r2⟩ := rep2 rv
  cases r1; cases r2
  exact ⟨i, j, rfl, q⟩) hk
def rTupOf (K : PySem.W.Frag) : List V → Hp → VK → Prop := fun xs H Q => ∃ p ys, xs = [.ref p] ∧ ((SqL K H p ys ∧ ∀ l, H l = none → Q (.ref l) (upd H l (.tup ys))) ∨ (SqT K H p ys ∧ Q (.ref p) H))
def rLstOf (K : PySem.W.Frag) : List V → Hp → VK → Prop := fun xs H Q => ∃ p ys, xs = [.ref p] ∧ (SqL K H p ys ∨ SqT K H p ys) ∧ ∀ l, H l = none → Q (.ref l) (upd H l (.lst ys))
theorem tup_lst (hk : k (.tup ds) M) : CallD K (rTupOf K) [.lst ds] M k := fun S vs hM rv Q hQ => by
  obtain ⟨v, rfl, a, xs, rfl, h, r⟩ := rep1 rv
  refine ⟨a, xs, rfl, .inl ⟨SqL.of (hM.zh _ _ h), fun l hl => ?_⟩⟩
  obtain ⟨hM2, g2⟩ := new_z (o := .tup xs) hM hl
  exact hQ _ M ⟨S.as, upd S.Z l (.tup xs), upd S.H l (.tup xs)⟩ (.ref l) hk hM2 g2 ⟨l, _, rfl, SqT.of upd_same, r.grow g2⟩
theorem tup_hdl {p : Nat} {h : Addr} (hm : M[p]? = some (h, .lst ds)) (hk : k (.tup ds) M) : CallD K (rTupOf K) [.hdl h] M k := fun S vs hM rv Q hQ => by
  obtain ⟨v, rfl, rfl⟩ := rep1 rv
  obtain ⟨_, xs, h, r⟩ := hM.at hm
  refine ⟨_, xs, rfl, .inl ⟨SqL.of h, fun l hl => ?_⟩⟩
  obtain ⟨hM2, g2⟩ := new_z (o := .tup xs) hM hl
  exact hQ _ M ⟨S.as, upd S.Z l (.tup xs), upd S.H l (.tup xs)⟩ (.ref l) hk hM2 g2 ⟨l, _, rfl, SqT.of upd_same, r.grow g2⟩
theorem tup_tup (hk : k (.tup ds) M) : CallD K (rTupOf K) [.tup ds] M k := fun S vs hM rv Q hQ => by
  obtain ⟨v, rfl, a, xs, rfl, h, r⟩ := rep1 rv
  exact ⟨a, xs, rfl, .inr ⟨ex_t hM.zh h, hQ _ M S _ hk hM (Grow.refl _) ⟨a, xs, rfl, h, r⟩⟩⟩
theorem lst_tup (hk : k (.lst ds) M) : CallD K (rLstOf K) [.tup ds] M k := fun S vs hM rv Q hQ => by
  obtain ⟨v, rfl, a, xs, rfl, h, r⟩ := rep1 rv
  refine ⟨a, xs, rfl, .inr (ex_t hM.zh h), fun l hl => ?_⟩
  obtain ⟨hM2, g2⟩ := new_z (o := .lst xs) hM hl
  exact hQ _ M ⟨S.as, upd S.Z l (.lst xs), upd S.H l (.lst xs)⟩ (.ref l) hk hM2 g2 ⟨l, _, rfl, upd_same, r.grow g2⟩
theorem lst_tupM (hk : ∀ p, k (.hdl p) (M ++ [(p, .lst ds)])) : CallD K (rLstOf K) [.tup ds] M k := fun S vs hM rv Q hQ => by
  obtain ⟨v, rfl, a, xs, rfl, h, r⟩ := rep1 rv
  refine ⟨a, xs, rfl, .inr (ex_t hM.zh h), fun l hl => ?_⟩
  obtain ⟨hM2, g2⟩ := new_m (m := .lst ds) (o := .lst xs) hM hl (fun g => ⟨hM.zh.none hl, xs, upd_same, r.grow g⟩)
  exact hQ _ _ ⟨S.as ++ [l], S.Z, upd S.H l (.lst xs)⟩ (.ref l) (hk l) hM2 g2 rfl
theorem lst_lst (hk : k (.lst ds) M) : CallD K (rLstOf K) [.lst ds] M k := fun S vs hM rv Q hQ => by
  obtain ⟨v, rfl, a, xs, rfl, h, r⟩ := rep1 rv
  refine ⟨a, xs, rfl, .inl (SqL.of (hM.zh _ _ h)), fun l hl => ?_⟩
  obtain ⟨hM2, g2⟩ := new_z (o := .lst xs) hM hl
  exact hQ _ M ⟨S.as, upd S.Z l (.lst xs), upd S.H l (.lst xs)⟩ (.ref l) hk hM2 g2 ⟨l, _, rfl, upd_same, r.grow g2⟩
theorem lst_lstM (hk : ∀ p, k (.hdl p) (M ++ [(p, .lst ds)])) : CallD K (rLstOf K) [.lst ds] M k := fun S vs hM rv Q hQ => by
  obtain ⟨v, rfl, a, xs, rfl, h, r⟩ := rep1 rv
  refine ⟨a, xs, rfl, .inl (SqL.of (hM.zh _ _ h)), fun l hl => ?_⟩
  obtain ⟨hM2, g2⟩ := new_m (m := .lst ds) (o := .lst xs) hM hl (fun g => ⟨hM.zh.none hl, xs, upd_same, r.grow g⟩)
  exact hQ _ _ ⟨S.as ++ [l], S.Z, upd S.H l (.lst xs)⟩ (.ref l) (hk l) hM2 g2 rfl
theorem repBl {S : Sg} : ∀ {bs : List Bool} {xs : List V}, RepL K S (bs.map D.bl) xs → xs = bs.map V.bl
  | [], _, h => h
  | b :: bs, _, h => by
    obtain ⟨x, r, rfl, h1, h2⟩ := h
    cases h1
    rw [repBl h2]; rfl
theorem repInt {S : Sg} : ∀ {bs : List Int} {xs : List V}, RepL K S (bs.map D.int) xs → xs = bs.map V.int
  | [], _, h => h
  | b :: bs, _, h => by
    obtain ⟨x, r, rfl, h1, h2⟩ := h
    cases h1
    rw [repInt h2]; rfl
theorem repStr {S : Sg} : ∀ {bs : List Str} {xs : List V}, RepL K S (bs.map D.str) xs → xs = bs.map V.str
  | [], _, h => h
  | b :: bs, _, h => by
    obtain ⟨x, r, rfl, h1, h2⟩ := h
    cases h1
    rw [repStr h2]; rfl
theorem all_lst {bs : List Bool} (hb : ds = bs.map D.bl) (hk : k (.bl (bs.all id)) M) : CallD K (rAll K) [.lst ds] M k := call_flat (v := .bl (bs.all id)) (fun S vs hM rv Q q => by
  subst hb
  obtain ⟨v, rfl, a, xs, rfl, h, r⟩ := rep1 rv
  rw [repBl r] at h
  exact ⟨a, bs, rfl, SqL.of (hM.zh _ _ h), q⟩) hk
theorem any_lst {bs : List Bool} (hb : ds = bs.map D.bl) (hk : k (.bl (bs.any id)) M) : CallD K (rAny K) [.lst ds] M k := call_flat (v := .bl (bs.any id)) (fun S vs hM rv Q q => by
  subst hb
  obtain ⟨v, rfl, a, xs, rfl, h, r⟩ := rep1 rv
  rw [repBl r] at h
  exact ⟨a, bs, rfl, SqL.of (hM.zh _ _ h), q⟩) hk
theorem sum_lst {bs : List Int} (hb : ds = bs.map D.int) (hk : k (.int bs.sum) M) : CallD K (rSum K) [.lst ds] M k := call_flat (v := .int bs.sum) (fun S vs hM rv Q q => by
  subst hb
  obtain ⟨v, rfl, a, xs, rfl, h, r⟩ := rep1 rv
  rw [repInt r] at h
  exact ⟨a, bs, rfl, SqL.of (hM.zh _ _ h), q⟩) hk
/-- isinstance of built-in classes -/
def tyN : D → Option String
  | .non => some "NoneType"
  | .bl _ => some "bool"
  | .int _ => some "int"
  | .str _ => some "str"
  | .tup _ => some "tuple"
  | .lst _ => some "list"
  | .seq _ => some "list"
  | .dct _ _ => some "dict"
  | _ => none
theorem sqT_ty {H : Hp} {a : Addr} {xs : List V} (h : SqT K H a xs) : TyX K H (.ref a) (.type "tuple") := by
  rcases h with (h | ⟨o, h⟩) | ⟨o, its, n, h, hc, _⟩
  · exact .base (.tup h)
  · exact .fTuple h
  · exact .kTuple h hc
theorem sqL_ty {H : Hp} {a : Addr} {xs : List V} (h : SqL K H a xs) : TyX K H (.ref a) (.type "list") := by
  rcases h with (h | ⟨o, h⟩) | ⟨o, its, n, h, hc, _⟩
  · exact .base (.lst h)
  · exact .base (.frz h)
  · exact .kList h hc
theorem ty_of {S : Sg} {v : V} {t : String} (hM : OkM K S M) (r : Rep K S x v) (h : tyN x = some t) : TyX K S.H v (.type t) := by
  cases x with
  | non => cases r; cases h; exact .base .non
  | bl b => cases r; cases h; exact .base (.bl b)
  | int i => cases r; cases h; exact .base (.int i)
  | str s => cases r; cases h; exact .base (.str s)
  | tup ds => obtain ⟨a, xs, rfl, e, _⟩ := r; cases h; exact sqT_ty (ex_t hM.zh e)
  | lst ds => obtain ⟨a, xs, rfl, e, _⟩ := r; cases h; exact .base (.lst (hM.zh _ _ e))
  | seq ds => obtain ⟨a, xs, rfl, e, _⟩ := r; cases h; exact sqL_ty (ex_l hM.zh e)
  | dct ks ds => obtain ⟨a, xs, rfl, e, _⟩ := r; cases h; exact .base (.dK (hM.zh _ _ e))
  | ins C fs ds => cases h
  | hdl k => cases h
  | raw u => cases h
theorem isi_ty {t c : String} (h : tyN x = some t) (hb : kitB t c = some b) (hk : k (.bl b) M) : CallD K (rIsi K) [x, .raw (.ty c)] M k := call_flat (v := .bl b) (fun S vs hM rv Q q => by
  obtain ⟨v, w, rfl, r1, r2⟩ := rep2 rv
  cases r2
  exact ⟨v, .ty c, .type t, .type c, b, rfl, .ty c, ty_of hM r1 h, kit_ty hb, q⟩) hk
end

/-! ### defs of one's own -/
abbrev RSp := List D → Ms → KD → KX → Prop
/-- a call that is handed the objects at ks: behind it they stand in their places again -/
def CallOk (R : RSp) (ks : List Nat) (ds : List D) (M : Ms) (k : KD) (kx : KX) : Prop := ks.Nodup ∧ (∀ j ∈ ks, j < M.length) ∧
  R ds (pick ks M) (fun d N => (N.take ks.length).map (·.1) = (pick ks M).map (·.1) ∧ k d (merge ks M N)) (fun c f N => (N.take ks.length).map (·.1) = (pick ks M).map (·.1) ∧ kx c f (merge ks M N))
def spD (K : PySem.W.Frag) (R : RSp) : Sp := fun vs H Q E => ∃ S ds M k kx, S.H = H ∧ OkM K S M ∧ RepL K S ds vs ∧ R ds M k kx ∧ KV K S k Q ∧
  ∀ cls fs M' S' dd, kx cls fs M' → OkM K S' M' → Grow S S' → XRep K S' dd fs → E cls dd S'.H
structure FnD (P : Program) (w : World) (K : PySem.W.Frag) (mg : Str → Option Value) (base : Heap) (j : Nat) (x : Str) (dds : List D) (R : RSp) : Prop where
  ex : ∃ f fd ps ds dvs, mg x = some (.ref f) ∧ PySem.W.keepIn K (.ref f) = true ∧ Binds K fd ps ds ∧ Vals dvs ds ∧ (∀ S, RepL K S dds dvs) ∧ FnOk P w K mg base (L2.CX P w) j f fd ps (spD K R)
/-- m, a method that the class at C has -/
structure MtD (P : Program) (w : World) (K : PySem.W.Frag) (mg : Str → Option Value) (base : Heap) (j : Nat) (C : Addr) (m : Str) (dds : List D) (R : RSp) : Prop where
  cl : Cls K C
  ex : ∃ f fd ps ds dvs, Meth K C m f ∧ Binds K fd ps ds ∧ Vals dvs ds ∧ (∀ S, RepL K S dds dvs) ∧ FnOk P w K mg base (L2.CX P w) j f fd ps (spD K R)
/-- the making of an instance of the class C named x -/
structure MkD (P : Program) (w : World) (K : PySem.W.Frag) (mg : Str → Option Value) (base : Heap) (j : Nat) (C : Addr) (x : Str) (dds : List D) (R : RSp) : Prop where
  cl : Cls K C
  gC : mg x = some (.ref C)
  ex : ∃ f fd ps ds dvs, Mk K C f ∧ Binds K fd ps ds ∧ Vals dvs ds ∧ (∀ S, RepL K S dds dvs) ∧ FnOk P w K mg base (L2.CX P w) j f fd ps (spD K R)
/-- an object, standing or not -/
def ObjD (M : Ms) (d : D) (C : Addr) (fs : List Str) (ds : List D) : Prop := d = .ins C fs ds ∨ ∃ (j : Nat) (a : Addr), d = .hdl a ∧ M[j]? = some (a, MO.ins C fs ds)
theorem ObjD.at {K : PySem.W.Frag} {S : Sg} {M : Ms} {d : D} {C : Addr} {fs : List Str} {ds : List D} {v : V} (o : ObjD M d C fs ds) (hM : OkM K S M) (r : Rep K S d v) :
    ∃ a dx kvs, v = .ref a ∧ S.H a = some (.ins C dx kvs) ∧ kvs.map (·.1) = fs ∧ RepL K S ds (kvs.map (·.2)) := by
  rcases o with rfl | ⟨j, a, rfl, hj⟩
  · obtain ⟨a, dx, kvs, rfl, h, e, r⟩ := r
    exact ⟨a, dx, kvs, rfl, hM.zh _ _ h, e, r⟩
  · cases r
    obtain ⟨_, dx, kvs, h, e, r⟩ := hM.at hj
    exact ⟨a, dx, kvs, rfl, h, e, r⟩
theorem lookup_ix : ∀ {kvs : List (Str × V)} {i : Nat} {f : Str} {v : V}, (kvs.map (·.1)).Nodup → (kvs.map (·.1))[i]? = some f → (kvs.map (·.2))[i]? = some v → kvs.lookup f = some v
  | [], _, _, _, _, h, _ => by simp at h
  | (g, u) :: r, 0, f, v, _, h1, h2 => by
    simp at h1 h2
    subst h1; subst h2
    simp [List.lookup]
  | (g, u) :: r, i + 1, f, v, nd, h1, h2 => by
    have h1' : (r.map (·.1))[i]? = some f := h1
    have h2' : (r.map (·.2))[i]? = some v := h2
    have nd' : g ∉ r.map (·.1) ∧ (r.map (·.1)).Nodup := List.nodup_cons.mp nd
    have hne : f ≠ g := fun e => nd'.1 (by rw [← e]; exact List.mem_of_getElem? h1')
    have hb : (f == g) = false := by simpa using hne
    simp only [List.lookup, hb]
    exact lookup_ix (i := i) nd'.2 h1' h2'
theorem lookup_no : ∀ {kvs : List (Str × V)} {f : Str}, f ∉ kvs.map (·.1) → kvs.lookup f = none
  | [], _, _ => rfl
  | (g, u) :: r, f, h => by
    simp only [List.map_cons, List.mem_cons, not_or] at h
    have hb : (f == g) = false := by simpa using h.1
    simp only [List.lookup, hb]
    exact lookup_no h.2
section
variable {X : Cx} {Γ : En} {M : Ms} {e a b c o : Expr} {es : List Expr} {st : Stmt} {rest : List Stmt} {k : KD} {kx : KX} {E : ED} {d x y z : D} {pos apos p : Pos} {nm m : Str} {j l : Nat} {C : Addr} {dds : List D} {R : RSp}
theorem sp_of {K : PySem.W.Frag} {S' : Sg} {ds : List D} {M' : Ms} {ks : List Nat} {vs : List V} {Q : VK} {W : WX} {σ : L2.St} (hM : OkM K S' M') (rv : RepL K S' ds vs) (h : CallOk R ks ds M' k kx) (hQ : KV K S' k Q) (hW : KW K S' kx W σ) :
    spD K R vs S'.H Q (L2.WE W σ) := by
  obtain ⟨nd, hk, h⟩ := h
  refine ⟨⟨(pick ks M').map (·.1), S'.Z, S'.H⟩, ds, pick ks M', _, _, rfl, pick_ok hM nd, (sg_mono (S := S') (S' := ⟨(pick ks M').map (·.1), S'.Z, S'.H⟩) (Ex.refl _)).2 _ _ rv, h, fun d N S2 v ⟨hn, hd⟩ hN g r => ?_, fun cls fs N S2 dd ⟨hn, hd⟩ hN g r => ?_⟩
  · obtain ⟨a, b⟩ := merge_ok hM nd hk hN g hn
    exact hQ d _ ⟨(merge ks M' N).map (·.1), S2.Z, S2.H⟩ v hd a b ((sg_mono (S := S2) (S' := ⟨(merge ks M' N).map (·.1), S2.Z, S2.H⟩) (Ex.refl _)).1 _ _ r)
  · obtain ⟨a, b⟩ := merge_ok hM nd hk hN g hn
    refine hW cls fs _ ⟨(merge ks M' N).map (·.1), S2.Z, S2.H⟩ dd hd a b ?_
    cases dd with
    | none => exact r
    | some x => obtain ⟨kvs, h1, h2, h3⟩ := r; exact ⟨kvs, h1, h2, (sg_mono (S := S2) (S' := ⟨(merge ks M' N).map (·.1), S2.Z, S2.H⟩) (Ex.refl _)).2 _ _ h3⟩
theorem ge_call (F : FnD X.prog X.w X.K X.mg X.base j nm dds R) (hr : Room l X.A) (hl : j ≤ l) (h : GA X Γ M (e :: es) (fun ds M1 => ∃ ks, CallOk R ks (ds ++ dds) M1 k kx) kx) (hg : Gl X nm := by rfl) (hdb : (nm == ("__debug__" : Str)) = false := by decide)
    (he : starEach (e :: es) X.env = (false, eval e X.env) :: starEach es X.env := by rfl) (hpl : (backTo pos (starEach es X.env)).any (·.1) = false := by rfl) : GE X Γ M (.Call (.Name nm p) (e :: es) [] pos) k kx := fun S σ hM hE W tk hW Q hQ pins s I => by
  obtain ⟨f, fd, ps, dvl, dvs, hm, hk, hb, hd, hrd, F⟩ := F.ex
  refine wpAny_Call_Name_kw (ld_glob I hg hm ?_ hdb)
  refine PySem.W.callWith_K (h₀ := X.base) I.ok.mod.kin hk (thn (h S σ hM hE W tk hW (fun vs H1 => spD X.K R (vs ++ dvs) H1 Q (L2.WE W σ)) (fun ds M1 S1 vs ⟨ks, h1⟩ hM1 g1 r1 => sp_of hM1 (r1.app (hrd S1)) h1 (hQ.grow g1) (hW.grow g1)) pos pins s I) fun us s1 ⟨vs, H1, I1, r, q⟩ => ⟨I1.kIn, ?_⟩) he hpl
  exact run_fnSD F (hr.mono hl) hb hd (passAt tk σ) I1 r q
theorem ge_call0 (F : FnD X.prog X.w X.K X.mg X.base j nm dds R) (hr : Room l X.A) (hl : j ≤ l) (h : ∃ ks, CallOk R ks dds M k kx) (hg : Gl X nm := by rfl) (hdb : (nm == ("__debug__" : Str)) = false := by decide) : GE X Γ M (.Call (.Name nm p) [] [] pos) k kx := fun S σ hM hE W tk hW Q hQ pins s I => by
  obtain ⟨f, fd, ps, dvl, dvs, hm, hk, hb, hd, hrd, F⟩ := F.ex
  obtain ⟨ks, h⟩ := h
  refine wpAny_Call_Name_kw (ld_glob I hg hm ?_ hdb)
  exact PySem.W.callWith_K0 I.kIn hk (run_fnSD (us := []) (vs := []) F (hr.mono hl) hb hd (passAt tk σ) I .nil (sp_of hM (hrd S) h hQ hW))
theorem ge_meth {pl : Sem Bool} (F : MtD X.prog X.w X.K X.mg X.base j C m dds R) (hr : Room l X.A) (hl : j ≤ l) (h : GE X Γ M o (fun d M1 => ∃ fs ds0, ObjD M1 d C fs ds0 ∧ m ∉ fs ∧ GA X Γ M1 (e :: es) (fun ds M2 => ∃ ks, CallOk R ks (d :: (ds ++ dds)) M2 k kx) kx) kx)
    (hst : starEach (e :: es) X.env = (false, eval e X.env) :: starEach es X.env := by rfl) (hpl : (backTo pos (starEach es X.env)).any (·.1) = false := by rfl)
    (ht : eval (.Call (.Attribute o m apos) (e :: es) [] pos) X.env = (do
      let ov ← eval o X.env
      standAt apos.atName
      let (f, first) ← holding [ov] (getMethod ov m pl)
      callWith pos f first (backTo pos (starEach (e :: es) X.env)) (backToKw pos (keywordEach [] X.env))) := by rfl) : GE X Γ M (.Call (.Attribute o m apos) (e :: es) [] pos) k kx := fun S σ hM hE W tk hW Q hQ pins s I => by
  obtain ⟨f, fd, ps, dvl, dvs, hm, hb, hd, hrd, F'⟩ := F.ex
  refine PySem.W.methodCall_KW (pl := pl) (thn (h S σ hM hE W tk hW (fun x H1 => ∃ a dx fs, x = .ref a ∧ H1 a = some (.ins C dx fs) ∧ fs.lookup m = none ∧ WA X (e :: es) σ H1 fun vs H2 => spD X.K R (x :: (vs ++ dvs)) H2 Q (L2.WE W σ)) (fun d M1 S1 v ⟨fs, ds0, ob, nf, h1⟩ hM1 g1 r1 => by
    obtain ⟨a, dx, kvs, rfl, hh, hf, hrr⟩ := ob.at hM1 r1
    refine ⟨a, dx, kvs, rfl, hh, lookup_no (by rw [hf]; exact nf), ?_⟩
    exact h1 S1 σ hM1 (hE.grow g1) W tk (hW.grow g1) _ fun ds M2 S2 vs ⟨ks, h2⟩ hM2 g2 r2 => sp_of hM2 (.cons (r1.grow g2) (r2.app (hrd S2))) h2 ((hQ.grow g1).grow g2) ((hW.grow g1).grow g2)) pins s I) fun u s1 ⟨x, H1, I1, rx, a, dx, fs, ex, ea, l, q⟩ => ?_) ht
  subst ex
  obtain rfl : u = Value.ref a := rx
  refine getmeth_ok I1 ea F.cl hm l ?_
  refine PySem.W.callWith_K (first := [.ref a]) (h₀ := X.base) I.ok.mod.kin hm.kp (thn (q pos pins s1 I1) fun us s2 ⟨vs, H2, I2, r, q2⟩ => ⟨I2.kIn, ?_⟩) hst hpl
  exact run_fnSD (us := .ref a :: us) (vs := .ref a :: vs) F' (hr.mono hl) hb hd (passAt tk σ) I2 (.cons rfl r) q2
theorem ge_meth0 {pl : Sem Bool} (F : MtD X.prog X.w X.K X.mg X.base j C m dds R) (hr : Room l X.A) (hl : j ≤ l) (h : GE X Γ M o (fun d M1 => ∃ fs ds0, ObjD M1 d C fs ds0 ∧ m ∉ fs ∧ ∃ ks, CallOk R ks (d :: dds) M1 k kx) kx)
    (ht : eval (.Call (.Attribute o m apos) [] [] pos) X.env = (do
      let ov ← eval o X.env
      standAt apos.atName
      let (f, first) ← holding [ov] (getMethod ov m pl)
      callWith pos f first (backTo pos (starEach [] X.env)) (backToKw pos (keywordEach [] X.env))) := by rfl) : GE X Γ M (.Call (.Attribute o m apos) [] [] pos) k kx := fun S σ hM hE W tk hW Q hQ pins s I => by
  obtain ⟨f, fd, ps, dvl, dvs, hm, hb, hd, hrd, F'⟩ := F.ex
  refine PySem.W.methodCall_KW (pl := pl) (thn (h S σ hM hE W tk hW (fun x H1 => ∃ a dx fs, x = .ref a ∧ H1 a = some (.ins C dx fs) ∧ fs.lookup m = none ∧ spD X.K R (x :: dvs) H1 Q (L2.WE W σ)) (fun d M1 S1 v ⟨fs, ds0, ob, nf, ks, h1⟩ hM1 g1 r1 => by
    obtain ⟨a, dx, kvs, rfl, hh, hf, hrr⟩ := ob.at hM1 r1
    exact ⟨a, dx, kvs, rfl, hh, lookup_no (by rw [hf]; exact nf), sp_of hM1 (.cons r1 (hrd S1)) h1 (hQ.grow g1) (hW.grow g1)⟩) pins s I) fun u s1 ⟨x, H1, I1, rx, a, dx, fs, ex, ea, l, q⟩ => ?_) ht
  subst ex
  obtain rfl : u = Value.ref a := rx
  refine getmeth_ok I1 ea F.cl hm l ?_
  exact PySem.W.callWith_K0 (first := [.ref a]) I1.kIn hm.kp (run_fnSD (us := [.ref a]) (vs := [.ref a]) F' (hr.mono hl) hb hd (passAt tk σ) I1 (.cons rfl .nil) q)
/-- o.f -/
theorem ge_fld (i : Nat) {f : Str} (h : GE X Γ M o (fun d M1 => ∃ C fs ds v, Cls X.K C ∧ NoAttr X.K C f ∧ ObjD M1 d C fs ds ∧ fs.Nodup ∧ fs[i]? = some f ∧ ds[i]? = some v ∧ k v M1) kx) (hb : attributeBase o f X.env (eval o X.env) = eval o X.env := by rfl) : GE X Γ M (.Attribute o f pos) k kx := fun S σ hM hE W tk hW Q hQ =>
  of_pe (pe_fld we hb) (h S σ hM hE W tk hW _ fun d M1 S1 v ⟨C, fs, ds, u, cl, na, ob, nd, hf, hi, hk⟩ hM1 g1 r1 => by
    obtain ⟨a, dx, kvs, rfl, hh, he, hrr⟩ := ob.at hM1 r1
    obtain ⟨w, hw, rw'⟩ := hrr.get hi
    exact ⟨a, C, dx, kvs, w, rfl, hh, cl, na, lookup_ix (by rw [he]; exact nd) (by rw [he]; exact hf) hw, hQ u M1 S1 w hk hM1 g1 rw'⟩)
end
end PD

set_option Elab.async false
set_option linter.all false
set_option maxRecDepth 100000
set_option maxHeartbeats 4000000
/-! PD: loops, comprehensions, stores, raising, defs. -/
namespace PD
open PySem L2
open Evl (Ex ex_rd ex_l ex_t)

/-! ### targets -/
section
variable {X : Cx} {Γ : En} {M : Ms} {pos : Pos} {d : D}
theorem gg_name (i : Nat) {x : Str} {k : En → Prop} (h : k (Γ.set i (some d))) (hN : X.N.Nodup) (hi : X.N[i]? = some x := by rfl) (hx : Loc X.env.scope x := by first | exact Or.inl rfl | exact Or.inr rfl)
    (hf : X.fn x = true ∨ X.env.scope.names.lookup x = some .local := by first | exact .inl rfl | exact .inr rfl) : GG X Γ M (.Name x pos) d k := fun S σ hM hE v rv Q hQ pins s u I r =>
  (pg_name hN hi hx hf).run pins s σ S.H v u Q I r (hQ _ _ h (hE.set rv))
/-- a, b, .. = a tuple's items -/
def GGs (X : Cx) (Γ : En) (M : Ms) (ts : List Expr) (ds : List D) (k : En → Prop) : Prop := ∀ S σ, OkM X.K S M → EnvOk X.K S σ Γ → ∀ vs, RepL X.K S ds vs → ∀ Q : L2.St → Hp → Prop, (∀ Γ' σ', k Γ' → EnvOk X.K S σ' Γ' → Q σ' S.H) →
  ∀ (pins : List (Addr × Obj)) (s : Shared) (us : List Value), Inv X pins σ S.H s → Vals vs us → wpAny (model X.prog X.w) X.A (assignInOrder ((assignEach ts X.env).map (·.2)) us) (fun _ s' => ∃ σ' H', Inv X pins σ' H' s' ∧ Q σ' H') X.xe s
def WGs (X : Cx) (ts : List Expr) : TGs := fun vs σ H Q => ∀ (pins : List (Addr × Obj)) (s : Shared) (us : List Value), Inv X pins σ H s → Vals vs us → wpAny (model X.prog X.w) X.A (assignInOrder ((assignEach ts X.env).map (·.2)) us) (fun _ s' => ∃ σ' H', Inv X pins σ' H' s' ∧ Q σ' H') X.xe s
theorem wgs {ts : List Expr} : PGs X ts (WGs X ts) := ⟨fun pins s _ _ _ us _ I r h => h pins s us I r⟩
theorem ggs_nil {k : En → Prop} (h : k Γ) : GGs X Γ M [] [] k := fun S σ hM hE vs rv Q hQ pins s us I r => by
  have e : vs = [] := rv
  subst e
  exact pgs_nil.run pins s σ S.H [] us Q I r ⟨rfl, hQ _ _ h hE⟩
theorem ggs_cons {t : Expr} {ts : List Expr} {ds : List D} {k : En → Prop} (h : GG X Γ M t d fun Γ1 => GGs X Γ1 M ts ds k)
    (hs : (assignEach (t :: ts) X.env).map (·.2) = assign t X.env :: (assignEach ts X.env).map (·.2) := by rfl) : GGs X Γ M (t :: ts) (d :: ds) k := fun S σ hM hE vs rv Q hQ pins s us I r => by
  obtain ⟨x, xs, rfl, r1, r2⟩ := rv
  exact (pgs_cons (X := X) wg wgs hs).run pins s σ S.H (x :: xs) us Q I r ⟨x, xs, rfl, h S σ hM hE x r1 _ fun Γ1 σ1 h1 hE1 => fun pins s us I r => h1 S σ1 hM hE1 xs r2 Q hQ pins s us I r⟩
theorem gg_tup {es : List Expr} {j n : Nat} {ds : List D} {k : En → Prop} (hc : X.calm = true) (h : GGs X Γ M es ds k) (hl : ds.length = n) (hn : (assignEach es X.env).length = n := by rfl) (hst : (assignEach es X.env).findIdx? (·.1) = none := by rfl) :
    GG X Γ M (.Tuple es j pos) (.tup ds) k := fun S σ hM hE v rv Q hQ pins s u I r => by
  obtain ⟨a, xs, rfl, e, r1⟩ := rv
  exact (pg_tup (t := WGs X es) hc wgs hn hst).run pins s σ S.H (.ref a) u Q I r ⟨a, xs, rfl, ex_t hM.zh e, by rw [r1.len]; exact hl, fun pins s us I r => h S σ hM hE xs r1 Q hQ pins s us I r⟩
/-- the value is brought to stand first -/
theorem gg_hdl {t : Expr} {k : En → Prop} {d' : D} (h : GG X Γ M t d' k) (e : d = d') : GG X Γ M t d k := by rw [e]; exact h
theorem gs_asg {tg e : Expr} {E : ED} (h : GE X Γ M e (fun d M1 => GG X Γ M1 tg d fun Γ1 => E.nx Γ1 M1) (fun c f M1 => E.ex c f Γ M1)) (hs : swapsWithSole [tg] e pos.line X.env = pure false := by rfl) (hw : swappedStores [tg] e X.env = pure none := by rfl)
    (h1 : (assignEach [tg] X.env).map (·.2) = [assign tg X.env] := by rfl) : GS X Γ M (.Assign [tg] e pos) E := fun S σ hM hE W tk De L =>
  of_ps (ps_asg we wg hs hw h1) (h S σ hM hE W tk (L.kw hE) _ fun d M1 S1 v hk hM1 g1 r1 => hk S1 σ hM1 (hE.grow g1) v r1 _ fun Γ' σ' q hE' => L.nx _ M1 S1 _ q hM1 g1 hE')
theorem gs_par (i j : Nat) {x y : Str} {a b : Expr} {px py pt : Pos} {kt k2 : Nat} {pt2 : Pos} {E : ED} (hc : X.calm = true) (h : GA X Γ M [a, b] (fun ds M1 => ∃ v w, ds = [v, w] ∧ E.nx ((Γ.set i (some v)).set j (some w)) M1) (fun c f M1 => E.ex c f Γ M1))
    (hN : X.N.Nodup) (hi : X.N[i]? = some x := by rfl) (hj : X.N[j]? = some y := by rfl) (hij : i ≠ j := by decide) (hx : X.env.scope.names.lookup x = some .local := by rfl) (hy : X.env.scope.names.lookup y = some .local := by rfl)
    (hw : swappedStores [.Tuple [.Name x px, .Name y py] kt pt] (.Tuple [a, b] k2 pt2) X.env = pure (some [x, y]) := by rfl)
    (hs : swapsWithSole [.Tuple [.Name x px, .Name y py] kt pt] (.Tuple [a, b] k2 pt2) pos.line X.env = pure false := by rfl) : GS X Γ M (.Assign [.Tuple [.Name x px, .Name y py] kt pt] (.Tuple [a, b] k2 pt2) pos) E := fun S σ hM hE W tk De L =>
  of_ps (ps_par hc hN hi hj hij hx hy wa hw hs) (h S σ hM hE W tk (L.kw hE) _ fun ds M1 S1 vs ⟨v, w, e, hk⟩ hM1 g1 r1 => by
    subst e
    obtain ⟨p, q, rfl, r2, r3⟩ := rep2 r1
    exact ⟨p, q, rfl, L.nx _ M1 S1 _ hk hM1 g1 (((hE.grow g1).set r2).set r3)⟩)
end

/-! ### what is walked -/
def DWalk (K : PySem.W.Frag) (J : It) (n : Nat) (it : Nat → D → Prop) (G : Ms → Prop) (S1 : Sg) : Prop :=
  (∀ i S M, i < n → Grow S1 S → OkM K S M → G M → J.go i S.H) ∧ (∀ S M, Grow S1 S → OkM K S M → G M → J.stop n S.H) ∧
  ∀ i S M x H', i < n → Grow S1 S → OkM K S M → G M → J.yld i S.H x H' → ∃ S' d, S'.H = H' ∧ OkM K S' M ∧ Grow S S' ∧ it i d ∧ Rep K S' d x
abbrev KI := Nat → (Nat → D → Prop) → (Ms → Prop) → Ms → Prop
def WI (X : Cx) (tg iter : Expr) : TI := fun σ H R => ∀ (pins : List (Addr × Obj)) (s : Shared), Inv X pins σ H s → wpAny (model X.prog X.w) X.A (eval iter X.env) (fun v s1 => wpAny (model X.prog X.w) X.A (pyIter v) (PIE X pins σ tg R) X.xe s1) X.xe s
theorem wi {X : Cx} {tg iter : Expr} : PI X tg iter (WI X tg iter) := ⟨fun pins s _ _ _ I h => h pins s I⟩
def GI (X : Cx) (Γ : En) (M : Ms) (tg iter : Expr) (k : KI) (kx : KX) : Prop := ∀ S σ, OkM X.K S M → EnvOk X.K S σ Γ → ∀ W, Takes X W → KW X.K S kx W σ → ∀ R : It → Hp → Prop,
  (∀ n it G M1 S1 J, k n it G M1 → OkM X.K S1 M1 → Grow S S1 → DWalk X.K J n it G S1 → R J S1.H) → WI X tg iter σ S.H R
section
variable {X : Cx} {Γ : En} {M : Ms} {tg e : Expr} {k : KI} {kx : KX} {pos p : Pos}
theorem gi_lst (h : GE X Γ M e (fun d M1 => ∃ ds, d = .lst ds ∧ k ds.length (fun i x => ds[i]? = some x) (fun _ => True) M1) kx) : GI X Γ M tg e k kx := fun S σ hM hE W tk hW R hR pins s I =>
  (pi_list (tg := tg) (we (X := X) (e := e))).run pins s σ S.H R I (h S σ hM hE W tk hW _ fun d M1 S1 v ⟨ds, e, hk⟩ hM1 g1 r1 => by
    subst e
    obtain ⟨a, xs, rfl, hz, r⟩ := r1
    have l := r.len
    refine ⟨a, rfl, ⟨xs, SqL.of (hM1.zh _ _ hz)⟩, hR _ _ _ M1 S1 _ hk hM1 g1 ⟨fun i S2 M2 hi g2 hM2 _ => ?_, fun S2 M2 g2 hM2 _ => ?_, fun i S2 M2 x H' hi g2 hM2 _ y => ?_⟩⟩
    · have h2 : S2.H a = some (.lst xs) := hM2.zh _ _ (g2.zz _ _ hz)
      exact ⟨xs, xs[i]'(by omega), SqL.of h2, by simp [show i < xs.length by omega]⟩
    · have h2 : S2.H a = some (.lst xs) := hM2.zh _ _ (g2.zz _ _ hz)
      exact ⟨xs, SqL.of h2, by omega⟩
    · have h2 : S2.H a = some (.lst xs) := hM2.zh _ _ (g2.zz _ _ hz)
      obtain ⟨d, e1, e2⟩ := r.get' (y.2 xs (SqL.of h2))
      exact ⟨S2, d, y.1.symm, hM2, Grow.refl _, e1, e2.grow g2⟩)
theorem gi_seq (h : GE X Γ M e (fun d M1 => ∃ ds, d = .seq ds ∧ k ds.length (fun i x => ds[i]? = some x) (fun _ => True) M1) kx) : GI X Γ M tg e k kx := fun S σ hM hE W tk hW R hR pins s I =>
  (pi_list (tg := tg) (we (X := X) (e := e))).run pins s σ S.H R I (h S σ hM hE W tk hW _ fun d M1 S1 v ⟨ds, e, hk⟩ hM1 g1 r1 => by
    subst e
    obtain ⟨a, xs, rfl, hz, r⟩ := r1
    have l := r.len
    refine ⟨a, rfl, ⟨xs, ex_l hM1.zh hz⟩, hR _ _ _ M1 S1 _ hk hM1 g1 ⟨fun i S2 M2 hi g2 hM2 _ => ?_, fun S2 M2 g2 hM2 _ => ?_, fun i S2 M2 x H' hi g2 hM2 _ y => ?_⟩⟩
    · exact ⟨xs, xs[i]'(by omega), ex_l hM2.zh (ex_l g2.zz hz), by simp [show i < xs.length by omega]⟩
    · exact ⟨xs, ex_l hM2.zh (ex_l g2.zz hz), by omega⟩
    · obtain ⟨d, e1, e2⟩ := r.get' (y.2 xs (ex_l hM2.zh (ex_l g2.zz hz)))
      exact ⟨S2, d, y.1.symm, hM2, Grow.refl _, e1, e2.grow g2⟩)
theorem gi_tup (h : GE X Γ M e (fun d M1 => ∃ ds, d = .tup ds ∧ k ds.length (fun i x => ds[i]? = some x) (fun _ => True) M1) kx) : GI X Γ M tg e k kx := fun S σ hM hE W tk hW R hR pins s I =>
  (pi_tup (tg := tg) (we (X := X) (e := e))).run pins s σ S.H R I (h S σ hM hE W tk hW _ fun d M1 S1 v ⟨ds, e, hk⟩ hM1 g1 r1 => by
    subst e
    obtain ⟨a, xs, rfl, hz, r⟩ := r1
    have l := r.len
    refine ⟨a, rfl, ⟨xs, ex_t hM1.zh hz⟩, hR _ _ _ M1 S1 _ hk hM1 g1 ⟨fun i S2 M2 hi g2 hM2 _ => ?_, fun S2 M2 g2 hM2 _ => ?_, fun i S2 M2 x H' hi g2 hM2 _ y => ?_⟩⟩
    · exact ⟨xs, xs[i]'(by omega), ex_t hM2.zh (ex_t g2.zz hz), by simp [show i < xs.length by omega]⟩
    · exact ⟨xs, ex_t hM2.zh (ex_t g2.zz hz), by omega⟩
    · obtain ⟨d, e1, e2⟩ := r.get' (y.2 xs (ex_t hM2.zh (ex_t g2.zz hz)))
      exact ⟨S2, d, y.1.symm, hM2, Grow.refl _, e1, e2.grow g2⟩)
/-- a list that may change, and does not while it is walked -/
theorem gi_hdl (h : GE X Γ M e (fun d M1 => ∃ (j : Nat) (a : Addr) (ds : List D), d = .hdl a ∧ M1[j]? = some (a, MO.lst ds) ∧ k ds.length (fun i x => ds[i]? = some x) (fun M => ∃ j : Nat, M[j]? = some (a, .lst ds)) M1) kx) : GI X Γ M tg e k kx := fun S σ hM hE W tk hW R hR pins s I =>
  (pi_list (tg := tg) (we (X := X) (e := e))).run pins s σ S.H R I (h S σ hM hE W tk hW _ fun d M1 S1 v ⟨j, a, ds, e, hj, hk⟩ hM1 g1 r1 => by
    subst e
    cases r1
    obtain ⟨_, xs0, h0, r0⟩ := hM1.at hj
    have at2 : ∀ S2 M2, Grow S1 S2 → OkM X.K S2 M2 → (∃ j : Nat, M2[j]? = some (a, .lst ds)) → ∃ xs, S2.H a = some (.lst xs) ∧ RepL X.K S2 ds xs := fun S2 M2 g2 hM2 ⟨j2, hj2⟩ => by
      obtain ⟨_, xs, h, r⟩ := hM2.at hj2
      exact ⟨xs, h, r⟩
    refine ⟨a, rfl, ⟨xs0, SqL.of h0⟩, hR _ _ _ M1 S1 _ hk hM1 g1 ⟨fun i S2 M2 hi g2 hM2 hj2 => ?_, fun S2 M2 g2 hM2 hj2 => ?_, fun i S2 M2 x H' hi g2 hM2 hj2 y => ?_⟩⟩
    · obtain ⟨xs, h2, r⟩ := at2 S2 M2 g2 hM2 hj2
      have l := r.len
      exact ⟨xs, xs[i]'(by omega), SqL.of h2, by simp [show i < xs.length by omega]⟩
    · obtain ⟨xs, h2, r⟩ := at2 S2 M2 g2 hM2 hj2
      have l := r.len
      exact ⟨xs, SqL.of h2, by omega⟩
    · obtain ⟨xs, h2, r⟩ := at2 S2 M2 g2 hM2 hj2
      obtain ⟨d, e1, e2⟩ := r.get' (y.2 xs (SqL.of h2))
      exact ⟨S2, d, y.1.symm, hM2, Grow.refl _, e1, e2⟩)
theorem walk_rng {K : PySem.W.Frag} {lo : Int} {n : Nat} {S1 : Sg} : DWalk K (Itr lo n) n (fun i d => d = .int (lo + i)) (fun _ => True) S1 :=
  ⟨fun i S M hi _ _ _ => hi, fun S M _ _ _ => Nat.le_refl _, fun i S M x H' hi g hM _ y => ⟨S, .int (lo + i), y.1.symm, hM, Grow.refl _, rfl, y.2⟩⟩
theorem gi_range1 {a : Expr} (hm : X.mg "range" = none) (h : GA X Γ M [a] (fun ds M1 => ∃ j : Int, ds = [.int j] ∧ j < 4611686018427387904 ∧ -4611686018427387904 ≤ j ∧ k j.toNat (fun i d => d = .int (0 + i)) (fun _ => True) M1) kx) (hg : Gl X "range" := by rfl) (hs : starEach [a] X.env = [(false, eval a X.env)] := by rfl) :
    GI X Γ M tg (.Call (.Name "range" p) [a] [] pos) k kx := fun S σ hM hE W tk hW R hR pins s I =>
  (pi_range1 (tg := tg) hg hm wa hs).run pins s σ S.H R I (h S σ hM hE W tk hW _ fun ds M1 S1 vs ⟨j, e, h1, h2, hk⟩ hM1 g1 r1 => by
    subst e
    obtain ⟨v, rfl, r⟩ := rep1 r1
    cases r
    exact ⟨j, rfl, by omega, by omega, hR _ _ _ M1 S1 _ hk hM1 g1 walk_rng⟩)
theorem gi_range2 {a b : Expr} (hm : X.mg "range" = none) (h : GA X Γ M [a, b] (fun ds M1 => ∃ i j : Int, ds = [.int i, .int j] ∧ (-4611686018427387904 ≤ i ∧ i < 4611686018427387904 ∧ -4611686018427387904 ≤ j ∧ j < 4611686018427387904) ∧ k (j - i).toNat (fun t d => d = .int (i + t)) (fun _ => True) M1) kx) (hg : Gl X "range" := by rfl)
    (hs : starEach [a, b] X.env = [(false, eval a X.env), (false, eval b X.env)] := by rfl) (hs2 : starEach [b] X.env = [(false, eval b X.env)] := by rfl) : GI X Γ M tg (.Call (.Name "range" p) [a, b] [] pos) k kx := fun S σ hM hE W tk hW R hR pins s I =>
  (pi_range2 (tg := tg) hg hm wa hs hs2).run pins s σ S.H R I (h S σ hM hE W tk hW _ fun ds M1 S1 vs ⟨i, j, e, h1, hk⟩ hM1 g1 r1 => by
    subst e
    obtain ⟨v, w, rfl, r, r'⟩ := rep2 r1
    cases r; cases r'
    exact ⟨i, j, rfl, ⟨by omega, by omega, by omega, by omega⟩, hR _ _ _ M1 S1 _ hk hM1 g1 walk_rng⟩)
theorem gi_str (h : GE X Γ M e (fun d M1 => ∃ s, d = .str s ∧ k s.cps.size (fun i x => ∃ c, s.cps[i]? = some c ∧ x = .str ⟨#[c]⟩) (fun _ => True) M1) kx) : GI X Γ M tg e k kx := fun S σ hM hE W tk hW R hR pins s I =>
  (pi_str (tg := tg) (we (X := X) (e := e))).run pins s σ S.H R I (h S σ hM hE W tk hW _ fun d M1 S1 v ⟨z, e, hk⟩ hM1 g1 r1 => by
    subst e
    cases r1
    refine ⟨z, rfl, hR _ _ _ M1 S1 _ hk hM1 g1 ⟨fun i S2 M2 hi _ _ _ => hi, fun S2 M2 _ _ _ => Nat.le_refl _, fun i S2 M2 x H' hi g2 hM2 _ y => ?_⟩⟩
    obtain ⟨rfl, c, hc, rfl⟩ := y
    exact ⟨S2, .str ⟨#[c]⟩, rfl, hM2, Grow.refl _, ⟨c, hc, rfl⟩, rfl⟩)
theorem new_pair {K : PySem.W.Frag} {S : Sg} {M : Ms} {T : Addr} {x y : V} {d d' : D} (hM : OkM K S M) (hT : S.H T = none) (r : Rep K S d x) (r' : Rep K S d' y) :
    ∃ S', S'.H = upd S.H T (.tup [x, y]) ∧ OkM K S' M ∧ Grow S S' ∧ Rep K S' (.tup [d, d']) (.ref T) := by
  obtain ⟨hM2, g2⟩ := new_z (o := .tup [x, y]) hM hT
  exact ⟨⟨S.as, upd S.Z T (.tup [x, y]), upd S.H T (.tup [x, y])⟩, rfl, hM2, g2, T, [x, y], rfl, SqT.of upd_same, (RepL.cons r (.one r')).grow g2⟩
theorem gi_enum {es : List Expr} {j : Nat} {tpos : Pos} (hm : X.mg "enumerate" = none) (h : GA X Γ M [e] (fun ds M1 => ∃ xs, ds = [.lst xs] ∧ k xs.length (fun i x => ∃ d, xs[i]? = some d ∧ x = .tup [.int (i : Nat), d]) (fun _ => True) M1) kx) (hg : Gl X "enumerate" := by rfl) (hs : starEach [e] X.env = [(false, eval e X.env)] := by rfl) :
    GI X Γ M (.Tuple es j tpos) (.Call (.Name "enumerate" p) [e] [] pos) k kx := fun S σ hM hE W tk hW R hR pins s I =>
  (pi_enum (elts := es) (kk := j) (tpos := tpos) hg hm wa hs).run pins s σ S.H R I (h S σ hM hE W tk hW _ fun ds M1 S1 vs ⟨ds', e, hk⟩ hM1 g1 r1 => by
    subst e
    obtain ⟨v, rfl, a, xs, rfl, hz, r⟩ := rep1 r1
    have l := r.len
    refine ⟨a, xs, rfl, SqL.of (hM1.zh _ _ hz), hR _ _ _ M1 S1 _ hk hM1 g1 ⟨fun i S2 M2 hi g2 hM2 _ => ?_, fun S2 M2 g2 hM2 _ => ?_, fun i S2 M2 x H' hi g2 hM2 _ y => ?_⟩⟩
    · exact ⟨xs, xs[i]'(by omega), SqL.of (hM2.zh _ _ (g2.zz _ _ hz)), by simp [show i < xs.length by omega]⟩
    · exact ⟨xs, SqL.of (hM2.zh _ _ (g2.zz _ _ hz)), by omega⟩
    · obtain ⟨T, z, rfl, hT, rfl, hx⟩ := y
      obtain ⟨d, e1, e2⟩ := r.get' (hx xs (SqL.of (hM2.zh _ _ (g2.zz _ _ hz))))
      obtain ⟨S', q1, q2, q3, q4⟩ := new_pair (d := .int (i : Nat)) (d' := d) hM2 hT rfl (e2.grow g2)
      exact ⟨S', _, q1, q2, q3, ⟨d, e1, rfl⟩, q4⟩)
theorem gi_zipT {a b : Expr} {es : List Expr} {j : Nat} {tpos : Pos} (hm : X.mg "zip" = none) (h : GA X Γ M [a, b] (fun ds M1 => ∃ xs ys, ds = [.tup xs, .tup ys] ∧ k (min xs.length ys.length) (fun i x => ∃ d d', xs[i]? = some d ∧ ys[i]? = some d' ∧ x = .tup [d, d']) (fun _ => True) M1) kx) (hg : Gl X "zip" := by rfl)
    (hs : starEach [a, b] X.env = (false, eval a X.env) :: starEach [b] X.env := by rfl) (hpl : (backTo pos (starEach [b] X.env)).any (·.1) = false := by rfl) : GI X Γ M (.Tuple es j tpos) (.Call (.Name "zip" p) [a, b] [] pos) k kx := fun S σ hM hE W tk hW R hR pins s I =>
  (RZ.pi_zipA (elts := es) (kk := j) (tpos := tpos) hg hm wa hs hpl).run pins s σ S.H R I (h S σ hM hE W tk hW _ fun ds M1 S1 vs ⟨ds1, ds2, e, hk⟩ hM1 g1 r1 => by
    subst e
    obtain ⟨v, w, rfl, ⟨p1, xs, rfl, hz, r⟩, p2, ys, rfl, hz2, r2⟩ := rep2 r1
    have l := r.len
    have l2 := r2.len
    have t1 : ∀ S2 M2, Grow S1 S2 → OkM X.K S2 M2 → SqT X.K S2.H p1 xs ∧ SqT X.K S2.H p2 ys := fun S2 M2 g2 hM2 => ⟨ex_t hM2.zh (ex_t g2.zz hz), ex_t hM2.zh (ex_t g2.zz hz2)⟩
    refine ⟨p1, p2, xs, ys, rfl, .inr ⟨ex_t hM1.zh hz, ex_t hM1.zh hz2, hR _ _ _ M1 S1 _ hk hM1 g1 ⟨fun i S2 M2 hi g2 hM2 _ => ?_, fun S2 M2 g2 hM2 _ => ?_, fun i S2 M2 x H' hi g2 hM2 _ y => ?_⟩⟩⟩
    · obtain ⟨q1, q2⟩ := t1 S2 M2 g2 hM2
      exact ⟨xs, ys, xs[i]'(by omega), ys[i]'(by omega), q1, q2, by simp [show i < xs.length by omega], by simp [show i < ys.length by omega]⟩
    · obtain ⟨q1, q2⟩ := t1 S2 M2 g2 hM2
      exact ⟨xs, ys, q1, q2, by omega⟩
    · obtain ⟨q1, q2⟩ := t1 S2 M2 g2 hM2
      obtain ⟨T, u, w, rfl, hT, rfl, hx, hy⟩ := y
      obtain ⟨d, e1, e2⟩ := r.get' (hx xs q1)
      obtain ⟨d', e3, e4⟩ := r2.get' (hy ys q2)
      obtain ⟨S', a1, a2, a3, a4⟩ := new_pair hM2 hT (e2.grow g2) (e4.grow g2)
      exact ⟨S', _, a1, a2, a3, ⟨d, d', e1, e3, rfl⟩, a4⟩)
theorem gi_zipL {a b : Expr} {es : List Expr} {j : Nat} {tpos : Pos} (hm : X.mg "zip" = none) (h : GA X Γ M [a, b] (fun ds M1 => ∃ xs ys, ds = [.lst xs, .lst ys] ∧ k (min xs.length ys.length) (fun i x => ∃ d d', xs[i]? = some d ∧ ys[i]? = some d' ∧ x = .tup [d, d']) (fun _ => True) M1) kx) (hg : Gl X "zip" := by rfl)
    (hs : starEach [a, b] X.env = (false, eval a X.env) :: starEach [b] X.env := by rfl) (hpl : (backTo pos (starEach [b] X.env)).any (·.1) = false := by rfl) : GI X Γ M (.Tuple es j tpos) (.Call (.Name "zip" p) [a, b] [] pos) k kx := fun S σ hM hE W tk hW R hR pins s I =>
  (RZ.pi_zipA (elts := es) (kk := j) (tpos := tpos) hg hm wa hs hpl).run pins s σ S.H R I (h S σ hM hE W tk hW _ fun ds M1 S1 vs ⟨ds1, ds2, e, hk⟩ hM1 g1 r1 => by
    subst e
    obtain ⟨v, w, rfl, ⟨p1, xs, rfl, hz, r⟩, p2, ys, rfl, hz2, r2⟩ := rep2 r1
    have l := r.len
    have l2 := r2.len
    have t1 : ∀ S2 M2, Grow S1 S2 → OkM X.K S2 M2 → SqL X.K S2.H p1 xs ∧ SqL X.K S2.H p2 ys := fun S2 M2 g2 hM2 => ⟨SqL.of (hM2.zh _ _ (g2.zz _ _ hz)), SqL.of (hM2.zh _ _ (g2.zz _ _ hz2))⟩
    refine ⟨p1, p2, xs, ys, rfl, .inl ⟨(t1 S1 M1 (Grow.refl _) hM1).1, (t1 S1 M1 (Grow.refl _) hM1).2, hR _ _ _ M1 S1 _ hk hM1 g1 ⟨fun i S2 M2 hi g2 hM2 _ => ?_, fun S2 M2 g2 hM2 _ => ?_, fun i S2 M2 x H' hi g2 hM2 _ y => ?_⟩⟩⟩
    · obtain ⟨q1, q2⟩ := t1 S2 M2 g2 hM2
      exact ⟨xs, ys, xs[i]'(by omega), ys[i]'(by omega), q1, q2, by simp [show i < xs.length by omega], by simp [show i < ys.length by omega]⟩
    · obtain ⟨q1, q2⟩ := t1 S2 M2 g2 hM2
      exact ⟨xs, ys, q1, q2, by omega⟩
    · obtain ⟨q1, q2⟩ := t1 S2 M2 g2 hM2
      obtain ⟨T, u, w, rfl, hT, rfl, hx, hy⟩ := y
      obtain ⟨d, e1, e2⟩ := r.get' (hx xs q1)
      obtain ⟨d', e3, e4⟩ := r2.get' (hy ys q2)
      obtain ⟨S', a1, a2, a3, a4⟩ := new_pair hM2 hT (e2.grow g2) (e4.grow g2)
      exact ⟨S', _, a1, a2, a3, ⟨d, d', e1, e3, rfl⟩, a4⟩)
/-- for .. -/
theorem gs_for {iter : Expr} {body : List Stmt} {E : ED} (hp : PassesOwn (model X.prog X.w) X.A X.env X.xe) (hc : X.calm = true)
    (h : GI X Γ M tg iter (fun n it G M1 => ∃ P : Nat → En → Ms → Prop, P 0 Γ M1 ∧ (∀ i Γ2 M2, i ≤ n → P i Γ2 M2 → G M2) ∧
      (∀ i d Γ2 M2, i < n → it i d → P i Γ2 M2 → GG X Γ2 M2 tg d fun Γ3 => GB X Γ3 M2 body { E with nx := P (i + 1), ct := P (i + 1), bk := E.nx }) ∧ (∀ Γ2 M2, P n Γ2 M2 → E.nx Γ2 M2)) (fun c f M1 => E.ex c f Γ M1))
    (hs : ∀ x, foldedSetIterable iter X.env x = pure x := by intro _; rfl) : GS X Γ M (.For tg iter body [] pos) E := fun S σ hM hE W tk De L =>
  of_ps (ps_for hp hc wi wg wb hs) (h S σ hM hE W tk (L.kw hE) _ fun n it G M1 S1 J ⟨P, p0, pG, pt, pd⟩ hM1 g1 wk => by
    have wk' : Walk J n (fun H => ∃ S M, S.H = H ∧ Grow S1 S ∧ OkM X.K S M ∧ G M) (fun i H x H' => ∀ S M, S.H = H → Grow S1 S → OkM X.K S M → G M → ∃ S' d, S'.H = H' ∧ OkM X.K S' M ∧ Grow S S' ∧ it i d ∧ Rep X.K S' d x) := by
      obtain ⟨w1, w2, w3⟩ := wk
      refine ⟨fun i H hi ⟨S2, M2, e, g2, hM2, hG⟩ => ?_, fun H ⟨S2, M2, e, g2, hM2, hG⟩ => ?_, fun i H x H' hi _ y S2 M2 e g2 hM2 hG => ?_⟩
      · rw [← e]; exact w1 i S2 M2 hi g2 hM2 hG
      · rw [← e]; exact w2 S2 M2 g2 hM2 hG
      · rw [← e] at y; exact w3 i S2 M2 x H' hi g2 hM2 hG y
    refine for_it wk' (fun i σ2 H2 => ∃ S2 Γ2 M2, S2.H = H2 ∧ Grow S1 S2 ∧ OkM X.K S2 M2 ∧ EnvOk X.K S2 σ2 Γ2 ∧ P i Γ2 M2) ⟨S1, Γ, M1, rfl, Grow.refl _, hM1, hE.grow g1, p0⟩ (fun i σ2 H2 hi ⟨S2, Γ2, M2, e, g2, hM2, hE2, hP⟩ => ⟨S2, M2, e, g2, hM2, pG i Γ2 M2 hi hP⟩) ?_ ?_
    · intro i x σ2 H2 H' hi ⟨S2, Γ2, M2, e, g2, hM2, hE2, hP⟩ y
      obtain ⟨S3, d, e3, hM3, g3, hit, r3⟩ := y S2 M2 e g2 hM2 (pG i Γ2 M2 (Nat.le_of_lt hi) hP)
      rw [← e3]
      refine pt i d Γ2 M2 hi hit hP S3 σ2 hM3 (hE2.grow g3) x r3 _ fun Γ4 σ4 hb hE4 => ?_
      have hN : KN X.K S3 (P (i + 1)) (fun σ2 H2 => ∃ S2 Γ2 M2, S2.H = H2 ∧ Grow S1 S2 ∧ OkM X.K S2 M2 ∧ EnvOk X.K S2 σ2 Γ2 ∧ P (i + 1) Γ2 M2) :=
        fun Γ5 M5 S5 σ5 h5 hM5 g5 hE5 => ⟨S5, Γ5, M5, rfl, (g2.trans g3).trans g5, hM5, hE5, h5⟩
      have L3 := L.grow ((g1.trans g2).trans g3)
      exact hb S3 σ4 hM3 hE4 W tk _ ⟨hN, L3.rt, L3.nx, hN, L3.ex⟩
    · rintro σ2 H2 ⟨S2, Γ2, M2, rfl, g2, hM2, hE2, hP⟩
      exact L.nx Γ2 M2 S2 σ2 (pd Γ2 M2 hP) hM2 (g1.trans g2) hE2)
end

/-! ### comprehensions -/
def wipeG (Γ : En) : List Nat → En
  | [] => Γ
  | v :: vs => (wipeG Γ vs).set v none
theorem EnvOk.wipe {K : PySem.W.Frag} {S : Sg} {σ : L2.St} {Γ : En} (h : EnvOk K S σ Γ) : ∀ vs : List Nat, EnvOk K S (wipe σ vs) (wipeG Γ vs)
  | [] => h
  | v :: vs => by
    have ih := EnvOk.wipe h vs
    refine ⟨by simp only [L2.wipe, wipeG, List.length_set]; exact ih.1, fun i d e => ?_⟩
    unfold wipeG at e
    by_cases hi : v = i
    · subst hi
      by_cases hv : v < (wipeG Γ vs).length
      · rw [List.getElem?_set_self hv] at e; cases e
      · rw [List.getElem?_eq_none (by simpa using hv)] at e; cases e
    · rw [List.getElem?_set_ne hi] at e
      obtain ⟨x, h1, h2⟩ := ih.2 i d e
      exact ⟨x, by unfold L2.wipe; rw [List.getElem?_set_ne hi]; exact h1, h2⟩
def WTs (X : Cx) (ifs : List Expr) : TT := fun σ H Q => ∀ (pins : List (Addr × Obj)) (s : Shared), Inv X pins σ H s →
    wpAny (model X.prog X.w) X.A (forIn ifs true fun c r => if r = true then do let ok ← isTrue c X.env (eval c X.env); pure (ForInStep.yield ok) else pure (ForInStep.yield r)) (TP X pins σ Q) X.xe s
/-- the tests of a comprehension: none, or one -/
def GTs (X : Cx) (Γ : En) (M : Ms) (ifs : List Expr) (k : KB) : Prop := ∀ S σ, OkM X.K S M → EnvOk X.K S σ Γ → ∀ Q, KT X.K S k Q → WTs X ifs σ S.H Q
theorem gts_nil {X : Cx} {Γ : En} {M : Ms} {k : KB} (h : k true M) : GTs X Γ M [] k := fun S σ hM hE Q hQ pins s I => pts_nil.run pins s σ S.H Q I (hQ true M S h hM (Grow.refl _))
theorem gts_one {X : Cx} {Γ : En} {M : Ms} {c : Expr} {k : KB} (h : GT X Γ M c k fun _ _ _ => False) : GTs X Γ M [c] k := fun S σ hM hE Q hQ pins s I =>
  (pts_one (wt (X := X) (e := c))).run pins s σ S.H Q I (h S σ hM hE (fun _ _ _ _ => False) takes0 (fun _ _ _ _ _ z => z.elim) Q hQ)
/-- an object that is known but neither stands nor is held by a handle -/
theorem frz_f {K : PySem.W.Frag} {S : Sg} {M : Ms} {a : Addr} {o : HO} (h : OkM K S M) (hz : S.Z a = none) (ho : S.H a = some o) (hn : a ∉ S.as) : OkM K ⟨S.as, upd S.Z a o, S.H⟩ M ∧ (∀ S0, Grow S0 S → S0.H a = none → Grow S0 ⟨S.as, upd S.Z a o, S.H⟩) ∧ ∀ d v, Rep K S d v → Rep K ⟨S.as, upd S.Z a o, S.H⟩ d v := by
  have mono := sg_mono (K := K) (S := S) (S' := ⟨S.as, upd S.Z a o, S.H⟩) (ex_new hz)
  refine ⟨⟨h.len, h.nd, fun b u e => ?_, fun p hp => ?_, h.dom⟩, fun S0 g n0 => ?_, mono.1⟩
  · by_cases q : b = a
    · subst q
      have e' : upd S.Z b o b = some u := e
      rw [upd_same] at e'; cases e'; exact ho
    · have e' : upd S.Z a o b = some u := e
      rw [upd_ne q] at e'; exact h.zh b u e'
  · have hb : p.1 ≠ a := fun z => hn (by rw [← z]; exact h.in hp)
    exact (h.mo p hp).keep (S' := ⟨S.as, upd S.Z a o, S.H⟩) (ex_new hz) (fun e => by show upd S.Z a o p.1 = none; rw [upd_ne hb]; exact e) (fun _ e => e)
  · refine ⟨g.pre, g.zz.trans (ex_new hz), g.keep, g.dom, fun q h1 h2 h3 => ?_⟩
    have : q ≠ a := fun c => h1 (by rw [c]; exact n0)
    show upd S.Z a o q = none
    rw [upd_ne this]; exact g.sep q h1 h2 h3
/-- .. is changed -/
theorem upd_f {K : PySem.W.Frag} {S : Sg} {M : Ms} {a : Addr} {o : HO} (h : OkM K S M) (hz : S.Z a = none) (hn : a ∉ S.as) : OkM K ⟨S.as, S.Z, upd S.H a o⟩ M ∧ (∀ S0, Grow S0 S → S0.H a = none → Grow S0 ⟨S.as, S.Z, upd S.H a o⟩) ∧ (∀ d v, Rep K S d v → Rep K ⟨S.as, S.Z, upd S.H a o⟩ d v) ∧ ∀ ds v, RepL K S ds v → RepL K ⟨S.as, S.Z, upd S.H a o⟩ ds v := by
  have mono := sg_mono (K := K) (S := S) (S' := ⟨S.as, S.Z, upd S.H a o⟩) (Ex.refl _)
  have dm : ∀ q, S.H q ≠ none → upd S.H a o q ≠ none := fun q e => by
    by_cases z : q = a
    · rw [z, upd_same]; simp
    · rw [upd_ne z]; exact e
  refine ⟨⟨h.len, h.nd, fun b u e => ?_, fun p hp => ?_, fun b mb => dm b (h.dom b mb)⟩, fun S0 g n0 => ?_, mono⟩
  · have : b ≠ a := fun z => by rw [z, hz] at e; cases e
    show upd S.H a o b = some u
    rw [upd_ne this]; exact h.zh b u e
  · have hb : p.1 ≠ a := fun z => hn (by rw [← z]; exact h.in hp)
    exact (h.mo p hp).keep (S' := ⟨S.as, S.Z, upd S.H a o⟩) (Ex.refl _) (fun e => e) (fun u e => by show upd S.H a o p.1 = some u; rw [upd_ne hb]; exact e)
  · refine ⟨g.pre, g.zz, fun q u e n => ?_, fun q e => dm q (g.dom q e), g.sep⟩
    have : q ≠ a := fun c => by rw [c, n0] at e; cases e
    show upd S.H a o q = some u
    rw [upd_ne this]; exact g.keep q u e n
section
variable {X : Cx} {Γ : En} {M : Ms} {tg elt iter : Expr} {ifs : List Expr} {scope : Scope} {own : List (Str × Nat)} {k : KD} {kx : KX} {pos p : Pos}
theorem wipe_get : ∀ {σ : L2.St} {vs : List Nat} {j : Nat}, (wipe σ vs)[j]? = if j ∈ vs ∧ j < σ.length then some none else σ[j]?
  | σ, [], j => by simp [wipe]
  | σ, v :: vs, j => by
    have ih := wipe_get (σ := σ) (vs := vs) (j := j)
    unfold L2.wipe
    by_cases q : v = j
    · subst q
      by_cases hl : v < σ.length
      · rw [List.getElem?_set_self (by rw [wipe_length]; exact hl)]
        simp [hl]
      · rw [List.getElem?_eq_none (by rw [List.length_set, wipe_length]; omega), List.getElem?_eq_none (by omega)]
        simp [hl]
    · rw [List.getElem?_set_ne q, ih]
      have : j ≠ v := fun c => q c.symm
      simp [this]
theorem wipe_set {σ : L2.St} {vs : List Nat} {i : Nat} {x : Option V} (h : i ∈ vs) : wipe (σ.set i x) vs = wipe σ vs := by
  apply List.ext_getElem?
  intro j
  rw [wipe_get, wipe_get]
  by_cases q : i = j
  · subst q
    by_cases hl : i < σ.length
    · simp [h, hl]
    · simp [hl]
  · rw [List.getElem?_set_ne q]
    simp
/-- the target of a comprehension: own slots alone -/
def CG (X : Cx) (Γ : En) (M : Ms) (tg : Expr) (d : D) (vs : List Nat) (k : En → Prop) : Prop := ∀ S σ, OkM X.K S M → EnvOk X.K S σ Γ → ∀ v, Rep X.K S d v → ∀ Q : L2.St → Hp → Prop, (∀ Γ' σ', k Γ' → EnvOk X.K S σ' Γ' → wipe σ' vs = wipe σ vs → Q σ' S.H) → WG X tg v σ S.H Q
def CGs (X : Cx) (Γ : En) (M : Ms) (ts : List Expr) (ds : List D) (ws : List Nat) (k : En → Prop) : Prop := ∀ S σ, OkM X.K S M → EnvOk X.K S σ Γ → ∀ vs, RepL X.K S ds vs → ∀ Q : L2.St → Hp → Prop, (∀ Γ' σ', k Γ' → EnvOk X.K S σ' Γ' → wipe σ' ws = wipe σ ws → Q σ' S.H) → WGs X ts vs σ S.H Q
theorem cg_name {d : D} {vs : List Nat} {pos : Pos} (i : Nat) {x : Str} {k : En → Prop} (h : k (Γ.set i (some d))) (hN : X.N.Nodup) (hv : i ∈ vs := by first | decide | simp) (hi : X.N[i]? = some x := by rfl) (hx : Loc X.env.scope x := by first | exact Or.inl rfl | exact Or.inr rfl)
    (hf : X.fn x = true ∨ X.env.scope.names.lookup x = some .local := by first | exact .inl rfl | exact .inr rfl) : CG X Γ M (.Name x pos) d vs k := fun S σ hM hE v rv Q hQ pins s u I r =>
  (pg_name hN hi hx hf).run pins s σ S.H v u Q I r (hQ _ _ h (hE.set rv) (wipe_set hv))
theorem cgs_nil {vs : List Nat} {k : En → Prop} (h : k Γ) : CGs X Γ M [] [] vs k := fun S σ hM hE xs rv Q hQ pins s us I r => by
  have e : xs = [] := rv
  subst e
  exact pgs_nil.run pins s σ S.H [] us Q I r ⟨rfl, hQ _ _ h hE rfl⟩
theorem cgs_cons {d : D} {t : Expr} {ts : List Expr} {ds : List D} {vs : List Nat} {k : En → Prop} (h : CG X Γ M t d vs fun Γ1 => CGs X Γ1 M ts ds vs k)
    (hs : (assignEach (t :: ts) X.env).map (·.2) = assign t X.env :: (assignEach ts X.env).map (·.2) := by rfl) : CGs X Γ M (t :: ts) (d :: ds) vs k := fun S σ hM hE xs rv Q hQ pins s us I r => by
  obtain ⟨x, xs, rfl, r1, r2⟩ := rv
  exact (pgs_cons (X := X) wg wgs hs).run pins s σ S.H (x :: xs) us Q I r ⟨x, xs, rfl, h S σ hM hE x r1 _ fun Γ1 σ1 h1 hE1 w1 => h1 S σ1 hM hE1 xs r2 Q fun Γ2 σ2 h2 hE2 w2 => hQ Γ2 σ2 h2 hE2 (w2.trans w1)⟩
theorem cg_tup {es : List Expr} {j n : Nat} {ds : List D} {vs : List Nat} {pos : Pos} {k : En → Prop} (hc : X.calm = true) (h : CGs X Γ M es ds vs k) (hl : ds.length = n) (hn : (assignEach es X.env).length = n := by rfl) (hst : (assignEach es X.env).findIdx? (·.1) = none := by rfl) :
    CG X Γ M (.Tuple es j pos) (.tup ds) vs k := fun S σ hM hE v rv Q hQ pins s u I r => by
  obtain ⟨a, xs, rfl, e, r1⟩ := rv
  exact (pg_tup (t := WGs X es) hc wgs hn hst).run pins s σ S.H (.ref a) u Q I r ⟨a, xs, rfl, ex_t hM.zh e, by rw [r1.len]; exact hl, h S σ hM hE xs r1 Q hQ⟩
theorem cg_eq {d d' : D} {vs : List Nat} {k : En → Prop} (h : CG X Γ M tg d' vs k) (e : d = d') : CG X Γ M tg d vs k := by rw [e]; exact h
/-- in every block of this scope -/
def Blk (X : Cx) (scope : Scope) (p : Cx → Prop) : Prop := ∀ (s : Shared) (H : Hp) (C : Addr) (cl : List (Str × Addr)) (fp : List Addr), p (X.blk s H scope (compEnvC scope cl C X.env) fp)
/-- the turns of a comprehension: P by the turn, the list made so far, the objects -/
def LcOk (X : Cx) (Γ : En) (tg elt : Expr) (ifs : List Expr) (scope : Scope) (vs : List Nat) (k : KD) (n : Nat) (it : Nat → D → Prop) (G : Ms → Prop) (M1 : Ms) : Prop :=
  ∃ P : Nat → List D → Ms → Prop, P 0 [] M1 ∧ (∀ i acc M2, i ≤ n → P i acc M2 → G M2) ∧
    (∀ i d acc M2, i < n → it i d → P i acc M2 → Blk X scope fun Y => CG Y (wipeG Γ vs) M2 tg d vs fun Γ3 =>
      Blk X scope fun Y => GTs Y Γ3 M2 ifs fun b M3 => (b = true → Blk X scope fun Y => GE Y Γ3 M3 elt (fun y M4 => acc.length < 16777216 ∧ P (i + 1) (acc ++ [y]) M4) (fun _ _ _ => False)) ∧ (b = false → P (i + 1) acc M3)) ∧
    (∀ acc M2, P n acc M2 → k (.lst acc) M2)
/-- readings that serve every block -/
def allE (X : Cx) (scope : Scope) (e : Expr) : TE := fun σ H' Q => ∀ (s : Shared) (H : Hp) (C : Addr) (cl : List (Str × Addr)) (fp : List Addr), WE (X.blk s H scope (compEnvC scope cl C X.env) fp) e σ H' Q
def allTs (X : Cx) (scope : Scope) (ifs : List Expr) : TT := fun σ H' Q => ∀ (s : Shared) (H : Hp) (C : Addr) (cl : List (Str × Addr)) (fp : List Addr), WTs (X.blk s H scope (compEnvC scope cl C X.env) fp) ifs σ H' Q
def allG (X : Cx) (scope : Scope) (tg : Expr) : TG := fun v σ H' Q => ∀ (s : Shared) (H : Hp) (C : Addr) (cl : List (Str × Addr)) (fp : List Addr), WG (X.blk s H scope (compEnvC scope cl C X.env) fp) tg v σ H' Q
theorem wts {X : Cx} {ifs : List Expr} : PTs X ifs (WTs X ifs) := ⟨fun pins s _ _ _ I h => h pins s I⟩
theorem lc_run {n : Nat} {it : Nat → D → Prop} {G : Ms → Prop} {M1 : Ms} {S1 : Sg} {J : It} {σ : L2.St} {Q : VK} {Da : Addr} (hl : LcOk X Γ tg elt ifs scope (own.map (·.2)) k n it G M1) (hM1 : OkM X.K S1 M1) (hE : EnvOk X.K S1 σ Γ) (wk : DWalk X.K J n it G S1) (hQ : KV X.K S1 k Q) (hD : S1.H Da = none) :
    ∃ W : Nat → Nat → Hp → Prop, (∃ m, W 0 m (upd S1.H Da (.lst []))) ∧ ∀ i m H, W i m H → (J.stop i H ∧ Q (.ref Da) H) ∨ (J.go i H ∧ ∃ Nx : Hp → Prop, (∀ H', Nx H' → ∃ m', m' < m ∧ W (i + 1) m' H') ∧
      ∀ x H', J.yld i H x H' → allG X scope tg x (wipe σ (own.map (·.2))) H' fun σ2 H2 => wipe σ2 (own.map (·.2)) = wipe σ (own.map (·.2)) ∧ allTs X scope ifs σ2 H2 fun b H3 =>
        if b = true then allE X scope elt σ2 H3 fun y H4 => ∃ acc, H4 Da = some (.lst acc) ∧ acc.length < sizeLine ∧ Nx (upd H4 Da (.lst (acc ++ [y]))) else Nx H3) := by
  obtain ⟨P, p0, pG, pt, pd⟩ := hl
  have hDz : S1.Z Da = none := hM1.zh.none hD
  have hDa : Da ∉ S1.as := fun m => hM1.dom Da m hD
  have wk' : Walk J n (fun H => ∃ S M, S.H = H ∧ Grow S1 S ∧ OkM X.K S M ∧ G M) (fun i H x H' => ∀ S M, S.H = H → Grow S1 S → OkM X.K S M → G M → ∃ S' d, S'.H = H' ∧ OkM X.K S' M ∧ Grow S S' ∧ it i d ∧ Rep X.K S' d x) := by
    obtain ⟨w1, w2, w3⟩ := wk
    refine ⟨fun i H hi ⟨S2, M2, e, g2, hM2, hG⟩ => ?_, fun H ⟨S2, M2, e, g2, hM2, hG⟩ => ?_, fun i H x H' hi _ y S2 M2 e g2 hM2 hG => ?_⟩
    · rw [← e]; exact w1 i S2 M2 hi g2 hM2 hG
    · rw [← e]; exact w2 S2 M2 g2 hM2 hG
    · rw [← e] at y; exact w3 i S2 M2 x H' hi g2 hM2 hG y
  let Pv : Nat → Hp → Prop := fun i H2 => ∃ S2 M2 acc vs, S2.H = H2 ∧ Grow S1 S2 ∧ OkM X.K S2 M2 ∧ S2.Z Da = none ∧ Da ∉ S2.as ∧ S2.H Da = some (.lst vs) ∧ RepL X.K S2 acc vs ∧ P i acc M2
  refine lc_it wk' Pv ?_ (fun i H2 hi ⟨S2, M2, acc, vs, e, g2, hM2, _, _, _, _, hP⟩ => ⟨S2, M2, e, g2, hM2, pG i acc M2 hi hP⟩) ?_ ?_
  · obtain ⟨a1, a2, _⟩ := upd_f (o := .lst []) hM1 hDz hDa
    exact ⟨⟨S1.as, S1.Z, upd S1.H Da (.lst [])⟩, M1, [], [], rfl, a2 S1 (Grow.refl _) hD, a1, hDz, hDa, upd_same, RepL.nil, p0⟩
  · intro i x H H' hi ⟨S2, M2, acc, vs, e, g2, hM2, z2, n2, h2, r2, hP⟩ y s Hs C cl fp
    obtain ⟨S3, d, e3, hM3, g3, hit, r3⟩ := y S2 M2 e g2 hM2 (pG i acc M2 (Nat.le_of_lt hi) hP)
    rw [← e3]
    have keep : ∀ S', Grow S2 S' → S'.Z Da = none ∧ Da ∉ S'.as ∧ S'.H Da = some (.lst vs) := fun S' g' => by
      exact ⟨g'.sep Da (by rw [h2]; simp) z2 n2, g'.out (by rw [h2]; simp) n2, g'.keep Da _ h2 n2⟩
    refine pt i d acc M2 hi hit hP s Hs C cl fp S3 _ hM3 ((hE.grow (g2.trans g3)).wipe _) x r3 _ fun Γ4 σ4 hb hE4 w4 => ⟨w4.trans ?_, fun s' Hs' C' cl' fp' => ?_⟩
    · apply List.ext_getElem?
      intro j
      rw [wipe_get, wipe_get, wipe_length]
      split <;> rfl
    · refine hb s' Hs' C' cl' fp' S3 σ4 hM3 hE4 _ fun b M5 S5 hk hM5 g5 => ?_
      have g25 := g3.trans g5
      cases b with
      | true =>
        intro s'' Hs'' C'' cl'' fp''
        refine hk.1 rfl s'' Hs'' C'' cl'' fp'' S5 σ4 hM5 (hE4.grow g5) (fun _ _ _ _ => False) takes0 (fun _ _ _ _ _ z => z.elim) _ fun d6 M6 S6 v6 ⟨hl, hP6⟩ hM6 g6 r6 => ?_
        obtain ⟨z6, n6, h6⟩ := keep S6 (g25.trans g6)
        obtain ⟨a1, a2, a3, a4⟩ := upd_f (o := .lst (vs ++ [v6])) hM6 z6 n6
        refine ⟨vs, h6, by rw [r2.len]; exact hl, ⟨S6.as, S6.Z, upd S6.H Da (.lst (vs ++ [v6]))⟩, M6, acc ++ [d6], vs ++ [v6], rfl, a2 S1 (g2.trans (g25.trans g6)) hD, a1, z6, n6, upd_same, a4 _ _ ((r2.grow (g25.trans g6)).app (.one r6)), hP6⟩
      | false =>
        obtain ⟨z5, n5, h5⟩ := keep S5 g25
        exact ⟨S5, M5, acc, vs, rfl, g2.trans g25, hM5, z5, n5, h5, r2.grow g25, hk.2 rfl⟩
  · rintro H2 ⟨S2, M2, acc, vs, rfl, g2, hM2, z2, n2, h2, r2, hP⟩
    obtain ⟨a1, a2, a3⟩ := frz_f hM2 z2 h2 n2
    refine hQ (.lst acc) M2 ⟨S2.as, upd S2.Z Da (.lst vs), S2.H⟩ (.ref Da) (pd acc M2 hP) a1 (a2 S1 g2 hD) ⟨Da, vs, rfl, upd_same, ?_⟩
    exact (sg_mono (K := X.K) (S := S2) (S' := ⟨S2.as, upd S2.Z Da (.lst vs), S2.H⟩) (ex_new z2)).2 _ _ r2
theorem pg_all {tg : Expr} : ∀ (s : Shared) (H : Hp) (C : Addr) (cl : List (Str × Addr)) (fp : List Addr), PG (X.blk s H scope (compEnvC scope cl C X.env) fp) tg (allG X scope tg) := fun s H C cl fp => ⟨fun pins sh σ H' v u Q I r h => h s H C cl fp pins sh u I r⟩
theorem pts_all : ∀ (s : Shared) (H : Hp) (C : Addr) (cl : List (Str × Addr)) (fp : List Addr), PTs (X.blk s H scope (compEnvC scope cl C X.env) fp) ifs (allTs X scope ifs) := fun s H C cl fp => ⟨fun pins sh σ H' Q I h => h s H C cl fp pins sh I⟩
theorem pe_all : ∀ (s : Shared) (H : Hp) (C : Addr) (cl : List (Str × Addr)) (fp : List Addr), PE (X.blk s H scope (compEnvC scope cl C X.env) fp) elt (allE X scope elt) := fun s H C cl fp => ⟨fun pins sh σ H' Q I h => h s H C cl fp pins sh I⟩
/-- [elt for tg in iter if ..] -/
theorem ge_lc (own : List (Str × Nat)) (hc : X.calm = true) (hN : X.N.Nodup) (ok : BlkOk X.N X.env.scope scope own) (h : GI X Γ M tg iter (LcOk X Γ tg elt ifs scope (own.map (·.2)) k) kx)
    (hs : ∀ x, foldedSetIterable iter X.env x = pure x := by intro _; rfl) : GE X Γ M (.ListComp elt [⟨tg, iter, ifs, 0⟩] scope pos) k kx := fun S σ hM hE W tk hW Q hQ =>
  of_pe (pe_lc hc hN wi ok pg_all pts_all pe_all hs) (h S σ hM hE W tk hW _ fun n it G M1 S1 J hl hM1 g1 wk => fun Da hD => lc_run hl hM1 (hE.grow g1) wk (hQ.grow g1) hD)
/-- x = [elt for tg in iter if ..] on one line, x a local that no block captures -/
theorem gs_lc (j : Nat) (own : List (Str × Nat)) {y : Str} {py : Pos} {E : ED} (hc : X.calm = true) (hN : X.N.Nodup) (ok : BlkOk X.N X.env.scope scope own) (h : GI X Γ M tg iter (LcOk X Γ tg elt ifs scope (own.map (·.2)) fun d M1 => E.nx (Γ.set j (some d)) M1) fun c f M1 => E.ex c f Γ M1)
    (hsw : swapsWith (.ListComp elt [⟨tg, iter, ifs, 0⟩] scope pos) (some (.Name y py)) p.line X.env = pure true)
    (hy : X.N[j]? = some y := by rfl) (hyl : X.env.scope.names.lookup y = some .local := by rfl) (hs : ∀ x, foldedSetIterable iter X.env x = pure x := by intro _; rfl) : GS X Γ M (.Assign [.Name y py] (.ListComp elt [⟨tg, iter, ifs, 0⟩] scope pos) p) E := fun S σ hM hE W tk De L =>
  of_ps (ps_setLc hc hN hy hyl hsw wi ok pg_all pts_all pe_all hs) (h S σ hM hE W tk (L.kw hE) _ fun n it G M1 S1 J hl hM1 g1 wk => fun Da hD =>
    lc_run (Q := fun v H' => gName j v σ H' De.nx) hl hM1 (hE.grow g1) wk (fun d M2 S2 v hk hM2 g2 r2 => L.nx _ M2 S2 _ hk hM2 (g1.trans g2) ((hE.grow (g1.trans g2)).set r2)) hD)
end

/-! ### a def -/
theorem fn_ok {P : Program} {w : World} {K : PySem.W.Frag} {mg : Str → Option Value} {base : Heap} {x qual : Str} {st : Stmt} {f : Addr} {fd : FuncData} {N ps : List Str} {j : Nat} {R : RSp} (F : Fun K x qual st f fd) (sc : FnScope N ps (defScope st))
    (len : ∀ ds M k kx, R ds M k kx → ds.length = ps.length)
    (hb : ∀ (cdv : Value) (A : Around) (outer : List Env) (s : Shared) (H : Hp) (E : XK) (ds : List D) (M : Ms) (k : KD) (kx : KX), Room j (A.deeper (PyProof.Rows.envOfC qual (defScope st) s.heap.objs.size f cdv)) → R ds M k kx →
      GB (cxOf (L2.CX P w) P w K mg base N qual (defScope st) f cdv A outer s H E) (ds.map some ++ List.replicate (N.length - ds.length) none) M (defBody st) { nx := fun _ M' => k .non M', rt := k, ex := fun c f _ M' => kx c f M' }) :
    FnOk P w K mg base (L2.CX P w) (j + 1) f fd ps (spD K R) := by
  refine F.okX sc (fun vs H Q E ⟨S, ds, M, k, kx, _, _, r, h, _, _⟩ => by rw [r.len]; exact len _ _ _ _ h) fun cdv A outer s H vs Q E hr ⟨S, ds, M, k, kx, e, hM, r, h, hk, hx⟩ => ?_
  subst e
  refine ⟨WB _ (defBody st), wb, ?_⟩
  have hl := r.len
  have g := hb cdv A outer s S.H E ds M k kx hr h
  refine g S (start N vs) hM ⟨?_, fun i d hi => ?_⟩ (fun cls d _ H' => E cls d H') (takes_of rfl rfl rfl rfl) _ ⟨fun Γ' M' S' σ' a hM' g' hE' => hk .non M' S' .non a hM' g' rfl, hk, fun _ _ _ _ z => z.elim, fun _ _ _ _ z => z.elim, fun cls fs Γ' M' S' σ' dd a hM' g' hE' xr => hx cls fs M' S' dd a hM' g' xr⟩
  · simp [L2.start, hl]
  · have hi2 : i < ds.length := by
      by_cases q : i < ds.length
      · exact q
      · rw [List.getElem?_append_right (by simp; omega)] at hi
        have := List.getElem?_eq_some_iff.mp hi
        obtain ⟨_, h2⟩ := this
        simp at h2
    rw [List.getElem?_append_left (by simpa using hi2)] at hi
    have hd : ds[i]? = some d := by
      rw [List.getElem?_map] at hi
      cases e : ds[i]? with
      | none => rw [e] at hi; cases hi
      | some z => rw [e] at hi; simp at hi; rw [hi]
    obtain ⟨v, h1, h2⟩ := r.get hd
    refine ⟨v, ?_, h2⟩
    unfold L2.start
    rw [List.getElem?_append_left (by simp; rw [hl]; exact hi2), List.getElem?_map, h1]; rfl
end PD

set_option Elab.async false
set_option linter.all false
set_option maxRecDepth 100000
set_option maxHeartbeats 4000000
/-! PD: stores into lists and objects, their methods, new objects. -/
namespace PD
open PySem L2
open Evl (Ex ex_rd ex_l ex_t)
section
variable {X : Cx} {Γ : En} {M : Ms} {e a b c o i : Expr} {es : List Expr} {k : KD} {kx : KX} {E : ED} {d x y z : D} {pos pos' apos p : Pos} {nm m : Str} {j l : Nat} {C : Addr} {dds : List D} {R : RSp}
/-- o[i] = e, o a list that may change -/
theorem gs_seti (h : GE X Γ M e (fun d M1 => GE X Γ M1 o (fun x M2 => GE X Γ M2 i (fun y M3 => ∃ (q : Nat) (a : Addr) (ds : List D) (n : Int) (j : Nat), x = .hdl a ∧ M3[q]? = some (a, MO.lst ds) ∧ y = .int n ∧ ((0 ≤ n ∧ n = j ∧ j < ds.length) ∨ (n < 0 ∧ n + ds.length = j)) ∧ E.nx Γ (M3.set q (a, .lst (ds.set j d))))
      fun c f M1 => E.ex c f Γ M1) fun c f M1 => E.ex c f Γ M1) fun c f M1 => E.ex c f Γ M1)
    (hs : swapsWithSole [.Subscript o i pos'] e pos.line X.env = pure false := by rfl) (hw : swappedStores [.Subscript o i pos'] e X.env = pure none := by rfl) (h1 : (assignEach [.Subscript o i pos'] X.env).map (·.2) = [assign (.Subscript o i pos') X.env] := by rfl)
    (ha : ∀ v, assign (.Subscript o i pos') X.env v = (do
      let ov ← holding [v] (eval o X.env)
      let iv ← holding [v, ov] (eval i X.env)
      standAt pos'
      holding [v, ov, iv] (setItem ov iv v)
      release [v, ov, iv] []) := by intro _; rfl) : GS X Γ M (.Assign [.Subscript o i pos'] e pos) E := fun S σ hM hE W tk De L =>
  of_ps (ps_asg we (pg_sub we we set_list ha) hs hw h1) (h S σ hM hE W tk (L.kw hE) _ fun d M1 S1 v hk hM1 g1 r1 =>
    hk S1 σ hM1 (hE.grow g1) W tk ((L.kw hE).grow g1) _ fun x M2 S2 vx hk2 hM2 g2 rx =>
      hk2 S2 σ hM2 (hE.grow (g1.trans g2)) W tk ((L.kw hE).grow (g1.trans g2)) _ fun y M3 S3 vy ⟨q, a, ds, n, j, ex, hq, ey, hi, hnx⟩ hM3 g3 ry => by
        subst ex; subst ey
        cases rx; cases ry
        obtain ⟨hz, xs, hh, rr⟩ := hM3.at hq
        refine ⟨a, xs, n, j, rfl, rfl, hh, ixN_of (by rw [rr.len]; exact hi), ?_⟩
        obtain ⟨hM4, g4⟩ := set_m (o := .lst (xs.set j v)) (m := .lst (ds.set j d)) hM3 hq hz (fun g => ⟨hz, _, upd_same, (rr.grow g).set j ((r1.grow (g2.trans g3)).grow g)⟩)
        have gg := g1.trans (g2.trans (g3.trans g4))
        exact L.nx _ _ ⟨S3.as, S3.Z, upd S3.H a (.lst (xs.set j v))⟩ σ hnx hM4 gg (hE.grow gg))
theorem putF_ix : ∀ {kvs : List (Str × V)} {i : Nat} {f : Str} {v : V}, (kvs.map (·.1)).Nodup → (kvs.map (·.1))[i]? = some f → (putF f v kvs).map (·.1) = kvs.map (·.1) ∧ (putF f v kvs).map (·.2) = (kvs.map (·.2)).set i v
  | [], _, _, _, _, h => by simp at h
  | (g, u) :: r, 0, f, v, _, h => by
    have e : g = f := by simpa using h
    subst e
    have : putF g v ((g, u) :: r) = (g, v) :: r := by
      show (if g = g then _ else _) = _
      rw [if_pos rfl]
    rw [this]; simp
  | (g, u) :: r, i + 1, f, v, nd, h => by
    have h1' : (r.map (·.1))[i]? = some f := h
    have nd' : g ∉ r.map (·.1) ∧ (r.map (·.1)).Nodup := List.nodup_cons.mp nd
    have hne : ¬ g = f := fun e => nd'.1 (by rw [e]; exact List.mem_of_getElem? h1')
    have : putF f v ((g, u) :: r) = (g, u) :: putF f v r := by
      show (if g = f then _ else _) = _
      rw [if_neg hne]
    obtain ⟨q1, q2⟩ := putF_ix (v := v) nd'.2 h1'
    rw [this]; simp [q1, q2]
theorem putF_new : ∀ {kvs : List (Str × V)} {f : Str} {v : V}, f ∉ kvs.map (·.1) → putF f v kvs = kvs ++ [(f, v)]
  | [], _, _, _ => rfl
  | (g, u) :: r, f, v, h => by
    simp only [List.map_cons, List.mem_cons, not_or] at h
    have hne : ¬ g = f := fun e => h.1 e.symm
    show (if g = f then _ else _) = _
    rw [if_neg hne, putF_new h.2]; rfl
/-- what a store into an attribute makes of the attributes -/
inductive PutA (fs : List Str) (ds : List D) (f : Str) (d : D) : List Str → List D → Prop
  | old (i : Nat) (nd : fs.Nodup) (h : fs[i]? = some f) : PutA fs ds f d fs (ds.set i d)
  | new (h : f ∉ fs) : PutA fs ds f d (fs ++ [f]) (ds ++ [d])
theorem PutA.at {K : PySem.W.Frag} {S : Sg} {fs fs' : List Str} {ds ds' : List D} {f : Str} {kvs : List (Str × V)} {v : V} (h : PutA fs ds f d fs' ds') (hf : kvs.map (·.1) = fs) (hr : RepL K S ds (kvs.map (·.2))) (rv : Rep K S d v) :
    (putF f v kvs).map (·.1) = fs' ∧ RepL K S ds' ((putF f v kvs).map (·.2)) := by
  cases h with
  | old i nd h =>
    obtain ⟨q1, q2⟩ := putF_ix (kvs := kvs) (i := i) (f := f) (v := v) (by rw [hf]; exact nd) (by rw [hf]; exact h)
    exact ⟨by rw [q1, hf], by rw [q2]; exact hr.set i rv⟩
  | new h =>
    have e := putF_new (kvs := kvs) (f := f) (v := v) (by rw [hf]; exact h)
    exact ⟨by rw [e]; simp [hf], by rw [e]; simp only [List.map_append, List.map_cons, List.map_nil]; exact hr.app (.one rv)⟩
/-- o.f = e -/
theorem gs_fld {f : Str} (h : GE X Γ M e (fun d M1 => GE X Γ M1 o (fun x M2 => ∃ (q : Nat) (a C : Addr) (fs fs' : List Str) (ds ds' : List D), x = .hdl a ∧ M2[q]? = some (a, MO.ins C fs ds) ∧ Cls X.K C ∧ NoAttr X.K C f ∧ fs.length < 1000 ∧ PutA fs ds f d fs' ds' ∧ E.nx Γ (M2.set q (a, .ins C fs' ds')))
      fun c f M1 => E.ex c f Γ M1) fun c f M1 => E.ex c f Γ M1) (hs : swapsWith e (some (.Attribute o f pos')) pos.line X.env = pure false := by rfl) : GS X Γ M (.Assign [.Attribute o f pos'] e pos) E := fun S σ hM hE W tk De L =>
  of_ps (ps_fld we we hs) (h S σ hM hE W tk (L.kw hE) _ fun d M1 S1 v hk hM1 g1 r1 =>
    hk S1 σ hM1 (hE.grow g1) W tk ((L.kw hE).grow g1) _ fun x M2 S2 vx ⟨q, a, C, fs, fs', ds, ds', ex, hq, cl, na, hl, pa, hnx⟩ hM2 g2 rx => by
      subst ex
      cases rx
      obtain ⟨hz, dx, kvs, hh, hf, rr⟩ := hM2.at hq
      refine ⟨a, C, dx, kvs, rfl, hh, cl, na, by rw [← hf] at hl; simpa using hl, ?_⟩
      obtain ⟨hM4, g4⟩ := set_m (o := .ins C dx (putF f v kvs)) (m := .ins C fs' ds') hM2 hq hz (fun g => by
        obtain ⟨q1, q2⟩ := pa.at hf (rr.grow g) ((r1.grow g2).grow g)
        exact ⟨hz, dx, _, upd_same, q1, q2⟩)
      have gg := g1.trans (g2.trans g4)
      exact L.nx _ _ ⟨S2.as, S2.Z, upd S2.H a (.ins C dx (putF f v kvs))⟩ σ hnx hM4 gg (hE.grow gg))
/-- o.f op= e -/
theorem gs_fldaug {f : Str} {op : Operator} {rd : R2} (hop : InOp X op rd) (h : GE X Γ M o (fun x M1 => ∃ (C : Addr) (fs : List Str) (ds : List D) (i : Nat) (u : D), ObjD M1 x C fs ds ∧ Cls X.K C ∧ NoAttr X.K C f ∧ fs.Nodup ∧ fs[i]? = some f ∧ ds[i]? = some u ∧
      GE X Γ M1 e (fun y M2 => Bin X.K rd u y M2 fun d M3 => ∃ (q : Nat) (a : Addr) (fs fs' : List Str) (ds ds' : List D), x = .hdl a ∧ M3[q]? = some (a, MO.ins C fs ds) ∧ fs.length < 1000 ∧ PutA fs ds f d fs' ds' ∧ E.nx Γ (M3.set q (a, .ins C fs' ds')))
      fun c f M1 => E.ex c f Γ M1) fun c f M1 => E.ex c f Γ M1) : GS X Γ M (.AugAssign (.Attribute o f pos') op e pos) E := fun S σ hM hE W tk De L =>
  of_ps (ps_fldaug we we hop) (h S σ hM hE W tk (L.kw hE) _ fun x M1 S1 vx ⟨C, fs, ds, i, u, ob, cl, na, nd, hi, hu, hk⟩ hM1 g1 rx => by
    obtain ⟨a, dx, kvs, rfl, hh, hf, rr⟩ := ob.at hM1 rx
    obtain ⟨w, hw, rw'⟩ := rr.get hu
    refine ⟨a, C, dx, kvs, w, rfl, hh, cl, na, lookup_ix (by rw [hf]; exact nd) (by rw [hf]; exact hi) hw, ?_⟩
    refine hk S1 σ hM1 (hE.grow g1) W tk ((L.kw hE).grow g1) _ fun y M2 S2 vy hk2 hM2 g2 ry => ?_
    refine hk2 S2 w vy hM2 (rw'.grow g2) ry _ fun d M3 S3 v ⟨q, a', fs2, fs', ds2, ds', ex, hq, hl, pa, hnx⟩ hM3 g3 r3 => ?_
    have rx3 := (rx.grow g2).grow g3
    rw [ex] at rx3
    have ea : a = a' := by
      have : V.ref a = V.ref a' := rx3
      injection this
    subst ea
    obtain ⟨hz, dx2, kvs2, hh2, hf2, rr2⟩ := hM3.at hq
    refine ⟨dx2, kvs2, hh2, by rw [← hf2] at hl; simpa using hl, ?_⟩
    obtain ⟨hM4, g4⟩ := set_m (o := .ins C dx2 (putF f v kvs2)) (m := .ins C fs' ds') hM3 hq hz (fun g => by
      obtain ⟨q1, q2⟩ := pa.at hf2 (rr2.grow g) (r3.grow g)
      exact ⟨hz, dx2, _, upd_same, q1, q2⟩)
    have gg := g1.trans (g2.trans (g3.trans g4))
    exact L.nx _ _ ⟨S3.as, S3.Z, upd S3.H a (.ins C dx2 (putF f v kvs2))⟩ σ hnx hM4 gg (hE.grow gg))
theorem in_addU : InOp X .Add rAdd := in_add
theorem aug_add {K : PySem.W.Frag} {n t : Int} (hk : k (.int (n + t)) M) : Bin K rAdd (.int n) (.int t) M k := bin_flat (v := .int (n + t)) (fun S vx vy _ rx ry Q q => ⟨n, t, rx, ry, q⟩) hk
/-- x op= e, x a name -/
theorem gs_aug (i : Nat) {x : Str} {op : Operator} {ti : TIp} (ho : PIp X op ti) (hd : Γ[i]? = some (some d)) (h : GE X Γ M e (fun y M1 => Bin X.K ti d y M1 fun z M2 => E.nx (Γ.set i (some z)) M2) (fun c f M1 => E.ex c f Γ M1)) (hN : X.N.Nodup) (hi : X.N[i]? = some x := by rfl) (hx : Loc X.env.scope x := by first | exact Or.inl rfl | exact Or.inr rfl)
    (hf : X.fn x = true ∨ X.env.scope.names.lookup x = some .local := by first | exact .inl rfl | exact .inr rfl) : GS X Γ M (.AugAssign (.Name x pos') op e pos) E := fun S σ hM hE W tk De L =>
  of_ps (ps_aug hN hi hx we ho hf) (by
    obtain ⟨v, e1, r⟩ := hE.2 i d hd
    exact ⟨v, e1, h S σ hM hE W tk (L.kw hE) _ fun y M1 S1 vy hk hM1 g1 ry => hk S1 v vy hM1 (r.grow g1) ry _ fun z M2 S2 vz hk2 hM2 g2 rz => L.nx _ M2 S2 _ hk2 hM2 (g1.trans g2) ((hE.grow (g1.trans g2)).set rz)⟩)
theorem aug_int {K : PySem.W.Frag} {n t : Int} {f : Int → Int → Int} (hk : k (.int (f n t)) M) : Bin K (ipI f) (.int n) (.int t) M k := bin_flat (v := .int (f n t)) (fun S vx vy _ rx ry Q q => ⟨n, t, rx, ry, q⟩) hk
/-- l.append(e) -/
theorem ge_append (h : GE X Γ M o (fun x M1 => (∃ (q : Nat) (a : Addr) (ds : List D), x = .hdl a ∧ M1[q]? = some (a, MO.lst ds)) ∧ GE X Γ M1 e (fun y M2 => ∃ (q : Nat) (a : Addr) (ds : List D), x = .hdl a ∧ M2[q]? = some (a, MO.lst ds) ∧ ds.length < 16777216 ∧ k .non (M2.set q (a, .lst (ds ++ [y])))) kx) kx)
    (hbase : attributeBase o "append" X.env (eval o X.env) = eval o X.env := by rfl)
    (hfew : ((backTo p (starEach [e] X.env)).all (fun x => !x.1) && (backToKw p (keywordEach [] X.env)).all (fun x => x.1.isSome) && decide ([e].length + ([] : List Keyword).length + (if ([] : List Keyword).isEmpty then 0 else 1) < 30)) = true := by rfl)
    (hline : (apos.endLine == p.line) = true := by rfl) (hs : starEach [e] X.env = (false, eval e X.env) :: starEach [] X.env := by rfl) (hplain : (backTo p (starEach [] X.env)).any (·.1) = false := by rfl) :
    GE X Γ M (.Call (.Attribute o "append" apos) [e] [] p) k kx := fun S σ hM hE W tk hW Q hQ =>
  of_pe (pe_bm PySem.F.plainAttrs_list PySem.F.slot_list_append PySem.F.type_list_append mt_append we (pa_cons we pa_nil hs) hbase hfew hline hs hplain) (h S σ hM hE W tk hW _ fun x M1 S1 vx ⟨⟨q0, a0, ds0, ex0, hq0⟩, hk⟩ hM1 g1 rx => by
    subst ex0
    cases rx
    obtain ⟨_, xs0, hh0, _⟩ := hM1.at hq0
    refine ⟨.inl ⟨rfl, _, SqL.of hh0⟩, hk S1 σ hM1 (hE.grow g1) W tk (hW.grow g1) _ fun y M2 S2 vy ⟨q, a, ds, ex, hq, hl, hk2⟩ hM2 g2 ry => ?_⟩
    cases ex
    obtain ⟨hz, xs, hh, rr⟩ := hM2.at hq
    refine ⟨a0, xs, vy, rfl, rfl, hh, by rw [rr.len]; exact hl, ?_⟩
    obtain ⟨hM3, g3⟩ := set_m (o := .lst (xs ++ [vy])) (m := .lst (ds ++ [y])) hM2 hq hz (fun g => ⟨hz, _, upd_same, (rr.grow g).app (.one (ry.grow g))⟩)
    exact hQ .non _ ⟨S2.as, S2.Z, upd S2.H a0 (.lst (xs ++ [vy]))⟩ .non hk2 hM3 (g1.trans (g2.trans g3)) rfl)
/-- l.extend(e), e a list that stands -/
theorem ge_extend (h : GE X Γ M o (fun x M1 => (∃ (q : Nat) (a : Addr) (ds : List D), x = .hdl a ∧ M1[q]? = some (a, MO.lst ds)) ∧ GE X Γ M1 e (fun y M2 => ∃ (q : Nat) (a : Addr) (ds es : List D), x = .hdl a ∧ M2[q]? = some (a, MO.lst ds) ∧ y = .lst es ∧ ds.length + es.length ≤ 16777216 ∧ k .non (M2.set q (a, .lst (ds ++ es)))) kx) kx)
    (hbase : attributeBase o "extend" X.env (eval o X.env) = eval o X.env := by rfl)
    (hfew : ((backTo p (starEach [e] X.env)).all (fun x => !x.1) && (backToKw p (keywordEach [] X.env)).all (fun x => x.1.isSome) && decide ([e].length + ([] : List Keyword).length + (if ([] : List Keyword).isEmpty then 0 else 1) < 30)) = true := by rfl)
    (hline : (apos.endLine == p.line) = true := by rfl) (hs : starEach [e] X.env = (false, eval e X.env) :: starEach [] X.env := by rfl) (hplain : (backTo p (starEach [] X.env)).any (·.1) = false := by rfl) :
    GE X Γ M (.Call (.Attribute o "extend" apos) [e] [] p) k kx := fun S σ hM hE W tk hW Q hQ =>
  of_pe (pe_bm PySem.F.plainAttrs_list PySem.F.slot_list_extend PySem.F.type_list_extend mt_extend we (pa_cons we pa_nil hs) hbase hfew hline hs hplain) (h S σ hM hE W tk hW _ fun x M1 S1 vx ⟨⟨q0, a0, ds0, ex0, hq0⟩, hk⟩ hM1 g1 rx => by
    subst ex0
    cases rx
    obtain ⟨_, xs0, hh0, _⟩ := hM1.at hq0
    refine ⟨.inl ⟨rfl, _, SqL.of hh0⟩, hk S1 σ hM1 (hE.grow g1) W tk (hW.grow g1) _ fun y M2 S2 vy ⟨q, a, ds, es, ex, hq, ey, hl, hk2⟩ hM2 g2 ry => ?_⟩
    cases ex
    subst ey
    obtain ⟨b, ys, rfl, hb, rb⟩ := ry
    obtain ⟨hz, xs, hh, rr⟩ := hM2.at hq
    refine ⟨a0, b, xs, ys, rfl, rfl, hh, hM2.zh _ _ hb, by rw [rr.len, rb.len]; exact hl, ?_⟩
    obtain ⟨hM3, g3⟩ := set_m (o := .lst (xs ++ ys)) (m := .lst (ds ++ es)) hM2 hq hz (fun g => ⟨hz, _, upd_same, (rr.grow g).app (rb.grow g)⟩)
    exact hQ .non _ ⟨S2.as, S2.Z, upd S2.H a0 (.lst (xs ++ ys))⟩ .non hk2 hM3 (g1.trans (g2.trans g3)) rfl)
/-- what may change is looked at no more -/
theorem gb_drop {sts : List Stmt} {M' : Ms} (hs : M'.Sublist M) (h : GB X Γ M' sts E) : GB X Γ M sts E := fun S σ hM hE W tk De L => by
  obtain ⟨a, b⟩ := drop_m hM hs
  have g := b S (Grow.refl _)
  exact h ⟨M'.map (·.1), S.Z, S.H⟩ σ a (hE.grow g) W tk De (L.grow g)
theorem ge_drop (h : GE X Γ M e (fun d M1 => ∃ M2, M2.Sublist M1 ∧ k d M2) kx) : GE X Γ M e k kx := fun S σ hM hE W tk hW Q hQ =>
  h S σ hM hE W tk hW Q fun d M1 S1 v ⟨M2, hs, hk⟩ hM1 g1 r => by
    obtain ⟨a, b⟩ := drop_m hM1 hs
    exact hQ d M2 ⟨M2.map (·.1), S1.Z, S1.H⟩ v hk a (b S g1) ((sg_mono (S := S1) (S' := ⟨M2.map (·.1), S1.Z, S1.H⟩) (Ex.refl _)).1 _ _ r)
/-! ### new objects -/
theorem new_ins {K : PySem.W.Frag} {S : Sg} {M : Ms} {x dx C : Addr} (h : OkM K S M) (hx : S.H x = none) (hdx : S.H dx = none) (ne : dx ≠ x) :
    OkM K ⟨S.as ++ [x], S.Z, upd (upd S.H dx (.own x)) x (.ins C dx [])⟩ (M ++ [(x, .ins C [] [])]) ∧ Grow S ⟨S.as ++ [x], S.Z, upd (upd S.H dx (.own x)) x (.ins C dx [])⟩ := by
  have hz : S.Z dx = none := h.zh.none hdx
  have nd : dx ∉ S.as := fun m => h.dom dx m hdx
  obtain ⟨a1, a2, _⟩ := upd_f (o := .own x) h hz nd
  have g1 := a2 S (Grow.refl _) hdx
  have hx1 : (⟨S.as, S.Z, upd S.H dx (.own x)⟩ : Sg).H x = none := by show upd S.H dx (.own x) x = none; rw [upd_ne (Ne.symm ne)]; exact hx
  obtain ⟨b1, b2⟩ := new_m (o := .ins C dx []) (m := .ins C [] []) a1 hx1 (fun g => ⟨a1.zh.none hx1, dx, [], upd_same, rfl, RepL.nil⟩)
  exact ⟨b1, g1.trans b2⟩
/-- how a code ends that keeps its promise, as its caller sees it -/
theorem ends_of {pins : List (Addr × Obj)} {σ : L2.St} {H : Hp} {s : Shared} {Q : VK} {CX : CXT} {EX : XK} (pass : PassesAt CX X σ EX) (inv : L2.Inv X pins σ H s) (r : Result) (t : Shared) : CR CX X.stack X.prog X.w H s Q EX r t →
    match r with | .ok (.ret u) => EP X pins σ Q u t | .ok _ => False | .error er => X.xe er t := by
  intro c
  rcases r with er | fl
  · exact pass _ _ _ _ _ inv c
  · cases fl <;> first | exact inv.after c | exact c
/-- an instance is made, __init__ bound by whatever its arguments are: all the values bound, vals what they stand for -/
theorem maker {pins : List (Addr × Obj)} {σ : L2.St} {H : Hp} {s : Shared} {Q : VK} {us all : List Value} {kw : List (Str × Value)} {vals : List V} {f : Addr} {fd : FuncData} {ps : List Str} {sp : Sp} {CX : CXT} {kk : Nat} {EX : XK} (mk : Mk X.K C f) (F : FnOk X.prog X.w X.K X.mg X.base CX kk f fd ps sp) (room : Room (kk + 1) X.A) (pass : PassesAt CX X σ EX) (inv : L2.Inv X pins σ H s)
    (bound : ∀ t : Shared, X.K.In t.heap → BindsTo t fd ⟨.ref (s.heap.objs.size + 1) :: us, kw⟩ (ps.zip all)) (stand : Vals vals all)
    (told : sp vals (upd (upd H s.heap.objs.size (.own (s.heap.objs.size + 1))) (s.heap.objs.size + 1) (.ins C s.heap.objs.size [])) (fun v H2 => v = .non ∧ Q (.ref (s.heap.objs.size + 1)) H2) EX) :
    wpAny (model X.prog X.w) X.A (call (.ref C) us kw) (EP X pins σ Q) X.xe s := by
  have made := L2.Inv.made (C := C) inv
  apply wpAny_call
  apply make_map inv.kIn mk.makes mk.init (beq_iff_eq.mp mk.fn)
  refine codeAny_mono (F.run _ X.stack _ _ _ all vals _ EX (room.make C us kw) (made.env0.make C us kw) (bound _ made.kIn) stand told) fun r t c => ?_
  have e := ends_of pass made r t c
  rcases r with er | fl
  · exact e
  · cases fl <;> first
      | exact e.elim
      | (obtain ⟨_, H3, inv3, rel, isNone, q⟩ := e
         subst isNone
         exact ⟨rel, .ref (s.heap.objs.size + 1), H3, inv3, rfl, q⟩)
/-- the two names that a making takes are new -/
theorem fresh_two {pins : List (Addr × Obj)} {σ : L2.St} {H : Hp} {s : Shared} (inv : L2.Inv X pins σ H s) {p : Addr → Addr → Prop} (h : ∀ x dx, H x = none → H dx = none → dx ≠ x → p x dx) : p (s.heap.objs.size + 1) s.heap.objs.size :=
  h _ _ (inv.hok.fresh (Nat.le_add_right _ 1)) (inv.hok.fresh (Nat.le_refl _)) (Nat.succ_ne_self _).symm
/-- .. by position, what is raised wished for at the slots -/
theorem run_makeS {pins : List (Addr × Obj)} {σ : L2.St} {H : Hp} {s : Shared} {Q : VK} {us : List Value} {vs : List V} {f : Addr} {fd : FuncData} {ps : List Str} {dvl : List Value} {dvs : List V} {sp : Sp} {CX : CXT} {kk : Nat} {EE : L2.St → XK} (Mm : Mk X.K C f) (F : FnOk X.prog X.w X.K X.mg X.base CX kk f fd ps sp) (hr : Room (kk + 1) X.A) (hb : Binds X.K fd ps dvl) (hd : Vals dvs dvl)
    (hx : PassesAt CX X σ (EE σ)) (I : L2.Inv X pins σ H s) (r : Vals vs us) (h : ∀ x dx, H x = none → H dx = none → dx ≠ x → sp (.ref x :: (vs ++ dvs)) (upd (upd H dx (.own x)) x (.ins C dx [])) (fun v H2 => v = .non ∧ Q (.ref x) H2) (EE σ)) :
    wpAny (model X.prog X.w) X.A (call (.ref C) us) (EP X pins σ Q) X.xe s := by
  have told := fresh_two I h
  have stand : Vals (V.ref (s.heap.objs.size + 1) :: (vs ++ dvs)) (Value.ref (s.heap.objs.size + 1) :: (us ++ dvl)) := .cons rfl (r.append hd)
  have few := stand.length.symm.trans (F.len _ _ _ _ told)
  exact maker Mm F hr hx I (fun t kin => hb t (.ref (s.heap.objs.size + 1) :: us) kin few) stand told
theorem mk_of {S : Sg} {ds : List D} {vs dvs : List V} {ks : List Nat} {Q : VK} {W : WX} {σ : L2.St} (hM : OkM X.K S M) (rv : RepL X.K S ds vs) (hrd : ∀ S, RepL X.K S dds dvs) (hQ : KV X.K S k Q) (hW : KW X.K S kx W σ)
    (h : ∀ x, CallOk R (ks ++ [M.length]) (.hdl x :: (ds ++ dds)) (M ++ [(x, .ins C [] [])]) (fun d M2 => d = .non ∧ k (.hdl x) M2) kx) {x dx : Addr} (hx : S.H x = none) (hdx : S.H dx = none) (ne : dx ≠ x) :
    spD X.K R (.ref x :: (vs ++ dvs)) (upd (upd S.H dx (.own x)) x (.ins C dx [])) (fun v H2 => v = .non ∧ Q (.ref x) H2) (L2.WE W σ) := by
  obtain ⟨a, g⟩ := new_ins (C := C) hM hx hdx ne
  refine sp_of (S' := ⟨S.as ++ [x], S.Z, upd (upd S.H dx (.own x)) x (.ins C dx [])⟩) a (RepL.cons (d := .hdl x) rfl ((rv.app (hrd S)).grow g)) (h x) (fun d M' S' v ⟨e, hk⟩ hM' g' r => ?_) (hW.grow g)
  subst e
  exact ⟨r, hQ (.hdl x) M' S' (.ref x) hk hM' (g.trans g') rfl⟩
/-- C(..): behind it the object stands last of what may change -/
theorem ge_make (F : MkD X.prog X.w X.K X.mg X.base j C nm dds R) (hr : Room l X.A) (hl : j + 1 ≤ l) (h : GA X Γ M (e :: es) (fun ds M1 => ∃ ks, ∀ x, CallOk R (ks ++ [M1.length]) (.hdl x :: (ds ++ dds)) (M1 ++ [(x, .ins C [] [])]) (fun d M2 => d = .non ∧ k (.hdl x) M2) kx) kx) (hg : Gl X nm := by rfl) (hdb : (nm == ("__debug__" : Str)) = false := by decide)
    (he : starEach (e :: es) X.env = (false, eval e X.env) :: starEach es X.env := by rfl) (hpl : (backTo pos (starEach es X.env)).any (·.1) = false := by rfl) : GE X Γ M (.Call (.Name nm p) (e :: es) [] pos) k kx := fun S σ hM hE W tk hW Q hQ pins s I => by
  obtain ⟨f, fd, ps, dvl, dvs, Mm, hb, hd, hrd, F'⟩ := F.ex
  refine wpAny_Call_Name_kw (ld_glob I hg F.gC ?_ hdb)
  refine PySem.W.callWith_K (h₀ := X.base) I.ok.mod.kin Mm.kp (thn (h S σ hM hE W tk hW (fun vs H1 => ∀ x dx, H1 x = none → H1 dx = none → dx ≠ x → spD X.K R (.ref x :: (vs ++ dvs)) (upd (upd H1 dx (.own x)) x (.ins C dx [])) (fun v H2 => v = .non ∧ Q (.ref x) H2) (L2.WE W σ))
    (fun ds M1 S1 vs ⟨ks, h1⟩ hM1 g1 r1 x dx hx hdx ne => mk_of hM1 r1 hrd (hQ.grow g1) (hW.grow g1) h1 hx hdx ne) pos pins s I) fun us s1 ⟨vs, H1, I1, r, q⟩ => ⟨I1.kIn, ?_⟩) he hpl
  exact run_makeS (EE := L2.WE W) Mm F' (hr.mono hl) hb hd (passAt tk σ) I1 r q
theorem ge_make0 (F : MkD X.prog X.w X.K X.mg X.base j C nm dds R) (hr : Room l X.A) (hl : j + 1 ≤ l) (h : ∃ ks, ∀ x, CallOk R (ks ++ [M.length]) (.hdl x :: dds) (M ++ [(x, .ins C [] [])]) (fun d M2 => d = .non ∧ k (.hdl x) M2) kx) (hg : Gl X nm := by rfl) (hdb : (nm == ("__debug__" : Str)) = false := by decide) : GE X Γ M (.Call (.Name nm p) [] [] pos) k kx := fun S σ hM hE W tk hW Q hQ pins s I => by
  obtain ⟨f, fd, ps, dvl, dvs, Mm, hb, hd, hrd, F'⟩ := F.ex
  obtain ⟨ks, h⟩ := h
  refine wpAny_Call_Name_kw (ld_glob I hg F.gC ?_ hdb)
  exact PySem.W.callWith_K0 I.kIn Mm.kp (run_makeS (us := []) (vs := []) (EE := L2.WE W) Mm F' (hr.mono hl) hb hd (passAt tk σ) I .nil fun x dx hx hdx ne => mk_of (ds := []) hM RepL.nil hrd hQ hW h hx hdx ne)
/-- an object is not changed any more -/
theorem ge_frzI (h : GE X Γ M e (fun d M1 => ∃ (j : Nat) (a C : Addr) (fs : List Str) (ds : List D), d = .hdl a ∧ M1[j]? = some (a, MO.ins C fs ds) ∧ k (.ins C fs ds) (M1.eraseIdx j)) kx) : GE X Γ M e k kx := fun S σ hM hE W tk hW Q hQ =>
  h S σ hM hE W tk hW Q fun d M1 S1 v ⟨j, a, C, fs, ds, e, hj, hk⟩ hM1 g1 r => by
    subst e
    cases r
    obtain ⟨hz, dx, xs, hh, hf, hr⟩ := hM1.at hj
    obtain ⟨hM2, g2⟩ := frz_m hM1 hj hz hh
    have hs : (M1.eraseIdx j).Sublist (M1.set j (a, .gone)) := by
      rw [← List.eraseIdx_set_eq (l := M1) (i := j) (a := (a, MO.gone))]
      exact List.eraseIdx_sublist _ _
    obtain ⟨hM3, g3⟩ := drop_m hM2 hs
    exact hQ (.ins C fs ds) _ ⟨(M1.eraseIdx j).map (·.1), upd S1.Z a (.ins C dx xs), S1.H⟩ (.ref a) hk hM3 (g1.trans (g3 S1 g2)) ⟨a, dx, xs, rfl, upd_same, hf, (sg_mono (S := S1) (S' := ⟨(M1.eraseIdx j).map (·.1), upd S1.Z a (.ins C dx xs), S1.H⟩) (ex_new hz)).2 _ _ hr⟩
end
end PD

set_option Elab.async false
set_option linter.all false
set_option maxRecDepth 100000
set_option maxHeartbeats 4000000
/-! PD: classes as values, isinstance, in, exceptions raised. -/
namespace PD
open PySem L2
open Evl (Ex ex_rd ex_l ex_t)
theorem b_abs : bootBuiltins "abs" = some (.builtin "abs") := by decide +kernel
theorem b_all : bootBuiltins "all" = some (.builtin "all") := by decide +kernel
theorem b_any : bootBuiltins "any" = some (.builtin "any") := by decide +kernel
theorem b_sum : bootBuiltins "sum" = some (.builtin "sum") := by decide +kernel
theorem b_str : bootBuiltins "str" = some (.type "str") := by decide +kernel
theorem b_tuple : bootBuiltins "tuple" = some (.type "tuple") := by decide +kernel
theorem b_list : bootBuiltins "list" = some (.type "list") := by decide +kernel
theorem b_int : bootBuiltins "int" = some (.type "int") := by decide +kernel
theorem b_bool : bootBuiltins "bool" = some (.type "bool") := by decide +kernel
def isStrD : D → Bool | .str _ => true | _ => false
def isTupD : D → Bool | .tup _ => true | _ => false
def isLstD : D → Bool | .lst _ => true | .seq _ => true | _ => false
def isIntD : D → Bool | .int _ => true | .bl _ => true | _ => false
def isBlD : D → Bool | .bl _ => true | _ => false
def isS (s : Str) : D → Bool | .str t => decide (t = s) | _ => false
/-- its type is known -/
def kn (d : D) : Bool := (tyN d).isSome
section
variable {X : Cx} {Γ : En} {M : Ms} {e a b c o i : Expr} {es : List Expr} {k : KD} {kx : KX} {E : ED} {d x y z : D} {pos pos' apos p : Pos} {nm m : Str} {j l : Nat} {C : Addr} {T : String}
theorem ge_ty (hm : X.mg nm = none) (hv : bootBuiltins nm = some (.type T)) (hk : k (.raw (.ty T)) M) (hg : Gl X nm := by rfl) (hn : nm ≠ "__name__" := by decide) (hd : (nm == ("__debug__" : Str)) = false := by decide) : GE X Γ M (.Name nm pos) k kx := fun S σ hM hE W tk hW Q hQ =>
  of_pe (pe_bltn (v := .ty T) hg hm hv rfl hn hd) (hQ (.raw (.ty T)) M S _ hk hM (Grow.refl _) rfl)
theorem ev_ty (hm : X.mg nm = none) (hv : bootBuiltins nm = some (.type T)) (hg : Gl X nm := by rfl) (hn : nm ≠ "__name__" := by decide) (hd : (nm == ("__debug__" : Str)) = false := by decide) : EV X Γ M (.Name nm pos) (.raw (.ty T)) := ge_ty hm hv ⟨rfl, rfl⟩ hg hn hd
theorem ge_cls (hm : X.mg nm = some (.ref C)) (hk : k (.raw (.ref C)) M) (hg : Gl X nm := by rfl) (hd : (nm == ("__debug__" : Str)) = false := by decide) : GE X Γ M (.Name nm pos) k kx := fun S σ hM hE W tk hW Q hQ =>
  of_pe (pe_glob (v := .ref C) hg hm rfl hd) (hQ (.raw (.ref C)) M S _ hk hM (Grow.refl _) rfl)
theorem ev_cls (hm : X.mg nm = some (.ref C)) (hg : Gl X nm := by rfl) (hd : (nm == ("__debug__" : Str)) = false := by decide) : EV X Γ M (.Name nm pos) (.raw (.ref C)) := ge_cls hm ⟨rfl, rfl⟩ hg hd
end
section
variable {K : PySem.W.Frag} {M : Ms} {k : KD} {s : Str} {ds : List D} {d x y : D}
theorem tyN_mem {t : String} (h : tyN d = some t) : t ∈ ["NoneType", "bool", "int", "str", "tuple", "list", "dict"] := by
  cases d <;> simp [tyN] at h <;> subst h <;> decide
theorem isi_of {c : String} (g : String → Bool) (hg : ∀ t ∈ ["NoneType", "bool", "int", "str", "tuple", "list", "dict"], kitB t c = some (g t)) (h : kn d = true) {b : Bool} (hb : ∀ t, tyN d = some t → b = g t) (hk : k (.bl b) M) : CallD K (rIsi K) [d, .raw (.ty c)] M k := by
  cases e : tyN d with
  | none => simp [kn, e] at h
  | some t => exact isi_ty e (by rw [hb t e]; exact hg t (tyN_mem e)) hk
theorem isi_str (h : kn d = true) (hk : k (.bl (isStrD d)) M) : CallD K (rIsi K) [d, .raw (.ty "str")] M k := isi_of (fun t => t == "str") (by decide +kernel) h (fun t e => by cases d <;> simp [tyN] at e <;> subst e <;> rfl) hk
theorem isi_tup (h : kn d = true) (hk : k (.bl (isTupD d)) M) : CallD K (rIsi K) [d, .raw (.ty "tuple")] M k := isi_of (fun t => t == "tuple") (by decide +kernel) h (fun t e => by cases d <;> simp [tyN] at e <;> subst e <;> rfl) hk
theorem isi_lst (h : kn d = true) (hk : k (.bl (isLstD d)) M) : CallD K (rIsi K) [d, .raw (.ty "list")] M k := isi_of (fun t => t == "list") (by decide +kernel) h (fun t e => by cases d <;> simp [tyN] at e <;> subst e <;> rfl) hk
theorem isi_bool (h : kn d = true) (hk : k (.bl (isBlD d)) M) : CallD K (rIsi K) [d, .raw (.ty "bool")] M k := isi_of (fun t => t == "bool") (by decide +kernel) h (fun t e => by cases d <;> simp [tyN] at e <;> subst e <;> rfl) hk
theorem isi_int (h : kn d = true) (hk : k (.bl (isIntD d)) M) : CallD K (rIsi K) [d, .raw (.ty "int")] M k := isi_of (fun t => t == "int" || t == "bool") (by decide +kernel) h (fun t e => by cases d <;> simp [tyN] at e <;> subst e <;> rfl) hk
def strsD (ds : List D) : Bool := ds.all isStrD
theorem strs_flat {S : Sg} : ∀ {ds : List D} {xs : List V}, strsD ds = true → RepL K S ds xs → xs.all flatV = true ∧ ∀ s, inV (.str s) xs = ds.any (isS s)
  | [], xs, _, r => by have e : xs = [] := r; subst e; exact ⟨rfl, fun _ => rfl⟩
  | d :: ds, xs, h, r => by
    obtain ⟨x, q, rfl, r1, r2⟩ := r
    simp only [strsD, List.all_cons, Bool.and_eq_true] at h
    obtain ⟨a, b⟩ := strs_flat (ds := ds) h.2 r2
    cases d <;> first | (simp [isStrD] at h; done) | skip
    case str t =>
      cases r1
      refine ⟨by simp [flatV, a], fun s => ?_⟩
      have := b s
      unfold inV at this ⊢
      simp only [List.any_cons, this, isS]
      congr 1
theorem in_strs (h : strsD ds = true) (hk : k (.bl (ds.any (isS s))) M) : Bin K (rInU K) (.str s) (.tup ds) M k := bin_flat (v := .bl (ds.any (isS s))) (fun S vx vy hM rx ry Q q => by
  cases rx
  obtain ⟨a, xs, rfl, e, r⟩ := ry
  obtain ⟨h1, h2⟩ := strs_flat h r
  exact .inl ⟨a, xs, rfl, .inr (ex_t hM.zh e), rfl, h1, by rw [h2 s]; exact q⟩) hk
theorem in_strsL (h : strsD ds = true) (hk : k (.bl (ds.any (isS s))) M) : Bin K (rInU K) (.str s) (.lst ds) M k := bin_flat (v := .bl (ds.any (isS s))) (fun S vx vy hM rx ry Q q => by
  cases rx
  obtain ⟨a, xs, rfl, e, r⟩ := ry
  obtain ⟨h1, h2⟩ := strs_flat h r
  exact .inl ⟨a, xs, rfl, .inl (SqL.of (hM.zh _ _ e)), rfl, h1, by rw [h2 s]; exact q⟩) hk
theorem ni_strs (h : strsD ds = true) (hk : k (.bl (!ds.any (isS s))) M) : Bin K (rNotInU K) (.str s) (.tup ds) M k := bin_flat (v := .bl (!ds.any (isS s))) (fun S vx vy hM rx ry Q q => by
  cases rx
  obtain ⟨a, xs, rfl, e, r⟩ := ry
  obtain ⟨h1, h2⟩ := strs_flat h r
  exact .inl ⟨a, xs, rfl, .inr (ex_t hM.zh e), rfl, h1, by rw [h2 s]; exact q⟩) hk
theorem ni_strsL (h : strsD ds = true) (hk : k (.bl (!ds.any (isS s))) M) : Bin K (rNotInU K) (.str s) (.lst ds) M k := bin_flat (v := .bl (!ds.any (isS s))) (fun S vx vy hM rx ry Q q => by
  cases rx
  obtain ⟨a, xs, rfl, e, r⟩ := ry
  obtain ⟨h1, h2⟩ := strs_flat h r
  exact .inl ⟨a, xs, rfl, .inl (SqL.of (hM.zh _ _ e)), rfl, h1, by rw [h2 s]; exact q⟩) hk
theorem ni_strsH {p : Nat} {q : Addr} (hm : M[p]? = some (q, .lst ds)) (h : strsD ds = true) (hk : k (.bl (!ds.any (isS s))) M) : Bin K (rNotInU K) (.str s) (.hdl q) M k := bin_flat (v := .bl (!ds.any (isS s))) (fun S vx vy hM rx ry Q q => by
  cases rx; cases ry
  obtain ⟨_, xs, e, r⟩ := hM.at hm
  obtain ⟨h1, h2⟩ := strs_flat h r
  exact .inl ⟨_, xs, rfl, .inl (SqL.of e), rfl, h1, by rw [h2 s]; exact q⟩) hk
theorem in_strsH {p : Nat} {q : Addr} (hm : M[p]? = some (q, .lst ds)) (h : strsD ds = true) (hk : k (.bl (ds.any (isS s))) M) : Bin K (rInU K) (.str s) (.hdl q) M k := bin_flat (v := .bl (ds.any (isS s))) (fun S vx vy hM rx ry Q q => by
  cases rx; cases ry
  obtain ⟨_, xs, e, r⟩ := hM.at hm
  obtain ⟨h1, h2⟩ := strs_flat h r
  exact .inl ⟨_, xs, rfl, .inl (SqL.of e), rfl, h1, by rw [h2 s]; exact q⟩) hk
end

/-! ### slices -/
section
variable {K : PySem.W.Frag} {M : Ms}
def cutD (ds : List D) (lo hi : Option Int) : List D := (ds.drop (HT.sIx ds.length 0 lo)).take (HT.sIx ds.length ds.length hi - HT.sIx ds.length 0 lo)
theorem RepL.cut {S : Sg} {ds : List D} {xs : List V} (lo hi : Option Int) (r : RepL K S ds xs) : RepL K S (cutD ds lo hi) (cutV xs lo hi) := by
  unfold cutD cutV
  rw [r.len]
  exact (r.drop _).take _
end

/-! ### exceptions -/
/-- an exception class with an __init__ that stores its one argument under f -/
structure ExD (P : Program) (w : World) (K : PySem.W.Frag) (mg : Str → Option Value) (base : Heap) (x : Str) (C : Addr) (f : Str) : Prop where
  gC : mg x = some (.ref C)
  T : OexC K C
  no : PySem.W.findIn K (.ref C) f = some none
  ex : ∃ fI fd, PySem.W.findIn K (.ref C) "__init__" = some (some (.ref fI)) ∧ PySem.W.typeIn K (.ref fI) = some (.type "function") ∧ Binds K fd ["self", f] [] ∧
    FnOk P w K mg base (L2.CX P w) 1 fI fd ["self", f] (fun vs H Q _ => ∃ (a : Addr) (y : V), vs = [.ref a, y] ∧ H a = some (exo a C none) ∧ ∀ dx, H dx = none → dx ≠ a → Q .non (upd (upd H dx (exd dx [(f, y)])) a (exo a C (some dx))))
/-- self.f = f, as the __init__ of such a class -/
theorem ex_init {P : Program} {w : World} {K : PySem.W.Frag} {mg : Str → Option Value} {base : Heap} {C fI : Addr} {fd : FuncData} {f qual : Str} {st : Stmt} {p1 p2 p3 p4 : Pos} (F : Fun K "__init__" qual st fI fd) (sc : FnScope ["self", f] ["self", f] (defScope st)) (T : OexC K C) (no : PySem.W.findIn K (.ref C) f = some none)
    (hbd : defBody st = [.Assign [.Attribute (.Name "self" p1) f p2] (.Name f p3) p4]) (h0 : (defScope st).names.lookup ("self" : Str) = some .local) (h1 : (defScope st).names.lookup f = some .local) (hd1 : (f == ("__debug__" : Str)) = false) (hd2 : (f == ("__classdict__" : Str)) = false)
    (hs : ∀ X : Cx, swapsWith (.Name f p3) (some (.Attribute (.Name "self" p1) f p2)) p4.line X.env = pure false) :
    FnOk P w K mg base (L2.CX P w) 1 fI fd ["self", f] (fun vs H Q _ => ∃ (a : Addr) (y : V), vs = [.ref a, y] ∧ H a = some (exo a C none) ∧ ∀ dx, H dx = none → dx ≠ a → Q .non (upd (upd H dx (exd dx [(f, y)])) a (exo a C (some dx)))) := by
  refine F.okX sc (fun vs H Q E h => ?_) (fun cdv A outer s H vs Q E hr h => ?_)
  · obtain ⟨a, y, rfl, _⟩ := h
    rfl
  · obtain ⟨a, y, rfl, ha, k⟩ := h
    rw [hbd]
    refine ⟨_, pss_one (ps_ost (pe_var (i := 0) rfl (.inl h0)) (pe_var (i := 1) rfl (.inl h1) hd1 hd2) (hs _)), ?_⟩
    exact ⟨y, rfl, .ref a, rfl, a, C, rfl, T, no, .inl ⟨ha, fun dx n ne => k dx n ne⟩⟩
section
variable {X : Cx} {Γ : En} {M : Ms} {e : Expr} {E : ED} {pos pos' p p2 : Pos} {nm f : Str} {l : Nat} {C : Addr}
/-- raise C(e), C with one field -/
theorem gs_raise1 (F : ExD X.prog X.w X.K X.mg X.base nm C f) (hc : X.calm = true) (hr : Room l X.A) (hl : 2 ≤ l) (h : GE X Γ M e (fun d M1 => E.ex (.ref C) [(f, d)] Γ M1) (fun c f M1 => E.ex c f Γ M1)) (hg : Gl X nm := by rfl) (hdb : (nm == ("__debug__" : Str)) = false := by decide)
    (he : starEach [e] X.env = (false, eval e X.env) :: starEach [] X.env := by rfl) (hpl : (backTo pos (starEach [] X.env)).any (·.1) = false := by rfl) : GS X Γ M (.Raise (some (.Call (.Name nm p) [e] [] pos)) none pos') E := fun S σ hM hE W tk De L => by
  obtain ⟨fI, fd, iC, tI, hb, F1⟩ := F.ex
  refine of_ps (ps_raise hc tk (pmk_oex (ds := []) (dvs := []) F.T iC tI F1 (hr.mono hl) hb .nil passL hg F.gC (pa_cons we pa_nil he) hdb he hpl)) ?_
  refine h S σ hM hE W tk (L.kw hE) _ fun d M1 S1 v hk hM1 g1 r1 => ?_
  refine ⟨by show 1 ≤ 1000; decide, fun a ha => ⟨a, v, rfl, upd_same, fun dx hdx ne => ?_⟩⟩
  have hdx1 : S1.H dx = none := by rw [upd_ne ne] at hdx; exact hdx
  refine ⟨rfl, dx, [(f, v)], upd_same, ?_, hdx1, ?_⟩
  · rw [upd_ne ne, upd_same]
  · have hz : S1.Z dx = none := hM1.zh.none hdx1
    have hna : dx ∉ S1.as := fun m => hM1.dom dx m hdx1
    obtain ⟨a1, a2, a3, _⟩ := upd_f (o := .xd [(f, v)]) hM1 hz hna
    have eH : upd (del (upd (upd (upd S1.H a (exo a C none)) dx (exd dx [(f, v)])) a (exo a C (some dx))) a) dx (.xd [(f, v)]) = upd S1.H dx (.xd [(f, v)]) := by
      funext b
      by_cases q : b = dx
      · rw [q, upd_same, upd_same]
      · rw [upd_ne q, upd_ne q]
        by_cases q2 : b = a
        · rw [q2, del_same]; exact ha.symm
        · rw [del_ne q2, upd_ne q2, upd_ne q, upd_ne q2]
    rw [eH]
    have g2 := a2 S1 (Grow.refl _) hdx1
    exact L.ex (.ref C) [(f, d)] Γ M1 ⟨S1.as, S1.Z, upd S1.H dx (.xd [(f, v)])⟩ σ (some dx) hk a1 (g1.trans g2) (hE.grow (g1.trans g2)) ⟨[(f, v)], upd_same, rfl, .one (a3 _ _ r1)⟩
/-- an exception class without an __init__ of its own -/
structure ExP (K : PySem.W.Frag) (mg : Str → Option Value) (x : Str) (C : Addr) : Prop where
  gC : mg x = some (.ref C)
  xC : PySem.W.excIn K C [.type "ValueError", .type "Exception", .type "BaseException", .type "object"] "ValueError.__new__" = true
  kC : PySem.W.keepIn K (.ref C) = true
  sC : PySem.W.subIn K (.ref C) (.type "BaseException") = some true
  tC : PySem.W.typeIn K (.ref C) = some (.type "type")
theorem gs_raise0 {m : Str} {j : Nat} (F : ExP X.K X.mg nm C) (hc : X.calm = true) (h : E.ex (.ref C) [] Γ M) (hg : Gl X nm := by rfl) (hdb : (nm == ("__debug__" : Str)) = false := by decide) : GS X Γ M (.Raise (some (.Call (.Name nm p) [.Constant (.str m) j p2] [] pos)) none pos') E := fun S σ hM hE W tk De L =>
  of_ps (ps_raise hc tk (pmk_own PySem.F.excBase_ValueError F.xC F.gC F.kC (raises_own F.sC F.tC) hg hdb)) (L.ex (.ref C) [] Γ M S σ none h hM (Grow.refl _) hE rfl)
end
end PD

set_option Elab.async false
set_option linter.all false
set_option maxRecDepth 100000
set_option maxHeartbeats 4000000
/-! PD: more leaves. -/
namespace PD
open PySem L2
open Evl (Ex ex_rd ex_l ex_t)
section
variable {K : PySem.W.Frag} {M : Ms} {k : KD} {i : Int} {s : Str} {ds : List D} {d x y : D}
theorem ix_lstAny (h0 : 0 ≤ i) (h1 : i < ds.length) (hk : ∀ d, d ∈ ds → ds[i.toNat]? = some d → k d M) : Bin K (rIx K) (.lst ds) (.int i) M k := by
  have hl : i.toNat < ds.length := by omega
  exact ix_lst' (j := i.toNat) (d := ds[i.toNat]) (.inl ⟨h0, by omega, hl⟩) (by simp [hl]) (hk _ (List.getElem_mem hl) (by simp [hl]))
theorem ix_tupAny (h0 : 0 ≤ i) (h1 : i < ds.length) (hk : ∀ d, d ∈ ds → ds[i.toNat]? = some d → k d M) : Bin K (rIx K) (.tup ds) (.int i) M k := by
  have hl : i.toNat < ds.length := by omega
  exact ix_tup' (j := i.toNat) (d := ds[i.toNat]) (.inl ⟨h0, by omega, hl⟩) (by simp [hl]) (hk _ (List.getElem_mem hl) (by simp [hl]))
theorem ix_seqAny (h0 : 0 ≤ i) (h1 : i < ds.length) (hk : ∀ d, d ∈ ds → ds[i.toNat]? = some d → k d M) : Bin K (rIx K) (.seq ds) (.int i) M k := by
  have hl : i.toNat < ds.length := by omega
  exact ix_seq' (j := i.toNat) (d := ds[i.toNat]) (.inl ⟨h0, by omega, hl⟩) (by simp [hl]) (hk _ (List.getElem_mem hl) (by simp [hl]))
theorem ix_hdlAny {p : Nat} {q : Addr} (hm : M[p]? = some (q, .lst ds)) (h0 : 0 ≤ i) (h1 : i < ds.length) (hk : ∀ d, d ∈ ds → ds[i.toNat]? = some d → k d M) : Bin K (rIx K) (.hdl q) (.int i) M k := by
  have hl : i.toNat < ds.length := by omega
  exact ix_hdl hm (j := i.toNat) (d := ds[i.toNat]) (.inl ⟨h0, by omega, hl⟩) (by simp [hl]) (hk _ (List.getElem_mem hl) (by simp [hl]))
theorem nb300 (i : Int) (h0 : 0 ≤ i) (h1 : i < 1000000000000000000000000000000000000000000000000000000000000000000000000) : i.natAbs < 2 ^ 250 := by
  have : (1000000000000000000000000000000000000000000000000000000000000000000000000 : Int) < 2 ^ 250 := by decide
  have e : ((2 ^ 250 : Nat) : Int) = 2 ^ 250 := by decide
  omega
theorem powx {i : Int} {j b : Nat} (hi : i.natAbs < 2 ^ b) (hb : b * j ≤ 134217728) (h0 : 0 < b) : CPowX i (j : Int) := by
  refine ⟨by omega, ?_⟩
  have h := PySem.Flt.log2_lt_of h0 hi
  have e : (2 : Int) ^ 27 = 134217728 := by decide
  have q : Builtin.Int.intBits i ≤ b := by
    unfold Builtin.Int.intBits
    split <;> omega
  have q2 : Builtin.Int.intBits i * j ≤ b * j := Nat.mul_le_mul_right j q
  rw [e]
  have q3 : ((Builtin.Int.intBits i * j : Nat) : Int) ≤ 134217728 := by omega
  rw [Int.natCast_mul] at q3
  exact q3
theorem mulx {i j : Int} (h0 : 0 ≤ i) (h1 : i < 1000000000000000000000000000000000000000000000000000000000000000000000000) (h2 : 0 ≤ j) (h3 : j < 1000000000000000000000000000000000000000000000000000000000000000000000000) : CMulX i j := mulx_ok (nb300 i h0 h1) (nb300 j h2 h3) (by decide)
theorem divx {i j : Int} (h0 : 0 < j) (h1 : j < 1000000000000000000000000000000000000000000000000000000000000000000000000) : CDivW i j := wide_div (b := 250) h0 (nb300 j (by omega) h1) (by decide) (by decide)
theorem pow4 {i : Int} {n : Nat} (h0 : 0 ≤ i) (h1 : i < 1000000000000000000000000000000000000000000000000000000000000000000000000) (hn : n ≤ 100) : CPowX i (n : Int) := powx (nb300 i h0 h1) (by omega) (by decide)
theorem units65 {l : Nat} {A : Around} (hr : Room l A) : A.units + 65 < cLine := by have := hr.un; omega
end
end PD

set_option Elab.async false
set_option linter.all false
set_option maxRecDepth 100000
set_option maxHeartbeats 4000000
/-! PD: calls with keywords, slices, lists that may change compared. -/
namespace PD
open PySem L2
open Evl (Ex ex_rd ex_l ex_t)
/-- the items chosen of three lists: (0, i) of the first, (1, i) of the second, else of the third -/
def selL {α : Type} (sel : List (Nat × Nat)) (us its ws : List α) : List α := sel.filterMap fun p => (match p.1 with | 0 => us | 1 => its | _ => ws)[p.2]?
theorem vals_at {vs : List V} {us : List Value} (h : Vals vs us) (i : Nat) : (∃ v u, vs[i]? = some v ∧ us[i]? = some u ∧ RelV v u) ∨ (vs[i]? = none ∧ us[i]? = none) := by
  induction h generalizing i with
  | nil => exact .inr ⟨by simp, by simp⟩
  | cons r _ ih =>
    cases i with
    | zero => exact .inl ⟨_, _, rfl, rfl, r⟩
    | succ i => simpa using ih i
theorem vals_sel {vs ds zs : List V} {us its ws : List Value} (h1 : Vals vs us) (h2 : Vals ds its) (h3 : Vals zs ws) : ∀ sel, Vals (selL sel vs ds zs) (selL sel us its ws)
  | [] => .nil
  | (s, i) :: sel => by
    have ih := vals_sel h1 h2 h3 sel
    unfold selL at ih ⊢
    have key : ∀ {a : List V} {b : List Value}, Vals a b → Vals (a[i]?.toList ++ sel.filterMap fun p => (match p.1 with | 0 => vs | 1 => ds | _ => zs)[p.2]?) (b[i]?.toList ++ sel.filterMap fun p => (match p.1 with | 0 => us | 1 => its | _ => ws)[p.2]?) := fun {a b} h => by
      rcases vals_at h i with ⟨v, u, e1, e2, r⟩ | ⟨e1, e2⟩
      · rw [e1, e2]; exact .cons r ih
      · rw [e1, e2]; exact ih
    have red : ∀ {α : Type} (f : Nat × Nat → Option α) (p : Nat × Nat) (l : List (Nat × Nat)), (p :: l).filterMap f = (f p).toList ++ l.filterMap f := fun f p l => by
      cases e : f p <;> simp [List.filterMap_cons, e]
    rw [red, red]
    match s with
    | 0 => exact key h1
    | 1 => exact key h2
    | (n + 2) => exact key h3
theorem repl_sel {K : PySem.W.Frag} {S : Sg} {vs ds zs : List V} {us its ws : List D} (h1 : RepL K S us vs) (h2 : RepL K S its ds) (h3 : RepL K S ws zs) : ∀ sel, RepL K S (selL sel us its ws) (selL sel vs ds zs)
  | [] => RepL.nil
  | (s, i) :: sel => by
    have ih := repl_sel h1 h2 h3 sel
    unfold selL at ih ⊢
    have key : ∀ {a : List V} {b : List D}, RepL K S b a → RepL K S (b[i]?.toList ++ sel.filterMap fun p => (match p.1 with | 0 => us | 1 => its | _ => ws)[p.2]?) (a[i]?.toList ++ sel.filterMap fun p => (match p.1 with | 0 => vs | 1 => ds | _ => zs)[p.2]?) := fun {a b} h => by
      cases e : b[i]? with
      | some d =>
        obtain ⟨x, e2, r⟩ := h.get e
        rw [e2]; exact .cons r ih
      | none =>
        cases e2 : a[i]? with
        | none => exact ih
        | some x =>
          obtain ⟨d, e3, _⟩ := h.get' e2
          rw [e] at e3; cases e3
    have red : ∀ {α : Type} (f : Nat × Nat → Option α) (p : Nat × Nat) (l : List (Nat × Nat)), (p :: l).filterMap f = (f p).toList ++ l.filterMap f := fun f p l => by
      cases e : f p <;> simp [List.filterMap_cons, e]
    rw [red, red]
    match s with
    | 0 => exact key h1
    | 1 => exact key h2
    | (n + 2) => exact key h3
/-- a call with n values and the keywords ks -/
structure KwB (K : PySem.W.Frag) (fd : FuncData) (ps : List Str) (n : Nat) (ks : List Str) (sel : List (Nat × Nat)) (dds : List D) : Prop where
  ex : ∃ g gV, KBn K fd ps n ks g gV ∧ ∀ S ds es vs zs, RepL K S ds vs → RepL K S es zs → RepL K S (selL sel ds dds es) (gV vs zs)
theorem FunD.kwB {K : PySem.W.Frag} {x qual : Str} {params : Arguments} {body : List Stmt} {scope : Scope} {dvs : List V} {kws : List (Str × V)} {f : Addr} {fd : FuncData} {ps : List Str} (F : FunD K x qual params body scope dvs kws f fd) (n : Nat) (ks : List Str) (sel : List (Nat × Nat)) {dds : List D} (hd : dvs ≠ []) (hr : ∀ S, RepL K S dds dvs)
    (h : ∀ (T : Addr) (kV doc pm : Value) (an : Option Addr) (cdv ct : Value) (us its ws : List Value), us.length = n → its.length = dvs.length → ws.length = ks.length →
      ∃ k, bindArgs (PySem.W.fnOf x qual params body scope (.ref T) kV doc pm an cdv ct) ⟨us, ks.zip ws⟩ = seqItems? (.ref T) >>= k ∧ k (some its.toArray) = pure (ps.zip (selL sel us its ws))) : KwB K fd ps n ks sel dds := by
  obtain ⟨its, hk⟩ := F.kbindsD n ks (fun us its ws => selL sel us its ws) hd (fun r1 r2 r3 => vals_sel r1 r2 r3 sel) h
  exact ⟨_, _, hk, fun S ds es vs zs r1 r2 => repl_sel r1 (hr S) r2 sel⟩
theorem Fun.kwB {K : PySem.W.Frag} {x qual : Str} {st : Stmt} {f : Addr} {fd : FuncData} {ps : List Str} (F : Fun K x qual st f fd) (n : Nat) (ks : List Str) (sel : List (Nat × Nat))
    (h : ∀ (kV doc pm : Value) (an : Option Addr) (cdv ct : Value) (us ws : List Value), us.length = n → ws.length = ks.length →
      bindArgs (PySem.W.fnOf x qual (defArgs st) (defBody st) (defScope st) .none kV doc pm an cdv ct) ⟨us, ks.zip ws⟩ = pure (ps.zip (selL sel us [] ws))) : KwB K fd ps n ks sel [] := by
  obtain ⟨oc, od, kV, doc, pm, an, cdv, ct, osl, rfl, lk, hcd⟩ := F.ex
  exact ⟨_, _, ⟨fun s us ws _ l1 l2 => .of_eq (h kV doc pm an cdv ct us ws l1 l2), fun r1 r2 => vals_sel r1 .nil r2 sel⟩, fun S ds es vs zs r1 r2 => repl_sel r1 RepL.nil r2 sel⟩
structure FnK (P : Program) (w : World) (K : PySem.W.Frag) (mg : Str → Option Value) (base : Heap) (j : Nat) (x : Str) (n : Nat) (ks : List Str) (sel : List (Nat × Nat)) (dds : List D) (R : RSp) : Prop where
  ex : ∃ f fd ps, mg x = some (.ref f) ∧ PySem.W.keepIn K (.ref f) = true ∧ KwB K fd ps n ks sel dds ∧ FnOk P w K mg base (L2.CX P w) j f fd ps (spD K R)
structure MtK (P : Program) (w : World) (K : PySem.W.Frag) (mg : Str → Option Value) (base : Heap) (j : Nat) (C : Addr) (m : Str) (n : Nat) (ks : List Str) (sel : List (Nat × Nat)) (dds : List D) (R : RSp) : Prop where
  cl : Cls K C
  ex : ∃ f fd ps, Meth K C m f ∧ KwB K fd ps n ks sel dds ∧ FnOk P w K mg base (L2.CX P w) j f fd ps (spD K R)
structure MkK (P : Program) (w : World) (K : PySem.W.Frag) (mg : Str → Option Value) (base : Heap) (j : Nat) (C : Addr) (x : Str) (n : Nat) (ks : List Str) (sel : List (Nat × Nat)) (dds : List D) (R : RSp) : Prop where
  cl : Cls K C
  gC : mg x = some (.ref C)
  ex : ∃ f fd ps, Mk K C f ∧ KwB K fd ps n ks sel dds ∧ FnOk P w K mg base (L2.CX P w) j f fd ps (spD K R)
/-! ### keywords' values -/
def WK (X : Cx) (kws : List Keyword) : TA := fun σ H Q => ∀ (pos : Pos) (pins : List (Addr × Obj)) (s : Shared), Inv X pins σ H s → wpAny (model X.prog X.w) X.A (evalAll ((backToKw pos (keywordEach kws X.env)).map (·.2))) (AP X pins σ Q) X.xe s
theorem wk {X : Cx} {kws : List Keyword} : PK X kws (WK X kws) := ⟨fun pos pins s _ _ _ I h => h pos pins s I⟩
def GK (X : Cx) (Γ : En) (M : Ms) (kws : List Keyword) (k : KDs) (kx : KX) : Prop := ∀ S σ, OkM X.K S M → EnvOk X.K S σ Γ → ∀ W, Takes X W → KW X.K S kx W σ → ∀ Q, KA X.K S k Q → WK X kws σ S.H Q
section
variable {X : Cx} {Γ : En} {M : Ms} {e o : Expr} {es : List Expr} {kws : List Keyword} {ks : List Str} {sel : List (Nat × Nat)} {k : KD} {kx : KX} {E : ED} {d x y z : D} {pos apos p kpos : Pos} {nm m : Str} {j l n : Nat} {C : Addr} {dds : List D} {R : RSp} {kn : Option Str}
theorem gk_nil {k : KDs} (hk : k [] M) : GK X Γ M [] k kx := fun S σ hM hE W tk hW Q hQ pos pins s I => pk_nil.run pos pins s σ S.H Q I (hQ [] M S [] hk hM (Grow.refl _) RepL.nil)
theorem gk_cons {k : KDs} (h : GE X Γ M e (fun d M1 => GK X Γ M1 kws (fun ds M2 => k (d :: ds) M2) kx) kx) : GK X Γ M (⟨kn, e, kpos⟩ :: kws) k kx := fun S σ hM hE W tk hW Q hQ pos pins s I =>
  (pk_cons (nm := kn) (kpos := kpos) (we (X := X) (e := e)) (wk (X := X) (kws := kws))).run pos pins s σ S.H Q I (h S σ hM hE W tk hW _ fun d M1 S1 v h1 hM1 g1 r1 => h1 S1 σ hM1 (hE.grow g1) W tk (hW.grow g1) _ fun ds M2 S2 vs h2 hM2 g2 r2 =>
    hQ (d :: ds) M2 S2 (v :: vs) h2 hM2 (g1.trans g2) (.cons (r1.grow g2) r2))
theorem gk_of_ga {k : KDs} (v : EV X Γ M e d) (h : GK X Γ M kws (fun ds M2 => k (d :: ds) M2) kx) : GK X Γ M (⟨kn, e, kpos⟩ :: kws) k kx := gk_cons (v.ge h)
theorem run_fnNS {pins : List (Addr × Obj)} {σ : L2.St} {H : Hp} {s : Shared} {Q : VK} {us ws : List Value} {vs zs : List V} {f : Addr} {fd : FuncData} {ps : List Str} {sp : Sp} {CX : CXT} {kk : Nat} {EE : L2.St → XK} {g : List Value → List Value → List Value} {gV : List V → List V → List V} (F : FnOk X.prog X.w X.K X.mg X.base CX kk f fd ps sp) (hr : Room kk X.A) (hb : KBn X.K fd ps n ks g gV) (hx : PassesAt CX X σ (EE σ))
    (I : L2.Inv X pins σ H s) (r : Vals vs us) (rz : Vals zs ws) (l1 : vs.length = n) (l2 : zs.length = ks.length) (h : sp (gV vs zs) H Q (EE σ)) : wpAny (model X.prog X.w) X.A (call (.ref f) us (ks.zip ws)) (EP X pins σ Q) X.xe s :=
  wpAny_call (codeAny_mono (F.run _ X.stack s H _ (g us ws) _ Q _ hr I.env0 (hb.to s us ws I.kIn (by rw [← l1, r.length]) (by rw [← l2, rz.length])) (hb.rel r rz) h) (ends_of hx I))
theorem run_makeNS {pins : List (Addr × Obj)} {σ : L2.St} {H : Hp} {s : Shared} {Q : VK} {us ws : List Value} {vs zs : List V} {f : Addr} {fd : FuncData} {ps : List Str} {sp : Sp} {CX : CXT} {kk : Nat} {EE : L2.St → XK} {g : List Value → List Value → List Value} {gV : List V → List V → List V} (Mm : Mk X.K C f) (F : FnOk X.prog X.w X.K X.mg X.base CX kk f fd ps sp) (hr : Room (kk + 1) X.A) (hb : KBn X.K fd ps (n + 1) ks g gV)
    (hx : PassesAt CX X σ (EE σ)) (I : L2.Inv X pins σ H s) (r : Vals vs us) (rz : Vals zs ws) (l1 : vs.length = n) (l2 : zs.length = ks.length) (h : ∀ x dx, H x = none → H dx = none → dx ≠ x → sp (gV (.ref x :: vs) zs) (upd (upd H dx (.own x)) x (.ins C dx [])) (fun v H2 => v = .non ∧ Q (.ref x) H2) (EE σ)) :
    wpAny (model X.prog X.w) X.A (call (.ref C) us (ks.zip ws)) (EP X pins σ Q) X.xe s :=
  have self : Vals (.ref (s.heap.objs.size + 1) :: vs) (.ref (s.heap.objs.size + 1) :: us) := .cons rfl r
  maker Mm F hr hx I (fun t kin => hb.to t _ ws kin (by rw [← self.length, List.length_cons, l1]) (by rw [← l2, rz.length])) (hb.rel self rz) (fresh_two I h)
/-- what both kinds of argument leave -/
def Got (R : RSp) (sel : List (Nat × Nat)) (dds : List D) (n m : Nat) (ds zs : List D) (M : Ms) (k : KD) (kx : KX) : Prop := ds.length = n ∧ zs.length = m ∧ ∃ ks, CallOk R ks (selL sel ds dds zs) M k kx
/-- f(e, .., k = v, ..) -/
theorem ge_callK (F : FnK X.prog X.w X.K X.mg X.base j nm n ks sel dds R) (hr : Room l X.A) (hl : j ≤ l) (h : GA X Γ M (e :: es) (fun ds M1 => GK X Γ M1 kws (fun zs M2 => Got R sel dds n ks.length ds zs M2 k kx) kx) kx) (hall : (backToKw pos (keywordEach kws X.env)).all (·.1.isSome) = true := by rfl) (hks : (backToKw pos (keywordEach kws X.env)).filterMap (·.1) = ks := by rfl) (hg : Gl X nm := by rfl)
    (hdb : (nm == ("__debug__" : Str)) = false := by decide) (he : starEach (e :: es) X.env = (false, eval e X.env) :: starEach es X.env := by rfl) (hpl : ((backTo pos (starEach (e :: es) X.env)).any (·.1) || (backToKw pos (keywordEach kws X.env)).any (·.1.isNone)) = false := by rfl) : GE X Γ M (.Call (.Name nm p) (e :: es) kws pos) k kx := fun S σ hM hE W tk hW Q hQ pins s I => by
  obtain ⟨f, fd, ps, hm, hk, ⟨g, gV, hb, hrep⟩, F⟩ := F.ex
  refine wpAny_Call_Name_kw (ld_glob I hg hm ?_ hdb)
  refine PySem.W.callWith_KW (h₀ := X.base) I.ok.mod.kin hk hall (thn (h S σ hM hE W tk hW (fun vs H1 => WK X kws σ H1 fun zs H2 => vs.length = n ∧ zs.length = ks.length ∧ spD X.K R (gV vs zs) H2 Q (L2.WE W σ)) (fun ds M1 S1 vs h1 hM1 g1 r1 =>
    h1 S1 σ hM1 (hE.grow g1) W tk (hW.grow g1) _ fun zs M2 S2 ws ⟨q1, q2, kk, q3⟩ hM2 g2 r2 => ⟨r1.len.trans q1, r2.len.trans q2, sp_of hM2 (hrep S2 _ _ _ _ (r1.grow g2) r2) q3 ((hQ.grow g1).grow g2) ((hW.grow g1).grow g2)⟩) pos pins s I) fun us s1 ⟨vs, H1, I1, r, q⟩ => ?_) hpl he
  refine thn (q pos pins s1 I1) fun ws s2 ⟨zs, H2, I2, rz, l1, l2, q2⟩ => ⟨I2.kIn, ?_⟩
  rw [hks]
  exact run_fnNS (EE := L2.WE W) F (hr.mono hl) hb (passAt tk σ) I2 r rz l1 l2 q2
/-- C(e, .., k = v, ..) -/
theorem ge_makeK (F : MkK X.prog X.w X.K X.mg X.base j C nm (n + 1) ks sel dds R) (hr : Room l X.A) (hl : j + 1 ≤ l) (h : GA X Γ M (e :: es) (fun ds M1 => GK X Γ M1 kws (fun zs M2 => ds.length = n ∧ zs.length = ks.length ∧ ∃ kk, ∀ x, CallOk R (kk ++ [M2.length]) (selL sel (.hdl x :: ds) dds zs) (M2 ++ [(x, .ins C [] [])]) (fun d M3 => d = .non ∧ k (.hdl x) M3) kx) kx) kx)
    (hall : (backToKw pos (keywordEach kws X.env)).all (·.1.isSome) = true := by rfl) (hks : (backToKw pos (keywordEach kws X.env)).filterMap (·.1) = ks := by rfl) (hg : Gl X nm := by rfl)
    (hdb : (nm == ("__debug__" : Str)) = false := by decide) (he : starEach (e :: es) X.env = (false, eval e X.env) :: starEach es X.env := by rfl) (hpl : ((backTo pos (starEach (e :: es) X.env)).any (·.1) || (backToKw pos (keywordEach kws X.env)).any (·.1.isNone)) = false := by rfl) : GE X Γ M (.Call (.Name nm p) (e :: es) kws pos) k kx := fun S σ hM hE W tk hW Q hQ pins s I => by
  obtain ⟨f, fd, ps, Mm, ⟨g, gV, hb, hrep⟩, F'⟩ := F.ex
  refine wpAny_Call_Name_kw (ld_glob I hg F.gC ?_ hdb)
  refine PySem.W.callWith_KW (h₀ := X.base) I.ok.mod.kin Mm.kp hall (thn (h S σ hM hE W tk hW (fun vs H1 => WK X kws σ H1 fun zs H2 => vs.length = n ∧ zs.length = ks.length ∧ ∀ x dx, H2 x = none → H2 dx = none → dx ≠ x → spD X.K R (gV (.ref x :: vs) zs) (upd (upd H2 dx (.own x)) x (.ins C dx [])) (fun v H3 => v = .non ∧ Q (.ref x) H3) (L2.WE W σ)) (fun ds M1 S1 vs h1 hM1 g1 r1 =>
    h1 S1 σ hM1 (hE.grow g1) W tk (hW.grow g1) _ fun zs M2 S2 ws ⟨q1, q2, kk, q3⟩ hM2 g2 r2 => ⟨r1.len.trans q1, r2.len.trans q2, fun x dx hx hdx ne => by
      obtain ⟨a, gg⟩ := new_ins (C := C) hM2 hx hdx ne
      refine sp_of (S' := ⟨S2.as ++ [x], S2.Z, upd (upd S2.H dx (.own x)) x (.ins C dx [])⟩) a (hrep _ _ _ _ _ (RepL.cons (d := .hdl x) rfl ((r1.grow g2).grow gg)) (r2.grow gg)) (q3 x) (fun d M' S' v ⟨e, hk⟩ hM' g' r => ?_) (((hW.grow g1).grow g2).grow gg)
      subst e
      exact ⟨r, hQ (.hdl x) M' S' (.ref x) hk hM' (((g1.trans g2).trans gg).trans g') rfl⟩⟩) pos pins s I) fun us s1 ⟨vs, H1, I1, r, q⟩ => ?_) hpl he
  refine thn (q pos pins s1 I1) fun ws s2 ⟨zs, H2, I2, rz, l1, l2, q2⟩ => ⟨I2.kIn, ?_⟩
  rw [hks]
  exact run_makeNS (EE := L2.WE W) Mm F' (hr.mono hl) hb (passAt tk σ) I2 r rz l1 l2 q2
/-- C(k = v, ..) -/
theorem ge_makeK0 (F : MkK X.prog X.w X.K X.mg X.base j C nm 1 ks sel dds R) (hr : Room l X.A) (hl : j + 1 ≤ l) (h : GK X Γ M kws (fun zs M2 => zs.length = ks.length ∧ ∃ kk, ∀ x, CallOk R (kk ++ [M2.length]) (selL sel [.hdl x] dds zs) (M2 ++ [(x, .ins C [] [])]) (fun d M3 => d = .non ∧ k (.hdl x) M3) kx) kx)
    (hall : (backToKw pos (keywordEach kws X.env)).all (·.1.isSome) = true := by rfl) (hks : (backToKw pos (keywordEach kws X.env)).filterMap (·.1) = ks := by rfl) (hg : Gl X nm := by rfl)
    (hdb : (nm == ("__debug__" : Str)) = false := by decide) (hpl : ((backTo pos (starEach [] X.env)).any (·.1) || (backToKw pos (keywordEach kws X.env)).any (·.1.isNone)) = false := by rfl) : GE X Γ M (.Call (.Name nm p) [] kws pos) k kx := fun S σ hM hE W tk hW Q hQ pins s I => by
  obtain ⟨f, fd, ps, Mm, ⟨g, gV, hb, hrep⟩, F'⟩ := F.ex
  refine wpAny_Call_Name_kw (ld_glob I hg F.gC ?_ hdb)
  refine PySem.W.callWith_KW0 (h₀ := X.base) I.ok.mod.kin Mm.kp hall ?_ hpl
  refine thn (h S σ hM hE W tk hW (fun zs H2 => zs.length = ks.length ∧ ∀ x dx, H2 x = none → H2 dx = none → dx ≠ x → spD X.K R (gV (.ref x :: []) zs) (upd (upd H2 dx (.own x)) x (.ins C dx [])) (fun v H3 => v = .non ∧ Q (.ref x) H3) (L2.WE W σ)) (fun zs M2 S2 ws ⟨q2, kk, q3⟩ hM2 g2 r2 => ⟨r2.len.trans q2, fun x dx hx hdx ne => by
      obtain ⟨a, gg⟩ := new_ins (C := C) hM2 hx hdx ne
      refine sp_of (S' := ⟨S2.as ++ [x], S2.Z, upd (upd S2.H dx (.own x)) x (.ins C dx [])⟩) a (hrep _ _ _ _ _ (RepL.cons (d := .hdl x) rfl RepL.nil) (r2.grow gg)) (q3 x) (fun d M' S' v ⟨e, hk⟩ hM' g' r => ?_) ((hW.grow g2).grow gg)
      subst e
      exact ⟨r, hQ (.hdl x) M' S' (.ref x) hk hM' ((g2.trans gg).trans g') rfl⟩⟩) pos pins s I) fun ws s2 ⟨zs, H2, I2, rz, l2, q2⟩ => ⟨I2.kIn, ?_⟩
  rw [hks]
  exact run_makeNS (us := []) (vs := []) (EE := L2.WE W) Mm F' (hr.mono hl) hb (passAt tk σ) I2 .nil rz rfl l2 q2
/-- o.m(e, .., k = v, ..) -/
theorem ge_methK {pl : Sem Bool} (F : MtK X.prog X.w X.K X.mg X.base j C m (n + 1) ks sel dds R) (hr : Room l X.A) (hl : j ≤ l)
    (h : GE X Γ M o (fun d M1 => ∃ fs ds0, ObjD M1 d C fs ds0 ∧ m ∉ fs ∧ GA X Γ M1 (e :: es) (fun ds M2 => GK X Γ M2 kws (fun zs M3 => ds.length = n ∧ zs.length = ks.length ∧ ∃ kk, CallOk R kk (selL sel (d :: ds) dds zs) M3 k kx) kx) kx) kx)
    (hall : (backToKw pos (keywordEach kws X.env)).all (·.1.isSome) = true := by rfl) (hks : (backToKw pos (keywordEach kws X.env)).filterMap (·.1) = ks := by rfl)
    (hst : starEach (e :: es) X.env = (false, eval e X.env) :: starEach es X.env := by rfl) (hpl : ((backTo pos (starEach (e :: es) X.env)).any (·.1) || (backToKw pos (keywordEach kws X.env)).any (·.1.isNone)) = false := by rfl)
    (ht : eval (.Call (.Attribute o m apos) (e :: es) kws pos) X.env = (do
      let ov ← eval o X.env
      standAt apos.atName
      let (f, first) ← holding [ov] (getMethod ov m pl)
      callWith pos f first (backTo pos (starEach (e :: es) X.env)) (backToKw pos (keywordEach kws X.env))) := by rfl) : GE X Γ M (.Call (.Attribute o m apos) (e :: es) kws pos) k kx := fun S σ hM hE W tk hW Q hQ pins s I => by
  obtain ⟨f, fd, ps, hm, ⟨g, gV, hb, hrep⟩, F'⟩ := F.ex
  refine PySem.W.methodCall_KW (pl := pl) (thn (h S σ hM hE W tk hW (fun x H1 => ∃ a dx fs, x = .ref a ∧ H1 a = some (.ins C dx fs) ∧ fs.lookup m = none ∧ WA X (e :: es) σ H1 fun vs H2 => WK X kws σ H2 fun zs H3 => vs.length = n ∧ zs.length = ks.length ∧ spD X.K R (gV (x :: vs) zs) H3 Q (L2.WE W σ)) (fun d M1 S1 v ⟨fs, ds0, ob, nf, h1⟩ hM1 g1 r1 => by
    obtain ⟨a, dx, kvs, rfl, hh, hf, hrr⟩ := ob.at hM1 r1
    refine ⟨a, dx, kvs, rfl, hh, lookup_no (by rw [hf]; exact nf), ?_⟩
    refine h1 S1 σ hM1 (hE.grow g1) W tk (hW.grow g1) _ fun ds M2 S2 vs h2 hM2 g2 r2 => h2 S2 σ hM2 ((hE.grow g1).grow g2) W tk ((hW.grow g1).grow g2) _ fun zs M3 S3 ws ⟨q1, q2, kk, q3⟩ hM3 g3 r3 => ⟨r2.len.trans q1, r3.len.trans q2, ?_⟩
    exact sp_of hM3 (hrep S3 _ _ _ _ (.cons ((r1.grow g2).grow g3) (r2.grow g3)) r3) q3 (((hQ.grow g1).grow g2).grow g3) (((hW.grow g1).grow g2).grow g3)) pins s I) fun u s1 ⟨x, H1, I1, rx, a, dx, fs, ex, ea, l, q⟩ => ?_) ht
  subst ex
  obtain rfl : u = Value.ref a := rx
  refine getmeth_ok I1 ea F.cl hm l ?_
  refine PySem.W.callWith_KW (first := [.ref a]) (h₀ := X.base) I.ok.mod.kin hm.kp hall (thn (q pos pins s1 I1) fun us s2 ⟨vs, H2, I2, r, q2⟩ => ?_) hpl hst
  refine thn (q2 pos pins s2 I2) fun ws s3 ⟨zs, H3, I3, rz, l1, l2, q3⟩ => ⟨I3.kIn, ?_⟩
  rw [hks]
  exact run_fnNS (us := .ref a :: us) (vs := .ref a :: vs) (EE := L2.WE W) F' (hr.mono hl) hb (passAt tk σ) I3 (.cons rfl r) rz (congrArg Nat.succ l1) l2 q3
/-- o.m(k = v, ..) -/
theorem ge_methK0 {pl : Sem Bool} (F : MtK X.prog X.w X.K X.mg X.base j C m 1 ks sel dds R) (hr : Room l X.A) (hl : j ≤ l)
    (h : GE X Γ M o (fun d M1 => ∃ fs ds0, ObjD M1 d C fs ds0 ∧ m ∉ fs ∧ GK X Γ M1 kws (fun zs M3 => zs.length = ks.length ∧ ∃ kk, CallOk R kk (selL sel [d] dds zs) M3 k kx) kx) kx)
    (hall : (backToKw pos (keywordEach kws X.env)).all (·.1.isSome) = true := by rfl) (hks : (backToKw pos (keywordEach kws X.env)).filterMap (·.1) = ks := by rfl)
    (hpl : ((backTo pos (starEach [] X.env)).any (·.1) || (backToKw pos (keywordEach kws X.env)).any (·.1.isNone)) = false := by rfl)
    (ht : eval (.Call (.Attribute o m apos) [] kws pos) X.env = (do
      let ov ← eval o X.env
      standAt apos.atName
      let (f, first) ← holding [ov] (getMethod ov m pl)
      callWith pos f first (backTo pos (starEach [] X.env)) (backToKw pos (keywordEach kws X.env))) := by rfl) : GE X Γ M (.Call (.Attribute o m apos) [] kws pos) k kx := fun S σ hM hE W tk hW Q hQ pins s I => by
  obtain ⟨f, fd, ps, hm, ⟨g, gV, hb, hrep⟩, F'⟩ := F.ex
  refine PySem.W.methodCall_KW (pl := pl) (thn (h S σ hM hE W tk hW (fun x H1 => ∃ a dx fs, x = .ref a ∧ H1 a = some (.ins C dx fs) ∧ fs.lookup m = none ∧ WK X kws σ H1 fun zs H3 => zs.length = ks.length ∧ spD X.K R (gV [x] zs) H3 Q (L2.WE W σ)) (fun d M1 S1 v ⟨fs, ds0, ob, nf, h1⟩ hM1 g1 r1 => by
    obtain ⟨a, dx, kvs, rfl, hh, hf, hrr⟩ := ob.at hM1 r1
    refine ⟨a, dx, kvs, rfl, hh, lookup_no (by rw [hf]; exact nf), ?_⟩
    refine h1 S1 σ hM1 (hE.grow g1) W tk (hW.grow g1) _ fun zs M3 S3 ws ⟨q2, kk, q3⟩ hM3 g3 r3 => ⟨r3.len.trans q2, ?_⟩
    exact sp_of hM3 (hrep S3 _ _ _ _ (.cons (r1.grow g3) RepL.nil) r3) q3 ((hQ.grow g1).grow g3) ((hW.grow g1).grow g3)) pins s I) fun u s1 ⟨x, H1, I1, rx, a, dx, fs, ex, ea, l, q⟩ => ?_) ht
  subst ex
  obtain rfl : u = Value.ref a := rx
  refine getmeth_ok I1 ea F.cl hm l ?_
  refine PySem.W.callWith_KW0 (first := [.ref a]) (h₀ := X.base) I.ok.mod.kin hm.kp hall ?_ hpl
  refine thn (q pos pins s1 I1) fun ws s3 ⟨zs, H3, I3, rz, l2, q3⟩ => ⟨I3.kIn, ?_⟩
  rw [hks]
  exact run_fnNS (us := [.ref a]) (vs := [.ref a]) (EE := L2.WE W) F' (hr.mono hl) hb (passAt tk σ) I3 (.cons rfl .nil) rz rfl l2 q3
end
/-! ### a def with defaults -/
theorem fn_okD {P : Program} {w : World} {K : PySem.W.Frag} {mg : Str → Option Value} {base : Heap} {x qual : Str} {params : Arguments} {body : List Stmt} {scope : Scope} {dvs : List V} {kws : List (Str × V)} {f : Addr} {fd : FuncData} {N ps : List Str} {j : Nat} {R : RSp} (F : FunD K x qual params body scope dvs kws f fd) (sc : FnScope N ps scope)
    (len : ∀ ds M k kx, R ds M k kx → ds.length = ps.length)
    (hb : ∀ (cdv : Value) (A : Around) (outer : List Env) (s : Shared) (H : Hp) (E : XK) (ds : List D) (M : Ms) (k : KD) (kx : KX), Room j (A.deeper (PyProof.Rows.envOfC qual scope s.heap.objs.size f cdv)) → R ds M k kx →
      GB (cxOf (L2.CX P w) P w K mg base N qual scope f cdv A outer s H E) (ds.map some ++ List.replicate (N.length - ds.length) none) M body { nx := fun _ M' => k .non M', rt := k, ex := fun c f _ M' => kx c f M' }) :
    FnOk P w K mg base (L2.CX P w) (j + 1) f fd ps (spD K R) := by
  refine FunD.ok F sc (fun vs H Q E ⟨S, ds, M, k, kx, _, _, r, h, _, _⟩ => by rw [r.len]; exact len _ _ _ _ h) fun cdv A outer s H vs Q E hr ⟨S, ds, M, k, kx, e, hM, r, h, hk, hx⟩ => ?_
  subst e
  refine ⟨WB _ body, wb, ?_⟩
  have hl := r.len
  have g := hb cdv A outer s S.H E ds M k kx hr h
  refine g S (start N vs) hM ⟨?_, fun i d hi => ?_⟩ (fun cls d _ H' => E cls d H') (takes_of rfl rfl rfl rfl) _ ⟨fun Γ' M' S' σ' a hM' g' hE' => hk .non M' S' .non a hM' g' rfl, hk, fun _ _ _ _ z => z.elim, fun _ _ _ _ z => z.elim, fun cls fs Γ' M' S' σ' dd a hM' g' hE' xr => hx cls fs M' S' dd a hM' g' xr⟩
  · simp [L2.start, hl]
  · have hi2 : i < ds.length := by
      by_cases q : i < ds.length
      · exact q
      · rw [List.getElem?_append_right (by simp; omega)] at hi
        have := List.getElem?_eq_some_iff.mp hi
        obtain ⟨_, h2⟩ := this
        simp at h2
    rw [List.getElem?_append_left (by simpa using hi2)] at hi
    have hd : ds[i]? = some d := by
      rw [List.getElem?_map] at hi
      cases e : ds[i]? with
      | none => rw [e] at hi; cases hi
      | some z => rw [e] at hi; simp at hi; rw [hi]
    obtain ⟨v, h1, h2⟩ := r.get hd
    refine ⟨v, ?_, h2⟩
    unfold L2.start
    rw [List.getElem?_append_left (by simp; rw [hl]; exact hi2), List.getElem?_map, h1]; rfl
/-! ### slices -/
def WO (X : Cx) (e : Option Expr) : TO := fun σ H Q => ∀ (pins : List (Addr × Obj)) (s : Shared), Inv X pins σ H s → wpAny (model X.prog X.w) X.A (evalPart e X.env) (fun u s' => ∃ o H', Inv X pins σ H' s' ∧ IsPart u o ∧ Q o H') X.xe s
theorem wo {X : Cx} {e : Option Expr} : PO X e (WO X e) := ⟨fun pins s _ _ _ I h => h pins s I⟩
def GO (X : Cx) (Γ : En) (M : Ms) (e : Option Expr) (k : Option Int → Ms → Prop) (kx : KX) : Prop := ∀ S σ, OkM X.K S M → EnvOk X.K S σ Γ → ∀ W, Takes X W → KW X.K S kx W σ → ∀ Q : Option Int → Hp → Prop, (∀ o M' S', k o M' → OkM X.K S' M' → Grow S S' → Q o S'.H) → WO X e σ S.H Q
def Sl (K : PySem.W.Frag) (r : V → Option Int → Option Int → Hp → VK → Prop) (x : D) (lo hi : Option Int) (M : Ms) (k : KD) : Prop := ∀ S vx, OkM K S M → Rep K S x vx → ∀ Q, KV K S k Q → r vx lo hi S.H Q
section
variable {X : Cx} {Γ : En} {M : Ms} {e : Expr} {lo hi : Option Expr} {k : KD} {kx : KX} {pos p2 : Pos} {r : V → Option Int → Option Int → Hp → VK → Prop}
theorem go_none {k : Option Int → Ms → Prop} (h : k none M) : GO X Γ M none k kx := fun S σ hM hE W tk hW Q hQ pins s I => po_none.run pins s σ S.H Q I (hQ none M S h hM (Grow.refl _))
theorem go_some {k : Option Int → Ms → Prop} (h : GE X Γ M e (fun d M1 => ∃ i, d = .int i ∧ k (some i) M1) kx) : GO X Γ M (some e) k kx := fun S σ hM hE W tk hW Q hQ pins s I =>
  (po_some (we (X := X) (e := e))).run pins s σ S.H Q I (h S σ hM hE W tk hW _ fun d M1 S1 v ⟨i, e1, h1⟩ hM1 g1 r1 => by
    subst e1; cases r1
    exact ⟨i, rfl, hQ (some i) M1 S1 h1 hM1 g1⟩)
theorem ge_slice (hr : SlR X r) (h : GE X Γ M e (fun x M1 => GO X Γ M1 lo (fun l M2 => GO X Γ M2 hi (fun u M3 => Sl X.K r x l u M3 k) kx) kx) kx) : GE X Γ M (.Subscript e (.Slice lo hi none p2) pos) k kx := fun S σ hM hE W tk hW Q hQ =>
  of_pe (pe_slice hr we wo wo) (h S σ hM hE W tk hW _ fun x M1 S1 vx h1 hM1 g1 r1 => h1 S1 σ hM1 (hE.grow g1) W tk (hW.grow g1) _ fun l M2 S2 h2 hM2 g2 => h2 S2 σ hM2 ((hE.grow g1).grow g2) W tk ((hW.grow g1).grow g2) _ fun u M3 S3 h3 hM3 g3 =>
    h3 S3 vx hM3 ((r1.grow g2).grow g3) Q (((hQ.grow g1).grow g2).grow g3))
end
section
variable {K : PySem.W.Frag} {M : Ms} {k : KD} {ds : List D} {lo hi : Option Int}
theorem cutD_all (h : HT.sIx ds.length 0 lo = 0 ∧ HT.sIx ds.length ds.length hi = ds.length) : cutD ds lo hi = ds := by
  unfold cutD
  rw [h.1, h.2]
  simp
theorem sl_tupD (hk : k (.tup (cutD ds lo hi)) M) : Sl K (rSlA K) (.tup ds) lo hi M k := fun S vx hM rx Q hQ => by
  obtain ⟨a, xs, rfl, h1, r1⟩ := rx
  refine ⟨a, xs, rfl, ex_t hM.zh h1, fun q => ?_, fun _ p hp => ?_⟩
  · have e : cutD ds lo hi = ds := cutD_all (by rw [← r1.len]; exact q)
    rw [e] at hk
    exact hQ _ M S _ hk hM (Grow.refl _) ⟨a, xs, rfl, h1, r1⟩
  · obtain ⟨a1, g1⟩ := new_z (o := .tup (cutV xs lo hi)) hM hp
    exact hQ _ M _ (.ref p) hk a1 g1 ⟨p, _, rfl, .inl (.inl upd_same), (r1.grow g1).cut lo hi⟩
theorem sl_lstD (hk : k (.lst (cutD ds lo hi)) M) : Sl K (rSlL K) (.lst ds) lo hi M k := fun S vx hM rx Q hQ => by
  obtain ⟨a, xs, rfl, h1, r1⟩ := rx
  refine ⟨a, xs, rfl, SqL.of (hM.zh _ _ h1), fun p hp => ?_⟩
  obtain ⟨a1, g1⟩ := new_z (o := .lst (cutV xs lo hi)) hM hp
  exact hQ _ M _ (.ref p) hk a1 g1 ⟨p, _, rfl, upd_same, (r1.grow g1).cut lo hi⟩
theorem sl_hdlD {p : Nat} {h : Addr} (hm : M[p]? = some (h, .lst ds)) (hk : k (.lst (cutD ds lo hi)) M) : Sl K (rSlL K) (.hdl h) lo hi M k := fun S vx hM rx Q hQ => by
  cases rx
  obtain ⟨_, xs, h1, r1⟩ := hM.at hm
  refine ⟨h, xs, rfl, SqL.of h1, fun p hp => ?_⟩
  obtain ⟨a1, g1⟩ := new_z (o := .lst (cutV xs lo hi)) hM hp
  exact hQ _ M _ (.ref p) hk a1 g1 ⟨p, _, rfl, upd_same, (r1.grow g1).cut lo hi⟩
theorem sl_strD {s : Str} (hl : s.length ≤ 16777216) (hk : k (.str (cutS s lo hi)) M) : Sl K rSlS (.str s) lo hi M k := fun S vx hM rx Q hQ => by
  cases rx
  exact ⟨s, rfl, hl, hQ _ M S _ hk hM (Grow.refl _) rfl⟩
/-- a list that may change, compared -/
theorem dp_hdl {S : Sg} {n p : Nat} {h : Addr} (hM : OkM K S M) (hm : M[p]? = some (h, .lst ds)) (hs : sm n (.lst ds) = true) : Dp K S.H (.ref h) (py (.lst ds)) := by
  obtain ⟨hz, xs, hh, hr⟩ := hM.at hm
  obtain ⟨hM2, g2⟩ := frz_m hM hm hz hh
  exact dp_of (S := ⟨S.as, upd S.Z h (.lst xs), S.H⟩) hM2 hs ⟨h, xs, rfl, upd_same, hr.grow g2⟩
theorem ne_hdl {n m p : Nat} {h : Addr} {y : D} (hm : M[p]? = some (h, .lst ds)) (hx : sm n (.lst ds) = true) (hy : sm m y = true) (hk : k (.bl (!PyData.eqv (py (.lst ds)) (py y))) M) (hn : n ≤ 64 := by decide) (hmm : m ≤ 64 := by decide) : Bin K (rNeU K) (.hdl h) y M k :=
  bin_flat (v := .bl (!PyData.eqv (py (.lst ds)) (py y))) (fun S vx vy hM rx ry Q q => by cases rx; exact .inr ⟨_, _, dp_hdl hM hm hx, dp_of hM hy ry, shaped_of hx hn, shaped_of hy hmm, q⟩) hk
theorem eq_hdl {n m p : Nat} {h : Addr} {y : D} (hm : M[p]? = some (h, .lst ds)) (hx : sm n (.lst ds) = true) (hy : sm m y = true) (hk : k (.bl (PyData.eqv (py (.lst ds)) (py y))) M) (hn : n ≤ 64 := by decide) (hmm : m ≤ 64 := by decide) : Bin K (rEqU K) (.hdl h) y M k :=
  bin_flat (v := .bl (PyData.eqv (py (.lst ds)) (py y))) (fun S vx vy hM rx ry Q q => by cases rx; exact .inr ⟨_, _, dp_hdl hM hm hx, dp_of hM hy ry, shaped_of hx hn, shaped_of hy hmm, q⟩) hk
end
end PD

set_option Elab.async false
set_option linter.all false
set_option maxRecDepth 100000
set_option maxHeartbeats 4000000
/-! PD: methods of built-in values. -/
namespace PD
open PySem L2
open Evl (Ex ex_rd ex_l ex_t)
def BmD (K : PySem.W.Frag) (r : V → List V → Hp → VK → Prop) (x : D) (ds : List D) (M : Ms) (k : KD) : Prop := ∀ S vx vs, OkM K S M → Rep K S x vx → RepL K S ds vs → ∀ Q, KV K S k Q → r vx vs S.H Q
def TyD (K : PySem.W.Frag) (T : String) (x : D) (M : Ms) : Prop := ∀ S v, OkM K S M → Rep K S x v → tyV K T v S.H
section
variable {X : Cx} {Γ : En} {M : Ms} {e o : Expr} {es : List Expr} {k : KD} {kx : KX} {d x y z : D} {pos apos p cpos : Pos} {T id : String} {name : Str} {r : V → List V → Hp → VK → Prop}
theorem ge_bm (pa : PlainAttrs T) (slot : Slot T name id) (hty : typeOf (.builtin id) = pure (.type "method_descriptor")) (hm : MtR X id r) (h : GE X Γ M o (fun x M1 => TyD X.K T x M1 ∧ GA X Γ M1 (e :: es) (fun ds M2 => BmD X.K r x ds M2 k) kx) kx)
    (hbase : attributeBase o name X.env (eval o X.env) = eval o X.env := by rfl)
    (hfew : ((backTo cpos (starEach (e :: es) X.env)).all (fun x => !x.1) && (backToKw cpos (keywordEach [] X.env)).all (fun x => x.1.isSome)
      && decide ((e :: es).length + ([] : List Keyword).length + (if ([] : List Keyword).isEmpty then 0 else 1) < 30)) = true := by rfl)
    (hline : (apos.endLine == cpos.line) = true := by rfl) (hs : starEach (e :: es) X.env = (false, eval e X.env) :: starEach es X.env := by rfl) (hplain : (backTo cpos (starEach es X.env)).any (·.1) = false := by rfl) :
    GE X Γ M (.Call (.Attribute o name apos) (e :: es) [] cpos) k kx := fun S σ hM hE W tk hW Q hQ =>
  of_pe (pe_bm pa slot hty hm we wa hbase hfew hline hs hplain) (h S σ hM hE W tk hW _ fun x M1 S1 vx ⟨ty, h1⟩ hM1 g1 rx => ⟨ty S1 vx hM1 rx, h1 S1 σ hM1 (hE.grow g1) W tk (hW.grow g1) _ fun ds M2 S2 vs h2 hM2 g2 r2 =>
    h2 S2 vx vs hM2 (rx.grow g2) r2 Q ((hQ.grow g1).grow g2)⟩)
theorem ge_bm0 (pa : PlainAttrs T) (slot : Slot T name id) (hty : typeOf (.builtin id) = pure (.type "method_descriptor")) (hm : MtR X id r) (h : GE X Γ M o (fun x M1 => TyD X.K T x M1 ∧ BmD X.K r x [] M1 k) kx)
    (hbase : attributeBase o name X.env (eval o X.env) = eval o X.env := by rfl) (hline : (apos.endLine == cpos.line) = true := by rfl) : GE X Γ M (.Call (.Attribute o name apos) [] [] cpos) k kx := fun S σ hM hE W tk hW Q hQ =>
  of_pe (pe_bm0 pa slot hty hm we hbase hline) (h S σ hM hE W tk hW _ fun x M1 S1 vx ⟨ty, h1⟩ hM1 g1 rx => ⟨ty S1 vx hM1 rx, h1 S1 vx [] hM1 rx RepL.nil Q (hQ.grow g1)⟩)
end
/-- a tuple of strings that the top left under the name x -/
def GlobR (K : PySem.W.Frag) (mg : Str → Option Value) (x : Str) (ys : List Str) : Prop := ∃ a, mg x = some (.ref a) ∧ (∃ o, K.lookup a = some o ∧ o.cls = .type "tuple" ∧ o.dict = none) ∧ ∀ H, SqT K H a (ys.map V.str)
theorem repl_strs {K : PySem.W.Frag} {S : Sg} : ∀ ys : List Str, RepL K S (ys.map D.str) (ys.map V.str)
  | [] => RepL.nil
  | _ :: r => .cons rfl (repl_strs r)
theorem GlobR.glob {K : PySem.W.Frag} {mg : Str → Option Value} {x : Str} {ys : List Str} (g : GlobR K mg x ys) : Glob K mg x (.tup (ys.map D.str)) := by
  obtain ⟨a, h1, _, h3⟩ := g
  exact ⟨.ref a, .ref a, h1, rfl, fun S => ⟨a, _, rfl, h3 S.Z, repl_strs ys⟩⟩
section
variable {X : Cx} {Γ : En} {M : Ms} {e o : Expr} {k : KD} {kx : KX} {pos apos p cpos : Pos} {nm : Str} {ys : List Str}
/-- NAME.index(e), NAME a tuple of strings that the top left -/
theorem ge_gindex (g : GlobR X.K X.mg nm ys) (h : GE X Γ M e (fun y M1 => ∃ (z : Str) (j : Nat), y = .str z ∧ ys[j]? = some z ∧ (∀ m, m < j → ys[m]? ≠ some z) ∧ k (.int (j : Nat)) M1) kx) (hg : Gl X nm := by rfl) (h1 : (nm == ("__debug__" : Str)) = false := by decide)
    (hbase : attributeBase (.Name nm p) "index" X.env (eval (.Name nm p) X.env) = eval (.Name nm p) X.env := by rfl)
    (hfew : ((backTo cpos (starEach (e :: []) X.env)).all (fun x => !x.1) && (backToKw cpos (keywordEach [] X.env)).all (fun x => x.1.isSome)
      && decide ((e :: []).length + ([] : List Keyword).length + (if ([] : List Keyword).isEmpty then 0 else 1) < 30)) = true := by rfl)
    (hline : (apos.endLine == cpos.line) = true := by rfl) (hs : starEach (e :: []) X.env = (false, eval e X.env) :: starEach [] X.env := by rfl) (hplain : (backTo cpos (starEach [] X.env)).any (·.1) = false := by rfl) :
    GE X Γ M (.Call (.Attribute (.Name nm p) "index" apos) [e] [] cpos) k kx := by
  obtain ⟨a, g1, g2, g3⟩ := g
  refine ge_bm PySem.F.plainAttrs_tuple PySem.F.slot_tuple_index PySem.F.type_tuple_index mt_tup_index (ge_glob (d := .raw (.ref a)) ⟨.ref a, .ref a, g1, rfl, fun S => rfl⟩ ⟨fun S v hM r => ?_, ga_cons (h.mono (fun y M1 ⟨z, j, e, hj, hno, hk⟩ => ga_nil fun S vx vs hM rx rv Q hQ => ?_) fun _ _ _ q => q) hs⟩ hg h1) hbase hfew hline hs hplain
  · cases r
    exact .inr (.inl ⟨rfl, g2⟩)
  · cases rx
    subst e
    obtain ⟨v, rfl, rfl⟩ := rep1 rv
    exact ⟨a, ys, z, j, rfl, rfl, g3 _, hj, hno, hQ _ _ S _ hk hM (Grow.refl _) rfl⟩
end
end PD
namespace PD
open PySem L2
open Evl (Ex ex_rd ex_l ex_t)
theorem gb_eq {X : Cx} {Γ : En} {M M' : Ms} {sts : List Stmt} {E : ED} (e : M = M') (h : GB X Γ M' sts E) : GB X Γ M sts E := by rw [e]; exact h
theorem ge_eqM {X : Cx} {Γ : En} {M M' : Ms} {e : Expr} {k : KD} {kx : KX} (q : M = M') (h : GE X Γ M' e k kx) : GE X Γ M e k kx := by rw [q]; exact h
end PD
namespace PD
open PySem L2
open Evl (Ex ex_rd ex_l ex_t)
theorem repl_ints {K : PySem.W.Frag} {S : Sg} : ∀ ys : List Int, RepL K S (ys.map D.int) (ys.map V.int)
  | [] => RepL.nil
  | _ :: r => .cons rfl (repl_ints r)
/-- the law's own def: a list of ints is handed in -/
theorem fn_top {P : Program} {w : World} {K : PySem.W.Frag} {mg : Str → Option Value} {base : Heap} {CX : CXT} {n k : Nat} {fa : Addr} {fd : FuncData} {x : Str} {R : RSp} (F : FnOk P w K mg base CX k fa fd [x] (spD K R))
    (h : ∀ ns : List Int, ns.length ≤ n → R [.seq (ns.map D.int)] [] (fun d _ => d = .bl true) (fun _ _ _ => False)) :
    FnOk P w K mg base CX k fa fd [x] (fun vs H Q E => ∃ (a : Addr) (ns : List Int), vs = [.ref a] ∧ ns.length ≤ n ∧ SqL K H a (ns.map V.int) ∧ Q = (fun v _ => v = .bl true) ∧ E = fun _ _ _ => False) :=
  F.imp fun vs H Q E ⟨a, ns, e1, hl, hS, e2, e3⟩ => by
    subst e1; subst e2; subst e3
    exact ⟨⟨[], H, H⟩, [.seq (ns.map D.int)], [], _, _, rfl, ⟨rfl, List.nodup_nil, Ex.refl _, fun _ h => (nomatch h), fun _ h => (nomatch h)⟩, .cons ⟨a, _, rfl, hS, repl_ints ns⟩ RepL.nil, h ns hl, fun d M' S' v e _ _ r => by rw [e] at r; exact r, fun _ _ _ _ _ e _ _ _ => e⟩
end PD

set_option Elab.async false
set_option linter.all false
set_option maxRecDepth 100000
set_option maxHeartbeats 4000000
/-! PD: starred items, joins, f-strings. -/
namespace PD
open PySem L2
open Evl (Ex ex_rd ex_l ex_t)
/-- d holds the items ds, one behind the other -/
inductive SeqD (M : Ms) : D → List D → Prop
  | tup {ds : List D} : SeqD M (.tup ds) ds
  | lst {ds : List D} : SeqD M (.lst ds) ds
  | seq {ds : List D} : SeqD M (.seq ds) ds
  | hdl {ds : List D} {h : Addr} (p : Nat) (hm : M[p]? = some (h, .lst ds)) : SeqD M (.hdl h) ds
theorem SeqD.at {K : PySem.W.Frag} {S : Sg} {M : Ms} {d : D} {ds : List D} {v : V} (h : SeqD M d ds) (hM : OkM K S M) (r : Rep K S d v) : ∃ a xs, v = .ref a ∧ (SqT K S.H a xs ∨ SqL K S.H a xs) ∧ RepL K S ds xs := by
  cases h with
  | tup => obtain ⟨a, xs, rfl, h, rr⟩ := r; exact ⟨a, xs, rfl, .inl (ex_t hM.zh h), rr⟩
  | lst => obtain ⟨a, xs, rfl, h, rr⟩ := r; exact ⟨a, xs, rfl, .inr (SqL.of (hM.zh _ _ h)), rr⟩
  | seq => obtain ⟨a, xs, rfl, h, rr⟩ := r; exact ⟨a, xs, rfl, .inr (ex_l hM.zh h), rr⟩
  | hdl p hm =>
    cases r
    obtain ⟨_, xs, h1, r1⟩ := hM.at hm
    exact ⟨_, xs, rfl, .inr (SqL.of h1), r1⟩
section
variable {X : Cx} {Γ : En} {M : Ms} {e o : Expr} {es : List Expr} {k : KD} {kx : KX} {d x y z : D} {pos apos p cpos : Pos}
theorem ga_star {k : KDs} (h : GE X Γ M e (fun d M1 => ∃ ds, SeqD M1 d ds ∧ GA X Γ M1 es (fun ys M2 => k (ds ++ ys) M2) kx) kx) (hs : starEach (.Starred e p :: es) X.env = (true, eval e X.env) :: starEach es X.env := by rfl) : GA X Γ M (.Starred e p :: es) k kx := fun S σ hM hE W tk hW Q hQ =>
  of_pa (StX.pa_star we wa hs) (h S σ hM hE W tk hW _ fun d M1 S1 v ⟨ds, sq, h1⟩ hM1 g1 r1 => by
    obtain ⟨a, xs, rfl, h2, rr⟩ := sq.at hM1 r1
    exact ⟨a, xs, rfl, h2, h1 S1 σ hM1 (hE.grow g1) W tk (hW.grow g1) _ fun ys M2 S2 vs hk hM2 g2 r2 => hQ _ M2 S2 _ hk hM2 (g1.trans g2) ((rr.grow g2).app r2)⟩)
/-- parts of an f-string, acc told so far -/
def GJ (X : Cx) (Γ : En) (kx : KX) : Ms → List Expr → Str → (Str → Ms → Prop) → Prop
  | M, [], acc, k => k acc M
  | M, e :: es, acc, k => GE X Γ M e (fun d M1 => ∃ y : Str, d = .str y ∧ (acc ++ y).length ≤ 16777216 ∧ GJ X Γ kx M1 es (acc ++ y) k) kx
theorem gj_run {X : Cx} {Γ : En} {kx : KX} {S0 : Sg} : ∀ (es : List Expr) (M : Ms) (acc : Str) (k : Str → Ms → Prop) (S : Sg) (σ : L2.St), GJ X Γ kx M es acc k → OkM X.K S M → Grow S0 S → EnvOk X.K S σ Γ → ∀ W, Takes X W → KW X.K S kx W σ → ∀ Q : Str → Hp → Prop, (∀ s M' S', k s M' → OkM X.K S' M' → Grow S0 S' → Q s S'.H) →
    tJs (es.map (WE X)) acc σ S.H Q
  | [], M, acc, k, S, σ, h, hM, g, hE, W, tk, hW, Q, hQ => hQ acc M S h hM g
  | e :: es, M, acc, k, S, σ, h, hM, g, hE, W, tk, hW, Q, hQ => h S σ hM hE W tk hW _ fun d M1 S1 v ⟨y, e1, hl, h1⟩ hM1 g1 r1 => by
    subst e1; cases r1
    exact ⟨y, rfl, hl, gj_run es M1 (acc ++ y) k S1 σ h1 hM1 (g.trans g1) (hE.grow g1) W tk (hW.grow g1) Q hQ⟩
theorem pj_all : ∀ es : List Expr, PJ X es (es.map (WE X))
  | [] => .nil
  | _ :: es => .cons we (pj_all es)
theorem ge_fstr {v1 v2 : Expr} {rest : List Expr} (h : GJ X Γ kx M (v1 :: v2 :: rest) Str.empty (fun s M1 => k (.str s) M1)) : GE X Γ M (.JoinedStr (v1 :: v2 :: rest) pos) k kx := fun S σ hM hE W tk hW Q hQ =>
  of_pe (pe_joined (pj_all (v1 :: v2 :: rest))) (gj_run (S0 := S) (v1 :: v2 :: rest) M Str.empty _ S σ h hM (Grow.refl _) hE W tk hW (fun out H1 => Q (.str out) H1) fun s M' S' hk hM' g => hQ (.str s) M' S' (.str s) hk hM' g rfl)
theorem ge_fmtS (h : GE X Γ M e (fun d M1 => ∃ s : Str, d = .str s ∧ s.length ≤ 16777216 ∧ k (.str s) M1) kx) : GE X Γ M (.FormattedValue e (-1) none pos) k kx := fun S σ hM hE W tk hW Q hQ =>
  of_pe (pe_fmt we) (h S σ hM hE W tk hW _ fun d M1 S1 v ⟨s, e1, hl, h1⟩ hM1 g1 r1 => by
    subst e1; cases r1
    exact .inl ⟨s, rfl, hl, hQ (.str s) M1 S1 _ h1 hM1 g1 rfl⟩)
theorem ge_fmtI (h : GE X Γ M e (fun d M1 => ∃ i : Int, d = .int i ∧ i.natAbs.log2 < 1920 ∧ k (.str (toString i)) M1) kx) : GE X Γ M (.FormattedValue e (-1) none pos) k kx := fun S σ hM hE W tk hW Q hQ =>
  of_pe (pe_fmt we) (h S σ hM hE W tk hW _ fun d M1 S1 v ⟨i, e1, hl, h1⟩ hM1 g1 r1 => by
    subst e1; cases r1
    exact .inr ⟨i, rfl, hl, hQ (.str (toString i)) M1 S1 _ h1 hM1 g1 rfl⟩)
/-- s.join(xs) -/
theorem ge_join (h : GE X Γ M o (fun x M1 => ∃ a : Str, x = .str a ∧ GE X Γ M1 e (fun y M2 => ∃ ys : List Str, SeqD M2 y (ys.map D.str) ∧ (ys.map (·.length)).sum + ys.length * a.length ≤ 16777216 ∧ k (.str (Txt.join a ys)) M2) kx) kx)
    (hbase : attributeBase o "join" X.env (eval o X.env) = eval o X.env := by rfl)
    (hfew : ((backTo cpos (starEach (e :: []) X.env)).all (fun x => !x.1) && (backToKw cpos (keywordEach [] X.env)).all (fun x => x.1.isSome)
      && decide ((e :: []).length + ([] : List Keyword).length + (if ([] : List Keyword).isEmpty then 0 else 1) < 30)) = true := by rfl)
    (hline : (apos.endLine == cpos.line) = true := by rfl) (hs : starEach (e :: []) X.env = (false, eval e X.env) :: starEach [] X.env := by rfl) (hplain : (backTo cpos (starEach [] X.env)).any (·.1) = false := by rfl) :
    GE X Γ M (.Call (.Attribute o "join" apos) [e] [] cpos) k kx :=
  ge_bm PySem.F.plainAttrs_str PySem.F.slot_str_join PySem.F.type_str_join mt_join (h.mono (fun x M1 ⟨a, e1, h1⟩ => by
    subst e1
    refine ⟨fun S v _ r => by cases r; exact rfl, ga_cons (h1.mono (fun y M2 ⟨ys, sq, hl, hk⟩ => ga_nil fun S vx vs hM rx rv Q hQ => ?_) fun _ _ _ q => q) hs⟩
    cases rx
    obtain ⟨v, rfl, ru⟩ := rep1 rv
    obtain ⟨p, xs, rfl, h2, rr⟩ := sq.at hM ru
    have := repStr rr
    subst this
    exact ⟨a, p, ys, rfl, rfl, h2.symm, hl, hQ _ _ S _ hk hM (Grow.refl _) rfl⟩) fun _ _ _ q => q) hbase hfew hline hs hplain
/-- isinstance(e, (T1, T2)) -/
theorem ge_isiT2 {nm1 nm2 : Str} {T1 T2 : String} {j : Nat} {ptup p1 p2 : Pos} (hm : X.mg "isinstance" = none) (m1 : X.mg nm1 = none) (v1 : bootBuiltins nm1 = some (.type T1)) (m2 : X.mg nm2 = none) (v2 : bootBuiltins nm2 = some (.type T2))
    (h : GE X Γ M e (fun d M1 => ∃ t b1 b2, tyN d = some t ∧ kitB t T1 = some b1 ∧ kitB t T2 = some b2 ∧ k (.bl (b1 || b2)) M1) kx) (g0 : Gl X "isinstance" := by rfl) (g1 : Gl X nm1 := by rfl) (g2 : Gl X nm2 := by rfl) (n1' : nm1 ≠ "__name__" := by decide) (n2' : nm2 ≠ "__name__" := by decide) (d1 : (nm1 == ("__debug__" : Str)) = false := by decide) (d2 : (nm2 == ("__debug__" : Str)) = false := by decide)
    (he : starEach [e, .Tuple [.Name nm1 p1, .Name nm2 p2] j ptup] X.env = (false, eval e X.env) :: starEach [.Tuple [.Name nm1 p1, .Name nm2 p2] j ptup] X.env := by rfl) (hpl : (backTo pos (starEach [.Tuple [.Name nm1 p1, .Name nm2 p2] j ptup] X.env)).any (·.1) = false := by rfl)
    (he2 : starEach [.Tuple [.Name nm1 p1, .Name nm2 p2] j ptup] X.env = (false, eval (.Tuple [.Name nm1 p1, .Name nm2 p2] j ptup) X.env) :: starEach [] X.env := by rfl)
    (he3 : starEach [.Name nm1 p1, .Name nm2 p2] X.env = (false, eval (.Name nm1 p1) X.env) :: starEach [.Name nm2 p2] X.env := by rfl) (he4 : starEach [.Name nm2 p2] X.env = (false, eval (.Name nm2 p2) X.env) :: starEach [] X.env := by rfl) :
    GE X Γ M (.Call (.Name "isinstance" p) [e, .Tuple [.Name nm1 p1, .Name nm2 p2] j ptup] [] pos) k kx := fun S σ hM hE W tk hW Q hQ =>
  of_pe (pe_callB call_isiT g0 hm PyProof.Rows.boot_isinstance (pa_cons we (pa_cons (pe_tup (pa_cons (pe_bltn (v := .ty T1) g1 m1 v1 rfl n1' d1) (pa_cons (pe_bltn (v := .ty T2) g2 m2 v2 rfl n2' d2) pa_nil he4) he3)) pa_nil he2) he) (by decide) (by decide) he hpl)
    (h S σ hM hE W tk hW _ fun d M1 S1 v ⟨t, b1, b2, ht, q1, q2, hk⟩ hM1 g r => by
      refine ⟨by show 2 ≤ 16777216; decide, fun q hq => ?_⟩
      obtain ⟨hM2, g2⟩ := new_z (o := .tup [V.ty T1, V.ty T2]) hM1 hq
      refine ⟨v, q, [V.ty T1, V.ty T2], .type t, [.type T1, .type T2], b1 || b2, rfl, upd_same, .cons (.ty T1) (.cons (.ty T2) .nil), ty_of hM2 (r.grow g2) ht, ?_, hQ (.bl (b1 || b2)) M1 _ _ hk hM2 (g.trans g2) rfl⟩
      unfold PySem.W.kitAny
      rw [kit_ty q1]
      cases b1
      · show PySem.W.kitAny _ _ _ = _
        unfold PySem.W.kitAny
        rw [kit_ty q2]
        cases b2 <;> rfl
      · rfl)
end
section
variable {K : PySem.W.Frag} {M : Ms} {k : KD} {i j : Int}
theorem mulS_int (hc : CMul i j) (hk : k (.int (i * j)) M) : Bin K (rI CMul fun i j => .int (i * j)) (.int i) (.int j) M k := bin_flat (v := .int (i * j)) (fun S vx vy _ rx ry Q q => ⟨i, j, rx, ry, hc, q⟩) hk
end
section
variable {X : Cx} {Γ : En} {M : Ms} {e : Expr} {k : KD} {kx : KX} {i : Int} {pos : Pos}
theorem ge_neg (h : GE X Γ M e (fun d M1 => ∃ i, d = .int i ∧ k (.int (-i)) M1) kx) : GE X Γ M (.UnaryOp .USub e pos) k kx := fun S σ hM hE W tk hW Q hQ =>
  of_pe (pe_un un_neg we) (h S σ hM hE W tk hW _ fun d M1 S1 v ⟨i, e1, hk⟩ hM1 g1 r => by
    subst e1; cases r
    exact ⟨i, rfl, hQ (.int (-i)) M1 S1 _ hk hM1 g1 rfl⟩)
theorem ev_neg (h : EV X Γ M e (.int i)) : EV X Γ M (.UnaryOp .USub e pos) (.int (-i)) := ge_neg (h.ge ⟨i, rfl, rfl, rfl⟩)
end
theorem join_len (a : Str) (ys : List Str) : (Txt.join a ys).length ≤ (ys.map (·.length)).sum + ys.length * a.length := by
  rw [show Txt.join a ys = Str.join a ys from PySem.StrLaws.glued_eq_join a ys]
  exact PySem.StrLaws.join_length_le a ys
theorem empty_app (s : Str) : Str.empty ++ s = s := PySem.Str.empty_append s
/-- f(k = v, ..) -/
theorem ge_callK0 {X : Cx} {Γ : En} {M : Ms} {kws : List Keyword} {ks : List Str} {sel : List (Nat × Nat)} {k : KD} {kx : KX} {pos p : Pos} {nm : Str} {j l : Nat} {dds : List D} {R : RSp} (F : FnK X.prog X.w X.K X.mg X.base j nm 0 ks sel dds R) (hr : Room l X.A) (hl : j ≤ l) (h : GK X Γ M kws (fun zs M2 => zs.length = ks.length ∧ ∃ kk, CallOk R kk (selL sel [] dds zs) M2 k kx) kx)
    (hall : (backToKw pos (keywordEach kws X.env)).all (·.1.isSome) = true := by rfl) (hks : (backToKw pos (keywordEach kws X.env)).filterMap (·.1) = ks := by rfl) (hg : Gl X nm := by rfl)
    (hdb : (nm == ("__debug__" : Str)) = false := by decide) (hpl : ((backTo pos (starEach [] X.env)).any (·.1) || (backToKw pos (keywordEach kws X.env)).any (·.1.isNone)) = false := by rfl) : GE X Γ M (.Call (.Name nm p) [] kws pos) k kx := fun S σ hM hE W tk hW Q hQ pins s I => by
  obtain ⟨f, fd, ps, hm, hk, ⟨g, gV, hb, hrep⟩, F⟩ := F.ex
  refine wpAny_Call_Name_kw (ld_glob I hg hm ?_ hdb)
  refine PySem.W.callWith_KW0 (h₀ := X.base) I.ok.mod.kin hk hall ?_ hpl
  refine thn (h S σ hM hE W tk hW (fun zs H2 => zs.length = ks.length ∧ spD X.K R (gV [] zs) H2 Q (L2.WE W σ)) (fun zs M2 S2 ws ⟨q2, kk, q3⟩ hM2 g2 r2 => ⟨r2.len.trans q2, sp_of hM2 (hrep S2 _ _ _ _ RepL.nil r2) q3 (hQ.grow g2) (hW.grow g2)⟩) pos pins s I) fun ws s2 ⟨zs, H2, I2, rz, l2, q2⟩ => ⟨I2.kIn, ?_⟩
  rw [hks]
  exact run_fnNS (us := []) (vs := []) (EE := L2.WE W) F (hr.mono hl) hb (passAt tk σ) I2 .nil rz rfl l2 q2
end PD

set_option Elab.async false
set_option linter.all false
set_option maxRecDepth 100000
set_option maxHeartbeats 4000000
namespace W
open PySem L2 PD
local macro_rules | `(tactic| walk_at "sd") => `(tactic| first | assumption | rfl | omega | (simp; done) | (simp; omega) | (simp_all; done) | (simp_all; omega))
local macro_rules | `(tactic| walk_at "om") => `(tactic| first | omega | (simp; done) | (simp; omega) | (push_cast; omega) | (simp [merge]; done) | (simp_all; done) | (simp_all; omega))
local macro_rules | `(tactic| walk_at "mg") => `(tactic| first | rfl | assumption)
/-! ### draws, rules, books: the data -/
structure Jar where
  a : Int
  b : Int
  c : Int
def Jar.mo (j : Jar) : MO := .lst [.int j.a, .int j.b, .int j.c]
structure Jar.Ok (j : Jar) (n : Int) : Prop where
  b0 : 0 ≤ j.b
  b1 : j.b < 10000000000000000000000000000000000000000
  c0 : 0 ≤ j.c
  c1 : j.c ≤ n
theorem Jar.Ok.mono {j : Jar} {n m : Int} (h : j.Ok n) (l : n ≤ m) : j.Ok m := ⟨h.b0, h.b1, h.c0, Int.le_trans h.c1 l⟩
def acts : List Str := ["take", "least", "last", "show", "ask"]
def doors : List Str := ["put", "look", "alter", "back", "pay", "again"]
abbrev Rule := List Str
structure OkR (r : Rule) : Prop where
  len : r.length ≤ 6
  mem : ∀ a ∈ r, a ∈ acts
def dR (r : Rule) : D := .tup (r.map D.str)
abbrev Six := List Rule
structure OkS (s : Six) : Prop where
  len : s.length = 6
  ok : ∀ r ∈ s, OkR r
def dS (s : Six) : D := .tup (s.map dR)
theorem acts_lay : ∀ a ∈ acts, PyData.canLay0 (.str a) = true := by decide +kernel
theorem dR_sm {r : Rule} (h : OkR r) : sm 1 (dR r) = true := by
  unfold dR
  simp only [sm]
  rw [sms_iff]
  intro d hd
  obtain ⟨a, ha, rfl⟩ := List.mem_map.mp hd
  simpa [sm] using acts_lay a (h.mem a ha)
theorem dS_sm {s : Six} (h : ∀ r ∈ s, OkR r) : sm 2 (dS s) = true := by
  unfold dS
  simp only [sm]
  rw [sms_iff]
  intro d hd
  obtain ⟨r, hr, rfl⟩ := List.mem_map.mp hd
  exact dR_sm (h r hr)
theorem eqv_strs : ∀ r q : List Str, PyData.eqvAll (pys (r.map D.str)) (pys (q.map D.str)) = decide (r = q)
  | [], [] => rfl
  | [], _ :: _ => rfl
  | _ :: _, [] => rfl
  | a :: r, b :: q => by
    simp only [List.map_cons, pys, PyData.eqvAll, py, PyData.eqv, eqv_strs r q]
    by_cases h : a = b <;> by_cases h2 : r = q <;> simp [h, h2]
theorem eqv_R (r q : Rule) : PyData.eqv (py (dR r)) (py (dR q)) = decide (r = q) := by
  unfold dR
  simp only [py, PyData.eqv, eqv_strs]
theorem eqv_Rs : ∀ s t : Six, PyData.eqvAll (pys (s.map dR)) (pys (t.map dR)) = decide (s = t)
  | [], [] => rfl
  | [], _ :: _ => rfl
  | _ :: _, [] => rfl
  | a :: r, b :: q => by
    simp only [List.map_cons, pys, PyData.eqvAll, eqv_R, eqv_Rs r q]
    by_cases h : a = b <;> by_cases h2 : r = q <;> simp [h, h2]
theorem eqv_S (s t : Six) : PyData.eqv (py (dS s)) (py (dS t)) = decide (s = t) := by
  unfold dS
  simp only [py, PyData.eqv, eqv_Rs]
/-- a value is an action, is a rule -/
def isAct : D → Bool | .str s => decide (s ∈ acts) | _ => false
def isRule : D → Bool | .tup ds => decide (ds.length ≤ 6) && ds.all isAct | _ => false
/-- what is_rule can be asked -/
def knR (d : D) : Bool := kn d && match d with | .tup ds => ds.all kn | _ => true
theorem isRule_dR {r : Rule} (h : OkR r) : isRule (dR r) = true := by
  unfold dR isRule
  simp only [List.length_map, Bool.and_eq_true, decide_eq_true_eq, List.all_eq_true]
  refine ⟨h.len, fun d hd => ?_⟩
  obtain ⟨a, ha, rfl⟩ := List.mem_map.mp hd
  simpa [isAct] using h.mem a ha
theorem knR_dR (r : Rule) : knR (dR r) = true := by
  unfold dR knR
  simp only [Bool.and_eq_true, List.all_eq_true]
  refine ⟨rfl, fun d hd => ?_⟩
  obtain ⟨a, ha, rfl⟩ := List.mem_map.mp hd
  rfl
def isDoor : D → Bool | .str s => decide (s ∈ doors) | _ => false
theorem any_strs : ∀ (l : List Str) (s : Str), (l.map D.str).any (isS s) = decide (s ∈ l)
  | [], s => by simp
  | t :: l, s => by
    simp only [List.map_cons, List.any_cons, any_strs l s, isS, List.mem_cons]
    by_cases h : t = s
    · simp [h]
    · have : s ≠ t := fun e => h e.symm
      by_cases h2 : s ∈ l <;> simp [h, this, h2]
theorem merge_nil (M : Ms) : merge [] M [] = M := by simp [merge]
def dDoors : D := .tup (doors.map D.str)
def dActs : D := .tup (acts.map D.str)
/-- a book as it stands -/
abbrev bk (C : Addr) (s : Six) : D := .ins C ["row"] [dS s]
def badAt (six : List D) : Nat := six.findIdx fun d => !isRule d
theorem rs_sm {s : Six} (h : ∀ r ∈ s, OkR r) : sm 2 (.lst (s.map dR)) = true := by
  simp only [sm]
  rw [sms_iff]
  intro d hd
  obtain ⟨r, hr, rfl⟩ := List.mem_map.mp hd
  exact dR_sm (h r hr)
theorem eqv_nilL : PyData.eqv (py (.lst [])) (py (.lst [])) = true := by simp [py, pys, PyData.eqv, PyData.eqvAll]
theorem idx_doors {s : Str} (h : s ∈ doors) : doors.idxOf s < 6 ∧ doors[doors.idxOf s]? = some s ∧ ∀ m, m < doors.idxOf s → doors[m]? ≠ some s := by
  have k : ∀ s ∈ doors, doors.idxOf s < 6 ∧ doors[doors.idxOf s]? = some s ∧ ∀ m, m < doors.idxOf s → doors[m]? ≠ some s := by decide +kernel
  exact k s h
theorem door_at {a : Nat} (h : a < 6) : ∃ dn, doors[a]? = some dn ∧ dn ∈ doors ∧ doors.idxOf dn = a := by
  have k : ∀ a < 6, ∃ dn ∈ doors, doors[a]? = some dn ∧ doors.idxOf dn = a := by decide +kernel
  obtain ⟨dn, h1, h2, h3⟩ := k a h
  exact ⟨dn, h2, h1, h3⟩
theorem isDoor_str {s : Str} (h : s ∈ doors) : isDoor (.str s) = true := by simpa [isDoor] using h
theorem isDoor_get {d : D} (h : isDoor d = true) : ∃ s, d = .str s ∧ s ∈ doors := by
  cases d <;> simp [isDoor] at h
  exact ⟨_, rfl, h⟩
theorem six_get {s : Six} (h : s.length = 6) : ∃ a b c d e f, s = [a, b, c, d, e, f] := by
  match s, h with
  | [a, b, c, d, e, f], _ => exact ⟨a, b, c, d, e, f, rfl⟩
theorem six_getD {s : List D} (h : s.length = 6) : ∃ a b c d e f, s = [a, b, c, d, e, f] := by
  match s, h with
  | [a, b, c, d, e, f], _ => exact ⟨a, b, c, d, e, f, rfl⟩
theorem okR_nil : OkR [] := ⟨by simp, by simp⟩
theorem all_rules {s : Six} (h : ∀ r ∈ s, OkR r) : (s.map dR).all isRule = true := by
  simp only [List.all_eq_true]
  intro d hd
  obtain ⟨r, hr, rfl⟩ := List.mem_map.mp hd
  exact isRule_dR (h r hr)
theorem all_knR {s : Six} : ∀ d ∈ s.map dR, knR d = true := by
  intro d hd
  obtain ⟨r, hr, rfl⟩ := List.mem_map.mp hd
  exact knR_dR r
theorem isAct_str (s : Str) : (acts.map D.str).any (isS s) = isAct (.str s) := any_strs acts s
theorem isDoor_any (s : Str) : (doors.map D.str).any (isS s) = isDoor (.str s) := any_strs doors s
theorem sub_one {α : Type} (a b : α) : List.Sublist [a] [a, b] := List.Sublist.cons₂ _ (List.nil_sublist _)
theorem mem_take_succ {α : Type} {l : List α} {i : Nat} {e d : α} (h : l[i]? = some e) (hd : d ∈ l.take (i + 1)) : d ∈ l.take i ∨ d = e := by
  rw [List.take_add_one, h] at hd
  simpa using hd
theorem first_eq {l : List D} {i j : Nat} {e e' : D} (h : l[i]? = some e) (he : isRule e = false) (ha : ∀ d ∈ l.take i, isRule d = true) (h' : l[j]? = some e') (he' : isRule e' = false) (ha' : ∀ d ∈ l.take j, isRule d = true) : i = j := by
  rcases Nat.lt_trichotomy i j with q | q | q
  · have := ha' e (List.mem_of_getElem? (i := i) (by rw [List.getElem?_take, if_pos q]; exact h))
    rw [he] at this; cases this
  · exact q
  · have := ha e' (List.mem_of_getElem? (i := j) (by rw [List.getElem?_take, if_pos q]; exact h'))
    rw [he'] at this; cases this
theorem names_at {a : Nat} {dn : Str} (h : doors[a]? = some dn) : (doors.map D.str)[a]? = some (.str dn) := by rw [List.getElem?_map, h]; rfl
theorem isTup_dR (r : Rule) : isTupD (dR r) = true := rfl
theorem isTup_dS (s : Six) : isTupD (dS s) = true := rfl
theorem eqv_S2 (s t : Six) : PyData.eqv (py (.tup (s.map dR))) (py (dS t)) = decide (s = t) := eqv_S s t
theorem six_ok {s t : Six} (h : ∀ r ∈ s, OkR r) (ht : ∀ r ∈ t, r = [] ∨ r ∈ s) : ∀ r ∈ t, OkR r := fun r hr => (ht r hr).elim (fun e => by rw [e]; exact okR_nil) (h r)
theorem le_max8 (n : Nat) : (if (if (n : Int) < 8 then (n : Int) else 8) > 1 then (if (n : Int) < 8 then (n : Int) else 8) else 1).toNat ≤ 8 := by split <;> split at * <;> omega
theorem lt_of_max {i n : Nat} (h : i < (if (if (n : Int) < 8 then (n : Int) else 8) > 1 then (if (n : Int) < 8 then (n : Int) else 8) else 1).toNat) : i < 8 := Nat.lt_of_lt_of_le h (le_max8 n)
theorem get_map {α : Type} {f : α → D} {l : List α} {i : Nat} {d : D} (h : (l.map f)[i]? = some d) : ∃ a, l[i]? = some a ∧ d = f a := by
  rw [List.getElem?_map] at h
  cases e : l[i]? with
  | none => rw [e] at h; cases h
  | some a => rw [e] at h; cases h; exact ⟨a, rfl, rfl⟩

def lineT (d : Str) (r : Rule) : Str := Txt.join " " ((d ++ ":") :: r)
def bookT (s : Six) : Str := Txt.join "\n" ((List.range 6).map fun i => lineT (doors.getD i "") (s.getD i []))
theorem door_len {d : Str} (h : d ∈ doors) : d.length ≤ 5 := by
  have k : ∀ s ∈ doors, s.length ≤ 5 := by decide +kernel
  exact k d h
theorem act_len {d : Str} (h : d ∈ acts) : d.length ≤ 5 := by
  have k : ∀ s ∈ acts, s.length ≤ 5 := by decide +kernel
  exact k d h
theorem sum_le {b : Nat} : ∀ {ys : List Str}, (∀ y ∈ ys, y.length ≤ b) → (ys.map (·.length)).sum ≤ b * ys.length
  | [], _ => by simp
  | y :: ys, h => by
    have h1 := h y (by simp)
    have h2 := sum_le (ys := ys) fun z hz => h z (by simp [hz])
    simp only [List.map_cons, List.sum_cons, List.length_cons, Nat.mul_add]
    omega
theorem line_sum {d : Str} {r : Rule} (hd : d ∈ doors) (h : OkR r) : (((d ++ ":") :: r).map (·.length)).sum + ((d ++ ":") :: r).length * 1 ≤ 50 := by
  have h1 : ∀ y ∈ (d ++ ":") :: r, y.length ≤ 6 := fun y hy => by
    rcases List.mem_cons.mp hy with e | e
    · rw [e, PySem.Str.length_append]
      have := door_len hd
      have e2 : (":" : Str).length = 1 := by decide
      omega
    · have := act_len (h.mem y e); omega
  have h2 := sum_le h1
  have h3 := h.len
  simp only [List.length_cons] at h2 ⊢
  omega
theorem line_fit {d : Str} {r : Rule} (hd : d ∈ doors) (h : OkR r) : (((d ++ ":") :: r).map (·.length)).sum + ((d ++ ":") :: r).length * (" " : Str).length ≤ 16777216 := by
  have e2 : (" " : Str).length = 1 := by decide
  have := line_sum hd h
  rw [e2]
  omega
theorem line_len {d : Str} {r : Rule} (hd : d ∈ doors) (h : OkR r) : (lineT d r).length ≤ 50 := by
  have e2 : (" " : Str).length = 1 := by decide
  have h1 := join_len " " ((d ++ ":") :: r)
  have h2 := line_sum hd h
  rw [e2] at h1
  unfold lineT
  omega
theorem book_fit {s : Six} (h : OkS s) : (((List.range 6).map fun i => lineT (doors.getD i "") (s.getD i [])).map (·.length)).sum + ((List.range 6).map fun i => lineT (doors.getD i "") (s.getD i [])).length * ("\n" : Str).length ≤ 16777216 := by
  have e2 : ("\n" : Str).length = 1 := by decide
  have h1 : ∀ y ∈ ((List.range 6).map fun i => lineT (doors.getD i "") (s.getD i [])), y.length ≤ 50 := fun y hy => by
    obtain ⟨i, hi, rfl⟩ := List.mem_map.mp hy
    have hi6 : i < 6 := List.mem_range.mp hi
    obtain ⟨dn, hdn, hdm, _⟩ := door_at hi6
    have hs : i < s.length := by rw [h.len]; exact hi6
    rw [List.getD_eq_getElem?_getD, List.getD_eq_getElem?_getD, hdn, List.getElem?_eq_getElem hs]
    exact line_len hdm (h.ok _ (List.getElem_mem hs))
  have h2 := sum_le h1
  rw [e2]
  simp only [List.length_map, List.length_range] at h2 ⊢
  omega
def rfx : Nat → D → Bool
  | _, .str _ => true
  | n + 1, .tup ds => decide (ds.length ≤ 1000) && ds.all (rfx n)
  | _, _ => false
theorem rfx_R {r : Rule} (h : OkR r) : rfx 1 (dR r) = true := by
  unfold dR
  simp only [rfx, Bool.and_eq_true, decide_eq_true_eq, List.all_eq_true, List.length_map]
  refine ⟨by have := h.len; omega, fun d hd => ?_⟩
  obtain ⟨a, _, rfl⟩ := List.mem_map.mp hd
  simp [rfx]
theorem rfx_S {s : Six} (h : OkS s) : rfx 2 (dS s) = true := by
  unfold dS
  simp only [rfx, Bool.and_eq_true, decide_eq_true_eq, List.all_eq_true, List.length_map]
  refine ⟨by have := h.len; omega, fun d hd => ?_⟩
  obtain ⟨a, ha, rfl⟩ := List.mem_map.mp hd
  exact rfx_R (h.ok a ha)
theorem le_max1 {n : Nat} (h : n ≤ 63) : (if (n : Int) > 1 then (n : Int) else 1).toNat ≤ 63 := by split <;> omega
theorem lt_max1 {i : Nat} {ns : List Int} (hl : ns.length ≤ 63) (h : i < (if ((ns.map D.int).length : Int) > 1 then ((ns.map D.int).length : Int) else 1).toNat) : i < 64 := by
  have := le_max1 (n := (ns.map D.int).length) (by simpa using hl)
  omega
def top (i : Nat) : Stmt := PySem.Challenge.pw_lastshown_k10_book_texts.main.body.getD i (.Pass ⟨0, 0, 0, 0⟩)
abbrev s__wall : Stmt := top 0
abbrev s_is_door : Stmt := top 9
abbrev s_is_rule : Stmt := top 10
abbrev s_book_text : Stmt := top 13
abbrev s__law_well : Stmt := top 15
abbrev s__law_draw : Stmt := top 16
abbrev s__law_rule : Stmt := top 17
abbrev s__law_rules : Stmt := top 18
abbrev s__law_line : Stmt := top 19
abbrev s__law_book_text : Stmt := top 20
abbrev s__law_same : Stmt := top 21
abbrev s__law_texted : Stmt := top 22
abbrev s_law : Stmt := top 23
abbrev s_NoRule_init : Stmt := inClass (top 3) 0
abbrev s_NoDoor_init : Stmt := inClass (top 4) 0
abbrev s_Book_init : Stmt := inClass (top 11) 0
abbrev s_Book_eq : Stmt := inClass (top 11) 1
abbrev s_Book_rule : Stmt := inClass (top 11) 2
abbrev s_Book_rules : Stmt := inClass (top 11) 3
abbrev s_Book_with_rule : Stmt := inClass (top 11) 4
abbrev s_Book_asking : Stmt := inClass (top 11) 5
/-- what the top has left of names -/
structure Txt (K : PySem.W.Frag) (mg : Str → Option Value) : Prop where
  z_len : mg "len" = none
  z_int : mg "int" = none
  z_abs : mg "abs" = none
  z_max : mg "max" = none
  z_min : mg "min" = none
  z_range : mg "range" = none
  z_isinstance : mg "isinstance" = none
  z_str : mg "str" = none
  z_tuple : mg "tuple" = none
  z_list : mg "list" = none
  z_all : mg "all" = none
  z_zip : mg "zip" = none
  g_MOST_ACTIONS : Glob K mg "MOST_ACTIONS" (.int 6)
  r_DOORS : GlobR K mg "DOORS" doors
  r_ACTIONS : GlobR K mg "ACTIONS" acts
section
variable {P : Program} {w : World} {K : PySem.W.Frag} {mg : Str → Option Value} {base : Heap}
def R__law_well : RSp := fun ds M k _ => ∃ (ns : List Int) (i : Int), ds = [.seq (ns.map D.int), .int i] ∧ M = [] ∧ 0 ≤ i ∧ i ≤ 1000 ∧
  ∀ (p : Addr) (j : Jar), j.Ok 0 → k (.hdl p) [(p, j.mo)]
theorem sc__law_well : FnScope ["script", "k", "cell", "deep"] ["script", "k"] (defScope s__law_well) := ⟨rfl, rfl, rfl, by decide +kernel, rfl, by decide +kernel, by decide +kernel⟩
theorem ok__law_well {f : Addr} {fd : FuncData}  (F : Fun K "_law_well" "_law_well" s__law_well f fd) (T : Txt K mg) : FnOk P w K mg base (L2.CX P w) 1 f fd ["script", "k"] (spD K R__law_well) := by
  have nd := sc__law_well.nd
  refine fn_ok F sc__law_well (fun ds M k kx H0 => by obtain ⟨ns, i, rfl, rfl, hi0, hi1, hk⟩ := H0; rfl) fun cdv A outer s H E ds M k kx hr H0 => ?_
  obtain ⟨ns, i, rfl, rfl, hi0, hi1, hk⟩ := H0
  have hu := hr.units
  have hu5 := units65 hr
  have key : ∀ c e : Int, GB (cxOf (L2.CX P w) P w K mg base ["script", "k", "cell", "deep"] "_law_well" (defScope s__law_well) f cdv A outer s H E) [some (.seq (ns.map D.int)), some (.int i), some (.int c), some (.int e)] []
      [(defBody s__law_well).getD 4 (.Pass ⟨0, 0, 0, 0⟩)] { nx := fun _ M' => k .non M', rt := k, ex := fun c f _ M' => kx c f M' } := fun c e => by
    refine gb_one (gs_ret ?_)
    refine ge_lstM ?_
    refine (av_cons (ev_callB (call_max2 rfl) T.z_max PyProof.Rows.boot_max (av_cons ev_int (av_cons (ev_bin op_sub (ev_var 3) (ev_bin op_powX ev_int ev_int (pow_int (pow4 (n := 18) (by decide) (by decide) (by decide)) ⟨rfl, rfl⟩)) (sub_int ⟨rfl, rfl⟩)) av_nil)) (max2_int ⟨rfl, rfl⟩))
      (av_cons (ev_bin op_addU (ev_bin op_mod (ev_callT call_int1 T.z_int PyProof.Rows.boot_int (av_cons (ev_var 3) av_nil) (int_int ⟨rfl, rfl⟩)) (ev_bin op_addU (ev_bin op_powX ev_int ev_int (pow_int (pow4 (n := 27) (by decide) (by decide) (by decide)) ⟨rfl, rfl⟩)) ev_int (add_int ⟨rfl, rfl⟩)) (mod_int (by decide) ⟨rfl, rfl⟩)) (ev_bin op_mulU ev_int (ev_var 1) (mul_int' (mulx (by omega) (by omega) (by omega) (by omega)) ⟨rfl, rfl⟩)) (add_int ⟨rfl, rfl⟩))
      (av_cons ev_int av_nil))).ga ⟨by simp, fun p => ?_⟩
    refine hk p ⟨_, _, _⟩ ⟨?_, ?_, by show (0:Int) ≤ 0; omega, by show (0:Int) ≤ 0; omega⟩
    · have := Int.emod_nonneg e (b := 10 ^ (27 : Int).toNat + 103) (by decide)
      show 0 ≤ e % (10 ^ (27 : Int).toNat + 103) + 65537 * i
      omega
    · have h1 := Int.emod_lt_of_pos e (b := 10 ^ (27 : Int).toNat + 103) (by decide)
      have h2 : (10 : Int) ^ (27 : Int).toNat + 103 < 9999999999999999999999999999999999999999 - 65537000 := by decide
      show e % (10 ^ (27 : Int).toNat + 103) + 65537 * i < 10000000000000000000000000000000000000000
      omega
  have rest : ∀ c : Int, GB (cxOf (L2.CX P w) P w K mg base ["script", "k", "cell", "deep"] "_law_well" (defScope s__law_well) f cdv A outer s H E) [some (.seq (ns.map D.int)), some (.int i), some (.int c), none] []
      ((defBody s__law_well).drop 2) { nx := fun _ M' => k .non M', rt := k, ex := fun c f _ M' => kx c f M' } := fun c => by
    refine gb_cons (gs_set 3 ((ev_bin op_mul ev_int (ev_var 2) (mulS_int (.inl (by decide)) ⟨rfl, rfl⟩)).ge ?_) nd)
    refine gb_cons (gs_if ((tv_cmp op_lt (nomark _) (ev_var 2) ev_int (lt_int ⟨rfl, rfl⟩)).gt ⟨fun hb => ?_, fun hb => ?_⟩))
    · refine gb_cons (gs_set 3 ((ev_bin op_sub (ev_bin op_mul (ev_neg ev_int) (ev_var 2) (mulS_int (.inl (by decide)) ⟨rfl, rfl⟩)) ev_int (sub_int ⟨rfl, rfl⟩)).ge ?_) nd)
      refine gb_nil ?_
      exact key _ _
    · refine gb_nil ?_
      exact key _ _
  refine gb_cons (gs_set 2 (ev_int.ge ?_) nd)
  refine gb_cons (gs_if ((tv_cmp op_lt (nomark _) (ev_var 1) (ev_callB call_len T.z_len PySem.boot_len (av_cons (ev_var 0) av_nil) (len_seq ⟨rfl, rfl⟩)) (lt_int ⟨rfl, rfl⟩)).gt ⟨fun hb => ?_, fun hb => ?_⟩))
  · refine gb_cons (gs_set 2 ?_ nd)
    refine ge_callT call_int1 T.z_int PyProof.Rows.boot_int ?_
    refine ga_cons ?_
    refine ge_ix ix_seq (fun _ _ => rfl) ((ev_var 0).ge ((ev_var 1).ge (ix_seqAny hi0 (by simpa using hb) fun d hd _ => ?_)))
    obtain ⟨c, _, rfl⟩ := List.mem_map.mp hd
    refine ga_nil (int_int ?_)
    refine gb_nil ?_
    exact rest _
  · refine gb_nil ?_
    exact rest _
def R__law_draw : RSp := fun ds M k _ => ∃ (h : Addr) (j : Jar) (m n : Int), ds = [.hdl h, .int m] ∧ M = [(h, j.mo)] ∧ j.Ok n ∧ n ≤ 1000000 ∧ 0 < m ∧ m ≤ 100000000000000000000000000000000000000000000000000 ∧
  ∀ (r : Int) (j' : Jar), 0 ≤ r → r < m → j'.Ok (n + 1) → k (.int r) [(h, j'.mo)]
theorem sc__law_draw : FnScope ["well", "many", "found", "turn", "mixed"] ["well", "many"] (defScope s__law_draw) := ⟨rfl, rfl, rfl, by decide +kernel, rfl, by decide +kernel, by decide +kernel⟩
theorem ok__law_draw {f : Addr} {fd : FuncData}  (F : Fun K "_law_draw" "_law_draw" s__law_draw f fd) (T : Txt K mg) : FnOk P w K mg base (L2.CX P w) 1 f fd ["well", "many"] (spD K R__law_draw) := by
  have nd := sc__law_draw.nd
  refine fn_ok F sc__law_draw (fun ds M k kx H0 => by obtain ⟨h, j, m, n, rfl, rfl, ⟨jb0, jb1, jc0, jc1⟩, hn, h0, h1, hk⟩ := H0; rfl) fun cdv A outer s H E ds M k kx hr H0 => ?_
  obtain ⟨h, j, m, n, rfl, rfl, ⟨jb0, jb1, jc0, jc1⟩, hn, h0, h1, hk⟩ := H0
  have hu := hr.units
  have hu5 := units65 hr
  refine gb_cons (gs_if ?_)
  refine ((tv_cmp op_gt (nomark _) (ev_ix ix_seq (fun _ _ => rfl) (ev_var 0) ev_int (ix_hdl (p := 0) (j := 0) rfl (by walk_at "sd") rfl ⟨rfl, rfl⟩)) ev_int (gt_int ⟨rfl, rfl⟩))).gt ?_
  refine ⟨fun hb1 => ?_, fun hb1 => ?_⟩
  · have hb1 := hb1
    refine gb_cons (gs_set 2 ?_ nd)
    refine ((ev_bin op_mod (ev_callT call_int1 T.z_int PyProof.Rows.boot_int (av_cons (ev_ix ix_seq (fun _ _ => rfl) (ev_var 0) ev_int (ix_hdl (p := 0) (j := 0) rfl (by walk_at "sd") rfl ⟨rfl, rfl⟩)) av_nil) (int_int ⟨rfl, rfl⟩)) (ev_var 1) (mod_int (by walk_at "sd") ⟨rfl, rfl⟩))).ge ?_
    refine gb_cons (gs_seti ?_)
    refine ((ev_bin op_fdivW (ev_ix ix_seq (fun _ _ => rfl) (ev_var 0) ev_int (ix_hdl (p := 0) (j := 0) rfl (by walk_at "sd") rfl ⟨rfl, rfl⟩)) (ev_var 1) (div_int (divx (by walk_at "sd") (by walk_at "sd")) ⟨rfl, rfl⟩))).ge ?_
    refine ((ev_var 0)).ge ?_
    refine (ev_int).ge ?_
    refine ⟨0, _, _, _, 0, rfl, rfl, rfl, by walk_at "sd", ?_⟩
    refine gb_one (gs_ret ?_)
    refine ((ev_var 2)).ge ?_
    exact hk _ ⟨j.a / m, j.b, j.c⟩ (Int.emod_nonneg _ (by omega)) (Int.emod_lt_of_pos _ h0) ⟨jb0, jb1, jc0, by show j.c ≤ n + 1; omega⟩
  · have hb1 := hb1
    refine gb_nil ?_
    refine gb_cons (gs_set 3 ?_ nd)
    refine ((ev_bin op_addU (ev_ix ix_seq (fun _ _ => rfl) (ev_var 0) ev_int (ix_hdl (p := 0) (j := 2) rfl (by walk_at "sd") rfl ⟨rfl, rfl⟩)) ev_int (add_int ⟨rfl, rfl⟩))).ge ?_
    refine gb_cons (gs_seti ?_)
    refine ((ev_var 3)).ge ?_
    refine ((ev_var 0)).ge ?_
    refine (ev_int).ge ?_
    refine ⟨0, _, _, _, 2, rfl, rfl, rfl, by walk_at "sd", ?_⟩
    refine gb_cons (gs_set 4 ?_ nd)
    refine ((ev_bin op_mod (ev_callT call_int1 T.z_int PyProof.Rows.boot_int (av_cons (ev_bin op_addU (ev_bin op_powX (ev_bin op_addU (ev_ix ix_seq (fun _ _ => rfl) (ev_var 0) ev_int (ix_hdl (p := 0) (j := 1) rfl (by walk_at "sd") rfl ⟨rfl, rfl⟩)) (ev_bin op_mulU ev_int (ev_var 3) (mul_int' (mulx (by omega) (by omega) (by omega) (by omega)) ⟨rfl, rfl⟩)) (add_int ⟨rfl, rfl⟩)) ev_int (pow_int (pow4 (n := 3) (by omega) (by omega) (by decide)) ⟨rfl, rfl⟩)) (ev_bin op_mulU ev_int (ev_var 3) (mul_int' (mulx (by omega) (by omega) (by omega) (by omega)) ⟨rfl, rfl⟩)) (add_int ⟨rfl, rfl⟩)) av_nil) (int_int ⟨rfl, rfl⟩)) (ev_bin op_addU (ev_bin op_powX ev_int ev_int (pow_int (pow4 (n := 40) (by decide) (by decide) (by decide)) ⟨rfl, rfl⟩)) ev_int (add_int ⟨rfl, rfl⟩)) (mod_int (by decide) ⟨rfl, rfl⟩))).ge ?_
    have hs := Int.emod_nonneg ((j.b + 15485863 * (j.c + 1)) ^ (3 : Int).toNat + 982451653 * (j.c + 1)) (b := 10 ^ (40 : Int).toNat + 121) (by decide)
    have hs2 := Int.emod_lt_of_pos ((j.b + 15485863 * (j.c + 1)) ^ (3 : Int).toNat + 982451653 * (j.c + 1)) (b := 10 ^ (40 : Int).toNat + 121) (by decide)
    have hs3 : (10 : Int) ^ (40 : Int).toNat + 121 < 10000000000000000000000000000000000000000000 := by decide
    generalize ((j.b + 15485863 * (j.c + 1)) ^ (3 : Int).toNat + 982451653 * (j.c + 1)) % (10 ^ (40 : Int).toNat + 121) = st at hs hs2
    refine gb_cons (gs_set 4 ?_ nd)
    refine ((ev_bin op_mod (ev_callT call_int1 T.z_int PyProof.Rows.boot_int (av_cons (ev_bin op_powX (ev_bin op_addU (ev_var 4) (ev_bin op_mulU ev_int (ev_var 3) (mul_int' (mulx (by omega) (by omega) (by omega) (by omega)) ⟨rfl, rfl⟩)) (add_int ⟨rfl, rfl⟩)) ev_int (pow_int (pow4 (n := 3) (by omega) (by omega) (by decide)) ⟨rfl, rfl⟩)) av_nil) (int_int ⟨rfl, rfl⟩)) (ev_bin op_addU (ev_bin op_powX ev_int ev_int (pow_int (pow4 (n := 38) (by decide) (by decide) (by decide)) ⟨rfl, rfl⟩)) ev_int (add_int ⟨rfl, rfl⟩)) (mod_int (by decide) ⟨rfl, rfl⟩))).ge ?_
    refine gb_one (gs_ret ?_)
    refine ((ev_bin op_mod (ev_callT call_int1 T.z_int PyProof.Rows.boot_int (av_cons (ev_bin op_fdivW (ev_var 4) (ev_bin op_powX ev_int ev_int (pow_int (pow4 (n := 9) (by decide) (by decide) (by decide)) ⟨rfl, rfl⟩)) (div_int (divx (by decide) (by decide)) ⟨rfl, rfl⟩)) av_nil) (int_int ⟨rfl, rfl⟩)) (ev_var 1) (mod_int (by walk_at "sd") ⟨rfl, rfl⟩))).ge ?_
    exact hk _ ⟨j.a, j.b, j.c + 1⟩ (Int.emod_nonneg _ (by omega)) (Int.emod_lt_of_pos _ h0) ⟨jb0, jb1, by show 0 ≤ j.c + 1; omega, by show j.c + 1 ≤ n + 1; omega⟩
def R__law_rule : RSp := fun ds M k _ => ∃ (h : Addr) (j : Jar) (n : Int), ds = [.hdl h] ∧ M = [(h, j.mo)] ∧ j.Ok n ∧ n ≤ 900000 ∧
  ∀ (r : Rule) (j' : Jar), OkR r → j'.Ok (n + 8) → k (dR r) [(h, j'.mo)]
theorem sc__law_rule : FnScope ["well", "actions", "k"] ["well"] (defScope s__law_rule) := ⟨rfl, rfl, rfl, by decide +kernel, rfl, by decide +kernel, by decide +kernel⟩
theorem ok__law_rule {f : Addr} {fd : FuncData}  (F : Fun K "_law_rule" "_law_rule" s__law_rule f fd) (T : Txt K mg) (F__law_draw : FnD P w K mg base 1 "_law_draw" [] R__law_draw) : FnOk P w K mg base (L2.CX P w) 2 f fd ["well"] (spD K R__law_rule) := by
  have nd := sc__law_rule.nd
  refine fn_ok F sc__law_rule (fun ds M k kx H0 => by obtain ⟨h, j, n, rfl, rfl, jo, hn, hk⟩ := H0; rfl) fun cdv A outer s H E ds M k kx hr H0 => ?_
  obtain ⟨h, j, n, rfl, rfl, jo, hn, hk⟩ := H0
  have hu := hr.units
  have hu5 := units65 hr
  refine gb_cons (gs_set 1 ?_ nd)
  refine ((ev_lst (av_cons ev_str (av_cons ev_str (av_cons ev_str (av_cons ev_str (av_cons ev_str av_nil))))))).ge ?_
  refine gb_one (gs_ret ?_)
  refine ge_callT call_tuple_of T.z_tuple PyProof.Rows.boot_tuple ?_
  refine ga_cons ?_
  refine ge_lc [("k", 2)] rfl nd (blkOk_by (by show blkC ["well", "actions", "k"] (defScope s__law_rule) _ _ = true; decide +kernel)) ?_
  refine gi_range1 T.z_range ?_
  refine ga_cons ?_
  refine ge_call F__law_draw hr (by decide) ?_
  refine ((av_cons (ev_var 0) (av_cons ev_int av_nil))).ga ?_
  refine ⟨[0], by decide, by simp [merge], _, _, _, _, rfl, rfl, jo, by walk_at "sd", by walk_at "sd", by walk_at "sd", fun r1 j1 lo1 hi1 jo1 => ⟨rfl, ?_⟩⟩
  refine ga_nil ?_
  refine ⟨_, rfl, by walk_at "sd", by walk_at "sd", ?_⟩
  refine ⟨fun i acc M => ∃ (r : Rule) (j2 : Jar), acc = r.map D.str ∧ r.length = i ∧ (∀ a ∈ r, a ∈ acts) ∧ j2.Ok (n + 1 + i) ∧ M = [(h, j2.mo)], ⟨[], j1, rfl, rfl, by simp, by simpa using jo1, rfl⟩, fun _ _ _ _ _ => trivial, fun i d acc M hi hit hP => ?_, fun acc M hP => ?_⟩
  · obtain ⟨r, j2, rfl, hl, hm, jo2, rfl⟩ := hP
    intro _ _ _ _ _
    refine cg_name 2 ?_ nd
    intro _ _ _ _ _
    refine gts_nil ⟨fun _ => ?_, fun z => nomatch z⟩
    intro _ _ _ _ _
    refine ge_ix ix_seq (fun _ _ => rfl) ?_
    refine ((ev_var 1)).ge ?_
    refine ge_call F__law_draw hr (by decide) ?_
    refine ((av_cons (ev_var 0) (av_cons ev_int av_nil))).ga ?_
    refine ⟨[0], by decide, by simp [merge], _, _, _, _, rfl, rfl, jo2, by walk_at "sd", by walk_at "sd", by walk_at "sd", fun r2 j2 lo2 hi2 jo2 => ⟨rfl, ?_⟩⟩
    refine (ix_lstAny (by walk_at "sd") (by simp; omega) fun d hd _ => ?_)
    obtain ⟨a, ha, rfl⟩ := List.mem_map.mp (show d ∈ acts.map D.str from hd)
    exact ⟨by simp; omega, r ++ [a], j2, by simp, by simp [hl], fun b hb => (List.mem_append.mp hb).elim (hm b) fun q => by rw [List.mem_singleton.mp q]; exact ha, jo2.mono (by omega), rfl⟩
  · obtain ⟨r, j2, rfl, hl, hm, jo2, rfl⟩ := hP
    refine ga_nil ?_
    refine (tup_lst ?_)
    exact hk r j2 ⟨by omega, hm⟩ (jo2.mono (by omega))
def R__law_rules : RSp := fun ds M k _ => ∃ (h : Addr) (j : Jar) (n : Int), ds = [.hdl h] ∧ M = [(h, j.mo)] ∧ j.Ok n ∧ n ≤ 800000 ∧
  ∀ (s : Six) (j' : Jar), OkS s → j'.Ok (n + 100) → k (dS s) [(h, j'.mo)]
theorem sc__law_rules : FnScope ["well", "found", "turn"] ["well"] (defScope s__law_rules) := ⟨rfl, rfl, rfl, by decide +kernel, rfl, by decide +kernel, by decide +kernel⟩
theorem ok__law_rules {f : Addr} {fd : FuncData}  (F : Fun K "_law_rules" "_law_rules" s__law_rules f fd) (T : Txt K mg) (F__law_draw : FnD P w K mg base 1 "_law_draw" [] R__law_draw) (F__law_rule : FnD P w K mg base 2 "_law_rule" [] R__law_rule) : FnOk P w K mg base (L2.CX P w) 3 f fd ["well"] (spD K R__law_rules) := by
  have nd := sc__law_rules.nd
  refine fn_ok F sc__law_rules (fun ds M k kx H0 => by obtain ⟨h, j, n, rfl, rfl, jo, hn, hk⟩ := H0; rfl) fun cdv A outer s H E ds M k kx hr H0 => ?_
  obtain ⟨h, j, n, rfl, rfl, jo, hn, hk⟩ := H0
  have hu := hr.units
  have hu5 := units65 hr
  refine gb_cons (gs_set 1 ?_ nd)
  refine ge_lstM ?_
  refine (av_nil).ga ?_
  refine ⟨by walk_at "sd", fun q_found => ?_⟩
  refine gb_cons (gs_for (passes_of rfl) rfl ?_)
  refine gi_range1 T.z_range ?_
  refine ((av_cons ev_int av_nil)).ga ?_
  refine ⟨_, rfl, by walk_at "sd", by walk_at "sd", ?_⟩
  refine ⟨fun i Γ M => ∃ (s2 : Six) (j2 : Jar) (a : Option D), Γ = [some (.hdl h), some (.hdl q_found), a] ∧ s2.length = i ∧ (∀ r ∈ s2, OkR r) ∧ j2.Ok (n + 16 * i) ∧ M = [(h, j2.mo), (q_found, .lst (s2.map dR))], ⟨[], j, none, rfl, rfl, by simp, by simpa using jo, rfl⟩, fun _ _ _ _ _ => trivial, fun i d Γ M hi hit hP => ?_, fun Γ M hP => ?_⟩
  · obtain ⟨s2, j2, a, rfl, hl, hs2, jo2, rfl⟩ := hP
    have hi6 : i < 6 := by simpa using hi
    refine gg_name 2 ?_ nd
    refine gb_cons (gs_if ?_)
    refine gt_bool ?_
    refine gp_and ?_
    refine ((tv_cmp (op_neU hu) (nomark _) (ev_var 1) (ev_lst av_nil) (ne_hdl (p := 1) (n := 2) (m := 1) rfl (rs_sm hs2) rfl ⟨rfl, rfl⟩))).gt ?_
    refine ⟨fun hp1 => ?_, fun hp1 => ?_⟩
    · have hp1 := hp1
      refine gp_and1 ?_
      refine gt_cmp (op_eqU hu) (nomark _) ?_
      refine ge_call F__law_draw hr (by decide) ?_
      refine ((av_cons (ev_var 0) (av_cons ev_int av_nil))).ga ?_
      refine ⟨[0], by decide, by simp [merge], _, _, _, _, rfl, rfl, jo2, by walk_at "sd", by walk_at "sd", by walk_at "sd", fun r1 j1 lo1 hi1 jo1 => ⟨rfl, ?_⟩⟩
      refine (ev_int).ge ?_
      refine (eq_int ⟨_, rfl, ?_⟩)
      refine ⟨fun hb1 => ?_, fun hb1 => ?_⟩
      · have hb1 := hb1
        refine gb_cons (gs_expr ?_)
        refine ge_append ((ev_var 1).ge ⟨⟨1, _, _, rfl, rfl⟩, ?_⟩)
        refine ge_ix ix_seq (fun _ _ => rfl) ?_
        refine ((ev_var 1)).ge ?_
        refine ge_call F__law_draw hr (by decide) ?_
        refine ((av_cons (ev_var 0) (av_cons (ev_callB call_len T.z_len PySem.boot_len (av_cons (ev_var 1) av_nil) (len_hdl (p := 1) rfl ⟨rfl, rfl⟩)) av_nil))).ga ?_
        have hpos : 0 < (s2.length : Int) := by rcases s2 with _ | ⟨x, y⟩ <;> simp_all [eqv_nilL] <;> omega
        refine ⟨[0], by decide, by simp [merge], _, _, _, _, rfl, rfl, jo1, by walk_at "sd", by simpa using hpos, by simp; omega, fun r2 j2 lo2 hi2 jo2 => ⟨rfl, ?_⟩⟩
        refine (ix_hdlAny (p := 1) rfl (by walk_at "sd") (by walk_at "om") fun d3 hd3 _ => ?_)
        refine ⟨1, _, _, rfl, rfl, by walk_at "sd", ?_⟩
        refine gb_nil ?_
        refine gb_nil ?_
        obtain ⟨r5, hr5, rfl⟩ := List.mem_map.mp hd3
        exact ⟨s2 ++ [r5], j2, _, rfl, by simp [hl], fun q hq => (List.mem_append.mp hq).elim (hs2 q) (fun z => by rw [List.mem_singleton.mp z]; exact (hs2 _ hr5)), jo2.mono (by push_cast; omega), by rw [List.map_append]; rfl⟩
      · have hb1 := hb1
        refine gb_cons (gs_expr ?_)
        refine ge_append ((ev_var 1).ge ⟨⟨1, _, _, rfl, rfl⟩, ?_⟩)
        refine ge_call F__law_rule hr (by decide) ?_
        refine ((av_cons (ev_var 0) av_nil)).ga ?_
        refine ⟨[0], by decide, by simp [merge], _, _, _, rfl, rfl, jo1, by walk_at "sd", fun rr j3b okr jo3b => ⟨rfl, ?_⟩⟩
        refine ⟨1, _, _, rfl, rfl, by walk_at "sd", ?_⟩
        refine gb_nil ?_
        refine gb_nil ?_
        exact ⟨s2 ++ [rr], j3b, _, rfl, by simp [hl], fun q hq => (List.mem_append.mp hq).elim (hs2 q) (fun z => by rw [List.mem_singleton.mp z]; exact okr), jo3b.mono (by push_cast; omega), by rw [List.map_append]; rfl⟩
    · have hp1 := hp1
      refine ⟨fun z => (nomatch z), fun _ => ?_⟩
      refine gb_cons (gs_expr ?_)
      refine ge_append ((ev_var 1).ge ⟨⟨1, _, _, rfl, rfl⟩, ?_⟩)
      refine ge_call F__law_rule hr (by decide) ?_
      refine ((av_cons (ev_var 0) av_nil)).ga ?_
      refine ⟨[0], by decide, by simp [merge], _, _, _, rfl, rfl, jo2, by walk_at "sd", fun rr j2b okr jo2b => ⟨rfl, ?_⟩⟩
      refine ⟨1, _, _, rfl, rfl, by walk_at "sd", ?_⟩
      refine gb_nil ?_
      refine gb_nil ?_
      exact ⟨s2 ++ [rr], j2b, _, rfl, by simp [hl], fun q hq => (List.mem_append.mp hq).elim (hs2 q) (fun z => by rw [List.mem_singleton.mp z]; exact okr), jo2b.mono (by push_cast; omega), by rw [List.map_append]; rfl⟩
  · obtain ⟨s2, j2, a, rfl, hl, hs2, jo2, rfl⟩ := hP
    refine gb_one (gs_ret ?_)
    refine ge_callT call_tuple_of T.z_tuple PyProof.Rows.boot_tuple (ga_cons (ge_frz (ge_var 1 ⟨1, _, _, rfl, rfl, ga_nil (tup_lst ?_)⟩)))
    exact hk s2 j2 ⟨by simpa using hl, hs2⟩ (jo2.mono (by walk_at "om"))
def R_is_door : RSp := fun ds M k _ => ∃ d, ds = [d] ∧ M = [] ∧ kn d = true ∧ k (.bl (isDoor d)) []
theorem sc_is_door : FnScope ["thing"] ["thing"] (defScope s_is_door) := ⟨rfl, rfl, rfl, by decide +kernel, rfl, by decide +kernel, by decide +kernel⟩
theorem ok_is_door {f : Addr} {fd : FuncData}  (F : Fun K "is_door" "is_door" s_is_door f fd) (T : Txt K mg) : FnOk P w K mg base (L2.CX P w) 1 f fd ["thing"] (spD K R_is_door) := by
  have nd := sc_is_door.nd
  refine fn_ok F sc_is_door (fun ds M k kx H0 => by obtain ⟨d, rfl, rfl, hkn, hk⟩ := H0; rfl) fun cdv A outer s H E ds M k kx hr H0 => ?_
  obtain ⟨d, rfl, rfl, hkn, hk⟩ := H0
  have hu := hr.units
  have hu5 := units65 hr
  refine gb_one (gs_ret ?_)
  refine ge_and ?_
  refine ge_callB call_isi T.z_isinstance PyProof.Rows.boot_isinstance ((av_cons (ev_var 0) (av_cons (ev_ty T.z_str b_str) av_nil)).ga (isi_str hkn ⟨_, rfl, fun hs => ?_, fun hs => ?_⟩))
  · cases d <;> simp [isStrD] at hs
    refine ge_one (ge_cmp (op_inU hu5) rfl ((ev_var 0).ge ((ev_glob T.r_DOORS.glob).ge (in_strs rfl ?_))))
    rw [isDoor_any]
    exact hk
  · have : isDoor d = false := by cases d <;> simp_all [isStrD, isDoor]
    rw [this] at hk
    exact hk
def R_is_rule : RSp := fun ds M k _ => ∃ d, ds = [d] ∧ M = [] ∧ knR d = true ∧ k (.bl (isRule d)) []
theorem sc_is_rule : FnScope ["thing", "action"] ["thing"] (defScope s_is_rule) := ⟨rfl, rfl, rfl, by decide +kernel, rfl, by decide +kernel, by decide +kernel⟩
theorem ok_is_rule {f : Addr} {fd : FuncData}  (F : Fun K "is_rule" "is_rule" s_is_rule f fd) (T : Txt K mg) : FnOk P w K mg base (L2.CX P w) 1 f fd ["thing"] (spD K R_is_rule) := by
  have nd := sc_is_rule.nd
  refine fn_ok F sc_is_rule (fun ds M k kx H0 => by obtain ⟨d, rfl, rfl, hkn, hk⟩ := H0; rfl) fun cdv A outer s H E ds M k kx hr H0 => ?_
  obtain ⟨d, rfl, rfl, hkn, hk⟩ := H0
  have hu := hr.units
  have hu5 := units65 hr
  have hk0 : kn d = true := by simp only [knR, Bool.and_eq_true] at hkn; exact hkn.1
  refine gb_cons (gs_if (gt_bool (gp_or (gt_not (gt_val (ge_callB call_isi T.z_isinstance PyProof.Rows.boot_isinstance ((av_cons (ev_var 0) (av_cons (ev_ty T.z_tuple b_tuple) av_nil)).ga (isi_tup hk0 ⟨_, rfl, fun hs => ?_, fun hs => ?_⟩))))))))
  · cases d <;> simp [isTupD] at hs
    rename_i ds
    have hkn2 : ∀ d ∈ ds, kn d = true := by simp only [knR, Bool.and_eq_true, List.all_eq_true] at hkn; exact hkn.2
    refine gp_or1 ((tv_cmp op_gt (nomark _) (ev_callB call_len T.z_len PySem.boot_len (av_cons (ev_var 0) av_nil) (len_tup ⟨rfl, rfl⟩)) (ev_glob T.g_MOST_ACTIONS) (gt_int ⟨rfl, rfl⟩)).gt ⟨fun hb => ?_, fun hb => ?_⟩)
    · refine gb_one (gs_ret (ev_bl.ge ?_))
      have : isRule (.tup ds) = false := by simp at hb; simp [isRule]; intro h; omega
      rw [this] at hk
      exact hk
    · refine gb_nil ?_
      have h6 : ds.length ≤ 6 := by simp at hb; omega
      refine gb_one (gs_ret (ge_callB (cr_all rfl) T.z_all b_all (ga_cons ?_)))
      refine ge_lc [("action", 1)] rfl nd (blkOk_by (by show blkC ["thing", "action"] (defScope s_is_rule) _ _ = true; decide +kernel)) ?_
      refine gi_tup ((ev_var 0).ge ⟨_, rfl, ?_⟩)
      refine ⟨fun i acc M => acc = (ds.take i).map (fun d => .bl (isAct d)) ∧ M = [], ⟨rfl, rfl⟩, fun _ _ _ _ _ => trivial, fun i d acc M hi hit hP => ?_, fun acc M hP => ?_⟩
      · obtain ⟨rfl, rfl⟩ := hP
        have hd : d ∈ ds := List.mem_of_getElem? hit
        intro _ _ _ _ _
        refine cg_name 1 ?_ nd
        intro _ _ _ _ _
        refine gts_nil ⟨fun _ => ?_, fun z => nomatch z⟩
        intro _ _ _ _ _
        have fin : ∀ b, b = isAct d → ((ds.take i).map (fun d => D.bl (isAct d))).length < 16777216 ∧ (ds.take i).map (fun d => D.bl (isAct d)) ++ [D.bl b] = (ds.take (i + 1)).map (fun d => .bl (isAct d)) ∧ ([] : Ms) = [] := fun b hb => by
          refine ⟨by simp; omega, ?_, rfl⟩
          rw [List.take_add_one, hit, hb]
          simp
        refine ge_and ?_
        refine ge_callB call_isi T.z_isinstance PyProof.Rows.boot_isinstance ((av_cons (ev_var 1) (av_cons (ev_ty T.z_str b_str) av_nil)).ga (isi_str (hkn2 d hd) ⟨_, rfl, fun hs => ?_, fun hs => ?_⟩))
        · cases d <;> simp [isStrD] at hs
          refine ge_one (ge_cmp (op_inU hu5) rfl ((ev_var 1).ge ((ev_glob T.r_ACTIONS.glob).ge (in_strs rfl ?_))))
          rw [isAct_str]
          exact fin _ rfl
        · exact fin _ (by cases d <;> simp_all [isStrD, isAct])
      · obtain ⟨rfl, rfl⟩ := hP
        refine ga_nil (all_lst (bs := ds.map isAct) (by simp) ?_)
        have : isRule (.tup ds) = (ds.map isAct).all id := by
          simp only [isRule, List.all_map]
          simp [h6]
        rw [this] at hk
        exact hk
  · refine ⟨fun _ => ?_, fun z => nomatch z⟩
    refine gb_one (gs_ret (ev_bl.ge ?_))
    have : isRule d = false := by cases d <;> simp_all [isTupD, isRule]
    rw [this] at hk
    exact hk
def R_Book_init (C CR : Addr) : RSp := fun ds M k kx => ∃ (a : Addr) (six : List D), ds = .hdl a :: six ∧ M = [(a, .ins C [] [])] ∧ six.length = 6 ∧ (∀ d ∈ six, knR d = true) ∧
  ((six.all isRule = true ∧ k .non [(a, .ins C ["row"] [.tup six])]) ∨ (∃ (i : Nat) (e : D), six[i]? = some e ∧ isRule e = false ∧ (∀ d ∈ six.take i, isRule d = true) ∧ kx (.ref CR) [("door", .str (doors.getD i ""))] [(a, .ins C [] [])]))
theorem sc_Book_init : FnScope ["self", "put", "look", "alter", "back", "pay", "again", "row", "door", "rule"] ["self", "put", "look", "alter", "back", "pay", "again"] (defScope s_Book_init) := ⟨rfl, rfl, rfl, by decide +kernel, rfl, by decide +kernel, by decide +kernel⟩
theorem ok_Book_init {f : Addr} {fd : FuncData} {C CR : Addr} {dvs : List V} {kws : List (Str × V)} (F : FunD K "__init__" "Book.__init__" (defArgs s_Book_init) (defBody s_Book_init) (defScope s_Book_init) dvs kws f fd) (T : Txt K mg) (F_is_rule : FnD P w K mg base 1 "is_rule" [] R_is_rule) (clB : Cls K C) (na_row : NoAttr K C "row") (F_NoRule : ExD P w K mg base "NoRule" CR "door") : FnOk P w K mg base (L2.CX P w) 3 f fd ["self", "put", "look", "alter", "back", "pay", "again"] (spD K (R_Book_init C CR)) := by
  have nd := sc_Book_init.nd
  refine fn_okD F sc_Book_init (fun ds M k kx H0 => by obtain ⟨a, six, rfl, rfl, hl, hkn, hk⟩ := H0; simp [hl]) fun cdv A outer s H E ds M k kx hr H0 => ?_
  obtain ⟨a, six, rfl, rfl, hl, hkn, hk⟩ := H0
  obtain ⟨d0, d1, d2, d3, d4, d5, rfl⟩ := six_getD hl
  have hu := hr.units
  have hu5 := units65 hr
  refine gb_cons (gs_set 7 ?_ nd)
  refine ((ev_tup (av_cons (ev_var 1) (av_cons (ev_var 2) (av_cons (ev_var 3) (av_cons (ev_var 4) (av_cons (ev_var 5) (av_cons (ev_var 6) av_nil)))))))).ge ?_
  refine gb_cons (gs_for (passes_of rfl) rfl ?_)
  refine gi_zipT T.z_zip ?_
  refine ((av_cons (ev_glob T.r_DOORS.glob) (av_cons (ev_var 7) av_nil))).ga ?_
  refine ⟨_, _, rfl, ?_⟩
  refine ⟨fun i Γ M => ∃ (x y : Option D), Γ = [some (.hdl a), some d0, some d1, some d2, some d3, some d4, some d5, some (.tup [d0, d1, d2, d3, d4, d5]), x, y] ∧ (∀ d ∈ [d0, d1, d2, d3, d4, d5].take i, isRule d = true) ∧ M = [(a, .ins C [] [])], ⟨none, none, rfl, by simp, rfl⟩, fun _ _ _ _ _ => trivial, fun i d Γ M hi hit hP => ?_, fun Γ M hP => ?_⟩
  · obtain ⟨x, y, rfl, hall, rfl⟩ := hP
    obtain ⟨e1, e2, h1, h2, rfl⟩ := hit
    refine gg_tup rfl ?_ rfl
    refine ggs_cons ?_
    refine gg_name 8 ?_ nd
    refine ggs_cons ?_
    refine gg_name 9 ?_ nd
    refine ggs_nil ?_
    refine gb_cons (gs_if ?_)
    refine gt_not ?_
    refine gt_val ?_
    refine ge_call F_is_rule hr (by decide) ?_
    refine ((av_cons (ev_var 9) av_nil)).ga ?_
    refine ⟨[], by simp, by simp, e2, rfl, rfl, hkn e2 (List.mem_of_getElem? h2), ⟨rfl, ?_⟩⟩
    refine ⟨_, rfl, ?_⟩
    refine ⟨fun hb1 => ?_, fun hb1 => ?_⟩
    · have hb1 := hb1
      refine gb_one (gs_raise1 F_NoRule rfl hr (by decide) ?_)
      refine ((ev_var 8)).ge ?_
      have hb2 : isRule e2 = false := by simpa using hb1
      rcases hk with ⟨hk, _⟩ | ⟨i2, e, q1, q2, q3, hk⟩
      · exact absurd (List.all_eq_true.mp hk e2 (List.mem_of_getElem? h2)) (by rw [hb2]; simp)
      · obtain rfl : i = i2 := first_eq h2 hb2 hall q1 q2 q3
        rw [List.getElem?_map] at h1
        cases hh : doors[i]? with
        | none => rw [hh] at h1; cases h1
        | some z =>
          rw [hh] at h1
          cases h1
          rw [List.getD_eq_getElem?_getD, hh] at hk
          exact hk
    · have hb1 := hb1
      refine gb_nil ?_
      refine gb_nil ?_
      exact ⟨_, _, rfl, fun d hd => (mem_take_succ h2 hd).elim (hall d) fun q => by rw [q]; simpa using hb1, rfl⟩
  · obtain ⟨x, y, rfl, hall, rfl⟩ := hP
    refine gb_cons (gs_fld ?_)
    refine ((ev_var 7)).ge ?_
    refine ((ev_var 0)).ge ?_
    refine ⟨0, _, _, _, _, _, _, rfl, rfl, clB, na_row, by decide, .new (by simp), ?_⟩
    refine gb_nil ?_
    rcases hk with ⟨_, hk⟩ | ⟨i, e, h1, h2, _⟩
    · exact hk
    · exact absurd (hall e (List.mem_of_getElem? (i := i) (by have q6 := (List.getElem?_eq_some_iff.mp h1).1; simp at q6; rw [List.getElem?_take, if_pos (by simp [doors]; omega)]; exact h1))) (by rw [h2]; simp)
def R_Book_rule (C CD : Addr) : RSp := fun ds M k kx => ∃ (w : D) (six : List D) (d : D), ds = [w, d] ∧ ObjD M w C ["row"] [.tup six] ∧ kn d = true ∧
  ((∃ (s : Str) (x : D), d = .str s ∧ s ∈ doors ∧ six[doors.idxOf s]? = some x ∧ k x M) ∨ (isDoor d = false ∧ kx (.ref CD) [("door", d)] M))
theorem sc_Book_rule : FnScope ["self", "door"] ["self", "door"] (defScope s_Book_rule) := ⟨rfl, rfl, rfl, by decide +kernel, rfl, by decide +kernel, by decide +kernel⟩
theorem ok_Book_rule {f : Addr} {fd : FuncData} {C CD : Addr} (F : Fun K "rule" "Book.rule" s_Book_rule f fd) (T : Txt K mg) (F_is_door : FnD P w K mg base 1 "is_door" [] R_is_door) (clB : Cls K C) (na_row : NoAttr K C "row") (F_NoDoor : ExD P w K mg base "NoDoor" CD "door") : FnOk P w K mg base (L2.CX P w) 3 f fd ["self", "door"] (spD K (R_Book_rule C CD)) := by
  have nd := sc_Book_rule.nd
  refine fn_ok F sc_Book_rule (fun ds M k kx H0 => by obtain ⟨w, six, d, rfl, ob, hkn, hk⟩ := H0; rfl) fun cdv A outer s H E ds M k kx hr H0 => ?_
  obtain ⟨w, six, d, rfl, ob, hkn, hk⟩ := H0
  have hu := hr.units
  have hu5 := units65 hr
  refine gb_cons (gs_if (gt_not (gt_val (ge_call F_is_door hr (by decide) ((av_cons (ev_var 1) av_nil).ga ⟨[], by simp, by simp, d, rfl, rfl, hkn, rfl, ⟨_, rfl, ?_⟩⟩)))))
  refine ⟨fun hb => ?_, fun hb => ?_⟩ <;> rw [merge_nil]
  · refine gb_one (gs_raise1 F_NoDoor rfl hr (by decide) ((ev_var 1).ge ?_))
    rcases hk with ⟨s, x, rfl, hs, _⟩ | ⟨_, hk⟩
    · rw [isDoor_str hs] at hb; exact absurd hb (by simp)
    · exact hk
  · refine gb_nil ?_
    rcases hk with ⟨s, x, rfl, hs, hx, hk⟩ | ⟨h, _⟩
    · obtain ⟨h6, h1, h2⟩ := idx_doors hs
      have hl := (List.getElem?_eq_some_iff.mp hx).1
      exact gb_one (gs_ret (ge_ix ix_seq (fun _ _ => rfl) (ge_fld 0 ((ev_var 0).ge ⟨C, _, _, _, clB, na_row, ob, by simp, rfl, rfl, ge_gindex T.r_DOORS ((ev_var 1).ge ⟨s, doors.idxOf s, rfl, h1, h2, ix_tup' (j := doors.idxOf s) (.inl ⟨by omega, rfl, hl⟩) hx hk⟩)⟩))))
    · rw [h] at hb; exact absurd hb (by simp)
def R_Book_rules (C : Addr) : RSp := fun ds M k _ => ∃ (w : D) (six : List D), ds = [w] ∧ ObjD M w C ["row"] [.tup six] ∧ k (.tup six) M
theorem sc_Book_rules : FnScope ["self"] ["self"] (defScope s_Book_rules) := ⟨rfl, rfl, rfl, by decide +kernel, rfl, by decide +kernel, by decide +kernel⟩
theorem ok_Book_rules {f : Addr} {fd : FuncData} {C : Addr} (F : Fun K "rules" "Book.rules" s_Book_rules f fd) (T : Txt K mg) (clB : Cls K C) (na_row : NoAttr K C "row") : FnOk P w K mg base (L2.CX P w) 1 f fd ["self"] (spD K (R_Book_rules C)) := by
  have nd := sc_Book_rules.nd
  refine fn_ok F sc_Book_rules (fun ds M k kx H0 => by obtain ⟨w, six, rfl, ob, hk⟩ := H0; rfl) fun cdv A outer s H E ds M k kx hr H0 => ?_
  obtain ⟨w, six, rfl, ob, hk⟩ := H0
  have hu := hr.units
  have hu5 := units65 hr
  exact gb_one (gs_ret (ge_fld 0 ((ev_var 0).ge ⟨C, _, _, _, clB, na_row, ob, by simp, rfl, rfl, hk⟩)))
def R__law_line : RSp := fun ds M k _ => ∃ (d : Str) (r : Rule), ds = [.str d, dR r] ∧ M = [] ∧ d ∈ doors ∧ OkR r ∧ k (.str (lineT d r)) []
theorem sc__law_line : FnScope ["door", "rule"] ["door", "rule"] (defScope s__law_line) := ⟨rfl, rfl, rfl, by decide +kernel, rfl, by decide +kernel, by decide +kernel⟩
theorem ok__law_line {f : Addr} {fd : FuncData}  (F : Fun K "_law_line" "_law_line" s__law_line f fd) (T : Txt K mg) : FnOk P w K mg base (L2.CX P w) 1 f fd ["door", "rule"] (spD K R__law_line) := by
  have nd := sc__law_line.nd
  refine fn_ok F sc__law_line (fun ds M k kx H0 => by obtain ⟨d, r, rfl, rfl, hd, ok, hk⟩ := H0; rfl) fun cdv A outer s H E ds M k kx hr H0 => ?_
  obtain ⟨d, r, rfl, rfl, hd, ok, hk⟩ := H0
  have hu := hr.units
  have hu5 := units65 hr
  have b1 := door_len hd
  refine gb_one (gs_ret (ge_join (ev_str.ge ⟨_, rfl, ?_⟩)))
  refine ge_bin op_addU ?_
  refine (ev_lst (av_cons (ev_bin op_addU (ev_var 0) ev_str (add_str (by show d.length + 1 ≤ 16777216; omega) ⟨rfl, rfl⟩)) av_nil)).ge ?_
  refine ge_callT call_list_of T.z_list PyProof.Rows.boot_list ((av_cons (ev_var 1) av_nil).ga (lst_tup ?_))
  refine add_lst (by have := ok.len; simp; omega) ?_
  exact ⟨(d ++ ":") :: r, .lst, line_fit hd ok, hk⟩
def R__law_book_text : RSp := fun ds M k _ => ∃ (s2 : Six), ds = [dS s2] ∧ M = [] ∧ OkS s2 ∧ k (.str (bookT s2)) []
theorem sc__law_book_text : FnScope ["rules", "doors", "k"] ["rules"] (defScope s__law_book_text) := ⟨rfl, rfl, rfl, by decide +kernel, rfl, by decide +kernel, by decide +kernel⟩
theorem ok__law_book_text {f : Addr} {fd : FuncData}  (F : Fun K "_law_book_text" "_law_book_text" s__law_book_text f fd) (T : Txt K mg) (F__law_line : FnD P w K mg base 1 "_law_line" [] R__law_line) : FnOk P w K mg base (L2.CX P w) 2 f fd ["rules"] (spD K R__law_book_text) := by
  have nd := sc__law_book_text.nd
  refine fn_ok F sc__law_book_text (fun ds M k kx H0 => by obtain ⟨s2, rfl, rfl, ok2, hk⟩ := H0; rfl) fun cdv A outer s H E ds M k kx hr H0 => ?_
  obtain ⟨s2, rfl, rfl, ok2, hk⟩ := H0
  have hu := hr.units
  have hu5 := units65 hr
  refine gb_cons (gs_set 1 ?_ nd)
  refine ((ev_lst (av_cons ev_str (av_cons ev_str (av_cons ev_str (av_cons ev_str (av_cons ev_str (av_cons ev_str av_nil)))))))).ge ?_
  refine gb_one (gs_ret ?_)
  refine ge_join ?_
  refine (ev_str).ge ?_
  refine ⟨_, rfl, ?_⟩
  refine ge_lc [("k", 2)] rfl nd (blkOk_by (by show blkC ["rules", "doors", "k"] (defScope s__law_book_text) _ _ = true; decide +kernel)) ?_
  refine gi_range1 T.z_range ?_
  refine ((av_cons ev_int av_nil)).ga ?_
  refine ⟨_, rfl, by walk_at "sd", by walk_at "sd", ?_⟩
  refine ⟨fun i acc M => acc = ((List.range i).map fun i => lineT (doors.getD i "") (s2.getD i [])).map D.str ∧ M = [], ⟨rfl, rfl⟩, fun _ _ _ _ _ => trivial, fun i d acc M hi hit hP => ?_, fun acc M hP => ?_⟩
  · obtain ⟨rfl, rfl⟩ := hP
    obtain rfl : d = .int (0 + (i : Int)) := hit
    have hi6 : i < 6 := by simpa using hi
    obtain ⟨dn, hdn, hdm, hix⟩ := door_at hi6
    obtain ⟨r6, hr6⟩ : ∃ r, s2[i]? = some r := ⟨_, List.getElem?_eq_getElem (by rw [ok2.len]; omega)⟩
    have ok6 := ok2.ok r6 (List.mem_of_getElem? hr6)
    intro _ _ _ _ _
    refine cg_name 2 ?_ nd
    intro _ _ _ _ _
    refine gts_nil ⟨fun _ => ?_, fun z => nomatch z⟩
    intro _ _ _ _ _
    refine ge_call F__law_line hr (by decide) ?_
    refine ((av_cons (ev_ix ix_seq (fun _ _ => rfl) (ev_var 1) (ev_var 2) (ix_lst' (j := i) (d := .str dn) (.inl ⟨by omega, by omega, by simp [doors]; omega⟩) (names_at hdn) ⟨rfl, rfl⟩)) (av_cons (ev_ix ix_seq (fun _ _ => rfl) (ev_var 0) (ev_var 2) (ix_tup' (j := i) (d := dR r6) (.inl ⟨by omega, by omega, by simp; rw [ok2.len]; omega⟩) (by rw [List.getElem?_map, hr6]; rfl) ⟨rfl, rfl⟩)) av_nil))).ga ?_
    refine ⟨[], by simp, by simp, dn, r6, rfl, rfl, hdm, ok6, ⟨rfl, ?_⟩⟩
    exact ⟨by simp; omega, by rw [List.range_succ]; simp [List.getD_eq_getElem?_getD, hdn, hr6], rfl⟩
  · obtain ⟨rfl, rfl⟩ := hP
    refine ⟨_, .lst, book_fit ok2, ?_⟩
    exact hk
def R_book_text (C : Addr) : RSp := fun ds M k _ => ∃ (s2 : Six), ds = [bk C s2] ∧ M = [] ∧ OkS s2 ∧ k (.str (bookT s2)) []
theorem sc_book_text : FnScope ["book", "door"] ["book"] (defScope s_book_text) := ⟨rfl, rfl, rfl, by decide +kernel, rfl, by decide +kernel, by decide +kernel⟩
theorem ok_book_text {f : Addr} {fd : FuncData} {C CD : Addr} (F : Fun K "book_text" "book_text" s_book_text f fd) (T : Txt K mg) (F_Book_rule : MtD P w K mg base 3 C "rule" [] (R_Book_rule C CD)) : FnOk P w K mg base (L2.CX P w) 4 f fd ["book"] (spD K (R_book_text C)) := by
  have nd := sc_book_text.nd
  refine fn_ok F sc_book_text (fun ds M k kx H0 => by obtain ⟨s2, rfl, rfl, ok2, hk⟩ := H0; rfl) fun cdv A outer s H E ds M k kx hr H0 => ?_
  obtain ⟨s2, rfl, rfl, ok2, hk⟩ := H0
  have hu := hr.units
  have hu5 := units65 hr
  refine gb_one (gs_ret ?_)
  refine ge_join ?_
  refine (ev_str).ge ?_
  refine ⟨_, rfl, ?_⟩
  refine ge_lc [("door", 1)] rfl nd (blkOk_by (by show blkC ["book", "door"] (defScope s_book_text) _ _ = true; decide +kernel)) ?_
  refine gi_tup ?_
  refine ((ev_glob T.r_DOORS.glob)).ge ?_
  refine ⟨_, rfl, ?_⟩
  refine ⟨fun i acc M => acc = ((List.range i).map fun i => lineT (doors.getD i "") (s2.getD i [])).map D.str ∧ M = [], ⟨rfl, rfl⟩, fun _ _ _ _ _ => trivial, fun i d acc M hi hit hP => ?_, fun acc M hP => ?_⟩
  · obtain ⟨rfl, rfl⟩ := hP
    have hi6 : i < 6 := by simpa [doors] using hi
    obtain ⟨dn, hdn, hdm, hix⟩ := door_at hi6
    obtain rfl : d = .str dn := by have h1 : (doors.map D.str)[i]? = some d := hit; rw [names_at hdn] at h1; exact (Option.some.inj h1).symm
    obtain ⟨r6, hr6⟩ : ∃ r, s2[i]? = some r := ⟨_, List.getElem?_eq_getElem (by rw [ok2.len]; omega)⟩
    have ok6 := ok2.ok r6 (List.mem_of_getElem? hr6)
    have b1 := door_len hdm
    have ok6l := ok6.len
    intro _ _ _ _ _
    refine cg_name 1 ?_ nd
    intro _ _ _ _ _
    refine gts_nil ⟨fun _ => ?_, fun z => nomatch z⟩
    intro _ _ _ _ _
    refine ge_join ?_
    refine (ev_str).ge ?_
    refine ⟨_, rfl, ?_⟩
    refine ge_lst ?_
    refine ga_cons ?_
    refine ge_fstr (ge_fmtS ((ev_var 1).ge ⟨dn, rfl, by omega, dn, rfl, by rw [empty_app]; omega, ?_⟩))
    refine ev_str.ge ⟨_, rfl, by rw [empty_app]; show (dn ++ (":" : Str)).length ≤ 16777216; rw [PySem.Str.length_append]; show dn.length + 1 ≤ _; omega, ?_⟩
    rw [empty_app]
    refine ga_star ?_
    refine ge_meth F_Book_rule hr (by decide) ?_
    refine ((ev_var 0)).ge ?_
    refine ⟨["row"], [dS s2], .inl rfl, by decide, ?_⟩
    refine ((av_cons (ev_var 1) av_nil)).ga ?_
    refine ⟨[], by simp, by simp, _, s2.map dR, .str dn, rfl, .inl rfl, rfl, .inl ⟨dn, dR r6, rfl, hdm, by rw [hix, List.getElem?_map, hr6]; rfl, rfl, ?_⟩⟩
    refine ⟨_, .tup, ?_⟩
    refine ga_nil ?_
    refine ⟨by walk_at "sd", ?_⟩
    refine ⟨(dn ++ ":") :: r6, by rw [List.append_nil]; exact .lst, line_fit hdm ok6, ?_⟩
    exact ⟨by simp; omega, by rw [List.range_succ]; simp [List.getD_eq_getElem?_getD, hdn, hr6, lineT], rfl⟩
  · obtain ⟨rfl, rfl⟩ := hP
    refine ⟨_, .lst, book_fit ok2, ?_⟩
    exact hk
def R__law_same (n : Nat) : RSp := fun ds M k _ => ∃ d : D, ds = [d, d] ∧ M = [] ∧ rfx n d = true ∧ k (.bl true) []
theorem sc__law_same : FnScope ["actual", "expected", "k"] ["actual", "expected"] (defScope s__law_same) := ⟨rfl, rfl, rfl, by decide +kernel, rfl, by decide +kernel, by decide +kernel⟩
theorem ok__law_same {f : Addr} {fd : FuncData} {n : Nat} (F : Fun K "_law_same" "_law_same" s__law_same f fd) (T : Txt K mg) (IH : ∀ m, n = m + 1 → FnD P w K mg base (m + 1) "_law_same" [] (R__law_same m)) : FnOk P w K mg base (L2.CX P w) (n + 1) f fd ["actual", "expected"] (spD K (R__law_same n)) := by
  have nd := sc__law_same.nd
  refine fn_ok F sc__law_same (fun ds M k kx H0 => by obtain ⟨d, rfl, rfl, hx, hk⟩ := H0; rfl) fun cdv A outer s H E ds M k kx hr H0 => ?_
  obtain ⟨d, rfl, rfl, hx, hk⟩ := H0
  have hu := hr.units
  have hu5 := units65 hr
  cases d with
  | str s =>
    refine gb_cons (gs_if (gt_val (ge_isiT2 T.z_isinstance T.z_list b_list T.z_tuple b_tuple ((ev_var 1).ge ⟨"str", false, false, rfl, by decide +kernel, by decide +kernel, _, rfl, fun z => absurd z (by decide), fun _ => ?_⟩))))
    refine gb_nil ?_
    refine gb_cons (gs_if (gt_val (ge_callB call_isi T.z_isinstance PyProof.Rows.boot_isinstance ((av_cons (ev_var 1) (av_cons (ev_ty T.z_str b_str) av_nil)).ga (isi_str rfl ⟨_, rfl, fun _ => ?_, fun z => absurd z (by simp [isStrD])⟩)))))
    refine gb_one (gs_ret (ge_and (ge_callB call_isi T.z_isinstance PyProof.Rows.boot_isinstance ((av_cons (ev_var 0) (av_cons (ev_ty T.z_str b_str) av_nil)).ga (isi_str rfl ⟨_, rfl, fun _ => ?_, fun z => absurd z (by simp [isStrD])⟩)))))
    refine ge_one (ge_cmp (op_eqU hu) (nomark _) ((ev_var 0).ge ((ev_var 1).ge (eq_str ?_))))
    rw [decide_eq_true rfl]
    exact hk
  | tup ds =>
    obtain ⟨m, rfl⟩ : ∃ m, n = m + 1 := by cases n with
      | zero => simp [rfx] at hx
      | succ m => exact ⟨m, rfl⟩
    have hx2 : ds.length ≤ 1000 ∧ ∀ d ∈ ds, rfx m d = true := by simp only [rfx, Bool.and_eq_true, decide_eq_true_eq, List.all_eq_true] at hx; exact hx
    obtain ⟨hl, hx3⟩ := hx2
    have IHm := IH m rfl
    refine gb_cons (gs_if (gt_val (ge_isiT2 T.z_isinstance T.z_list b_list T.z_tuple b_tuple ((ev_var 1).ge ⟨"tuple", false, true, rfl, by decide +kernel, by decide +kernel, _, rfl, fun _ => ?_, fun z => absurd z (by decide)⟩))))
    refine gb_cons (gs_if ((tv_cmp (op_neU hu) (nomark _) (ev_callB call_isi T.z_isinstance PyProof.Rows.boot_isinstance (av_cons (ev_var 0) (av_cons (ev_ty T.z_list b_list) av_nil)) (isi_lst rfl ⟨rfl, rfl⟩)) (ev_callB call_isi T.z_isinstance PyProof.Rows.boot_isinstance (av_cons (ev_var 1) (av_cons (ev_ty T.z_list b_list) av_nil)) (isi_lst rfl ⟨rfl, rfl⟩)) (ne_dat (n := 0) (m := 0) rfl rfl ⟨rfl, rfl⟩)).gt ⟨fun z => absurd z (by simp [py, PyData.eqv]), fun _ => ?_⟩))
    refine gb_nil ?_
    refine gb_cons (gs_if ((tv_bool (pv_or (tv_cmp (op_neU hu) (nomark _) (ev_callB call_isi T.z_isinstance PyProof.Rows.boot_isinstance (av_cons (ev_var 0) (av_cons (ev_ty T.z_tuple b_tuple) av_nil)) (isi_tup rfl ⟨rfl, rfl⟩)) (ev_callB call_isi T.z_isinstance PyProof.Rows.boot_isinstance (av_cons (ev_var 1) (av_cons (ev_ty T.z_tuple b_tuple) av_nil)) (isi_tup rfl ⟨rfl, rfl⟩)) (ne_dat (n := 0) (m := 0) rfl rfl ⟨rfl, rfl⟩))
      (fun _ => pv_or1 (tv_cmp (op_neU hu) (nomark _) (ev_callB call_len T.z_len PySem.boot_len (av_cons (ev_var 0) av_nil) (len_tup ⟨rfl, rfl⟩)) (ev_callB call_len T.z_len PySem.boot_len (av_cons (ev_var 1) av_nil) (len_tup ⟨rfl, rfl⟩)) (ne_int ⟨rfl, rfl⟩))))).gt ⟨fun z => absurd z (by simp [py, PyData.eqv]), fun _ => ?_⟩))
    refine gb_nil ?_
    refine gb_cons (gs_for (passes_of rfl) rfl ?_)
    refine gi_range1 T.z_range ?_
    refine (av_cons (ev_callB call_len T.z_len PySem.boot_len (av_cons (ev_var 1) av_nil) (len_tup ⟨rfl, rfl⟩)) av_nil).ga ?_
    refine ⟨_, rfl, by omega, by omega, ?_⟩
    refine ⟨fun i Γ M => ∃ x, Γ = [some (.tup ds), some (.tup ds), x] ∧ M = [], ⟨none, rfl, rfl⟩, fun _ _ _ _ _ => trivial, fun i d Γ M hi hit hP => ?_, fun Γ M hP => ?_⟩
    · obtain ⟨x, rfl, rfl⟩ := hP
      obtain rfl : d = .int (0 + (i : Int)) := hit
      have hil : i < ds.length := by simpa using hi
      refine gg_name 2 ?_ nd
      refine gb_cons (gs_if (gt_not (gt_val (ge_call IHm hr (by omega) ((av_cons (ev_ix ix_seq (fun _ _ => rfl) (ev_var 0) (ev_var 2) (ix_tup' (j := i) (d := ds[i]) (.inl ⟨by omega, by omega, hil⟩) (List.getElem?_eq_getElem hil) ⟨rfl, rfl⟩)) (av_cons (ev_ix ix_seq (fun _ _ => rfl) (ev_var 1) (ev_var 2) (ix_tup' (j := i) (d := ds[i]) (.inl ⟨by omega, by omega, hil⟩) (List.getElem?_eq_getElem hil) ⟨rfl, rfl⟩)) av_nil)).ga
        ⟨[], by simp, by simp, ds[i], rfl, rfl, hx3 _ (List.getElem_mem hil), ⟨rfl, _, rfl, fun z => absurd z (by decide), fun _ => ?_⟩⟩)))))
      refine gb_nil ?_
      refine gb_nil ?_
      exact ⟨_, rfl, rfl⟩
    · obtain ⟨x, rfl, rfl⟩ := hP
      exact gb_one (gs_ret (ev_bl.ge hk))
  | _ => simp [rfx] at hx
def R__law_texted (C : Addr) : RSp := fun ds M k _ => ∃ (s2 : Six), ds = [bk C s2, dS s2] ∧ M = [] ∧ OkS s2 ∧ k (.bl true) []
theorem sc__law_texted : FnScope ["work", "rules"] ["work", "rules"] (defScope s__law_texted) := ⟨rfl, rfl, rfl, by decide +kernel, rfl, by decide +kernel, by decide +kernel⟩
theorem ok__law_texted {f : Addr} {fd : FuncData} {C : Addr} (F : Fun K "_law_texted" "_law_texted" s__law_texted f fd) (T : Txt K mg) (F_book_text : FnD P w K mg base 4 "book_text" [] (R_book_text C)) (F__law_book_text : FnD P w K mg base 2 "_law_book_text" [] R__law_book_text) (F_Book_rules : MtD P w K mg base 1 C "rules" [] (R_Book_rules C)) (F__law_same : FnD P w K mg base 3 "_law_same" [] (R__law_same 2)) : FnOk P w K mg base (L2.CX P w) 5 f fd ["work", "rules"] (spD K (R__law_texted C)) := by
  have nd := sc__law_texted.nd
  refine fn_ok F sc__law_texted (fun ds M k kx H0 => by obtain ⟨s2, rfl, rfl, ok2, hk⟩ := H0; rfl) fun cdv A outer s H E ds M k kx hr H0 => ?_
  obtain ⟨s2, rfl, rfl, ok2, hk⟩ := H0
  have hu := hr.units
  have hu5 := units65 hr
  refine gb_one (gs_ret ?_)
  refine ge_and ?_
  refine ge_call F__law_same hr (by decide) ?_
  refine ga_cons ?_
  refine ge_call F_book_text hr (by decide) ?_
  refine ((av_cons (ev_var 0) av_nil)).ga ?_
  refine ⟨[], by simp, by simp, s2, rfl, rfl, ok2, ⟨rfl, ?_⟩⟩
  refine ga_cons ?_
  refine ge_call F__law_book_text hr (by decide) ?_
  refine ((av_cons (ev_var 1) av_nil)).ga ?_
  refine ⟨[], by simp, by simp, s2, rfl, rfl, ok2, ⟨rfl, ?_⟩⟩
  refine ga_nil ?_
  refine ⟨[], by simp, by simp, .str (bookT s2), rfl, rfl, rfl, ⟨rfl, ?_⟩⟩
  refine ⟨_, rfl, fun hp1 => ?_, fun hp1 => ?_⟩
  · have hp1 := hp1
    refine ge_one ?_
    refine ge_call F__law_same hr (by decide) ?_
    refine ga_cons ?_
    refine ge_meth0 F_Book_rules hr (by decide) ?_
    refine ((ev_var 0)).ge ?_
    refine ⟨["row"], [dS s2], .inl rfl, by decide, [], by simp, by simp, _, s2.map dR, rfl, .inl rfl, ⟨rfl, ?_⟩⟩
    refine ga_cons ?_
    refine ((ev_var 1)).ge ?_
    refine ga_nil ?_
    refine ⟨[], by simp, by simp, dS s2, rfl, rfl, rfx_S ok2, ⟨rfl, ?_⟩⟩
    exact hk
  · have hp1 := hp1
    exact absurd hp1 (by decide)
def R_law (C : Addr) : RSp := fun ds M k _ => ∃ (ns : List Int), ds = [.seq (ns.map D.int)] ∧ M = [] ∧ ns.length ≤ 63 ∧ ∀ M', k (.bl true) M'
theorem sc_law : FnScope ["script", "held", "k", "rules", "work"] ["script"] (defScope s_law) := ⟨rfl, rfl, rfl, by decide +kernel, rfl, by decide +kernel, by decide +kernel⟩
theorem ok_law {f : Addr} {fd : FuncData} {C CR : Addr} (F : Fun K "law" "law" s_law f fd) (T : Txt K mg) (F__law_well : FnD P w K mg base 1 "_law_well" [] R__law_well) (F__law_rules : FnD P w K mg base 3 "_law_rules" [] R__law_rules) (F__law_texted : FnD P w K mg base 5 "_law_texted" [] (R__law_texted C)) (F__law_book_text : FnD P w K mg base 2 "_law_book_text" [] R__law_book_text) (F_B6 : MkD P w K mg base 3 C "Book" [] (R_Book_init C CR)) (F_book_textK : FnK P w K mg base 4 "book_text" 0 ["book"] [(2, 0)] [] (R_book_text C)) (F__law_same : FnD P w K mg base 3 "_law_same" [] (R__law_same 2)) : FnOk P w K mg base (L2.CX P w) 6 f fd ["script"] (spD K (R_law C)) := by
  have nd := sc_law.nd
  refine fn_ok F sc_law (fun ds M k kx H0 => by obtain ⟨ns, rfl, rfl, hlen, hk⟩ := H0; rfl) fun cdv A outer s H E ds M k kx hr H0 => ?_
  obtain ⟨ns, rfl, rfl, hlen, hk⟩ := H0
  have hu := hr.units
  have hu5 := units65 hr
  refine gb_cons (gs_set 1 ?_ nd)
  refine ge_lstM ?_
  refine (av_nil).ga ?_
  refine ⟨by walk_at "sd", fun q_held => ?_⟩
  refine gb_cons (gs_for (passes_of rfl) rfl ?_)
  refine gi_range1 T.z_range ?_
  refine ((av_cons (ev_callB (call_max2 rfl) T.z_max PyProof.Rows.boot_max (av_cons ev_int (av_cons (ev_callB call_len T.z_len PySem.boot_len (av_cons (ev_var 0) av_nil) (len_seq ⟨rfl, rfl⟩)) av_nil)) (max2_int ⟨rfl, rfl⟩)) av_nil)).ga ?_
  refine ⟨_, rfl, by walk_at "sd", by walk_at "sd", ?_⟩
  refine ⟨fun i Γ M => ∃ (hs : List Six) (a b c : Option D), Γ = [some (.seq (ns.map D.int)), some (.hdl q_held), a, b, c] ∧ hs.length = i ∧ (∀ s ∈ hs, OkS s) ∧ M = [(q_held, .lst (hs.map (fun s : Six => D.tup [bk C s, dS s])))], ⟨[], none, none, none, rfl, rfl, by simp, rfl⟩, fun _ _ _ _ _ => trivial, fun i d Γ M hi hit hP => ?_, fun Γ M hP => ?_⟩
  · obtain ⟨hs, a, b, c, rfl, hln, hok3, rfl⟩ := hP
    obtain rfl : d = .int (0 + (i : Int)) := hit
    have hi8 : i < 64 := lt_max1 hlen hi
    refine gg_name 2 ?_ nd
    refine gb_cons (gs_set 3 ?_ nd)
    refine ge_call F__law_rules hr (by decide) ?_
    refine ga_cons ?_
    refine ge_call F__law_well hr (by decide) ?_
    refine ((av_cons (ev_var 0) (av_cons (ev_var 2) av_nil))).ga ?_
    refine ⟨[], by simp, by simp, ns, (0 + (i : Int)), rfl, rfl, by walk_at "om", by walk_at "om", fun p_w j0 jo0 => ⟨rfl, ?_⟩⟩
    refine ga_nil ?_
    refine ⟨[1], by decide, by simp [merge], _, _, _, rfl, rfl, jo0, by walk_at "sd", fun s2 j2 ok2 jo2 => ⟨rfl, ?_⟩⟩
    refine gb_drop (sub_one _ (p_w, j2.mo)) ?_
    have hok := ok2.ok
    obtain ⟨r0, r1, r2, r3, r4, r5, rfl⟩ := six_get ok2.len
    refine gb_cons (gs_set 4 ?_ nd)
    refine ge_frzI ?_
    refine ge_make F_B6 hr (by decide) ?_
    refine ((av_cons (ev_ix ix_seq (fun _ _ => rfl) (ev_var 3) ev_int (ix_tup' (j := 0) (d := dR r0) (by simp) rfl ⟨rfl, rfl⟩)) (av_cons (ev_ix ix_seq (fun _ _ => rfl) (ev_var 3) ev_int (ix_tup' (j := 1) (d := dR r1) (by simp) rfl ⟨rfl, rfl⟩)) (av_cons (ev_ix ix_seq (fun _ _ => rfl) (ev_var 3) ev_int (ix_tup' (j := 2) (d := dR r2) (by simp) rfl ⟨rfl, rfl⟩)) (av_cons (ev_ix ix_seq (fun _ _ => rfl) (ev_var 3) ev_int (ix_tup' (j := 3) (d := dR r3) (by simp) rfl ⟨rfl, rfl⟩)) (av_cons (ev_ix ix_seq (fun _ _ => rfl) (ev_var 3) ev_int (ix_tup' (j := 4) (d := dR r4) (by simp) rfl ⟨rfl, rfl⟩)) (av_cons (ev_ix ix_seq (fun _ _ => rfl) (ev_var 3) ev_int (ix_tup' (j := 5) (d := dR r5) (by simp) rfl ⟨rfl, rfl⟩)) av_nil))))))).ga ?_
    refine ⟨[], fun x1 => ⟨by simp, by simp, x1, [dR r0, dR r1, dR r2, dR r3, dR r4, dR r5], rfl, rfl, rfl, (all_knR (s := [r0, r1, r2, r3, r4, r5])), .inl ⟨all_rules (s := [r0, r1, r2, r3, r4, r5]) (six_ok hok (by simp)), rfl, rfl, ?_⟩⟩⟩
    refine ⟨1, _, _, _, _, rfl, rfl, ?_⟩
    refine gb_cons (gs_expr ?_)
    refine ge_append ((ev_var 1).ge ⟨⟨0, _, _, rfl, rfl⟩, ?_⟩)
    refine ((ev_tup (av_cons (ev_var 4) (av_cons (ev_var 3) av_nil)))).ge ?_
    refine ⟨0, _, _, rfl, rfl, by walk_at "sd", ?_⟩
    refine gb_cons (gs_if ?_)
    refine gt_bool ?_
    refine gp_or ?_
    refine gt_not ?_
    refine gt_val ?_
    refine ge_call F__law_texted hr (by decide) ?_
    refine ((av_cons (ev_var 4) (av_cons (ev_var 3) av_nil))).ga ?_
    refine ⟨[], by simp, by simp, [r0, r1, r2, r3, r4, r5], rfl, rfl, ok2, ⟨rfl, ?_⟩⟩
    refine ⟨_, rfl, ?_⟩
    refine ⟨fun hp1 => ?_, fun hp1 => ?_⟩
    · have hp1 := hp1
      refine gp_or1 ?_
      refine gt_not ?_
      refine gt_val ?_
      refine ge_call F__law_texted hr (by decide) ?_
      refine ((av_cons (ev_var 4) (av_cons (ev_var 3) av_nil))).ga ?_
      refine ⟨[], by simp, by simp, [r0, r1, r2, r3, r4, r5], rfl, rfl, ok2, ⟨rfl, ?_⟩⟩
      refine ⟨_, rfl, ?_⟩
      refine ⟨fun hb1 => ?_, fun hb1 => ?_⟩
      · have hb1 := hb1
        refine gb_one (gs_ret ?_)
        refine (ev_bl).ge ?_
        exact absurd hb1 (by decide)
      · have hb1 := hb1
        refine gb_nil ?_
        refine gb_nil ?_
        exact ⟨hs ++ [[r0, r1, r2, r3, r4, r5]], _, _, _, rfl, by simp [hln], fun q hq => (List.mem_append.mp hq).elim (hok3 q) fun z => by rw [List.mem_singleton.mp z]; exact ok2, by rw [List.map_append]; rfl⟩
    · have hp1 := hp1
      refine ⟨fun _ => ?_, fun z => nomatch z⟩
      refine gb_one (gs_ret ?_)
      refine (ev_bl).ge ?_
      exact absurd hp1 (by decide)
  · obtain ⟨hs, a, b, c, rfl, hln, hok3, rfl⟩ := hP
    have hn8 : hs.length ≤ 64 := by rw [hln]; have := le_max1 (n := (ns.map D.int).length) (by simpa using hlen); omega
    refine gb_cons (gs_for (passes_of rfl) rfl ?_)
    refine gi_range1 T.z_range ?_
    refine ((av_cons (ev_callB call_len T.z_len PySem.boot_len (av_cons (ev_var 1) av_nil) (len_hdl (p := 0) rfl ⟨rfl, rfl⟩)) av_nil)).ga ?_
    refine ⟨_, rfl, by walk_at "sd", by walk_at "sd", ?_⟩
    refine ⟨fun i Γ M => ∃ (a b c : Option D), Γ = [some (.seq (ns.map D.int)), some (.hdl q_held), a, b, c] ∧ M = [(q_held, .lst (hs.map (fun s : Six => D.tup [bk C s, dS s])))], ⟨_, _, _, rfl, rfl⟩, fun _ _ _ _ _ => trivial, fun i d Γ M hi hit hP => ?_, fun Γ M hP => ?_⟩
    · obtain ⟨a, b, c, rfl, rfl⟩ := hP
      obtain rfl : d = .int (0 + (i : Int)) := hit
      have hil : i < hs.length := by simpa using hi
      refine gg_name 2 ?_ nd
      refine gb_cons (gs_asg ?_)
      refine ge_ix ix_seq (fun _ _ => rfl) ?_
      refine ((ev_var 1)).ge ?_
      refine ((ev_bin op_sub (ev_bin op_sub (ev_callB call_len T.z_len PySem.boot_len (av_cons (ev_var 1) av_nil) (len_hdl (p := 0) rfl ⟨rfl, rfl⟩)) ev_int (sub_int ⟨rfl, rfl⟩)) (ev_var 2) (sub_int ⟨rfl, rfl⟩))).ge ?_
      refine (ix_hdlAny (p := 0) rfl (by walk_at "om") (by walk_at "om") fun d3 hd3 _ => ?_)
      obtain ⟨s3, hm3, rfl⟩ := List.mem_map.mp hd3
      refine gg_tup rfl ?_ rfl
      refine ggs_cons ?_
      refine gg_name 4 ?_ nd
      refine ggs_cons ?_
      refine gg_name 3 ?_ nd
      refine ggs_nil ?_
      refine gb_cons (gs_if ?_)
      refine gt_not ?_
      refine gt_val ?_
      refine ge_call F__law_same hr (by decide) ?_
      refine ga_cons ?_
      refine ge_callK0 F_book_textK hr (by decide) ?_
      refine gk_cons ?_
      refine ((ev_var 4)).ge ?_
      refine gk_nil ?_
      refine ⟨rfl, [], by simp, by simp, s3, rfl, rfl, hok3 s3 hm3, ⟨rfl, ?_⟩⟩
      refine ga_cons ?_
      refine ge_call F__law_book_text hr (by decide) ?_
      refine ((av_cons (ev_var 3) av_nil)).ga ?_
      refine ⟨[], by simp, by simp, s3, rfl, rfl, hok3 s3 hm3, ⟨rfl, ?_⟩⟩
      refine ga_nil ?_
      refine ⟨[], by simp, by simp, .str (bookT s3), rfl, rfl, rfl, ⟨rfl, ?_⟩⟩
      refine ⟨_, rfl, ?_⟩
      refine ⟨fun hb2 => ?_, fun hb2 => ?_⟩
      · have hb2 := hb2
        refine gb_one (gs_ret ?_)
        refine (ev_bl).ge ?_
        exact absurd hb2 (by decide)
      · have hb2 := hb2
        refine gb_nil ?_
        refine gb_nil ?_
        exact ⟨_, _, _, rfl, rfl⟩
    · obtain ⟨a, b, c, rfl, rfl⟩ := hP
      refine gb_one (gs_ret ?_)
      refine (ev_bl).ge ?_
      exact hk _
end
theorem all_mk {l : PySem.W.OpenLaw} {w : World} {K : PySem.W.Frag} {h : Heap} {mg : Str → Option Value} {fa : Addr} (X : K.In h) (G : h.Ns mainGlobals mg) (hfa : mg "law" = some (.ref fa))
    {t_MOST_ACTIONS : Tok}
    {g_DOORS : Addr} {gi_DOORS : Array Value} {gn_DOORS : Nat} {gs_DOORS : Array (Option Value)}
    {g_ACTIONS : Addr} {gi_ACTIONS : Array Value} {gn_ACTIONS : Nat} {gs_ACTIONS : Array (Option Value)}
    {C_Book : Addr}
    {C_NoRule : Addr}
    {f_NoRule_init : Addr} {od_NoRule_init an_NoRule_init : Option Addr} {sl_NoRule_init : Array (Option Value)} {oc_NoRule_init kV_NoRule_init dc_NoRule_init pm_NoRule_init cd_NoRule_init ct_NoRule_init : Value}
    {C_NoDoor : Addr}
    {f_NoDoor_init : Addr} {od_NoDoor_init an_NoDoor_init : Option Addr} {sl_NoDoor_init : Array (Option Value)} {oc_NoDoor_init kV_NoDoor_init dc_NoDoor_init pm_NoDoor_init cd_NoDoor_init ct_NoDoor_init : Value}
    {f__law_well : Addr} {od__law_well an__law_well : Option Addr} {sl__law_well : Array (Option Value)} {oc__law_well kV__law_well dc__law_well pm__law_well cd__law_well ct__law_well : Value}
    {f__law_draw : Addr} {od__law_draw an__law_draw : Option Addr} {sl__law_draw : Array (Option Value)} {oc__law_draw kV__law_draw dc__law_draw pm__law_draw cd__law_draw ct__law_draw : Value}
    {f__law_rule : Addr} {od__law_rule an__law_rule : Option Addr} {sl__law_rule : Array (Option Value)} {oc__law_rule kV__law_rule dc__law_rule pm__law_rule cd__law_rule ct__law_rule : Value}
    {f__law_rules : Addr} {od__law_rules an__law_rules : Option Addr} {sl__law_rules : Array (Option Value)} {oc__law_rules kV__law_rules dc__law_rules pm__law_rules cd__law_rules ct__law_rules : Value}
    {f_is_door : Addr} {od_is_door an_is_door : Option Addr} {sl_is_door : Array (Option Value)} {oc_is_door kV_is_door dc_is_door pm_is_door cd_is_door ct_is_door : Value}
    {f_is_rule : Addr} {od_is_rule an_is_rule : Option Addr} {sl_is_rule : Array (Option Value)} {oc_is_rule kV_is_rule dc_is_rule pm_is_rule cd_is_rule ct_is_rule : Value}
    {f__law_line : Addr} {od__law_line an__law_line : Option Addr} {sl__law_line : Array (Option Value)} {oc__law_line kV__law_line dc__law_line pm__law_line cd__law_line ct__law_line : Value}
    {f__law_book_text : Addr} {od__law_book_text an__law_book_text : Option Addr} {sl__law_book_text : Array (Option Value)} {oc__law_book_text kV__law_book_text dc__law_book_text pm__law_book_text cd__law_book_text ct__law_book_text : Value}
    {f_book_text : Addr} {od_book_text an_book_text : Option Addr} {sl_book_text : Array (Option Value)} {oc_book_text kV_book_text dc_book_text pm_book_text cd_book_text ct_book_text : Value}
    {f__law_same : Addr} {od__law_same an__law_same : Option Addr} {sl__law_same : Array (Option Value)} {oc__law_same kV__law_same dc__law_same pm__law_same cd__law_same ct__law_same : Value}
    {f__law_texted : Addr} {od__law_texted an__law_texted : Option Addr} {sl__law_texted : Array (Option Value)} {oc__law_texted kV__law_texted dc__law_texted pm__law_texted cd__law_texted ct__law_texted : Value}
    {f_law : Addr} {od_law an_law : Option Addr} {sl_law : Array (Option Value)} {oc_law kV_law dc_law pm_law cd_law ct_law : Value}
    {f_Book_init : Addr} {od_Book_init an_Book_init : Option Addr} {sl_Book_init : Array (Option Value)} {oc_Book_init kV_Book_init dc_Book_init pm_Book_init cd_Book_init ct_Book_init : Value}
    {T_Book_init : Addr}
    {oT_Book_init : Value} {dT_Book_init : Option Addr} {iT_Book_init : Array Value} {nT_Book_init : Nat} {sT_Book_init : Array (Option Value)} {e_Book_init0 : Addr} {e_Book_init1 : Addr} {e_Book_init2 : Addr} {e_Book_init3 : Addr} {e_Book_init4 : Addr} {e_Book_init5 : Addr}
    {d_Book_init0 : Option Addr} {n_Book_init0 : Nat} {s_Book_init0 : Array (Option Value)}
    {d_Book_init1 : Option Addr} {n_Book_init1 : Nat} {s_Book_init1 : Array (Option Value)}
    {d_Book_init2 : Option Addr} {n_Book_init2 : Nat} {s_Book_init2 : Array (Option Value)}
    {d_Book_init3 : Option Addr} {n_Book_init3 : Nat} {s_Book_init3 : Array (Option Value)}
    {d_Book_init4 : Option Addr} {n_Book_init4 : Nat} {s_Book_init4 : Array (Option Value)}
    {d_Book_init5 : Option Addr} {n_Book_init5 : Nat} {s_Book_init5 : Array (Option Value)}
    {f_Book_rule : Addr} {od_Book_rule an_Book_rule : Option Addr} {sl_Book_rule : Array (Option Value)} {oc_Book_rule kV_Book_rule dc_Book_rule pm_Book_rule cd_Book_rule ct_Book_rule : Value}
    {f_Book_rules : Addr} {od_Book_rules an_Book_rules : Option Addr} {sl_Book_rules : Array (Option Value)} {oc_Book_rules kV_Book_rules dc_Book_rules pm_Book_rules cd_Book_rules ct_Book_rules : Value}
    (z_len : PySem.W.nsIn K mainGlobals "len" = some none)
    (z_int : PySem.W.nsIn K mainGlobals "int" = some none)
    (z_abs : PySem.W.nsIn K mainGlobals "abs" = some none)
    (z_max : PySem.W.nsIn K mainGlobals "max" = some none)
    (z_min : PySem.W.nsIn K mainGlobals "min" = some none)
    (z_range : PySem.W.nsIn K mainGlobals "range" = some none)
    (z_isinstance : PySem.W.nsIn K mainGlobals "isinstance" = some none)
    (z_str : PySem.W.nsIn K mainGlobals "str" = some none)
    (z_tuple : PySem.W.nsIn K mainGlobals "tuple" = some none)
    (z_list : PySem.W.nsIn K mainGlobals "list" = some none)
    (z_all : PySem.W.nsIn K mainGlobals "all" = some none)
    (z_zip : PySem.W.nsIn K mainGlobals "zip" = some none)
    (g_MOST_ACTIONS : PySem.W.nsIn K mainGlobals "MOST_ACTIONS" = some (some (.int 6 t_MOST_ACTIONS)))
    (ag_DOORS : PySem.W.nsIn K mainGlobals "DOORS" = some (some (.ref g_DOORS)))
    (lg_DOORS : K.lookup g_DOORS = some ⟨.type "tuple", none, .seq gi_DOORS gn_DOORS, gs_DOORS⟩)
    (vg_DOORS : Vals (doors.map V.str) gi_DOORS.toList)
    (sg_DOORS : gi_DOORS.size ≤ sizeLine)
    (ag_ACTIONS : PySem.W.nsIn K mainGlobals "ACTIONS" = some (some (.ref g_ACTIONS)))
    (lg_ACTIONS : K.lookup g_ACTIONS = some ⟨.type "tuple", none, .seq gi_ACTIONS gn_ACTIONS, gs_ACTIONS⟩)
    (vg_ACTIONS : Vals (acts.map V.str) gi_ACTIONS.toList)
    (sg_ACTIONS : gi_ACTIONS.size ≤ sizeLine)
    (aC_Book : PySem.W.nsIn K mainGlobals "Book" = some (some (.ref C_Book)))
    (pg_Book : PySem.W.plainGet K C_Book Str.empty = true)
    (hd_Book : PySem.W.hasDictIn K C_Book = true)
    (po_Book : PySem.W.plainOver K C_Book = true)
    (sa_Book : PySem.W.findIn K (.ref C_Book) "__setattr__" = some (some (.builtin "object.__setattr__")))
    (mk_Book : PySem.W.makesIn K C_Book = true)
    (kc_Book : PySem.W.keepIn K (.ref C_Book) = true)
    (na_Book_row : PySem.W.findIn K (.ref C_Book) "row" = some none)
    (aC_NoRule : PySem.W.nsIn K mainGlobals "NoRule" = some (some (.ref C_NoRule)))
    (xl_NoRule : ∃ nm q N bs bm sn sub ab col dd k0 k1 k2 k3 k5, K.lookup C_NoRule = some (excClassObj nm q C_NoRule N bs bm true sn sub ab col dd k0 k1 k2 k3 k5 "ValueError.__new__") ∧ PySem.HandSPX.refsVE bm = true)
    (xa_NoRule : PySem.W.findIn K (.ref C_NoRule) "__setattr__" = some (some (.builtin "object.__setattr__")))
    (xe_NoRule : PySem.W.subIn K (.ref C_NoRule) (.type "BaseException") = some true)
    (xt_NoRule : PySem.W.typeIn K (.ref C_NoRule) = some (.type "type"))
    (xk_NoRule : PySem.W.keepIn K (.ref C_NoRule) = true)
    (xn_NoRule : PySem.W.findIn K (.ref C_NoRule) "door" = some none)
    (a_NoRule_init : PySem.W.findIn K (.ref C_NoRule) "__init__" = some (some (.ref f_NoRule_init)))
    (l_NoRule_init : K.lookup f_NoRule_init = some ⟨oc_NoRule_init, od_NoRule_init, .func (PySem.W.fnOf "__init__" "NoRule.__init__" (defArgs s_NoRule_init) (defBody s_NoRule_init) (defScope s_NoRule_init) .none kV_NoRule_init dc_NoRule_init pm_NoRule_init an_NoRule_init cd_NoRule_init ct_NoRule_init), sl_NoRule_init⟩)
    (c_NoRule_init : PySem.W.codeIn K cd_NoRule_init "NoRule.__init__" = true)
    (k_NoRule_init : PySem.W.keepIn K (.ref f_NoRule_init) = true)
    (ti_NoRule_init : PySem.W.typeIn K (.ref f_NoRule_init) = some (.type "function"))
    (aC_NoDoor : PySem.W.nsIn K mainGlobals "NoDoor" = some (some (.ref C_NoDoor)))
    (xl_NoDoor : ∃ nm q N bs bm sn sub ab col dd k0 k1 k2 k3 k5, K.lookup C_NoDoor = some (excClassObj nm q C_NoDoor N bs bm true sn sub ab col dd k0 k1 k2 k3 k5 "ValueError.__new__") ∧ PySem.HandSPX.refsVE bm = true)
    (xa_NoDoor : PySem.W.findIn K (.ref C_NoDoor) "__setattr__" = some (some (.builtin "object.__setattr__")))
    (xe_NoDoor : PySem.W.subIn K (.ref C_NoDoor) (.type "BaseException") = some true)
    (xt_NoDoor : PySem.W.typeIn K (.ref C_NoDoor) = some (.type "type"))
    (xk_NoDoor : PySem.W.keepIn K (.ref C_NoDoor) = true)
    (xn_NoDoor : PySem.W.findIn K (.ref C_NoDoor) "door" = some none)
    (a_NoDoor_init : PySem.W.findIn K (.ref C_NoDoor) "__init__" = some (some (.ref f_NoDoor_init)))
    (l_NoDoor_init : K.lookup f_NoDoor_init = some ⟨oc_NoDoor_init, od_NoDoor_init, .func (PySem.W.fnOf "__init__" "NoDoor.__init__" (defArgs s_NoDoor_init) (defBody s_NoDoor_init) (defScope s_NoDoor_init) .none kV_NoDoor_init dc_NoDoor_init pm_NoDoor_init an_NoDoor_init cd_NoDoor_init ct_NoDoor_init), sl_NoDoor_init⟩)
    (c_NoDoor_init : PySem.W.codeIn K cd_NoDoor_init "NoDoor.__init__" = true)
    (k_NoDoor_init : PySem.W.keepIn K (.ref f_NoDoor_init) = true)
    (ti_NoDoor_init : PySem.W.typeIn K (.ref f_NoDoor_init) = some (.type "function"))
    (a__law_well : PySem.W.nsIn K mainGlobals "_law_well" = some (some (.ref f__law_well)))
    (l__law_well : K.lookup f__law_well = some ⟨oc__law_well, od__law_well, .func (PySem.W.fnOf "_law_well" "_law_well" (defArgs s__law_well) (defBody s__law_well) (defScope s__law_well) .none kV__law_well dc__law_well pm__law_well an__law_well cd__law_well ct__law_well), sl__law_well⟩)
    (c__law_well : PySem.W.codeIn K cd__law_well "_law_well" = true)
    (k__law_well : PySem.W.keepIn K (.ref f__law_well) = true)
    (a__law_draw : PySem.W.nsIn K mainGlobals "_law_draw" = some (some (.ref f__law_draw)))
    (l__law_draw : K.lookup f__law_draw = some ⟨oc__law_draw, od__law_draw, .func (PySem.W.fnOf "_law_draw" "_law_draw" (defArgs s__law_draw) (defBody s__law_draw) (defScope s__law_draw) .none kV__law_draw dc__law_draw pm__law_draw an__law_draw cd__law_draw ct__law_draw), sl__law_draw⟩)
    (c__law_draw : PySem.W.codeIn K cd__law_draw "_law_draw" = true)
    (k__law_draw : PySem.W.keepIn K (.ref f__law_draw) = true)
    (a__law_rule : PySem.W.nsIn K mainGlobals "_law_rule" = some (some (.ref f__law_rule)))
    (l__law_rule : K.lookup f__law_rule = some ⟨oc__law_rule, od__law_rule, .func (PySem.W.fnOf "_law_rule" "_law_rule" (defArgs s__law_rule) (defBody s__law_rule) (defScope s__law_rule) .none kV__law_rule dc__law_rule pm__law_rule an__law_rule cd__law_rule ct__law_rule), sl__law_rule⟩)
    (c__law_rule : PySem.W.codeIn K cd__law_rule "_law_rule" = true)
    (k__law_rule : PySem.W.keepIn K (.ref f__law_rule) = true)
    (a__law_rules : PySem.W.nsIn K mainGlobals "_law_rules" = some (some (.ref f__law_rules)))
    (l__law_rules : K.lookup f__law_rules = some ⟨oc__law_rules, od__law_rules, .func (PySem.W.fnOf "_law_rules" "_law_rules" (defArgs s__law_rules) (defBody s__law_rules) (defScope s__law_rules) .none kV__law_rules dc__law_rules pm__law_rules an__law_rules cd__law_rules ct__law_rules), sl__law_rules⟩)
    (c__law_rules : PySem.W.codeIn K cd__law_rules "_law_rules" = true)
    (k__law_rules : PySem.W.keepIn K (.ref f__law_rules) = true)
    (a_is_door : PySem.W.nsIn K mainGlobals "is_door" = some (some (.ref f_is_door)))
    (l_is_door : K.lookup f_is_door = some ⟨oc_is_door, od_is_door, .func (PySem.W.fnOf "is_door" "is_door" (defArgs s_is_door) (defBody s_is_door) (defScope s_is_door) .none kV_is_door dc_is_door pm_is_door an_is_door cd_is_door ct_is_door), sl_is_door⟩)
    (c_is_door : PySem.W.codeIn K cd_is_door "is_door" = true)
    (k_is_door : PySem.W.keepIn K (.ref f_is_door) = true)
    (a_is_rule : PySem.W.nsIn K mainGlobals "is_rule" = some (some (.ref f_is_rule)))
    (l_is_rule : K.lookup f_is_rule = some ⟨oc_is_rule, od_is_rule, .func (PySem.W.fnOf "is_rule" "is_rule" (defArgs s_is_rule) (defBody s_is_rule) (defScope s_is_rule) .none kV_is_rule dc_is_rule pm_is_rule an_is_rule cd_is_rule ct_is_rule), sl_is_rule⟩)
    (c_is_rule : PySem.W.codeIn K cd_is_rule "is_rule" = true)
    (k_is_rule : PySem.W.keepIn K (.ref f_is_rule) = true)
    (a__law_line : PySem.W.nsIn K mainGlobals "_law_line" = some (some (.ref f__law_line)))
    (l__law_line : K.lookup f__law_line = some ⟨oc__law_line, od__law_line, .func (PySem.W.fnOf "_law_line" "_law_line" (defArgs s__law_line) (defBody s__law_line) (defScope s__law_line) .none kV__law_line dc__law_line pm__law_line an__law_line cd__law_line ct__law_line), sl__law_line⟩)
    (c__law_line : PySem.W.codeIn K cd__law_line "_law_line" = true)
    (k__law_line : PySem.W.keepIn K (.ref f__law_line) = true)
    (a__law_book_text : PySem.W.nsIn K mainGlobals "_law_book_text" = some (some (.ref f__law_book_text)))
    (l__law_book_text : K.lookup f__law_book_text = some ⟨oc__law_book_text, od__law_book_text, .func (PySem.W.fnOf "_law_book_text" "_law_book_text" (defArgs s__law_book_text) (defBody s__law_book_text) (defScope s__law_book_text) .none kV__law_book_text dc__law_book_text pm__law_book_text an__law_book_text cd__law_book_text ct__law_book_text), sl__law_book_text⟩)
    (c__law_book_text : PySem.W.codeIn K cd__law_book_text "_law_book_text" = true)
    (k__law_book_text : PySem.W.keepIn K (.ref f__law_book_text) = true)
    (a_book_text : PySem.W.nsIn K mainGlobals "book_text" = some (some (.ref f_book_text)))
    (l_book_text : K.lookup f_book_text = some ⟨oc_book_text, od_book_text, .func (PySem.W.fnOf "book_text" "book_text" (defArgs s_book_text) (defBody s_book_text) (defScope s_book_text) .none kV_book_text dc_book_text pm_book_text an_book_text cd_book_text ct_book_text), sl_book_text⟩)
    (c_book_text : PySem.W.codeIn K cd_book_text "book_text" = true)
    (k_book_text : PySem.W.keepIn K (.ref f_book_text) = true)
    (a__law_same : PySem.W.nsIn K mainGlobals "_law_same" = some (some (.ref f__law_same)))
    (l__law_same : K.lookup f__law_same = some ⟨oc__law_same, od__law_same, .func (PySem.W.fnOf "_law_same" "_law_same" (defArgs s__law_same) (defBody s__law_same) (defScope s__law_same) .none kV__law_same dc__law_same pm__law_same an__law_same cd__law_same ct__law_same), sl__law_same⟩)
    (c__law_same : PySem.W.codeIn K cd__law_same "_law_same" = true)
    (k__law_same : PySem.W.keepIn K (.ref f__law_same) = true)
    (a__law_texted : PySem.W.nsIn K mainGlobals "_law_texted" = some (some (.ref f__law_texted)))
    (l__law_texted : K.lookup f__law_texted = some ⟨oc__law_texted, od__law_texted, .func (PySem.W.fnOf "_law_texted" "_law_texted" (defArgs s__law_texted) (defBody s__law_texted) (defScope s__law_texted) .none kV__law_texted dc__law_texted pm__law_texted an__law_texted cd__law_texted ct__law_texted), sl__law_texted⟩)
    (c__law_texted : PySem.W.codeIn K cd__law_texted "_law_texted" = true)
    (k__law_texted : PySem.W.keepIn K (.ref f__law_texted) = true)
    (a_law : PySem.W.nsIn K mainGlobals "law" = some (some (.ref f_law)))
    (l_law : K.lookup f_law = some ⟨oc_law, od_law, .func (PySem.W.fnOf "law" "law" (defArgs s_law) (defBody s_law) (defScope s_law) .none kV_law dc_law pm_law an_law cd_law ct_law), sl_law⟩)
    (c_law : PySem.W.codeIn K cd_law "law" = true)
    (k_law : PySem.W.keepIn K (.ref f_law) = true)
    (a_Book_init : PySem.W.findIn K (.ref C_Book) "__init__" = some (some (.ref f_Book_init)))
    (i_Book_init : PySem.W.isFn K (.ref f_Book_init) = true)
    (l_Book_init : K.lookup f_Book_init = some ⟨oc_Book_init, od_Book_init, .func (PySem.W.fnOf "__init__" "Book.__init__" (defArgs s_Book_init) (defBody s_Book_init) (defScope s_Book_init) (.ref T_Book_init) kV_Book_init dc_Book_init pm_Book_init an_Book_init cd_Book_init ct_Book_init), sl_Book_init⟩)
    (c_Book_init : PySem.W.codeIn K cd_Book_init "Book.__init__" = true)
    (k_Book_init : PySem.W.keepIn K (.ref f_Book_init) = true)
    (lT_Book_init : K.lookup T_Book_init = some ⟨oT_Book_init, dT_Book_init, .seq iT_Book_init nT_Book_init, sT_Book_init⟩)
    (vT_Book_init : Vals [V.ref e_Book_init0, V.ref e_Book_init1, V.ref e_Book_init2, V.ref e_Book_init3, V.ref e_Book_init4, V.ref e_Book_init5] iT_Book_init.toList)
    (e_Book_initl0 : K.lookup e_Book_init0 = some ⟨.type "tuple", d_Book_init0, .seq #[] n_Book_init0, s_Book_init0⟩)
    (e_Book_initl1 : K.lookup e_Book_init1 = some ⟨.type "tuple", d_Book_init1, .seq #[] n_Book_init1, s_Book_init1⟩)
    (e_Book_initl2 : K.lookup e_Book_init2 = some ⟨.type "tuple", d_Book_init2, .seq #[] n_Book_init2, s_Book_init2⟩)
    (e_Book_initl3 : K.lookup e_Book_init3 = some ⟨.type "tuple", d_Book_init3, .seq #[] n_Book_init3, s_Book_init3⟩)
    (e_Book_initl4 : K.lookup e_Book_init4 = some ⟨.type "tuple", d_Book_init4, .seq #[] n_Book_init4, s_Book_init4⟩)
    (e_Book_initl5 : K.lookup e_Book_init5 = some ⟨.type "tuple", d_Book_init5, .seq #[] n_Book_init5, s_Book_init5⟩)
    (a_Book_rule : PySem.W.findIn K (.ref C_Book) "rule" = some (some (.ref f_Book_rule)))
    (i_Book_rule : PySem.W.isFn K (.ref f_Book_rule) = true)
    (l_Book_rule : K.lookup f_Book_rule = some ⟨oc_Book_rule, od_Book_rule, .func (PySem.W.fnOf "rule" "Book.rule" (defArgs s_Book_rule) (defBody s_Book_rule) (defScope s_Book_rule) .none kV_Book_rule dc_Book_rule pm_Book_rule an_Book_rule cd_Book_rule ct_Book_rule), sl_Book_rule⟩)
    (c_Book_rule : PySem.W.codeIn K cd_Book_rule "Book.rule" = true)
    (k_Book_rule : PySem.W.keepIn K (.ref f_Book_rule) = true)
    (a_Book_rules : PySem.W.findIn K (.ref C_Book) "rules" = some (some (.ref f_Book_rules)))
    (i_Book_rules : PySem.W.isFn K (.ref f_Book_rules) = true)
    (l_Book_rules : K.lookup f_Book_rules = some ⟨oc_Book_rules, od_Book_rules, .func (PySem.W.fnOf "rules" "Book.rules" (defArgs s_Book_rules) (defBody s_Book_rules) (defScope s_Book_rules) .none kV_Book_rules dc_Book_rules pm_Book_rules an_Book_rules cd_Book_rules ct_Book_rules), sl_Book_rules⟩)
    (c_Book_rules : PySem.W.codeIn K cd_Book_rules "Book.rules" = true)
    (k_Book_rules : PySem.W.keepIn K (.ref f_Book_rules) = true)
    : ∃ fd : FuncData, (∀ (s : Shared) (v : Value), BindsTo s fd ⟨[v], []⟩ [("script", v)]) ∧ ∀ base : Heap, K.In base → base.Ns mainGlobals mg → ∃ R : RSp, (∀ ns : List Int, ns.length ≤ 63 → R [.seq (ns.map D.int)] [] (fun d _ => d = .bl true) (fun _ _ _ => False)) ∧ FnOk l.prog w K mg base (L2.CX l.prog w) 6 fa fd ["script"] (spD K R) := by
  have e := hfa.symm.trans (PySem.W.mg_of X G a_law)
  cases e
  have T : Txt K mg := ⟨PySem.W.mg_none_of X G z_len, PySem.W.mg_none_of X G z_int, PySem.W.mg_none_of X G z_abs, PySem.W.mg_none_of X G z_max, PySem.W.mg_none_of X G z_min, PySem.W.mg_none_of X G z_range, PySem.W.mg_none_of X G z_isinstance, PySem.W.mg_none_of X G z_str, PySem.W.mg_none_of X G z_tuple, PySem.W.mg_none_of X G z_list, PySem.W.mg_none_of X G z_all, PySem.W.mg_none_of X G z_zip, ⟨_, .int 6, PySem.W.mg_of X G g_MOST_ACTIONS, ⟨_, rfl⟩, fun _ => rfl⟩, ⟨_, PySem.W.mg_of X G ag_DOORS, ⟨_, lg_DOORS, rfl, rfl⟩, fun H => .inr ⟨_, _, _, lg_DOORS, rfl, rfl, sg_DOORS, vg_DOORS⟩⟩, ⟨_, PySem.W.mg_of X G ag_ACTIONS, ⟨_, lg_ACTIONS, rfl, rfl⟩, fun H => .inr ⟨_, _, _, lg_ACTIONS, rfl, rfl, sg_ACTIONS, vg_ACTIONS⟩⟩⟩
  have cl_Book : Cls K C_Book := ⟨pg_Book, hd_Book, po_Book, sa_Book⟩
  have U_NoRule_init := fun_mk (st := s_NoRule_init) l_NoRule_init c_NoRule_init k_NoRule_init
  have X_NoRule : OexC K C_NoRule := ⟨xl_NoRule, xa_NoRule, xe_NoRule, xt_NoRule, xk_NoRule⟩
  have U_NoDoor_init := fun_mk (st := s_NoDoor_init) l_NoDoor_init c_NoDoor_init k_NoDoor_init
  have X_NoDoor : OexC K C_NoDoor := ⟨xl_NoDoor, xa_NoDoor, xe_NoDoor, xt_NoDoor, xk_NoDoor⟩
  have U__law_well := fun_mk (st := s__law_well) l__law_well c__law_well k__law_well
  have U__law_draw := fun_mk (st := s__law_draw) l__law_draw c__law_draw k__law_draw
  have U__law_rule := fun_mk (st := s__law_rule) l__law_rule c__law_rule k__law_rule
  have U__law_rules := fun_mk (st := s__law_rules) l__law_rules c__law_rules k__law_rules
  have U_is_door := fun_mk (st := s_is_door) l_is_door c_is_door k_is_door
  have U_is_rule := fun_mk (st := s_is_rule) l_is_rule c_is_rule k_is_rule
  have U__law_line := fun_mk (st := s__law_line) l__law_line c__law_line k__law_line
  have U__law_book_text := fun_mk (st := s__law_book_text) l__law_book_text c__law_book_text k__law_book_text
  have U_book_text := fun_mk (st := s_book_text) l_book_text c_book_text k_book_text
  have U__law_same := fun_mk (st := s__law_same) l__law_same c__law_same k__law_same
  have U__law_texted := fun_mk (st := s__law_texted) l__law_texted c__law_texted k__law_texted
  have U_law := fun_mk (st := s_law) l_law c_law k_law
  have U_Book_init : FunD K "__init__" "Book.__init__" (defArgs s_Book_init) (defBody s_Book_init) (defScope s_Book_init) [V.ref e_Book_init0, V.ref e_Book_init1, V.ref e_Book_init2, V.ref e_Book_init3, V.ref e_Book_init4, V.ref e_Book_init5] [] f_Book_init (PySem.W.fnOf "__init__" "Book.__init__" (defArgs s_Book_init) (defBody s_Book_init) (defScope s_Book_init) (.ref T_Book_init) kV_Book_init dc_Book_init pm_Book_init an_Book_init cd_Book_init ct_Book_init) := ⟨⟨_, _, _, _, _, _, _, _, _, _, rfl, l_Book_init, c_Book_init, .inr ⟨by simp, T_Book_init, _, iT_Book_init.toList, nT_Book_init, rfl, lT_Book_init, rfl, vT_Book_init⟩, .inl rfl⟩, k_Book_init⟩
  have D_Book_init : ∀ S, RepL K S [dR [], dR [], dR [], dR [], dR [], dR []] [V.ref e_Book_init0, V.ref e_Book_init1, V.ref e_Book_init2, V.ref e_Book_init3, V.ref e_Book_init4, V.ref e_Book_init5] := fun S => .cons ⟨e_Book_init0, [], rfl, .inr ⟨_, #[], _, e_Book_initl0, rfl, rfl, by decide, .nil⟩, RepL.nil⟩ (.cons ⟨e_Book_init1, [], rfl, .inr ⟨_, #[], _, e_Book_initl1, rfl, rfl, by decide, .nil⟩, RepL.nil⟩ (.cons ⟨e_Book_init2, [], rfl, .inr ⟨_, #[], _, e_Book_initl2, rfl, rfl, by decide, .nil⟩, RepL.nil⟩ (.cons ⟨e_Book_init3, [], rfl, .inr ⟨_, #[], _, e_Book_initl3, rfl, rfl, by decide, .nil⟩, RepL.nil⟩ (.cons ⟨e_Book_init4, [], rfl, .inr ⟨_, #[], _, e_Book_initl4, rfl, rfl, by decide, .nil⟩, RepL.nil⟩ (.cons ⟨e_Book_init5, [], rfl, .inr ⟨_, #[], _, e_Book_initl5, rfl, rfl, by decide, .nil⟩, RepL.nil⟩ (RepL.nil))))))
  have U_Book_rule := fun_mk (st := s_Book_rule) l_Book_rule c_Book_rule k_Book_rule
  have U_Book_rules := fun_mk (st := s_Book_rules) l_Book_rules c_Book_rules k_Book_rules
  refine ⟨PySem.W.fnOf "law" "law" (defArgs s_law) (defBody s_law) (defScope s_law) .none kV_law dc_law pm_law an_law cd_law ct_law, fun s v => .of_eq rfl, fun base _ _ => ⟨R_law C_Book, fun ns hl => ⟨ns, rfl, rfl, hl, fun _ => rfl⟩, ?_⟩⟩
  have F_NoRule : ExD l.prog w K mg base "NoRule" C_NoRule "door" := ⟨PySem.W.mg_of X G aC_NoRule, X_NoRule, xn_NoRule, _, _, a_NoRule_init, ti_NoRule_init, (U_NoRule_init.binds (ps := ["self", "door"]) fun _ _ _ _ _ _ us hl => match us, hl with | [_, _], _ => rfl), ex_init U_NoRule_init ⟨rfl, rfl, rfl, by decide +kernel, rfl, by decide +kernel, by decide +kernel⟩ X_NoRule xn_NoRule rfl rfl rfl (by decide) (by decide) (fun _ => rfl)⟩
  have F_NoDoor : ExD l.prog w K mg base "NoDoor" C_NoDoor "door" := ⟨PySem.W.mg_of X G aC_NoDoor, X_NoDoor, xn_NoDoor, _, _, a_NoDoor_init, ti_NoDoor_init, (U_NoDoor_init.binds (ps := ["self", "door"]) fun _ _ _ _ _ _ us hl => match us, hl with | [_, _], _ => rfl), ex_init U_NoDoor_init ⟨rfl, rfl, rfl, by decide +kernel, rfl, by decide +kernel, by decide +kernel⟩ X_NoDoor xn_NoDoor rfl rfl rfl (by decide) (by decide) (fun _ => rfl)⟩
  have F__law_well : FnD l.prog w K mg base 1 "_law_well" [] R__law_well := ⟨_, _, _, [], [], PySem.W.mg_of X G a__law_well, k__law_well, (U__law_well.binds (ps := ["script", "k"]) fun _ _ _ _ _ _ us hl => match us, hl with | [_, _], _ => rfl), .nil, fun S => RepL.nil, ok__law_well U__law_well T⟩
  have F__law_draw : FnD l.prog w K mg base 1 "_law_draw" [] R__law_draw := ⟨_, _, _, [], [], PySem.W.mg_of X G a__law_draw, k__law_draw, (U__law_draw.binds (ps := ["well", "many"]) fun _ _ _ _ _ _ us hl => match us, hl with | [_, _], _ => rfl), .nil, fun S => RepL.nil, ok__law_draw U__law_draw T⟩
  have F__law_rule : FnD l.prog w K mg base 2 "_law_rule" [] R__law_rule := ⟨_, _, _, [], [], PySem.W.mg_of X G a__law_rule, k__law_rule, (U__law_rule.binds (ps := ["well"]) fun _ _ _ _ _ _ us hl => match us, hl with | [_], _ => rfl), .nil, fun S => RepL.nil, ok__law_rule U__law_rule T F__law_draw⟩
  have F__law_rules : FnD l.prog w K mg base 3 "_law_rules" [] R__law_rules := ⟨_, _, _, [], [], PySem.W.mg_of X G a__law_rules, k__law_rules, (U__law_rules.binds (ps := ["well"]) fun _ _ _ _ _ _ us hl => match us, hl with | [_], _ => rfl), .nil, fun S => RepL.nil, ok__law_rules U__law_rules T F__law_draw F__law_rule⟩
  have F_is_door : FnD l.prog w K mg base 1 "is_door" [] R_is_door := ⟨_, _, _, [], [], PySem.W.mg_of X G a_is_door, k_is_door, (U_is_door.binds (ps := ["thing"]) fun _ _ _ _ _ _ us hl => match us, hl with | [_], _ => rfl), .nil, fun S => RepL.nil, ok_is_door U_is_door T⟩
  have F_is_rule : FnD l.prog w K mg base 1 "is_rule" [] R_is_rule := ⟨_, _, _, [], [], PySem.W.mg_of X G a_is_rule, k_is_rule, (U_is_rule.binds (ps := ["thing"]) fun _ _ _ _ _ _ us hl => match us, hl with | [_], _ => rfl), .nil, fun S => RepL.nil, ok_is_rule U_is_rule T⟩
  have M_Book : Mk K C_Book f_Book_init := ⟨mk_Book, a_Book_init, i_Book_init, kc_Book⟩
  have K_init := ok_Book_init (P := l.prog) (w := w) (mg := mg) (base := base) (C := C_Book) (CR := C_NoRule) U_Book_init T F_is_rule cl_Book na_Book_row F_NoRule
  have F_B6 : MkD l.prog w K mg base 3 C_Book "Book" [] (R_Book_init C_Book C_NoRule) := by
    obtain ⟨ds, v, B⟩ := U_Book_init.binds1 (ps := ["self", "put", "look", "alter", "back", "pay", "again"]) 7 6 (by simp) rfl fun _ _ _ _ _ _ _ us its h1 h2 => by
      match us, its, h1, h2 with
      | [_, _, _, _, _, _, _], [_, _, _, _, _, _], _, _ => exact ⟨_, rfl, rfl⟩
    exact ⟨cl_Book, PySem.W.mg_of X G aC_Book, _, _, _, _, _, M_Book, B, v, fun S => (D_Book_init S).drop 6, K_init⟩
  have F_Book_rule : MtD l.prog w K mg base 3 C_Book "rule" [] (R_Book_rule C_Book C_NoDoor) := ⟨cl_Book, _, _, _, [], [], ⟨a_Book_rule, i_Book_rule, k_Book_rule⟩, (U_Book_rule.binds (ps := ["self", "door"]) fun _ _ _ _ _ _ us hl => match us, hl with | [_, _], _ => rfl), .nil, fun S => RepL.nil, ok_Book_rule U_Book_rule T F_is_door cl_Book na_Book_row F_NoDoor⟩
  have F_Book_rules : MtD l.prog w K mg base 1 C_Book "rules" [] (R_Book_rules C_Book) := ⟨cl_Book, _, _, _, [], [], ⟨a_Book_rules, i_Book_rules, k_Book_rules⟩, (U_Book_rules.binds (ps := ["self"]) fun _ _ _ _ _ _ us hl => match us, hl with | [_], _ => rfl), .nil, fun S => RepL.nil, ok_Book_rules U_Book_rules T cl_Book na_Book_row⟩
  have F__law_line : FnD l.prog w K mg base 1 "_law_line" [] R__law_line := ⟨_, _, _, [], [], PySem.W.mg_of X G a__law_line, k__law_line, (U__law_line.binds (ps := ["door", "rule"]) fun _ _ _ _ _ _ us hl => match us, hl with | [_, _], _ => rfl), .nil, fun S => RepL.nil, ok__law_line U__law_line T⟩
  have F__law_book_text : FnD l.prog w K mg base 2 "_law_book_text" [] R__law_book_text := ⟨_, _, _, [], [], PySem.W.mg_of X G a__law_book_text, k__law_book_text, (U__law_book_text.binds (ps := ["rules"]) fun _ _ _ _ _ _ us hl => match us, hl with | [_], _ => rfl), .nil, fun S => RepL.nil, ok__law_book_text U__law_book_text T F__law_line⟩
  have F_book_text : FnD l.prog w K mg base 4 "book_text" [] (R_book_text C_Book) := ⟨_, _, _, [], [], PySem.W.mg_of X G a_book_text, k_book_text, (U_book_text.binds (ps := ["book"]) fun _ _ _ _ _ _ us hl => match us, hl with | [_], _ => rfl), .nil, fun S => RepL.nil, ok_book_text U_book_text T F_Book_rule⟩
  have F_book_textK : FnK l.prog w K mg base 4 "book_text" 0 ["book"] [(2, 0)] [] (R_book_text C_Book) := ⟨_, _, _, PySem.W.mg_of X G a_book_text, k_book_text, Fun.kwB (ps := ["book"]) U_book_text 0 ["book"] [(2, 0)] (fun _ _ _ _ _ _ us ws h1 h2 => match us, ws, h1, h2 with | [], [_], _, _ => rfl), ok_book_text U_book_text T F_Book_rule⟩
  have F_same : ∀ n, FnD l.prog w K mg base (n + 1) "_law_same" [] (R__law_same n) := fun n => by
    induction n with
    | zero => exact ⟨_, _, _, [], [], PySem.W.mg_of X G a__law_same, k__law_same, (U__law_same.binds (ps := ["actual", "expected"]) fun _ _ _ _ _ _ us hl => match us, hl with | [_, _], _ => rfl), .nil, fun S => RepL.nil, ok__law_same U__law_same T fun m h => (nomatch h)⟩
    | succ n ih => exact ⟨_, _, _, [], [], PySem.W.mg_of X G a__law_same, k__law_same, (U__law_same.binds (ps := ["actual", "expected"]) fun _ _ _ _ _ _ us hl => match us, hl with | [_, _], _ => rfl), .nil, fun S => RepL.nil, ok__law_same U__law_same T fun m h => by cases h; exact ih⟩
  have F__law_same := F_same 2
  have F__law_texted : FnD l.prog w K mg base 5 "_law_texted" [] (R__law_texted C_Book) := ⟨_, _, _, [], [], PySem.W.mg_of X G a__law_texted, k__law_texted, (U__law_texted.binds (ps := ["work", "rules"]) fun _ _ _ _ _ _ us hl => match us, hl with | [_, _], _ => rfl), .nil, fun S => RepL.nil, ok__law_texted U__law_texted T F_book_text F__law_book_text F_Book_rules F__law_same⟩
  exact ok_law U_law T F__law_well F__law_rules F__law_texted F__law_book_text F_B6 F_book_textK F__law_same
theorem walk {l : PySem.W.OpenLaw} {q : Program} {loose : List Str} {XP : (Str → Option Value) → Heap → Prop} {YP : World → Heap → Prop} {d : DefRec} {K : Params → PySem.W.Frag} (hn : l.most = some 63) (hdf : d.params.defaults = [])
    (hY : ∀ (w : World) (h : Heap), YP w h → (K w.params).In h)
    (F : ∀ (w : World) (mg : Str → Option Value) (fa : Addr) (h : Heap), (K w.params).In h → h.Ns mainGlobals mg → mg d.name = some (.ref fa) →
      ∃ fd : FuncData, (∀ (s : Shared) (u : Value), BindsTo s fd ⟨[u], []⟩ [("script", u)]) ∧ ∀ base : Heap, (K w.params).In base → base.Ns mainGlobals mg → ∃ R : RSp, (∀ ns : List Int, ns.length ≤ 63 → R [.seq (ns.map D.int)] [] (fun d _ => d = .bl true) (fun _ _ _ => False)) ∧ FnOk l.prog w (K w.params) mg base (L2.CX l.prog w) 6 fa fd ["script"] (spD (K w.params) R)) :
    PySem.W.WalkO q loose XP YP l.row.toRowW d [] (fun f vs => PySem.call f vs) :=
  L2.walk_of (n := 63) (k := 6) (x := "script") (CX := fun w => L2.CX l.prog w) (sp := fun w vs H Q E => ∃ (a : Addr) (ns : List Int), vs = [.ref a] ∧ ns.length ≤ 63 ∧ SqL (K w.params) H a (ns.map V.int) ∧ Q = (fun v _ => v = .bl true) ∧ E = fun _ _ _ => False) hn (by decide) hdf ⟨rfl, by decide, by decide⟩ hY
    (fun w mg fa h KX G hm => by
      obtain ⟨fd, hb, hF⟩ := F w mg fa h KX G hm
      refine ⟨fd, hb, fun base b1 b2 => ?_⟩
      obtain ⟨R, hR, ok⟩ := hF base b1 b2
      exact fn_top ok fun ns hl => hR ns hl)
    (fun _ _ a ns hl _ hS => ⟨a, ns, rfl, hl, hS, rfl, rfl⟩) fun _ _ _ _ _ z => by
      obtain ⟨_, _, _, _, _, _, _, _, _, _, _, _, z⟩ := z
      exact z.elim
end W
open PySem PySem.W PyProof.Rows
set_option maxRecDepth 100000 in
set_option maxHeartbeats 0 in
theorem PySem.Challenge.cw_lastshown_k10_book_texts_holds : PySem.Challenge.rw_lastshown_k10_book_texts.Holds := by
  w_on; o_law; k_head; (case hw => w_witness2)
  k_fill
  refine W.walk (l := PySem.Challenge.rw_lastshown_k10_book_texts) rfl rfl (fun w h Y => PySem.W.kIn_of Y) ?F
  case F =>
    intro w mg fa h KX G hmg
    refine' W.all_mk (l := PySem.Challenge.rw_lastshown_k10_book_texts) KX G hmg ?z_len ?z_int ?z_abs ?z_max ?z_min ?z_range ?z_isinstance ?z_str ?z_tuple ?z_list ?z_all ?z_zip ?g_MOST_ACTIONS ?ag_DOORS ?lg_DOORS ?vg_DOORS ?sg_DOORS ?ag_ACTIONS ?lg_ACTIONS ?vg_ACTIONS ?sg_ACTIONS ?aC_Book ?pg_Book ?hd_Book ?po_Book ?sa_Book ?mk_Book ?kc_Book ?na_Book_row ?aC_NoRule ?xl_NoRule ?xa_NoRule ?xe_NoRule ?xt_NoRule ?xk_NoRule ?xn_NoRule ?a_NoRule_init ?l_NoRule_init ?c_NoRule_init ?k_NoRule_init ?ti_NoRule_init ?aC_NoDoor ?xl_NoDoor ?xa_NoDoor ?xe_NoDoor ?xt_NoDoor ?xk_NoDoor ?xn_NoDoor ?a_NoDoor_init ?l_NoDoor_init ?c_NoDoor_init ?k_NoDoor_init ?ti_NoDoor_init ?a__law_well ?l__law_well ?c__law_well ?k__law_well ?a__law_draw ?l__law_draw ?c__law_draw ?k__law_draw ?a__law_rule ?l__law_rule ?c__law_rule ?k__law_rule ?a__law_rules ?l__law_rules ?c__law_rules ?k__law_rules ?a_is_door ?l_is_door ?c_is_door ?k_is_door ?a_is_rule ?l_is_rule ?c_is_rule ?k_is_rule ?a__law_line ?l__law_line ?c__law_line ?k__law_line ?a__law_book_text ?l__law_book_text ?c__law_book_text ?k__law_book_text ?a_book_text ?l_book_text ?c_book_text ?k_book_text ?a__law_same ?l__law_same ?c__law_same ?k__law_same ?a__law_texted ?l__law_texted ?c__law_texted ?k__law_texted ?a_law ?l_law ?c_law ?k_law ?a_Book_init ?i_Book_init ?l_Book_init ?c_Book_init ?k_Book_init ?lT_Book_init ?vT_Book_init ?e_Book_initl0 ?e_Book_initl1 ?e_Book_initl2 ?e_Book_initl3 ?e_Book_initl4 ?e_Book_initl5 ?a_Book_rule ?i_Book_rule ?l_Book_rule ?c_Book_rule ?k_Book_rule ?a_Book_rules ?i_Book_rules ?l_Book_rules ?c_Book_rules ?k_Book_rules
    (case z_len => k_is)
    (case z_int => k_is)
    (case z_abs => k_is)
    (case z_max => k_is)
    (case z_min => k_is)
    (case z_range => k_is)
    (case z_isinstance => k_is)
    (case z_str => k_is)
    (case z_tuple => k_is)
    (case z_list => k_is)
    (case z_all => k_is)
    (case z_zip => k_is)
    (case g_MOST_ACTIONS => k_is)
    (case ag_DOORS => k_is)
    (case lg_DOORS => k_is)
    (case vg_DOORS => exact (.cons ⟨_, rfl⟩ (.cons ⟨_, rfl⟩ (.cons ⟨_, rfl⟩ (.cons ⟨_, rfl⟩ (.cons ⟨_, rfl⟩ (.cons ⟨_, rfl⟩ .nil)))))))
    (case sg_DOORS => decide)
    (case ag_ACTIONS => k_is)
    (case lg_ACTIONS => k_is)
    (case vg_ACTIONS => exact (.cons ⟨_, rfl⟩ (.cons ⟨_, rfl⟩ (.cons ⟨_, rfl⟩ (.cons ⟨_, rfl⟩ (.cons ⟨_, rfl⟩ .nil))))))
    (case sg_ACTIONS => decide)
    (case aC_Book => k_is)
    (case pg_Book => k_is)
    (case hd_Book => k_is)
    (case po_Book => k_is)
    (case sa_Book => k_is)
    (case mk_Book => k_is)
    (case kc_Book => k_is)
    (case na_Book_row => k_is)
    (case aC_NoRule => k_is)
    (case xl_NoRule => exact ⟨_, _, _, _, _, _, _, _, _, _, _, _, _, _, _, (by k_is), (by decide +kernel)⟩)
    (case xa_NoRule => k_is)
    (case xe_NoRule => k_is)
    (case xt_NoRule => k_is)
    (case xk_NoRule => k_is)
    (case xn_NoRule => k_is)
    (case a_NoRule_init => k_is)
    (case l_NoRule_init => k_is)
    (case c_NoRule_init => k_is)
    (case k_NoRule_init => k_is)
    (case ti_NoRule_init => k_is)
    (case aC_NoDoor => k_is)
    (case xl_NoDoor => exact ⟨_, _, _, _, _, _, _, _, _, _, _, _, _, _, _, (by k_is), (by decide +kernel)⟩)
    (case xa_NoDoor => k_is)
    (case xe_NoDoor => k_is)
    (case xt_NoDoor => k_is)
    (case xk_NoDoor => k_is)
    (case xn_NoDoor => k_is)
    (case a_NoDoor_init => k_is)
    (case l_NoDoor_init => k_is)
    (case c_NoDoor_init => k_is)
    (case k_NoDoor_init => k_is)
    (case ti_NoDoor_init => k_is)
    (case a__law_well => k_is)
    (case l__law_well => k_is)
    (case c__law_well => k_is)
    (case k__law_well => k_is)
    (case a__law_draw => k_is)
    (case l__law_draw => k_is)
    (case c__law_draw => k_is)
    (case k__law_draw => k_is)
    (case a__law_rule => k_is)
    (case l__law_rule => k_is)
    (case c__law_rule => k_is)
    (case k__law_rule => k_is)
    (case a__law_rules => k_is)
    (case l__law_rules => k_is)
    (case c__law_rules => k_is)
    (case k__law_rules => k_is)
    (case a_is_door => k_is)
    (case l_is_door => k_is)
    (case c_is_door => k_is)
    (case k_is_door => k_is)
    (case a_is_rule => k_is)
    (case l_is_rule => k_is)
    (case c_is_rule => k_is)
    (case k_is_rule => k_is)
    (case a__law_line => k_is)
    (case l__law_line => k_is)
    (case c__law_line => k_is)
    (case k__law_line => k_is)
    (case a__law_book_text => k_is)
    (case l__law_book_text => k_is)
    (case c__law_book_text => k_is)
    (case k__law_book_text => k_is)
    (case a_book_text => k_is)
    (case l_book_text => k_is)
    (case c_book_text => k_is)
    (case k_book_text => k_is)
    (case a__law_same => k_is)
    (case l__law_same => k_is)
    (case c__law_same => k_is)
    (case k__law_same => k_is)
    (case a__law_texted => k_is)
    (case l__law_texted => k_is)
    (case c__law_texted => k_is)
    (case k__law_texted => k_is)
    (case a_law => k_is)
    (case l_law => k_is)
    (case c_law => k_is)
    (case k_law => k_is)
    (case a_Book_init => k_is)
    (case i_Book_init => k_is)
    (case l_Book_init => k_is)
    (case c_Book_init => k_is)
    (case k_Book_init => k_is)
    (case lT_Book_init => k_is)
    (case vT_Book_init => exact (.cons rfl (.cons rfl (.cons rfl (.cons rfl (.cons rfl (.cons rfl .nil)))))))
    (case e_Book_initl0 => k_is)
    (case e_Book_initl1 => k_is)
    (case e_Book_initl2 => k_is)
    (case e_Book_initl3 => k_is)
    (case e_Book_initl4 => k_is)
    (case e_Book_initl5 => k_is)
    (case a_Book_rule => k_is)
    (case i_Book_rule => k_is)
    (case l_Book_rule => k_is)
    (case c_Book_rule => k_is)
    (case k_Book_rule => k_is)
    (case a_Book_rules => k_is)
    (case i_Book_rules => k_is)
    (case l_Book_rules => k_is)
    (case c_Book_rules => k_is)
    (case k_Book_rules => k_is)
