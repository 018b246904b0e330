import PyProof.Rows.All
import Wide.All
import OpenK.AllK
import Wide.FinOn
import HandS.ForMost
import HandS.Evl
import HandS.Exc
import HandS.TryOnly
import HandS.TryMany
import HandS.ExcOwn
import HandS.WordsExc
import HandS.Walk
import HandS.WideBits
import HandS.Wide
import HandS.Steps
import HandS.IsInst
import HandS.TupAny
import HandS.TupMul
import HandS.Deep
import HandS.Zip
import PyProof.Rows.RuleB_pow
import HandS.CallSlots
import HandS.Star
import HandS.Defaults
import HandS.MakeKw
import HandS.MakeKwOnly
import HandS.ExcInit
import HandS.Strs
import HandS.FStr
import HandS.Text
import HandS.Dict
import HandS.DictComp
import HandS.More
import HandS.ListEq
import HandS.Style
import HandS.OwnEq
import HandS.SetFor
import PySem.Challenge.RW_lastshown_k30_mixtures_by_stretches
set_option Elab.async false
set_option linter.all false
set_option maxRecDepth 100000
set_option maxHeartbeats 4000000
/-! PD: a second layer over the hand layer: values as data D, mutable objects by handles, judgements over the syntax. -/
namespace PD
open PySem L2
open Evl (Ex ex_rd ex_l ex_t)

/-- data: what a value stands for; hdl a: the object at a, which may change -/
inductive D where
  | non | bl (b : Bool) | int (i : Int) | str (s : Str)
  | tup (ds : List D) | lst (ds : List D) | seq (ds : List D)
  | dct (ks : List Key) (ds : List D)
  | ins (C : Addr) (fs : List Str) (ds : List D)
  | hdl (a : Addr) | raw (v : V)
  deriving Inhabited
/-- an object that may change -/
inductive MO where
  | lst (ds : List D) | dct (ks : List Key) (ds : List D) | ins (C : Addr) (fs : List Str) (ds : List D) | ext (o : Addr → HO) | gone
  deriving Inhabited
/-- where things stand: the addresses of what may change, the heap of what never changes, the heap -/
structure Sg where
  as : List Addr
  Z : Hp
  H : Hp
theorem _root_.Evl.Ex.none {H H' : Hp} (e : Ex H H') {a : Addr} (h : H' a = Option.none) : H a = Option.none := by
  cases q : H a with
  | none => rfl
  | some o => rw [e a o q] at h; cases h
theorem ex_new {H : Hp} {p : Addr} {o : HO} (h : H p = none) : Ex H (upd H p o) := fun a u e => by
  rw [upd_ne (ne_of_none e h)]; exact e
theorem ex_up {Z H : Hp} {p : Addr} {o : HO} (e : Ex Z H) : Ex (upd Z p o) (upd H p o) := fun a u h => by
  by_cases q : a = p
  · subst q; rw [upd_same] at h ⊢; exact h
  · rw [upd_ne q] at h ⊢; exact e a u h

section
variable (K : PySem.W.Frag) (S : Sg)
mutual
/-- v stands for d -/
def Rep : D → V → Prop
  | .non, v => v = .non
  | .bl b, v => v = .bl b
  | .int i, v => v = .int i
  | .str s, v => v = .str s
  | .tup ds, v => ∃ a xs, v = .ref a ∧ SqT K S.Z a xs ∧ RepL ds xs
  | .lst ds, v => ∃ a xs, v = .ref a ∧ S.Z a = some (.lst xs) ∧ RepL ds xs
  | .seq ds, v => ∃ a xs, v = .ref a ∧ SqL K S.Z a xs ∧ RepL ds xs
  | .dct ks ds, v => ∃ a kvs, v = .ref a ∧ S.Z a = some (.dK kvs) ∧ kvs.map (·.1) = ks ∧ RepL ds (kvs.map (·.2))
  | .ins C fs ds, v => ∃ a dx kvs, v = .ref a ∧ S.Z a = some (.ins C dx kvs) ∧ kvs.map (·.1) = fs ∧ RepL ds (kvs.map (·.2))
  | .hdl a, v => v = .ref a
  | .raw u, v => v = u
def RepL : List D → List V → Prop
  | [], xs => xs = []
  | d :: ds, xs => ∃ x r, xs = x :: r ∧ Rep d x ∧ RepL ds r
end
def MRep (a : Addr) : MO → Prop
  | .lst ds => S.Z a = none ∧ ∃ xs, S.H a = some (.lst xs) ∧ RepL K S ds xs
  | .dct ks ds => S.Z a = none ∧ ∃ kvs, S.H a = some (.dK kvs) ∧ kvs.map (·.1) = ks ∧ RepL K S ds (kvs.map (·.2))
  | .ins C fs ds => S.Z a = none ∧ ∃ dx kvs, S.H a = some (.ins C dx kvs) ∧ kvs.map (·.1) = fs ∧ RepL K S ds (kvs.map (·.2))
  | .ext o => S.Z a = none ∧ S.H a = some (o a)
  | .gone => True
abbrev Ms := List (Addr × MO)
structure OkM (M : Ms) : Prop where
  len : S.as = M.map (·.1)
  nd : S.as.Nodup
  zh : Ex S.Z S.H
  mo : ∀ p ∈ M, MRep K S p.1 p.2
  dom : ∀ a ∈ S.as, S.H a ≠ none
def EnvOk (σ : L2.St) (Γ : List (Option D)) : Prop := σ.length = Γ.length ∧ ∀ (i : Nat) d, Γ[i]? = some (some d) → ∃ v, σ[i]? = some (some v) ∧ Rep K S d v
def XRep (dd : Option Addr) (fs : List (Str × D)) : Prop := match dd with
  | none => fs = []
  | some a => ∃ kvs, S.H a = some (.xd kvs) ∧ kvs.map (·.1) = fs.map (·.1) ∧ RepL K S (fs.map (·.2)) (kvs.map (·.2))
end
structure Grow (S S' : Sg) : Prop where
  pre : ∀ a ∈ S'.as, a ∈ S.as ∨ S.H a = none
  zz : Ex S.Z S'.Z
  keep : ∀ q o, S.H q = some o → q ∉ S.as → S'.H q = some o
  dom : ∀ q, S.H q ≠ none → S'.H q ≠ none
  sep : ∀ q, S.H q ≠ none → S.Z q = none → q ∉ S.as → S'.Z q = none
theorem Grow.refl (S : Sg) : Grow S S := ⟨fun _ h => .inl h, Ex.refl _, fun _ _ h _ => h, fun _ h => h, fun _ _ h _ => h⟩
theorem Grow.out {S S1 : Sg} (a : Grow S S1) {q : Addr} (h : S.H q ≠ none) (n : q ∉ S.as) : q ∉ S1.as := fun m => (a.pre q m).elim n h
theorem Grow.trans {S S1 S2 : Sg} (a : Grow S S1) (b : Grow S1 S2) : Grow S S2 := by
  refine ⟨fun x m => ?_, a.zz.trans b.zz, fun q o h n => b.keep q o (a.keep q o h n) (a.out (by rw [h]; simp) n), fun q h => b.dom q (a.dom q h), fun q h z n => b.sep q (a.dom q h) (a.sep q h z n) (a.out h n)⟩
  rcases b.pre x m with m | m
  · exact a.pre x m
  · right
    cases q : S.H x with
    | none => rfl
    | some o => exact absurd m (a.dom x (by rw [q]; simp))
section
variable {K : PySem.W.Frag} {S S' : Sg}
theorem sg_mono (hz : Ex S.Z S'.Z) : (∀ d v, Rep K S d v → Rep K S' d v) ∧ ∀ ds xs, RepL K S ds xs → RepL K S' ds xs := by
  have key : ∀ n : Nat, (∀ d, sizeOf d < n → ∀ v, Rep K S d v → Rep K S' d v) ∧ ∀ ds : List D, sizeOf ds < n → ∀ xs, RepL K S ds xs → RepL K S' ds xs := by
    intro n
    induction n with
    | zero => exact ⟨fun _ h => absurd h (Nat.not_lt_zero _), fun _ h => absurd h (Nat.not_lt_zero _)⟩
    | succ n ih =>
      refine ⟨fun d hd v h => ?_, fun ds hd xs h => ?_⟩
      · cases d with
        | non => exact h
        | bl b => exact h
        | int i => exact h
        | str s => exact h
        | tup ds => obtain ⟨a, xs, e, s, r⟩ := h; exact ⟨a, xs, e, ex_t hz s, ih.2 ds (by simp at hd; omega) xs r⟩
        | lst ds => obtain ⟨a, xs, e, s, r⟩ := h; exact ⟨a, xs, e, hz _ _ s, ih.2 ds (by simp at hd; omega) xs r⟩
        | seq ds => obtain ⟨a, xs, e, s, r⟩ := h; exact ⟨a, xs, e, ex_l hz s, ih.2 ds (by simp at hd; omega) xs r⟩
        | dct ks ds => obtain ⟨a, xs, e, s, t, r⟩ := h; exact ⟨a, xs, e, hz _ _ s, t, ih.2 ds (by simp at hd; omega) _ r⟩
        | ins C fs ds => obtain ⟨a, dx, xs, e, s, t, r⟩ := h; exact ⟨a, dx, xs, e, hz _ _ s, t, ih.2 ds (by simp at hd; omega) _ r⟩
        | hdl a => exact h
        | raw u => exact h
      · cases ds with
        | nil => exact h
        | cons d r =>
          obtain ⟨x, q, e, h1, h2⟩ := h
          exact ⟨x, q, e, ih.1 d (by simp at hd; omega) x h1, ih.2 r (by simp at hd; omega) q h2⟩
  exact ⟨fun d v => (key (sizeOf d + 1)).1 d (by omega) v, fun ds xs => (key (sizeOf ds + 1)).2 ds (by omega) xs⟩
theorem Rep.grow {d : D} {v : V} (h : Rep K S d v) (g : Grow S S') : Rep K S' d v := (sg_mono g.zz).1 d v h
theorem RepL.grow {ds : List D} {xs : List V} (h : RepL K S ds xs) (g : Grow S S') : RepL K S' ds xs := (sg_mono g.zz).2 ds xs h
theorem RepL.len : ∀ {ds : List D} {xs : List V}, RepL K S ds xs → xs.length = ds.length
  | [], _, h => by have e : _ = [] := h; subst e; rfl
  | d :: ds, _, h => by obtain ⟨x, r, rfl, _, h⟩ := h; simp [RepL.len h]
theorem RepL.get : ∀ {ds : List D} {xs : List V} {i : Nat} {d : D}, RepL K S ds xs → ds[i]? = some d → ∃ x, xs[i]? = some x ∧ Rep K S d x
  | [], _, _, _, _, e => by simp at e
  | d :: ds, _, 0, _, h, e => by obtain ⟨x, r, rfl, h1, _⟩ := h; simp at e; subst e; exact ⟨x, rfl, h1⟩
  | d :: ds, _, i + 1, _, h, e => by
    obtain ⟨x, r, rfl, _, h2⟩ := h
    obtain ⟨y, h3, h4⟩ := RepL.get (i := i) h2 (by simpa using e)
    exact ⟨y, by simpa using h3, h4⟩
theorem RepL.get' : ∀ {ds : List D} {xs : List V} {i : Nat} {x : V}, RepL K S ds xs → xs[i]? = some x → ∃ d, ds[i]? = some d ∧ Rep K S d x := fun {ds xs i x} h e => by
  have hi : i < ds.length := by rw [← h.len]; exact (List.getElem?_eq_some_iff.mp e).1
  obtain ⟨y, e2, r⟩ := h.get (i := i) (d := ds[i]) (by simp [hi])
  rw [e] at e2; cases e2
  exact ⟨ds[i], by simp [hi], r⟩
theorem RepL.nil : RepL K S [] [] := rfl
theorem RepL.cons {d : D} {ds : List D} {x : V} {xs : List V} (h : Rep K S d x) (r : RepL K S ds xs) : RepL K S (d :: ds) (x :: xs) := ⟨x, xs, rfl, h, r⟩
theorem RepL.app : ∀ {ds es : List D} {xs ys : List V}, RepL K S ds xs → RepL K S es ys → RepL K S (ds ++ es) (xs ++ ys)
  | [], _, _, _, h, q => by have e : _ = [] := h; subst e; exact q
  | d :: ds, _, _, _, h, q => by obtain ⟨x, r, rfl, h1, h2⟩ := h; exact .cons h1 (RepL.app h2 q)
theorem RepL.one {d : D} {x : V} (h : Rep K S d x) : RepL K S [d] [x] := .cons h .nil
theorem RepL.take : ∀ {ds : List D} {xs : List V} (n : Nat), RepL K S ds xs → RepL K S (ds.take n) (xs.take n)
  | _, _, 0, _ => by simp only [List.take_zero]; exact .nil
  | [], _, n + 1, h => by have e : _ = [] := h; subst e; exact .nil
  | d :: ds, _, n + 1, h => by obtain ⟨x, r, rfl, h1, h2⟩ := h; exact .cons h1 (RepL.take n h2)
theorem RepL.drop : ∀ {ds : List D} {xs : List V} (n : Nat), RepL K S ds xs → RepL K S (ds.drop n) (xs.drop n)
  | _, _, 0, h => h
  | [], _, n + 1, h => by have e : _ = [] := h; subst e; exact .nil
  | d :: ds, _, n + 1, h => by obtain ⟨x, r, rfl, h1, h2⟩ := h; exact RepL.drop n h2
theorem RepL.set : ∀ {ds : List D} {xs : List V} {d : D} {x : V} (i : Nat), RepL K S ds xs → Rep K S d x → RepL K S (ds.set i d) (xs.set i x)
  | [], _, _, _, _, h, _ => by have e : _ = [] := h; subst e; exact .nil
  | d :: ds, _, _, _, 0, h, q => by obtain ⟨x, r, rfl, h1, h2⟩ := h; exact .cons q h2
  | d :: ds, _, _, _, i + 1, h, q => by obtain ⟨x, r, rfl, h1, h2⟩ := h; exact .cons h1 (RepL.set i h2 q)
theorem EnvOk.grow {σ : L2.St} {Γ : List (Option D)} (h : EnvOk K S σ Γ) (g : Grow S S') : EnvOk K S' σ Γ := ⟨h.1, fun i d e => by
  obtain ⟨v, h1, h2⟩ := h.2 i d e
  exact ⟨v, h1, h2.grow g⟩⟩
theorem EnvOk.set {σ : L2.St} {Γ : List (Option D)} {i : Nat} {d : D} {v : V} (h : EnvOk K S σ Γ) (r : Rep K S d v) : EnvOk K S (σ.set i (some v)) (Γ.set i (some d)) := by
  refine ⟨by simp [h.1], fun j e hj => ?_⟩
  by_cases q : i = j
  · subst q
    by_cases hl : i < Γ.length
    · rw [List.getElem?_set_self hl] at hj
      cases hj
      exact ⟨v, by rw [List.getElem?_set_self (by rw [h.1]; exact hl)], r⟩
    · rw [List.getElem?_eq_none (by simpa using hl)] at hj; cases hj
  · rw [List.getElem?_set_ne q] at hj ⊢
    exact h.2 j e hj
theorem EnvOk.weak {σ : L2.St} {Γ Γ' : List (Option D)} (h : EnvOk K S σ Γ) (hl : Γ'.length = Γ.length) (w : ∀ (i : Nat) d, Γ'[i]? = some (some d) → Γ[i]? = some (some d)) : EnvOk K S σ Γ' :=
  ⟨h.1.trans hl.symm, fun i d e => h.2 i d (w i d e)⟩
/-- the description of an object that is not touched -/
theorem MRep.keep {a : Addr} {m : MO} (h : MRep K S a m) (zz : Ex S.Z S'.Z) (hz : S.Z a = none → S'.Z a = none) (hh : ∀ o, S.H a = some o → S'.H a = some o) : MRep K S' a m := by
  cases m with
  | lst ds => obtain ⟨a1, xs, a2, a3⟩ := h; exact ⟨hz a1, xs, hh _ a2, (sg_mono zz).2 _ _ a3⟩
  | dct ks ds => obtain ⟨a1, xs, a2, a4, a3⟩ := h; exact ⟨hz a1, xs, hh _ a2, a4, (sg_mono zz).2 _ _ a3⟩
  | ins C fs ds => obtain ⟨a1, dx, xs, a2, a4, a3⟩ := h; exact ⟨hz a1, dx, xs, hh _ a2, a4, (sg_mono zz).2 _ _ a3⟩
  | ext f => obtain ⟨a1, a2⟩ := h; exact ⟨hz a1, hh _ a2⟩
  | gone => trivial
theorem OkM.in {M : Ms} (h : OkM K S M) {p : Addr × MO} (hp : p ∈ M) : p.1 ∈ S.as := by rw [h.len]; exact List.mem_map_of_mem hp
/-- something new that never changes -/
theorem new_z {M : Ms} {p : Addr} {o : HO} (h : OkM K S M) (hp : S.H p = none) : OkM K ⟨S.as, upd S.Z p o, upd S.H p o⟩ M ∧ Grow S ⟨S.as, upd S.Z p o, upd S.H p o⟩ := by
  have hz : S.Z p = none := h.zh.none hp
  have np : ∀ a ∈ S.as, a ≠ p := fun a m e => h.dom a m (by rw [e]; exact hp)
  have g : Grow S ⟨S.as, upd S.Z p o, upd S.H p o⟩ := ⟨fun _ m => .inl m, ex_new hz, fun q u e _ => ex_new hp q u e, fun q e => by
    by_cases z : q = p
    · show upd S.H p o q ≠ none
      rw [z, upd_same]; simp
    · show upd S.H p o q ≠ none
      rw [upd_ne z]; exact e, fun q e z _ => by
    have : q ≠ p := fun c => e (by rw [c]; exact hp)
    show upd S.Z p o q = none
    rw [upd_ne this]; exact z⟩
  refine ⟨⟨h.len, h.nd, ex_up h.zh, fun q hq => ?_, fun a m => g.dom a (h.dom a m)⟩, g⟩
  have hn : q.1 ≠ p := np _ (h.in hq)
  exact (h.mo q hq).keep g.zz (fun e => by show upd S.Z p o q.1 = none; rw [upd_ne hn]; exact e) (fun u e => by show upd S.H p o q.1 = some u; rw [upd_ne hn]; exact e)
/-- something new that may change -/
theorem new_m {M : Ms} {p : Addr} {o : HO} {m : MO} (h : OkM K S M) (hp : S.H p = none) (hm : Grow S ⟨S.as ++ [p], S.Z, upd S.H p o⟩ → MRep K ⟨S.as ++ [p], S.Z, upd S.H p o⟩ p m) :
    OkM K ⟨S.as ++ [p], S.Z, upd S.H p o⟩ (M ++ [(p, m)]) ∧ Grow S ⟨S.as ++ [p], S.Z, upd S.H p o⟩ := by
  have hz : S.Z p = none := h.zh.none hp
  have np : ∀ a ∈ S.as, a ≠ p := fun a m e => h.dom a m (by rw [e]; exact hp)
  have g : Grow S ⟨S.as ++ [p], S.Z, upd S.H p o⟩ := ⟨fun a m => by
    rcases List.mem_append.mp m with m | m
    · exact .inl m
    · right
      have e : a = p := by simpa using m
      rw [e]; exact hp, Ex.refl _, fun q u e _ => ex_new hp q u e, fun q e => by
    by_cases z : q = p
    · show upd S.H p o q ≠ none
      rw [z, upd_same]; simp
    · show upd S.H p o q ≠ none
      rw [upd_ne z]; exact e, fun q e z _ => z⟩
  refine ⟨⟨by simp [h.len], ?_, h.zh.trans (ex_new hp), fun q hq => ?_, fun a ma => ?_⟩, g⟩
  · rw [List.nodup_append]
    exact ⟨h.nd, by simp, fun a ha b hb => by simp at hb; subst hb; exact np a ha⟩
  · rcases List.mem_append.mp hq with hq | hq
    · have hn : q.1 ≠ p := np _ (h.in hq)
      exact (h.mo q hq).keep g.zz (fun e => e) (fun u e => by show upd S.H p o q.1 = some u; rw [upd_ne hn]; exact e)
    · have e : q = (p, m) := by simpa using hq
      subst e
      exact hm g
  · rcases List.mem_append.mp ma with ma | ma
    · exact g.dom a (h.dom a ma)
    · have ea : a = p := by simpa using ma
      subst ea
      show upd S.H a o a ≠ none
      rw [upd_same]; simp
theorem at_ne {M : Ms} {k j : Nat} {a b : Addr} {m m' : MO} (h : OkM K S M) (hk : M[k]? = some (a, m)) (hj : M[j]? = some (b, m')) (n : j ≠ k) : b ≠ a := fun z => by
  subst z
  have e1 : S.as[k]? = some b := by rw [h.len, List.getElem?_map, hk]; rfl
  have e2 : S.as[j]? = some b := by rw [h.len, List.getElem?_map, hj]; rfl
  obtain ⟨l1, q1⟩ := List.getElem?_eq_some_iff.mp e1
  obtain ⟨l2, q2⟩ := List.getElem?_eq_some_iff.mp e2
  exact n ((List.getElem_inj h.nd).mp (q2.trans q1.symm))
theorem set_names {M : Ms} {k : Nat} {a : Addr} {m m' : MO} (hk : M[k]? = some (a, m)) : (M.set k (a, m')).map (·.1) = M.map (·.1) := by
  apply List.ext_getElem?
  intro j
  rw [List.getElem?_map, List.getElem?_map]
  by_cases q : k = j
  · subst q
    rw [List.getElem?_set_self (List.getElem?_eq_some_iff.mp hk).1, hk]; rfl
  · rw [List.getElem?_set_ne q]
theorem OkM.at {M : Ms} {k : Nat} {a : Addr} {m : MO} (h : OkM K S M) (hk : M[k]? = some (a, m)) : MRep K S a m := h.mo _ (List.mem_of_getElem? hk)
/-- an object that may change is changed -/
theorem set_m {M : Ms} {k : Nat} {a : Addr} {o : HO} {m m' : MO} (h : OkM K S M) (hk : M[k]? = some (a, m')) (hz : S.Z a = none) (hm : Grow S ⟨S.as, S.Z, upd S.H a o⟩ → MRep K ⟨S.as, S.Z, upd S.H a o⟩ a m) :
    OkM K ⟨S.as, S.Z, upd S.H a o⟩ (M.set k (a, m)) ∧ Grow S ⟨S.as, S.Z, upd S.H a o⟩ := by
  have mem : a ∈ S.as := h.in (List.mem_of_getElem? hk)
  have g : Grow S ⟨S.as, S.Z, upd S.H a o⟩ := ⟨fun _ m => .inl m, Ex.refl _, fun q u e n => by
    have : q ≠ a := fun z => n (by rw [z]; exact mem)
    show upd S.H a o q = some u
    rw [upd_ne this]; exact e, fun q e => by
    by_cases z : q = a
    · show upd S.H a o q ≠ none
      rw [z, upd_same]; simp
    · show upd S.H a o q ≠ none
      rw [upd_ne z]; exact e, fun q e z _ => z⟩
  refine ⟨⟨by rw [set_names hk]; exact h.len, h.nd, fun b u e => ?_, fun q hq => ?_, fun b mb => g.dom b (h.dom b mb)⟩, g⟩
  · have : b ≠ a := fun z => by rw [z, hz] at e; cases e
    show upd S.H a o b = some u
    rw [upd_ne this]; exact h.zh b u e
  · obtain ⟨j, hj⟩ := List.mem_iff_getElem?.mp hq
    by_cases c : k = j
    · subst c
      rw [List.getElem?_set_self (List.getElem?_eq_some_iff.mp hk).1] at hj
      cases hj
      exact hm g
    · rw [List.getElem?_set_ne c] at hj
      have hn : q.1 ≠ a := at_ne h hk hj (Ne.symm c)
      exact (h.at hj).keep g.zz (fun e => e) (fun u e => by show upd S.H a o q.1 = some u; rw [upd_ne hn]; exact e)
/-- from now on the object at k never changes -/
theorem frz_m {M : Ms} {k : Nat} {a : Addr} {o : HO} {m' : MO} (h : OkM K S M) (hk : M[k]? = some (a, m')) (hz : S.Z a = none) (ho : S.H a = some o) :
    OkM K ⟨S.as, upd S.Z a o, S.H⟩ (M.set k (a, .gone)) ∧ Grow S ⟨S.as, upd S.Z a o, S.H⟩ := by
  have mem : a ∈ S.as := h.in (List.mem_of_getElem? hk)
  have g : Grow S ⟨S.as, upd S.Z a o, S.H⟩ := ⟨fun _ m => .inl m, ex_new hz, fun q u e _ => e, fun q e => e, fun q e z n => by
    have : q ≠ a := fun c => n (by rw [c]; exact mem)
    show upd S.Z a o q = none
    rw [upd_ne this]; exact z⟩
  refine ⟨⟨by rw [set_names hk]; exact h.len, h.nd, fun b u e => ?_, fun q hq => ?_, h.dom⟩, g⟩
  · by_cases q : b = a
    · subst q
      have e' : upd S.Z b o b = some u := e
      rw [upd_same] at e'; cases e'; exact ho
    · have e' : upd S.Z a o b = some u := e
      rw [upd_ne q] at e'; exact h.zh b u e'
  · obtain ⟨j, hj⟩ := List.mem_iff_getElem?.mp hq
    by_cases c : k = j
    · subst c
      rw [List.getElem?_set_self (List.getElem?_eq_some_iff.mp hk).1] at hj
      cases hj
      trivial
    · rw [List.getElem?_set_ne c] at hj
      have hn : q.1 ≠ a := at_ne h hk hj (Ne.symm c)
      exact (h.at hj).keep g.zz (fun e => by show upd S.Z a o q.1 = none; rw [upd_ne hn]; exact e) (fun u e => e)
/-- what may change is looked at no more -/
theorem drop_m {M M' : Ms} (h : OkM K S M) (hs : M'.Sublist M) : OkM K ⟨M'.map (·.1), S.Z, S.H⟩ M' ∧ ∀ S0, Grow S0 S → Grow S0 ⟨M'.map (·.1), S.Z, S.H⟩ := by
  have sub : (M'.map (·.1)).Sublist S.as := by rw [h.len]; exact hs.map _
  refine ⟨⟨rfl, sub.nodup h.nd, h.zh, fun p hp => (h.mo p (hs.subset hp)).keep (S' := ⟨M'.map (·.1), S.Z, S.H⟩) (Ex.refl _) (fun e => e) (fun _ e => e), fun a ha => h.dom a (sub.subset ha)⟩, fun S0 g => ⟨fun a ha => g.pre a (sub.subset ha), g.zz, g.keep, g.dom, g.sep⟩⟩
/-- the objects at the places ks -/
def pick (ks : List Nat) (M : Ms) : Ms := ks.filterMap (M[·]?)
/-- .. back in their places; what is new comes behind -/
def merge : List Nat → Ms → Ms → Ms
  | [], M, N => M ++ N
  | _ :: _, M, [] => M
  | k :: ks, M, p :: N => merge ks (M.set k p) N
theorem merge_mem : ∀ {ks : List Nat} {M N : Ms} {p : Addr × MO}, p ∈ merge ks M N → p ∈ N ∨ ∃ j : Nat, M[j]? = some p ∧ (j ∉ ks ∨ N.length < ks.length)
  | [], M, N, p, h => by
    rcases List.mem_append.mp h with h | h
    · obtain ⟨j, hj⟩ := List.mem_iff_getElem?.mp h
      exact .inr ⟨j, hj, .inl (by simp)⟩
    · exact .inl h
  | k :: ks, M, [], p, h => by
    obtain ⟨j, hj⟩ := List.mem_iff_getElem?.mp (show p ∈ M from h)
    exact .inr ⟨j, hj, .inr (by simp)⟩
  | k :: ks, M, q :: N, p, h => by
    rcases merge_mem (ks := ks) (M := M.set k q) (N := N) h with h | ⟨j, hj, hn⟩
    · exact .inl (List.mem_cons_of_mem _ h)
    · by_cases c : k = j
      · subst c
        by_cases hl : k < M.length
        · rw [List.getElem?_set_self hl] at hj
          cases hj
          exact .inl List.mem_cons_self
        · rw [List.getElem?_eq_none (by simpa using hl)] at hj; cases hj
      · rw [List.getElem?_set_ne c] at hj
        refine .inr ⟨j, hj, ?_⟩
        rcases hn with hn | hn
        · left
          intro m
          rcases List.mem_cons.mp m with m | m
          · exact c m.symm
          · exact hn m
        · right; simp; omega
theorem merge_names : ∀ {ks : List Nat} {M N : Ms}, (N.take ks.length).map (·.1) = (pick ks M).map (·.1) → (∀ k ∈ ks, k < M.length) → ks.Nodup → (merge ks M N).map (·.1) = M.map (·.1) ++ (N.drop ks.length).map (·.1)
  | [], M, N, _, _, _ => by simp [merge]
  | k :: ks, M, [], h, hk, _ => by
    have hl : k < M.length := hk k List.mem_cons_self
    have e : pick (k :: ks) M = M[k] :: pick ks M := by
      unfold pick
      rw [List.filterMap_cons_some (b := M[k]) (by simp [hl])]
    rw [e] at h
    simp at h
  | k :: ks, M, p :: N, h, hk, nd => by
    have hl : k < M.length := hk k List.mem_cons_self
    have e : pick (k :: ks) M = M[k] :: pick ks M := by
      unfold pick
      rw [List.filterMap_cons_some (b := M[k]) (by simp [hl])]
    rw [e] at h
    simp only [List.length_cons, List.take_succ_cons, List.map_cons, List.cons.injEq] at h
    have hk2 : M[k]? = some (M[k].1, M[k].2) := by simp [hl]
    have hs : (M.set k p).map (·.1) = M.map (·.1) := by
      have : p = (M[k].1, p.2) := by rw [← h.1]
      rw [this]
      exact set_names (m := M[k].2) hk2
    have hp : (pick ks (M.set k p)) = pick ks M := by
      unfold pick
      have : ∀ l : List Nat, (∀ j ∈ l, j ≠ k) → l.filterMap (fun j => (M.set k p)[j]?) = l.filterMap (fun j => M[j]?) := by
        intro l
        induction l with
        | nil => intro _; rfl
        | cons j l ih =>
          intro hj
          have e1 : (M.set k p)[j]? = M[j]? := List.getElem?_set_ne (Ne.symm (hj j List.mem_cons_self))
          simp only [List.filterMap_cons, e1]
          rw [ih fun i hi => hj i (List.mem_cons_of_mem _ hi)]
      exact this ks fun j hj c => by
        subst c
        exact (List.nodup_cons.mp nd).1 hj
    have ih := merge_names (ks := ks) (M := M.set k p) (N := N) (by rw [hp]; exact h.2) (fun j hj => by rw [List.length_set]; exact hk j (List.mem_cons_of_mem _ hj)) (List.nodup_cons.mp nd).2
    show (merge ks (M.set k p) N).map (·.1) = _
    rw [ih, hs]
    simp
theorem pick_mem {ks : List Nat} {M : Ms} {p : Addr × MO} (h : p ∈ pick ks M) : ∃ k ∈ ks, M[k]? = some p := by
  unfold pick at h
  obtain ⟨k, hk, e⟩ := List.mem_filterMap.mp h
  exact ⟨k, hk, e⟩
theorem pick_names {ks : List Nat} {M : Ms} (h : OkM K S M) (nd : ks.Nodup) : ((pick ks M).map (·.1)).Nodup := by
  unfold pick
  induction ks with
  | nil => simp
  | cons k ks ih =>
    have ih := ih (List.nodup_cons.mp nd).2
    cases e : M[k]? with
    | none => rw [List.filterMap_cons_none e]; exact ih
    | some p =>
      rw [List.filterMap_cons_some e, List.map_cons, List.nodup_cons]
      refine ⟨fun m => ?_, ih⟩
      obtain ⟨q, hq, e1⟩ := List.mem_map.mp m
      obtain ⟨j, hj, e2⟩ := pick_mem (ks := ks) (M := M) hq
      have : j ≠ k := fun c => (List.nodup_cons.mp nd).1 (by rw [← c]; exact hj)
      exact at_ne (a := p.1) (m := p.2) (b := q.1) (m' := q.2) h e e2 this e1
theorem pick_ok {ks : List Nat} {M : Ms} (h : OkM K S M) (nd : ks.Nodup) : OkM K ⟨(pick ks M).map (·.1), S.Z, S.H⟩ (pick ks M) :=
  ⟨rfl, pick_names h nd, h.zh, fun p hp => by
    obtain ⟨k, _, e⟩ := pick_mem hp
    exact (h.at (a := p.1) (m := p.2) e).keep (S' := ⟨(pick ks M).map (·.1), S.Z, S.H⟩) (Ex.refl _) (fun e => e) (fun _ e => e), fun a ha => by
    obtain ⟨p, hp, e⟩ := List.mem_map.mp ha
    obtain ⟨k, _, e2⟩ := pick_mem hp
    rw [← e]; exact h.dom _ (h.in (List.mem_of_getElem? e2))⟩
/-- behind a call that was handed the objects at ks -/
theorem merge_ok {ks : List Nat} {M N : Ms} {S2 : Sg} (h : OkM K S M) (nd : ks.Nodup) (hk : ∀ k ∈ ks, k < M.length) (h2 : OkM K S2 N) (g : Grow ⟨(pick ks M).map (·.1), S.Z, S.H⟩ S2) (hn : (N.take ks.length).map (·.1) = (pick ks M).map (·.1)) :
    OkM K ⟨(merge ks M N).map (·.1), S2.Z, S2.H⟩ (merge ks M N) ∧ Grow S ⟨(merge ks M N).map (·.1), S2.Z, S2.H⟩ := by
  have names := merge_names hn hk nd
  have ndN : (N.map (·.1)).Nodup := by rw [← h2.len]; exact h2.nd
  have split : N.map (·.1) = (pick ks M).map (·.1) ++ (N.drop ks.length).map (·.1) := by
    rw [← hn, ← List.map_append, List.take_append_drop]
  have subM : ∀ a ∈ (pick ks M).map (·.1), a ∈ S.as := fun a ha => by
    obtain ⟨p, hp, e⟩ := List.mem_map.mp ha
    obtain ⟨k, _, e2⟩ := pick_mem hp
    rw [← e]; exact h.in (List.mem_of_getElem? e2)
  have new : ∀ a ∈ (N.drop ks.length).map (·.1), S.H a = none := fun a ha => by
    have ha2 : a ∈ S2.as := by rw [h2.len, split]; exact List.mem_append_right _ ha
    rcases g.pre a ha2 with q | q
    · exfalso
      rw [split] at ndN
      exact (List.nodup_append.mp ndN).2.2 a q a ha rfl
    · exact q
  have len : ks.length ≤ N.length := by
    have l1 : (pick ks M).length = ks.length := by
      unfold pick
      clear names split subM new hn g h2 ndN
      induction ks with
      | nil => rfl
      | cons k ks ih =>
        have hl : k < M.length := hk k List.mem_cons_self
        rw [List.filterMap_cons_some (b := M[k]) (by simp [hl])]
        simp [ih (List.nodup_cons.mp nd).2 fun j hj => hk j (List.mem_cons_of_mem _ hj)]
    have l2 := congrArg List.length hn
    simp [l1] at l2
    omega
  refine ⟨⟨rfl, ?_, h2.zh, fun p hp => ?_, fun a ha => ?_⟩, ⟨fun a ha => ?_, g.zz, fun q o e n => g.keep q o e fun m => n (subM q m), g.dom, fun q e z n => g.sep q e z fun m => n (subM q m)⟩⟩
  · show ((merge ks M N).map (·.1)).Nodup
    rw [names, List.nodup_append]
    refine ⟨by rw [← h.len]; exact h.nd, ?_, fun a ha b hb e => ?_⟩
    · rw [split] at ndN; exact (List.nodup_append.mp ndN).2.1
    · subst e
      exact h.dom a (by rw [h.len]; exact ha) (new a hb)
  · rcases merge_mem hp with hp | ⟨j, hj, hn'⟩
    · exact (h2.mo p hp).keep (S' := ⟨(merge ks M N).map (·.1), S2.Z, S2.H⟩) (Ex.refl _) (fun e => e) (fun _ e => e)
    · have hjk : j ∉ ks := hn'.elim id fun c => absurd len (by omega)
      have notin : p.1 ∉ (pick ks M).map (·.1) := fun m => by
        obtain ⟨q, hq, e⟩ := List.mem_map.mp m
        obtain ⟨k, hk', e2⟩ := pick_mem hq
        exact at_ne (a := q.1) (m := q.2) (b := p.1) (m' := p.2) h e2 hj (fun c => hjk (by rw [c]; exact hk')) e.symm
      have hd : S.H p.1 ≠ none := h.dom _ (h.in (List.mem_of_getElem? hj))
      exact (h.at (a := p.1) (m := p.2) hj).keep (S' := ⟨(merge ks M N).map (·.1), S2.Z, S2.H⟩) g.zz (fun e => g.sep p.1 hd e notin) (fun o e => g.keep p.1 o e notin)
  · have ha' : a ∈ M.map (·.1) ++ (N.drop ks.length).map (·.1) := by rw [← names]; exact ha
    rcases List.mem_append.mp ha' with q | q
    · exact g.dom a (h.dom a (by rw [h.len]; exact q))
    · exact h2.dom a (by rw [h2.len, split]; exact List.mem_append_right _ q)
  · have ha' : a ∈ M.map (·.1) ++ (N.drop ks.length).map (·.1) := by rw [← names]; exact ha
    rcases List.mem_append.mp ha' with q | q
    · left; rw [h.len]; exact q
    · exact .inr (new a q)
end
end PD

set_option Elab.async false
set_option linter.all false
set_option maxRecDepth 100000
set_option maxHeartbeats 4000000
/-! PD: the judgements, names, constants, operators, tests, statements. -/
namespace PD
open PySem L2
open Evl (Ex ex_rd ex_l ex_t)

def WE (X : Cx) (e : Expr) : TE := fun σ H Q => ∀ (pins : List (Addr × Obj)) (s : Shared), Inv X pins σ H s → wpAny (model X.prog X.w) X.A (eval e X.env) (EP X pins σ Q) X.xe s
def WT (X : Cx) (e : Expr) : TT := fun σ H Q => ∀ (pins : List (Addr × Obj)) (s : Shared), Inv X pins σ H s → wpAny (model X.prog X.w) X.A (isTrue e X.env (eval e X.env)) (TP X pins σ Q) X.xe s
def WP (X : Cx) (e : Expr) : TT := fun σ H Q => ∀ (whole : Sem Value) (pins : List (Addr × Obj)) (s : Shared), Inv X pins σ H s → wpAny (model X.prog X.w) X.A (isTrue e X.env whole) (TP X pins σ Q) X.xe s
def WA (X : Cx) (es : List Expr) : TA := fun σ H Q => ∀ (pos : Pos) (pins : List (Addr × Obj)) (s : Shared), Inv X pins σ H s → wpAny (model X.prog X.w) X.A (spliced (backTo pos (starEach es X.env))) (AP X pins σ Q) X.xe s
def WS (X : Cx) (st : Stmt) : TS := fun D σ H => ∀ (pins : List (Addr × Obj)) (s : Shared), Inv X pins σ H s → wpAny (model X.prog X.w) X.A (exec st X.env) (SP X pins D) X.xe s
def WB (X : Cx) (st : List Stmt) : TS := fun D σ H => ∀ (pins : List (Addr × Obj)) (s : Shared), Inv X pins σ H s → wpAny (model X.prog X.w) X.A (execs st X.env) (SP X pins D) X.xe s
def WG (X : Cx) (tg : Expr) : TG := fun v σ H Q => ∀ (pins : List (Addr × Obj)) (s : Shared) (u : Value), Inv X pins σ H s → RelV v u →
    wpAny (model X.prog X.w) X.A (assign tg X.env u) (fun _ s' => ∃ σ' H', Inv X pins σ' H' s' ∧ Q σ' H') X.xe s
section
variable {X : Cx} {e : Expr} {es : List Expr} {st : Stmt} {sts : List Stmt}
theorem we : PE X e (WE X e) := ⟨fun pins s _ _ _ I h => h pins s I⟩
theorem wt : PT X e (WT X e) := ⟨fun pins s _ _ _ I h => h pins s I⟩
theorem wpw : PW X e (WP X e) := ⟨fun w pins s _ _ _ I h => h w pins s I⟩
theorem wa : PA X es (WA X es) := ⟨fun pos pins s _ _ _ I h => h pos pins s I⟩
theorem wst : PS X st (WS X st) := ⟨fun pins s _ _ _ I h => h pins s I⟩
theorem wb : PSs X sts (WB X sts) := ⟨fun pins s _ _ _ I h => h pins s I⟩
theorem wg : PG X e (WG X e) := ⟨fun pins s _ _ _ u _ I r h => h pins s u I r⟩
theorem of_pe {t : TE} {σ : L2.St} {H : Hp} {Q : VK} (p : PE X e t) (h : t σ H Q) : WE X e σ H Q := fun pins s I => p.run pins s σ H Q I h
theorem of_pt {t : TT} {σ : L2.St} {H : Hp} {Q : Bool → Hp → Prop} (p : PT X e t) (h : t σ H Q) : WT X e σ H Q := fun pins s I => p.run pins s σ H Q I h
theorem of_pw {t : TT} {σ : L2.St} {H : Hp} {Q : Bool → Hp → Prop} (p : PW X e t) (h : t σ H Q) : WP X e σ H Q := fun w pins s I => p.run w pins s σ H Q I h
theorem of_pa {t : TA} {σ : L2.St} {H : Hp} {Q : List V → Hp → Prop} (p : PA X es t) (h : t σ H Q) : WA X es σ H Q := fun pos pins s I => p.run pos pins s σ H Q I h
theorem of_ps {t : TS} {σ : L2.St} {H : Hp} {D : Ends} (p : PS X st t) (h : t D σ H) : WS X st D σ H := fun pins s I => p.run pins s σ H D I h
theorem of_pb {t : TS} {σ : L2.St} {H : Hp} {D : Ends} (p : PSs X sts t) (h : t D σ H) : WB X sts D σ H := fun pins s I => p.run pins s σ H D I h
end

abbrev En := List (Option D)
abbrev KD := D → Ms → Prop
abbrev KB := Bool → Ms → Prop
abbrev KDs := List D → Ms → Prop
abbrev KX := Value → List (Str × D) → Ms → Prop
section
variable (K : PySem.W.Frag) (S : Sg)
def KV (k : KD) (Q : VK) : Prop := ∀ d M' S' v, k d M' → OkM K S' M' → Grow S S' → Rep K S' d v → Q v S'.H
def KT (k : KB) (Q : Bool → Hp → Prop) : Prop := ∀ b M' S', k b M' → OkM K S' M' → Grow S S' → Q b S'.H
def KA (k : KDs) (Q : List V → Hp → Prop) : Prop := ∀ ds M' S' vs, k ds M' → OkM K S' M' → Grow S S' → RepL K S' ds vs → Q vs S'.H
def KW (kx : KX) (W : WX) (σ : L2.St) : Prop := ∀ cls fs M' S' dd, kx cls fs M' → OkM K S' M' → Grow S S' → XRep K S' dd fs → W cls dd σ S'.H
/-- the wishes behind a statement, by its ways out -/
structure ED where
  nx : En → Ms → Prop
  rt : KD
  bk : En → Ms → Prop := fun _ _ => False
  ct : En → Ms → Prop := fun _ _ => False
  ex : Value → List (Str × D) → En → Ms → Prop := fun _ _ _ _ => False
def KN (k : En → Ms → Prop) (Q : L2.St → Hp → Prop) : Prop := ∀ Γ' M' S' σ', k Γ' M' → OkM K S' M' → Grow S S' → EnvOk K S' σ' Γ' → Q σ' S'.H
structure LK (E : ED) (De : Ends) (W : WX) : Prop where
  nx : KN K S E.nx De.nx
  rt : KV K S E.rt De.rt
  bk : KN K S E.bk De.bk
  ct : KN K S E.ct De.ct
  ex : ∀ cls fs Γ' M' S' σ' dd, E.ex cls fs Γ' M' → OkM K S' M' → Grow S S' → EnvOk K S' σ' Γ' → XRep K S' dd fs → W cls dd σ' S'.H
end
section
variable {K : PySem.W.Frag} {S S' : Sg}
theorem KV.grow {k : KD} {Q : VK} (h : KV K S k Q) (g : Grow S S') : KV K S' k Q := fun d M' S2 v a b c r => h d M' S2 v a b (g.trans c) r
theorem KT.grow {k : KB} {Q : Bool → Hp → Prop} (h : KT K S k Q) (g : Grow S S') : KT K S' k Q := fun d M' S2 a b c => h d M' S2 a b (g.trans c)
theorem KA.grow {k : KDs} {Q : List V → Hp → Prop} (h : KA K S k Q) (g : Grow S S') : KA K S' k Q := fun d M' S2 v a b c r => h d M' S2 v a b (g.trans c) r
theorem KN.grow {k : En → Ms → Prop} {Q : L2.St → Hp → Prop} (h : KN K S k Q) (g : Grow S S') : KN K S' k Q := fun d M' S2 v a b c r => h d M' S2 v a b (g.trans c) r
theorem KW.grow {kx : KX} {W : WX} {σ : L2.St} (h : KW K S kx W σ) (g : Grow S S') : KW K S' kx W σ := fun c f M' S2 dd a b q r => h c f M' S2 dd a b (g.trans q) r
theorem LK.grow {E : ED} {De : Ends} {W : WX} (h : LK K S E De W) (g : Grow S S') : LK K S' E De W :=
  ⟨h.nx.grow g, h.rt.grow g, h.bk.grow g, h.ct.grow g, fun c f Γ M' S2 σ dd a b q r x => h.ex c f Γ M' S2 σ dd a b (g.trans q) r x⟩
end
section
variable (X : Cx) (Γ : En) (M : Ms)
def GE (e : Expr) (k : KD) (kx : KX) : Prop := ∀ S σ, OkM X.K S M → EnvOk X.K S σ Γ → ∀ W, Takes X W → KW X.K S kx W σ → ∀ Q, KV X.K S k Q → WE X e σ S.H Q
def GT (e : Expr) (k : KB) (kx : KX) : Prop := ∀ S σ, OkM X.K S M → EnvOk X.K S σ Γ → ∀ W, Takes X W → KW X.K S kx W σ → ∀ Q, KT X.K S k Q → WT X e σ S.H Q
def GP (e : Expr) (k : KB) (kx : KX) : Prop := ∀ S σ, OkM X.K S M → EnvOk X.K S σ Γ → ∀ W, Takes X W → KW X.K S kx W σ → ∀ Q, KT X.K S k Q → WP X e σ S.H Q
def GA (es : List Expr) (k : KDs) (kx : KX) : Prop := ∀ S σ, OkM X.K S M → EnvOk X.K S σ Γ → ∀ W, Takes X W → KW X.K S kx W σ → ∀ Q, KA X.K S k Q → WA X es σ S.H Q
def GS (st : Stmt) (E : ED) : Prop := ∀ S σ, OkM X.K S M → EnvOk X.K S σ Γ → ∀ W, Takes X W → ∀ De, LK X.K S E De W → WS X st De σ S.H
def GB (sts : List Stmt) (E : ED) : Prop := ∀ S σ, OkM X.K S M → EnvOk X.K S σ Γ → ∀ W, Takes X W → ∀ De, LK X.K S E De W → WB X sts De σ S.H
/-- the target of an assignment: the value d (standing) is stored -/
def GG (tg : Expr) (d : D) (k : En → Prop) : Prop := ∀ S σ, OkM X.K S M → EnvOk X.K S σ Γ → ∀ v, Rep X.K S d v → ∀ Q : L2.St → Hp → Prop, (∀ Γ' σ', k Γ' → EnvOk X.K S σ' Γ' → Q σ' S.H) → WG X tg v σ S.H Q
/-- e is worth d, nothing else happens -/
def EV (e : Expr) (d : D) : Prop := GE X Γ M e (fun d' M' => d' = d ∧ M' = M) fun _ _ _ => False
def TV (e : Expr) (b : Bool) : Prop := GT X Γ M e (fun b' M' => b' = b ∧ M' = M) fun _ _ _ => False
def PV (e : Expr) (b : Bool) : Prop := GP X Γ M e (fun b' M' => b' = b ∧ M' = M) fun _ _ _ => False
def AV (es : List Expr) (ds : List D) : Prop := GA X Γ M es (fun d' M' => d' = ds ∧ M' = M) fun _ _ _ => False
end
section
variable {X : Cx} {Γ : En} {M : Ms} {e a b c : Expr} {es : List Expr} {st : Stmt} {rest : List Stmt} {k : KD} {kx : KX} {E : ED} {d x y z : D} {pos : Pos}
theorem GE.mono {k' : KD} {kx' : KX} (h : GE X Γ M e k kx) (hk : ∀ d M', k d M' → k' d M') (hx : ∀ c f M', kx c f M' → kx' c f M') : GE X Γ M e k' kx' := fun S σ hM hE W tk hW Q hQ =>
  h S σ hM hE W tk (fun c f M' S' dd a => hW c f M' S' dd (hx _ _ _ a)) Q fun d M' S' v a => hQ d M' S' v (hk _ _ a)
theorem GT.mono {k k' : KB} {kx' : KX} (h : GT X Γ M e k kx) (hk : ∀ d M', k d M' → k' d M') (hx : ∀ c f M', kx c f M' → kx' c f M') : GT X Γ M e k' kx' := fun S σ hM hE W tk hW Q hQ =>
  h S σ hM hE W tk (fun c f M' S' dd a => hW c f M' S' dd (hx _ _ _ a)) Q fun d M' S' a => hQ d M' S' (hk _ _ a)
theorem GP.mono {k k' : KB} {kx' : KX} (h : GP X Γ M e k kx) (hk : ∀ d M', k d M' → k' d M') (hx : ∀ c f M', kx c f M' → kx' c f M') : GP X Γ M e k' kx' := fun S σ hM hE W tk hW Q hQ =>
  h S σ hM hE W tk (fun c f M' S' dd a => hW c f M' S' dd (hx _ _ _ a)) Q fun d M' S' a => hQ d M' S' (hk _ _ a)
theorem GA.mono {k k' : KDs} {kx' : KX} (h : GA X Γ M es k kx) (hk : ∀ d M', k d M' → k' d M') (hx : ∀ c f M', kx c f M' → kx' c f M') : GA X Γ M es k' kx' := fun S σ hM hE W tk hW Q hQ =>
  h S σ hM hE W tk (fun c f M' S' dd a => hW c f M' S' dd (hx _ _ _ a)) Q fun d M' S' v a => hQ d M' S' v (hk _ _ a)
/-- a pure expression, in its place -/
theorem EV.ge (h : EV X Γ M e d) (hk : k d M) : GE X Γ M e k kx := GE.mono h (fun _ _ ⟨a, b⟩ => by rw [a, b]; exact hk) fun _ _ _ z => z.elim
theorem TV.gt {k : KB} {v : Bool} (h : TV X Γ M e v) (hk : k v M) : GT X Γ M e k kx := GT.mono h (fun _ _ ⟨a, b⟩ => by rw [a, b]; exact hk) fun _ _ _ z => z.elim
theorem PV.gp {k : KB} {v : Bool} (h : PV X Γ M e v) (hk : k v M) : GP X Γ M e k kx := GP.mono h (fun _ _ ⟨a, b⟩ => by rw [a, b]; exact hk) fun _ _ _ z => z.elim
theorem AV.ga {k : KDs} {ds : List D} (h : AV X Γ M es ds) (hk : k ds M) : GA X Γ M es k kx := GA.mono h (fun _ _ ⟨a, b⟩ => by rw [a, b]; exact hk) fun _ _ _ z => z.elim
theorem EV.eq {d' : D} (h : EV X Γ M e d) (q : d = d') : EV X Γ M e d' := by rw [← q]; exact h
theorem TV.eq {v v' : Bool} (h : TV X Γ M e v) (q : v = v') : TV X Γ M e v' := by rw [← q]; exact h

/-! ### plain names, literals -/
theorem ge_var (i : Nat) {x : Str} (hk : k d M) (hN : X.N[i]? = some x := by rfl) (hv : Vis X.env.scope x := by first | exact Or.inl rfl | exact Or.inr (Or.inl rfl) | exact Or.inr (Or.inr rfl)) (hd : Γ[i]? = some (some d) := by rfl)
    (h1 : (x == ("__debug__" : Str)) = false := by decide) (h2 : (x == ("__classdict__" : Str)) = false := by decide) : GE X Γ M (.Name x pos) k kx := fun S σ hM hE W tk hW Q hQ =>
  of_pe (pe_var hN hv h1 h2) (by
    obtain ⟨v, e1, r⟩ := hE.2 i d hd
    exact ⟨v, e1, hQ d M S v hk hM (Grow.refl _) r⟩)
theorem ge_int {i : Int} {j : Nat} (hk : k (.int i) M) : GE X Γ M (.Constant (.int i) j pos) k kx := fun S σ hM hE W tk hW Q hQ => of_pe pe_int (hQ (.int i) M S _ hk hM (Grow.refl _) rfl)
theorem ge_bl {v : Bool} {j : Nat} (hk : k (.bl v) M) : GE X Γ M (.Constant (.bool v) j pos) k kx := fun S σ hM hE W tk hW Q hQ => of_pe pe_bl (hQ (.bl v) M S _ hk hM (Grow.refl _) rfl)
theorem ge_non {j : Nat} (hk : k .non M) : GE X Γ M (.Constant .none j pos) k kx := fun S σ hM hE W tk hW Q hQ => of_pe pe_non (hQ .non M S _ hk hM (Grow.refl _) rfl)
theorem ge_str {v : Str} {j : Nat} (hk : k (.str v) M) : GE X Γ M (.Constant (.str v) j pos) k kx := fun S σ hM hE W tk hW Q hQ => of_pe pe_str (hQ (.str v) M S _ hk hM (Grow.refl _) rfl)
/-- a constant of the module -/
def Glob (K : PySem.W.Frag) (mg : Str → Option Value) (x : Str) (d : D) : Prop := ∃ u v, mg x = some u ∧ RelV v u ∧ ∀ S, Rep K S d v
theorem ge_glob {x : Str} (g : Glob X.K X.mg x d) (hk : k d M) (hg : Gl X x := by rfl) (h1 : (x == ("__debug__" : Str)) = false := by decide) : GE X Γ M (.Name x pos) k kx := fun S σ hM hE W tk hW Q hQ => by
  obtain ⟨u, v, hm, r, hr⟩ := g
  exact of_pe (pe_glob hg hm r h1) (hQ d M S v hk hM (Grow.refl _) (hr S))
theorem ev_var (i : Nat) {x : Str} (hN : X.N[i]? = some x := by rfl) (hv : Vis X.env.scope x := by first | exact Or.inl rfl | exact Or.inr (Or.inl rfl) | exact Or.inr (Or.inr rfl)) (hd : Γ[i]? = some (some d) := by rfl)
    (h1 : (x == ("__debug__" : Str)) = false := by decide) (h2 : (x == ("__classdict__" : Str)) = false := by decide) : EV X Γ M (.Name x pos) d := ge_var i ⟨rfl, rfl⟩ hN hv hd h1 h2
theorem ev_int {i : Int} {j : Nat} : EV X Γ M (.Constant (.int i) j pos) (.int i) := ge_int ⟨rfl, rfl⟩
theorem ev_bl {v : Bool} {j : Nat} : EV X Γ M (.Constant (.bool v) j pos) (.bl v) := ge_bl ⟨rfl, rfl⟩
theorem ev_non {j : Nat} : EV X Γ M (.Constant .none j pos) .non := ge_non ⟨rfl, rfl⟩
theorem ev_str {v : Str} {j : Nat} : EV X Γ M (.Constant (.str v) j pos) (.str v) := ge_str ⟨rfl, rfl⟩
theorem ev_glob {x : Str} (g : Glob X.K X.mg x d) (hg : Gl X x := by rfl) (h1 : (x == ("__debug__" : Str)) = false := by decide) : EV X Γ M (.Name x pos) d := ge_glob g ⟨rfl, rfl⟩ hg h1

/-! ### operators -/
/-- what the values' rule r makes of x and y, said of data -/
def Bin (K : PySem.W.Frag) (r : R2) (x y : D) (M : Ms) (k : KD) : Prop := ∀ S vx vy, OkM K S M → Rep K S x vx → Rep K S y vy → ∀ Q, KV K S k Q → r vx vy S.H Q
/-- .. nothing else happens -/
def BinV (K : PySem.W.Frag) (r : R2) (x y : D) (M : Ms) (z : D) : Prop := Bin K r x y M fun d M' => d = z ∧ M' = M
theorem BinV.bin {K : PySem.W.Frag} {r : R2} (h : BinV K r x y M z) (hk : k z M) : Bin K r x y M k := fun S vx vy hM rx ry Q hQ => h S vx vy hM rx ry Q fun d M' S' v ⟨a, b⟩ => by
  rw [a, b]; exact hQ z M S' v hk
theorem ge_bin {op : Operator} {r : R2} (ho : OpR X (binaryOp op) r) (h : GE X Γ M a (fun x M1 => GE X Γ M1 b (fun y M2 => Bin X.K r x y M2 k) kx) kx) : GE X Γ M (.BinOp a op b pos) k kx := fun S σ hM hE W tk hW Q hQ =>
  of_pe (pe_op ho we we) (h S σ hM hE W tk hW _ fun x M1 S1 vx h1 hM1 g1 rx => h1 S1 σ hM1 (hE.grow g1) W tk (hW.grow g1) _ fun y M2 S2 vy h2 hM2 g2 ry =>
    h2 S2 vx vy hM2 (rx.grow g2) ry Q ((hQ.grow g1).grow g2))
theorem ge_cmp {op : CmpOp} {r : R2} (ho : OpR X (compareOp op) r) (hm : behindInMarks op b = false) (h : GE X Γ M a (fun x M1 => GE X Γ M1 b (fun y M2 => Bin X.K r x y M2 k) kx) kx) : GE X Γ M (.Compare a [op] [b] pos) k kx := fun S σ hM hE W tk hW Q hQ =>
  of_pe (pe_cmpR ho we we hm) (h S σ hM hE W tk hW _ fun x M1 S1 vx h1 hM1 g1 rx => h1 S1 σ hM1 (hE.grow g1) W tk (hW.grow g1) _ fun y M2 S2 vy h2 hM2 g2 ry =>
    h2 S2 vx vy hM2 (rx.grow g2) ry Q ((hQ.grow g1).grow g2))
theorem gt_cmp {op : CmpOp} {r : R2} {k : KB} (ho : OpR X (compareOp op) r) (hm : behindInMarks op b = false) (h : GE X Γ M a (fun x M1 => GE X Γ M1 b (fun y M2 => Bin X.K r x y M2 fun d M' => ∃ v, d = .bl v ∧ k v M') kx) kx) : GT X Γ M (.Compare a [op] [b] pos) k kx := fun S σ hM hE W tk hW Q hQ =>
  of_pt (pt_cmpR ho we we hm) (h S σ hM hE W tk hW _ fun x M1 S1 vx h1 hM1 g1 rx => h1 S1 σ hM1 (hE.grow g1) W tk (hW.grow g1) _ fun y M2 S2 vy h2 hM2 g2 ry =>
    h2 S2 vx vy hM2 (rx.grow g2) ry _ fun d M' S3 v ⟨w, e, hk⟩ hM3 g3 r3 => by
      subst e
      exact ⟨w, r3, hQ w M' S3 hk hM3 (g1.trans (g2.trans g3))⟩)
theorem ge_ix {r : R2} (ho : IxR X r) (hs : PlainIx b) (h : GE X Γ M a (fun x M1 => GE X Γ M1 b (fun y M2 => Bin X.K r x y M2 k) kx) kx) : GE X Γ M (.Subscript a b pos) k kx := fun S σ hM hE W tk hW Q hQ =>
  of_pe (pe_ix ho we we hs) (h S σ hM hE W tk hW _ fun x M1 S1 vx h1 hM1 g1 rx => h1 S1 σ hM1 (hE.grow g1) W tk (hW.grow g1) _ fun y M2 S2 vy h2 hM2 g2 ry =>
    h2 S2 vx vy hM2 (rx.grow g2) ry Q ((hQ.grow g1).grow g2))
theorem ev_bin {op : Operator} {r : R2} (ho : OpR X (binaryOp op) r) (ha : EV X Γ M a x) (hb : EV X Γ M b y) (h : BinV X.K r x y M z) : EV X Γ M (.BinOp a op b pos) z := ge_bin ho (ha.ge (hb.ge h))
theorem ev_cmp {op : CmpOp} {r : R2} (ho : OpR X (compareOp op) r) (hm : behindInMarks op b = false) (ha : EV X Γ M a x) (hb : EV X Γ M b y) (h : BinV X.K r x y M z) : EV X Γ M (.Compare a [op] [b] pos) z := ge_cmp ho hm (ha.ge (hb.ge h))
theorem tv_cmp {op : CmpOp} {r : R2} {v : Bool} (ho : OpR X (compareOp op) r) (hm : behindInMarks op b = false) (ha : EV X Γ M a x) (hb : EV X Γ M b y) (h : BinV X.K r x y M (.bl v)) : TV X Γ M (.Compare a [op] [b] pos) v :=
  gt_cmp ho hm (ha.ge (hb.ge (h.bin ⟨v, rfl, rfl, rfl⟩)))
theorem ev_ix {r : R2} (ho : IxR X r) (hs : PlainIx b) (ha : EV X Γ M a x) (hb : EV X Γ M b y) (h : BinV X.K r x y M z) : EV X Γ M (.Subscript a b pos) z := ge_ix ho hs (ha.ge (hb.ge h))

/-! ### tests -/
theorem gt_val {k : KB} (h : GE X Γ M e (fun d M' => ∃ v, d = .bl v ∧ k v M') kx) (he : ∀ whole, isTrue e X.env whole = (do let v ← whole; standAt e.pos; holding [v] (truthy v)) := by intro _; rfl) : GT X Γ M e k kx := fun S σ hM hE W tk hW Q hQ =>
  of_pt (pt_val we he) (h S σ hM hE W tk hW _ fun d M' S' v ⟨w, e, hk⟩ hM' g r => by
    subst e
    exact ⟨w, r, hQ w M' S' hk hM' g⟩)
theorem tv_val {v : Bool} (h : EV X Γ M e (.bl v)) (he : ∀ whole, isTrue e X.env whole = (do let v ← whole; standAt e.pos; holding [v] (truthy v)) := by intro _; rfl) : TV X Γ M e v := gt_val (h.ge ⟨v, rfl, rfl, rfl⟩) he
theorem gt_not {k : KB} (h : GT X Γ M a (fun v M' => k (!v) M') kx) : GT X Γ M (.UnaryOp .Not a pos) k kx := fun S σ hM hE W tk hW Q hQ =>
  of_pt (pt_not wt) (h S σ hM hE W tk hW _ fun v M' S' hk hM' g => hQ (!v) M' S' hk hM' g)
theorem tv_not {v : Bool} (h : TV X Γ M a v) : TV X Γ M (.UnaryOp .Not a pos) (!v) := gt_not (h.gt ⟨rfl, rfl⟩)
theorem gt_bool {k : KB} {op : BoolOp} (h : GP X Γ M (.BoolOp op es pos) k kx) : GT X Γ M (.BoolOp op es pos) k kx := fun S σ hM hE W tk hW Q hQ => of_pt wpw.pt (h S σ hM hE W tk hW Q hQ)
theorem gp_and1 {k : KB} (h : GT X Γ M a k kx) : GP X Γ M (.BoolOp .And [a] pos) k kx := fun S σ hM hE W tk hW Q hQ => of_pw (pw_and1 wt) (h S σ hM hE W tk hW Q hQ)
theorem gp_or1 {k : KB} (h : GT X Γ M a k kx) : GP X Γ M (.BoolOp .Or [a] pos) k kx := fun S σ hM hE W tk hW Q hQ => of_pw (pw_or1 wt) (h S σ hM hE W tk hW Q hQ)
theorem gp_and {k : KB} (h : GT X Γ M a (fun v M1 => (v = true → GP X Γ M1 (.BoolOp .And (b :: es) pos) k kx) ∧ (v = false → k false M1)) kx) : GP X Γ M (.BoolOp .And (a :: b :: es) pos) k kx := fun S σ hM hE W tk hW Q hQ =>
  of_pw (pw_and wt wpw) (h S σ hM hE W tk hW _ fun v M1 S1 h1 hM1 g1 => by
    cases v with
    | true => exact (h1.1 rfl) S1 σ hM1 (hE.grow g1) W tk (hW.grow g1) Q (hQ.grow g1)
    | false => exact hQ false M1 S1 (h1.2 rfl) hM1 g1)
theorem gp_or {k : KB} (h : GT X Γ M a (fun v M1 => (v = false → GP X Γ M1 (.BoolOp .Or (b :: es) pos) k kx) ∧ (v = true → k true M1)) kx) : GP X Γ M (.BoolOp .Or (a :: b :: es) pos) k kx := fun S σ hM hE W tk hW Q hQ =>
  of_pw (pw_or wt wpw) (h S σ hM hE W tk hW _ fun v M1 S1 h1 hM1 g1 => by
    cases v with
    | false => exact (h1.1 rfl) S1 σ hM1 (hE.grow g1) W tk (hW.grow g1) Q (hQ.grow g1)
    | true => exact hQ true M1 S1 (h1.2 rfl) hM1 g1)
theorem tv_bool {op : BoolOp} {v : Bool} (h : PV X Γ M (.BoolOp op es pos) v) : TV X Γ M (.BoolOp op es pos) v := gt_bool h
theorem pv_and1 {v : Bool} (h : TV X Γ M a v) : PV X Γ M (.BoolOp .And [a] pos) v := gp_and1 h
theorem pv_or1 {v : Bool} (h : TV X Γ M a v) : PV X Γ M (.BoolOp .Or [a] pos) v := gp_or1 h
theorem pv_and {v w : Bool} (h : TV X Γ M a v) (h2 : v = true → PV X Γ M (.BoolOp .And (b :: es) pos) w) : PV X Γ M (.BoolOp .And (a :: b :: es) pos) (v && w) := gp_and (h.gt ⟨fun q => (h2 q).gp ⟨by rw [q]; rfl, rfl⟩, fun q => ⟨by rw [q]; rfl, rfl⟩⟩)
theorem pv_or {v w : Bool} (h : TV X Γ M a v) (h2 : v = false → PV X Γ M (.BoolOp .Or (b :: es) pos) w) : PV X Γ M (.BoolOp .Or (a :: b :: es) pos) (v || w) := gp_or (h.gt ⟨fun q => (h2 q).gp ⟨by rw [q]; rfl, rfl⟩, fun q => ⟨by rw [q]; rfl, rfl⟩⟩)
/-- a and b as a value -/
theorem ge_one {op : BoolOp} (h : GE X Γ M a k kx) : GE X Γ M (.BoolOp op [a] pos) k kx := fun S σ hM hE W tk hW Q hQ => of_pe (pe_one we) (h S σ hM hE W tk hW Q hQ)
theorem ge_and (h : GE X Γ M a (fun d M1 => ∃ v, d = .bl v ∧ (v = true → GE X Γ M1 (.BoolOp .And (b :: es) pos) k kx) ∧ (v = false → k (.bl false) M1)) kx) : GE X Γ M (.BoolOp .And (a :: b :: es) pos) k kx := fun S σ hM hE W tk hW Q hQ =>
  of_pe (pe_and we we) (h S σ hM hE W tk hW _ fun d M1 S1 x ⟨v, e, h1, h2⟩ hM1 g1 r => by
    subst e
    refine ⟨v, r, ?_⟩
    cases v with
    | true => exact (h1 rfl) S1 σ hM1 (hE.grow g1) W tk (hW.grow g1) Q (hQ.grow g1)
    | false => exact hQ _ M1 S1 _ (h2 rfl) hM1 g1 rfl)
theorem ge_or (h : GE X Γ M a (fun d M1 => ∃ v, d = .bl v ∧ (v = false → GE X Γ M1 (.BoolOp .Or (b :: es) pos) k kx) ∧ (v = true → k (.bl true) M1)) kx) : GE X Γ M (.BoolOp .Or (a :: b :: es) pos) k kx := fun S σ hM hE W tk hW Q hQ =>
  of_pe (pe_or we we) (h S σ hM hE W tk hW _ fun d M1 S1 x ⟨v, e, h1, h2⟩ hM1 g1 r => by
    subst e
    refine ⟨v, r, ?_⟩
    cases v with
    | false => exact (h1 rfl) S1 σ hM1 (hE.grow g1) W tk (hW.grow g1) Q (hQ.grow g1)
    | true => exact hQ _ M1 S1 _ (h2 rfl) hM1 g1 rfl)
theorem ge_not (h : GE X Γ M a (fun d M1 => ∃ v, d = .bl v ∧ k (.bl (!v)) M1) kx) : GE X Γ M (.UnaryOp .Not a pos) k kx := fun S σ hM hE W tk hW Q hQ =>
  of_pe (pe_not we) (h S σ hM hE W tk hW _ fun d M1 S1 x ⟨v, e, h1⟩ hM1 g1 r => by
    subst e
    exact ⟨v, r, hQ _ M1 S1 _ h1 hM1 g1 rfl⟩)
theorem ev_one {op : BoolOp} (h : EV X Γ M a d) : EV X Γ M (.BoolOp op [a] pos) d := ge_one h
theorem ev_and {v w : Bool} (h : EV X Γ M a (.bl v)) (h2 : v = true → EV X Γ M (.BoolOp .And (b :: es) pos) (.bl w)) : EV X Γ M (.BoolOp .And (a :: b :: es) pos) (.bl (v && w)) :=
  ge_and (h.ge ⟨v, rfl, fun q => (h2 q).ge ⟨by rw [q]; rfl, rfl⟩, fun q => ⟨by rw [q]; rfl, rfl⟩⟩)
theorem ev_or {v w : Bool} (h : EV X Γ M a (.bl v)) (h2 : v = false → EV X Γ M (.BoolOp .Or (b :: es) pos) (.bl w)) : EV X Γ M (.BoolOp .Or (a :: b :: es) pos) (.bl (v || w)) :=
  ge_or (h.ge ⟨v, rfl, fun q => (h2 q).ge ⟨by rw [q]; rfl, rfl⟩, fun q => ⟨by rw [q]; rfl, rfl⟩⟩)
theorem ev_not {v : Bool} (h : EV X Γ M a (.bl v)) : EV X Γ M (.UnaryOp .Not a pos) (.bl (!v)) := ge_not (h.ge ⟨v, rfl, rfl, rfl⟩)
theorem ge_ife (h : GT X Γ M c (fun v M1 => (v = true → GE X Γ M1 a k kx) ∧ (v = false → GE X Γ M1 b k kx)) kx) : GE X Γ M (.IfExp c a b pos) k kx := fun S σ hM hE W tk hW Q hQ =>
  of_pe (pe_ifExp wt we we) (h S σ hM hE W tk hW _ fun v M1 S1 h1 hM1 g1 => by
    cases v with
    | true => exact (h1.1 rfl) S1 σ hM1 (hE.grow g1) W tk (hW.grow g1) Q (hQ.grow g1)
    | false => exact (h1.2 rfl) S1 σ hM1 (hE.grow g1) W tk (hW.grow g1) Q (hQ.grow g1))
theorem ev_ife {v : Bool} (h : TV X Γ M c v) (h1 : v = true → EV X Γ M a x) (h2 : v = false → EV X Γ M b y) : EV X Γ M (.IfExp c a b pos) (if v = true then x else y) :=
  ge_ife (h.gt ⟨fun q => (h1 q).ge ⟨by rw [q]; rfl, rfl⟩, fun q => (h2 q).ge ⟨by rw [q]; rfl, rfl⟩⟩)

/-! ### arguments, displays -/
theorem ga_nil {k : KDs} (hk : k [] M) : GA X Γ M [] k kx := fun S σ hM hE W tk hW Q hQ => of_pa pa_nil (hQ [] M S [] hk hM (Grow.refl _) RepL.nil)
theorem ga_cons {k : KDs} (h : GE X Γ M e (fun d M1 => GA X Γ M1 es (fun ds M2 => k (d :: ds) M2) kx) kx) (hs : starEach (e :: es) X.env = (false, eval e X.env) :: starEach es X.env := by rfl) : GA X Γ M (e :: es) k kx := fun S σ hM hE W tk hW Q hQ =>
  of_pa (pa_cons we wa hs) (h S σ hM hE W tk hW _ fun d M1 S1 x h1 hM1 g1 r => h1 S1 σ hM1 (hE.grow g1) W tk (hW.grow g1) _ fun ds M2 S2 xs h2 hM2 g2 r2 => hQ (d :: ds) M2 S2 _ h2 hM2 (g1.trans g2) (.cons (r.grow g2) r2))
theorem av_nil : AV X Γ M [] [] := ga_nil ⟨rfl, rfl⟩
theorem av_cons {ds : List D} (h : EV X Γ M e d) (hr : AV X Γ M es ds) (hs : starEach (e :: es) X.env = (false, eval e X.env) :: starEach es X.env := by rfl) : AV X Γ M (e :: es) (d :: ds) := ga_cons (h.ge (hr.ga ⟨rfl, rfl⟩)) hs
theorem ge_tup {j : Nat} (h : GA X Γ M es (fun ds M1 => ds.length ≤ 16777216 ∧ k (.tup ds) M1) kx) : GE X Γ M (.Tuple es j pos) k kx := fun S σ hM hE W tk hW Q hQ =>
  of_pe (pe_tup wa) (h S σ hM hE W tk hW _ fun ds M1 S1 xs ⟨hl, hk⟩ hM1 g1 r => ⟨by rw [r.len]; exact hl, fun p hp => by
    obtain ⟨hM2, g2⟩ := new_z (o := .tup xs) hM1 hp
    exact hQ (.tup ds) M1 ⟨S1.as, upd S1.Z p (.tup xs), upd S1.H p (.tup xs)⟩ (.ref p) hk hM2 (g1.trans g2) ⟨p, xs, rfl, SqT.of upd_same, r.grow g2⟩⟩)
theorem ge_lst (h : GA X Γ M es (fun ds M1 => ds.length ≤ 16777216 ∧ k (.lst ds) M1) kx) : GE X Γ M (.List es pos) k kx := fun S σ hM hE W tk hW Q hQ =>
  of_pe (pe_lst wa) (h S σ hM hE W tk hW _ fun ds M1 S1 xs ⟨hl, hk⟩ hM1 g1 r => ⟨by rw [r.len]; exact hl, fun p hp => by
    obtain ⟨hM2, g2⟩ := new_z (o := .lst xs) hM1 hp
    exact hQ (.lst ds) M1 ⟨S1.as, upd S1.Z p (.lst xs), upd S1.H p (.lst xs)⟩ (.ref p) hk hM2 (g1.trans g2) ⟨p, xs, rfl, upd_same, r.grow g2⟩⟩)
/-- a list that may change -/
theorem ge_lstM (h : GA X Γ M es (fun ds M1 => ds.length ≤ 16777216 ∧ ∀ p, k (.hdl p) (M1 ++ [(p, .lst ds)])) kx) : GE X Γ M (.List es pos) k kx := fun S σ hM hE W tk hW Q hQ =>
  of_pe (pe_lst wa) (h S σ hM hE W tk hW _ fun ds M1 S1 xs ⟨hl, hk⟩ hM1 g1 r => ⟨by rw [r.len]; exact hl, fun p hp => by
    obtain ⟨hM2, g2⟩ := new_m (m := .lst ds) (o := .lst xs) hM1 hp (fun g => ⟨hM1.zh.none hp, xs, upd_same, r.grow g⟩)
    exact hQ _ _ ⟨S1.as ++ [p], S1.Z, upd S1.H p (.lst xs)⟩ (.ref p) (hk p) hM2 (g1.trans g2) rfl⟩)
theorem ev_tup {ds : List D} {j : Nat} (h : AV X Γ M es ds) (hl : ds.length ≤ 16777216 := by simp) : EV X Γ M (.Tuple es j pos) (.tup ds) := ge_tup (h.ga ⟨hl, rfl, rfl⟩)
theorem ev_lst {ds : List D} (h : AV X Γ M es ds) (hl : ds.length ≤ 16777216 := by simp) : EV X Γ M (.List es pos) (.lst ds) := ge_lst (h.ga ⟨hl, rfl, rfl⟩)
/-- what was made to change is not changed any more -/
theorem ge_frz (h : GE X Γ M e (fun d M1 => ∃ (j : Nat) (a : Addr) (ds : List D), d = .hdl a ∧ M1[j]? = some (a, MO.lst ds) ∧ k (.lst ds) (M1.eraseIdx j)) kx) : GE X Γ M e k kx := fun S σ hM hE W tk hW Q hQ =>
  h S σ hM hE W tk hW Q fun d M1 S1 v ⟨j, a, ds, e, hj, hk⟩ hM1 g1 r => by
    subst e
    cases r
    obtain ⟨hz, xs, hh, hr⟩ := hM1.at hj
    obtain ⟨hM2, g2⟩ := frz_m hM1 hj hz hh
    have hs : (M1.eraseIdx j).Sublist (M1.set j (a, .gone)) := by
      rw [← List.eraseIdx_set_eq (l := M1) (i := j) (a := (a, MO.gone))]
      exact List.eraseIdx_sublist _ _
    obtain ⟨hM3, g3⟩ := drop_m hM2 hs
    exact hQ (.lst ds) _ ⟨(M1.eraseIdx j).map (·.1), upd S1.Z a (.lst xs), S1.H⟩ (.ref a) hk hM3 (g1.trans (g3 S1 g2)) ⟨a, xs, rfl, upd_same, (sg_mono (S' := ⟨(M1.eraseIdx j).map (·.1), upd S1.Z a (.lst xs), S1.H⟩) (ex_new hz)).2 _ _ hr⟩

/-! ### statements -/
theorem gb_nil (h : E.nx Γ M) : GB X Γ M [] E := fun S σ hM hE W tk De L => of_pb pss_nil (L.nx Γ M S σ h hM (Grow.refl _) hE)
theorem gb_cons (h : GS X Γ M st { E with nx := fun Γ1 M1 => GB X Γ1 M1 rest E }) : GB X Γ M (st :: rest) E := fun S σ hM hE W tk De L =>
  of_pb (pss_cons wst wb) (h S σ hM hE W tk { De with nx := WB X rest De } ⟨fun Γ1 M1 S1 σ1 h1 hM1 g1 e1 => h1 S1 σ1 hM1 e1 W tk De (L.grow g1), L.rt, L.bk, L.ct, L.ex⟩)
theorem gb_one (h : GS X Γ M st E) : GB X Γ M [st] E := fun S σ hM hE W tk De L => of_pb (pss_one wst) (h S σ hM hE W tk De L)
/-- a cut behind a statement -/
theorem gb_cut (J : En → Ms → Prop) (h : GS X Γ M st { E with nx := J }) (hr : ∀ Γ1 M1, J Γ1 M1 → GB X Γ1 M1 rest E) : GB X Γ M (st :: rest) E := fun S σ hM hE W tk De L =>
  of_pb (pss_cons wst wb) (h S σ hM hE W tk { De with nx := WB X rest De } ⟨fun Γ1 M1 S1 σ1 h1 hM1 g1 e1 => hr Γ1 M1 h1 S1 σ1 hM1 e1 W tk De (L.grow g1), L.rt, L.bk, L.ct, L.ex⟩)
theorem LK.kw {K : PySem.W.Frag} {S : Sg} {De : Ends} {W : WX} {σ : L2.St} (L : LK K S E De W) (hE : EnvOk K S σ Γ) : KW K S (fun c f M1 => E.ex c f Γ M1) W σ := fun c f M1 S1 dd h hM1 g r => L.ex c f Γ M1 S1 σ dd h hM1 g (hE.grow g) r
theorem gs_set (i : Nat) {x : Str} {px : Pos} (h : GE X Γ M e (fun d M1 => E.nx (Γ.set i (some d)) M1) (fun c f M1 => E.ex c f Γ M1)) (hN : X.N.Nodup) (hi : X.N[i]? = some x := by rfl) (hx : Loc X.env.scope x := by first | exact Or.inl rfl | exact Or.inr rfl)
    (hs : swapsWith e (some (.Name x px)) pos.line X.env = pure false := by rfl) (hf : X.fn x = true ∨ X.env.scope.names.lookup x = some .local := by first | exact .inl rfl | exact .inr rfl) : GS X Γ M (.Assign [.Name x px] e pos) E := fun S σ hM hE W tk De L =>
  of_ps (ps_set hN hi hx we hs hf) (h S σ hM hE W tk (L.kw hE) _ fun d M1 S1 v h1 hM1 g1 r => L.nx _ M1 S1 _ h1 hM1 g1 ((hE.grow g1).set r))
theorem gs_expr (h : GE X Γ M e (fun _ M1 => E.nx Γ M1) (fun c f M1 => E.ex c f Γ M1)) (hs : swapsWith e none pos.line X.env = pure false := by rfl) : GS X Γ M (.Expr e pos) E := fun S σ hM hE W tk De L =>
  of_ps (ps_expr we hs) (h S σ hM hE W tk (L.kw hE) _ fun d M1 S1 v h1 hM1 g1 r => L.nx _ M1 S1 _ h1 hM1 g1 (hE.grow g1))
theorem gs_ret (h : GE X Γ M e E.rt (fun c f M1 => E.ex c f Γ M1)) : GS X Γ M (.Return (some e) pos) E := fun S σ hM hE W tk De L => of_ps (ps_ret we) (h S σ hM hE W tk (L.kw hE) _ L.rt)
theorem gs_retN (h : E.rt .non M) : GS X Γ M (.Return none pos) E := fun S σ hM hE W tk De L => of_ps ps_retN (L.rt _ M S _ h hM (Grow.refl _) rfl)
theorem gs_pass (h : E.nx Γ M) : GS X Γ M (.Pass pos) E := fun S σ hM hE W tk De L => of_ps ps_pass (L.nx Γ M S σ h hM (Grow.refl _) hE)
theorem gs_break (h : E.bk Γ M) : GS X Γ M (.Break pos) E := fun S σ hM hE W tk De L => of_ps ps_break (L.bk Γ M S σ h hM (Grow.refl _) hE)
theorem gs_continue (h : E.ct Γ M) : GS X Γ M (.Continue pos) E := fun S σ hM hE W tk De L => of_ps ps_continue (L.ct Γ M S σ h hM (Grow.refl _) hE)
theorem gs_if {s1 s2 : List Stmt} (h : GT X Γ M c (fun v M1 => (v = true → GB X Γ M1 s1 E) ∧ (v = false → GB X Γ M1 s2 E)) (fun c f M1 => E.ex c f Γ M1)) : GS X Γ M (.If c s1 s2 pos) E := fun S σ hM hE W tk De L =>
  of_ps (ps_if wt wb wb) (h S σ hM hE W tk (L.kw hE) _ fun v M1 S1 h1 hM1 g1 => by
    cases v with
    | true => exact (h1.1 rfl) S1 σ hM1 (hE.grow g1) W tk De (L.grow g1)
    | false => exact (h1.2 rfl) S1 σ hM1 (hE.grow g1) W tk De (L.grow g1))
end
end PD

set_option Elab.async false
set_option linter.all false
set_option maxRecDepth 100000
set_option maxHeartbeats 4000000
/-! PD: what the operators make of data. -/
namespace PD
open PySem L2
open Evl (Ex ex_rd ex_l ex_t)

/-! ### data as the library's plain data, for == -/
mutual
def py : D → PyData
  | .bl b => .bool b
  | .int i => .int i
  | .str s => .str s
  | .tup ds => .tuple (pys ds)
  | .lst ds => .list (pys ds)
  | .seq ds => .list (pys ds)
  | _ => .none
def pys : List D → List PyData
  | [] => []
  | d :: ds => py d :: pys ds
end
mutual
/-- plain data, at most n deep -/
def sm : Nat → D → Bool
  | _, .non => true
  | _, .bl _ => true
  | _, .int _ => true
  | _, .str s => PyData.canLay0 (.str s)
  | n, .tup ds => match n with | 0 => false | n + 1 => sms n ds
  | n, .lst ds => match n with | 0 => false | n + 1 => sms n ds
  | n, .seq ds => match n with | 0 => false | n + 1 => sms n ds
  | _, _ => false
def sms : Nat → List D → Bool
  | _, [] => true
  | n, d :: ds => sm n d && sms n ds
end
theorem sms_iff : ∀ {n : Nat} {ds : List D}, sms n ds = true ↔ ∀ d ∈ ds, sm n d = true
  | n, [] => by simp [sms]
  | n, d :: ds => by simp [sms, sms_iff (ds := ds)]
theorem pys_map : ∀ ds : List D, pys ds = ds.map py
  | [] => rfl
  | d :: ds => by simp [pys, pys_map ds]
theorem sm_all : ∀ N : Nat, (∀ d, sizeOf d < N → ∀ n, sm n d = true → (py d).canLay0 = true ∧ (py d).depth ≤ n) ∧ ∀ ds : List D, sizeOf ds < N → ∀ n, sms n ds = true → PyData.canLayAll0 (pys ds) = true ∧ PyData.depthAll (pys ds) ≤ n := by
  intro N
  induction N with
  | zero => exact ⟨fun _ h => absurd h (Nat.not_lt_zero _), fun _ h => absurd h (Nat.not_lt_zero _)⟩
  | succ N ih =>
    refine ⟨fun d hd n h => ?_, fun ds hd n h => ?_⟩
    · cases d with
      | non => exact ⟨rfl, Nat.zero_le _⟩
      | bl b => exact ⟨rfl, Nat.zero_le _⟩
      | int i => exact ⟨rfl, Nat.zero_le _⟩
      | str s => simp only [sm] at h; exact ⟨h, Nat.zero_le _⟩
      | tup ds =>
        cases n with
        | zero => simp [sm] at h
        | succ n =>
          simp only [sm] at h
          obtain ⟨h1, h2⟩ := ih.2 ds (by simp at hd; omega) n h
          exact ⟨by simpa only [py, PyData.canLay0] using h1, by simp only [py, PyData.depth]; omega⟩
      | lst ds =>
        cases n with
        | zero => simp [sm] at h
        | succ n =>
          simp only [sm] at h
          obtain ⟨h1, h2⟩ := ih.2 ds (by simp at hd; omega) n h
          exact ⟨by simpa only [py, PyData.canLay0] using h1, by simp only [py, PyData.depth]; omega⟩
      | seq ds =>
        cases n with
        | zero => simp [sm] at h
        | succ n =>
          simp only [sm] at h
          obtain ⟨h1, h2⟩ := ih.2 ds (by simp at hd; omega) n h
          exact ⟨by simpa only [py, PyData.canLay0] using h1, by simp only [py, PyData.depth]; omega⟩
      | dct ks ds => simp [sm] at h
      | ins C fs ds => simp [sm] at h
      | hdl k => simp [sm] at h
      | raw v => simp [sm] at h
    · cases ds with
      | nil => exact ⟨rfl, Nat.zero_le _⟩
      | cons d r =>
        simp only [sms, Bool.and_eq_true] at h
        obtain ⟨a1, a2⟩ := ih.1 d (by simp at hd; omega) n h.1
        obtain ⟨b1, b2⟩ := ih.2 r (by simp at hd; omega) n h.2
        exact ⟨by simp only [pys, PyData.canLayAll0, a1, b1, Bool.and_self], by simp only [pys, PyData.depthAll]; omega⟩
theorem shaped_of {d : D} {n : Nat} (h : sm n d = true) (hn : n ≤ 64) : SeqAt.shaped (py d) = true := by
  obtain ⟨h1, h2⟩ := (sm_all (sizeOf d + 1)).1 d (by omega) n h
  unfold SeqAt.shaped
  rw [h1, decide_eq_true (by omega)]; rfl
section
variable {K : PySem.W.Frag} {S : Sg}
theorem dp_all (zh : Ex S.Z S.H) : ∀ N : Nat, (∀ d, sizeOf d < N → ∀ n v, sm n d = true → Rep K S d v → Dp K S.H v (py d)) ∧ ∀ ds : List D, sizeOf ds < N → ∀ n xs, sms n ds = true → RepL K S ds xs → DpAll K S.H xs (pys ds) := by
  intro N
  induction N with
  | zero => exact ⟨fun _ h => absurd h (Nat.not_lt_zero _), fun _ h => absurd h (Nat.not_lt_zero _)⟩
  | succ N ih =>
    refine ⟨fun d hd n v h r => ?_, fun ds hd n xs h r => ?_⟩
    · cases d with
      | non => cases r; exact .non
      | bl b => cases r; exact .bl b
      | int i => cases r; exact .int i
      | str s => cases r; exact .str s
      | tup ds =>
        obtain ⟨a, xs, rfl, s, r⟩ := r
        cases n with
        | zero => simp [sm] at h
        | succ n => simp only [sm] at h; exact .tup (ex_t zh s) (ih.2 ds (by simp at hd; omega) n xs h r)
      | lst ds =>
        obtain ⟨a, xs, rfl, s, r⟩ := r
        cases n with
        | zero => simp [sm] at h
        | succ n => simp only [sm] at h; exact .lst (SqL.of (zh _ _ s)) (ih.2 ds (by simp at hd; omega) n xs h r)
      | seq ds =>
        obtain ⟨a, xs, rfl, s, r⟩ := r
        cases n with
        | zero => simp [sm] at h
        | succ n => simp only [sm] at h; exact .lst (ex_l zh s) (ih.2 ds (by simp at hd; omega) n xs h r)
      | dct ks ds => simp [sm] at h
      | ins C fs ds => simp [sm] at h
      | hdl k => simp [sm] at h
      | raw v => simp [sm] at h
    · cases ds with
      | nil => have e : xs = [] := r; subst e; exact .nil
      | cons d q =>
        obtain ⟨x, ys, rfl, r1, r2⟩ := r
        simp only [sms, Bool.and_eq_true] at h
        exact .cons (ih.1 d (by simp at hd; omega) n x h.1 r1) (ih.2 q (by simp at hd; omega) n ys h.2 r2)
theorem dp_of {M : Ms} {d : D} {v : V} {n : Nat} (hM : OkM K S M) (h : sm n d = true) (r : Rep K S d v) : Dp K S.H v (py d) := (dp_all hM.zh (sizeOf d + 1)).1 d (by omega) n v h r
end

/-! ### rules that serve several kinds -/
def rAddU (K : PySem.W.Frag) : R2 := fun x y H Q => rI0 (fun i j => .int (i + j)) x y H Q ∨ (∃ i j, x = .str i ∧ y = .str j ∧ i.length + j.length ≤ sizeLine ∧ Q (.str (i ++ j)) H) ∨ rCat x y H Q ∨ rCatA K x y H Q
def CPowX (i j : Int) : Prop := 0 ≤ j ∧ (Builtin.Int.intBits i : Int) * j ≤ 2 ^ 27
def rStrMul : R2 := fun x y H Q => ∃ z k, x = .str z ∧ y = .int k ∧ 0 ≤ k ∧ k ≤ 1000 ∧ z.length ≤ 1000 ∧ Q (.str ⟨(List.replicate k.toNat z.cps).foldl (· ++ ·) #[]⟩) H
def rMulU (K : PySem.W.Frag) : R2 := fun x y H Q => rI CMulX (fun i j => .int (i * j)) x y H Q ∨ rRep x y H Q ∨ rRepT K x y H Q ∨ rStrMul x y H Q
def rEqU (K : PySem.W.Frag) : R2 := fun x y H Q => rEq x y H Q ∨ rEqD K x y H Q
def rNeU (K : PySem.W.Frag) : R2 := fun x y H Q => rNe x y H Q ∨ rNeD K x y H Q
def rInU (K : PySem.W.Frag) : R2 := fun x y H Q => rIn K false x y H Q ∨ (∃ i j, x = .str i ∧ y = .str j ∧ Q (.bl (!(Builtin.Str.occurrences j i 0 j.length 1).isEmpty)) H) ∨ rInD K x y H Q
def rNotInU (K : PySem.W.Frag) : R2 := fun x y H Q => rIn K true x y H Q ∨ (∃ i j, x = .str i ∧ y = .str j ∧ Q (.bl (!(!(Builtin.Str.occurrences j i 0 j.length 1).isEmpty))) H) ∨ rNotInD K x y H Q
section
variable {X : Cx}
theorem op_addU : OpR X (binaryOp .Add) (rAddU X.K) := op_add.or (op_add_str.or (op_cat.or op_catA))
theorem op_powX : OpR X (binaryOp .Pow) (rI CPowX fun i j => .int (i ^ j.toNat)) := opI fun _ _ _ _ _ _ _ hc q => PyProof.Rows.pow_int hc.1 hc.2 q
theorem op_eqU (hu : X.A.units + 64 < cLine) : OpR X (compareOp .Eq) (rEqU X.K) := op_eq.or (op_eqD hu)
theorem op_neU (hu : X.A.units + 64 < cLine) : OpR X (compareOp .NotEq) (rNeU X.K) := op_ne.or (op_neD hu)
theorem op_inU (hu : X.A.units + 65 < cLine) : OpR X (compareOp .In) (rInU X.K) := op_in_seq.or (op_in_str.or (op_inD hu))
theorem op_notInU (hu : X.A.units + 65 < cLine) : OpR X (compareOp .NotIn) (rNotInU X.K) := op_notIn_seq.or (op_notIn_str.or (op_notInD hu))
theorem op_strMul : OpR X (binaryOp .Mult) rStrMul := by
  intro pins s σ H x y v u Q I rx ry h
  obtain ⟨z, k, rfl, rfl, h0, h1, h2, q⟩ := h
  obtain ⟨t, rfl⟩ := rx
  obtain ⟨t', rfl⟩ := ry
  have two : (2 : Int) ^ 63 = 9223372036854775808 := by decide
  refine PySem.P.mul_str (by
    have a1 : ¬ k < -(2 ^ 63 : Int) := by omega
    have a2 : ¬ k ≥ 2 ^ 63 := by omega
    rw [decide_eq_false a1, decide_eq_false a2]; rfl) (fun a _ b => ?_) (fun a _ => ?_) ?_
  · have h3 : (0 : Int) < k := by omega
    have h4 : (2 ^ 63 - 1) / k ≥ (2 ^ 63 - 1) / 1000 := by
      have : (1000 : Int) * ((2 ^ 63 - 1) / 1000) ≤ 2 ^ 63 - 1 := by omega
      refine Int.le_ediv_of_mul_le h3 ?_
      have h6 : (0:Int) ≤ (2 ^ 63 - 1) / 1000 := by omega
      calc (2 ^ 63 - 1) / 1000 * k ≤ (2 ^ 63 - 1) / 1000 * 1000 := Int.mul_le_mul_of_nonneg_left h1 h6
        _ ≤ 2 ^ 63 - 1 := by omega
    have h5 : ((2:Int) ^ 63 - 1) / 1000 > 1000 := by omega
    omega
  · have h3 : z.length * k.toNat ≤ 1000 * 1000 := Nat.mul_le_mul h2 (by omega)
    show decide (z.length * k.toNat > sizeLine) = false
    rw [sizeLine_eq]
    exact decide_eq_false (by omega)
  · by_cases c1 : k < 1
    · rw [if_pos c1]
      have : k = 0 := by omega
      subst this
      exact ⟨by decide, ⟨.str Str.empty, H, I.tok _, ⟨_, rfl⟩, q⟩⟩
    · rw [if_neg c1]
      by_cases c2 : (k == 1 || z.length == 0) = true
      · rw [if_pos c2]
        have e : (⟨(List.replicate k.toNat z.cps).foldl (· ++ ·) #[]⟩ : Str) = z := by
          simp only [Bool.or_eq_true, beq_iff_eq] at c2
          rcases c2 with c | c
          · subst c
            obtain ⟨zc⟩ := z
            simp
          · obtain ⟨zc⟩ := z
            have hz : zc = #[] := by
              have : zc.size = 0 := c
              exact Array.eq_empty_of_size_eq_zero this
            subst hz
            have : ∀ n : Nat, (List.replicate n (#[] : Array Nat)).foldl (· ++ ·) #[] = #[] := by
              intro n
              induction n with
              | zero => rfl
              | succ n ih => simp [List.replicate_succ, ih]
            simp [this]
        rw [e] at q
        exact ⟨.str z, H, I, ⟨_, rfl⟩, q⟩
      · rw [if_neg c2]
        refine ⟨?_, ⟨.str _, H, I.tok _, ⟨_, rfl⟩, q⟩⟩
        rw [sizeLine_eq]
        have e : ∀ (n : Nat) (b : Array Nat), ((List.replicate n z.cps).foldl (· ++ ·) b).size = b.size + n * z.cps.size := by
          intro n
          induction n with
          | zero => intro b; simp
          | succ n ih => intro b; rw [List.replicate_succ, List.foldl_cons, ih, Array.size_append, Nat.succ_mul]; omega
        have e2 := e k.toNat #[]
        have h3 : k.toNat * z.cps.size ≤ 1000 * 1000 := Nat.mul_le_mul (by omega) h2
        show ((List.replicate k.toNat z.cps).foldl (· ++ ·) #[]).size ≤ 16777216
        rw [e2]
        simp only [List.size_toArray, List.length_nil]
        omega
theorem op_mulU : OpR X (binaryOp .Mult) (rMulU X.K) := op_mulX.or (op_rep.or (op_repT.or op_strMul))
end

/-! ### leaves: what an operator makes of data -/
section
variable {K : PySem.W.Frag} {M : Ms} {k : KD} {i j : Int} {s t : Str} {ds es : List D} {x y d : D} {b : Bool}
/-- a rule that keeps the heap and hands back a flat value -/
theorem bin_flat {r : R2} {v : V} (h : ∀ S vx vy, OkM K S M → Rep K S x vx → Rep K S y vy → ∀ Q : VK, Q v S.H → r vx vy S.H Q) (hk : k d M) (hd : ∀ S, Rep K S d v := by intro _; rfl) : Bin K r x y M k := fun S vx vy hM rx ry Q hQ =>
  h S vx vy hM rx ry Q (hQ d M S v hk hM (Grow.refl _) (hd S))
theorem add_int (hk : k (.int (i + j)) M) : Bin K (rAddU K) (.int i) (.int j) M k := bin_flat (v := .int (i + j)) (fun S vx vy _ rx ry Q q => .inl ⟨i, j, rx, ry, q⟩) hk
theorem add_str (hl : s.length + t.length ≤ 16777216) (hk : k (.str (s ++ t)) M) : Bin K (rAddU K) (.str s) (.str t) M k := bin_flat (v := .str (s ++ t)) (fun S vx vy _ rx ry Q q => .inr (.inl ⟨s, t, rx, ry, hl, q⟩)) hk
theorem add_lst (hl : ds.length + es.length ≤ 16777216) (hk : k (.lst (ds ++ es)) M) : Bin K (rAddU K) (.lst ds) (.lst es) M k := fun S vx vy hM rx ry Q hQ => by
  obtain ⟨a, xs, rfl, h1, r1⟩ := rx
  obtain ⟨b, ys, rfl, h2, r2⟩ := ry
  refine .inr (.inr (.inl ⟨a, b, xs, ys, rfl, rfl, hM.zh _ _ h1, hM.zh _ _ h2, by rw [r1.len, r2.len]; exact hl, fun p hp => ?_⟩))
  obtain ⟨hM2, g2⟩ := new_z (o := .lst (xs ++ ys)) hM hp
  exact hQ _ M ⟨S.as, upd S.Z p (.lst (xs ++ ys)), upd S.H p (.lst (xs ++ ys))⟩ (.ref p) hk hM2 g2 ⟨p, _, rfl, upd_same, (r1.app r2).grow g2⟩
theorem add_lstM {p1 : Nat} {h1 : Addr} (e1 : M[p1]? = some (h1, .lst ds)) (hl : ds.length + es.length ≤ 16777216) (hk : k (.lst (ds ++ es)) M) : Bin K (rAddU K) (.hdl h1) (.lst es) M k := fun S vx vy hM rx ry Q hQ => by
  cases rx
  obtain ⟨_, xs, h1', r1⟩ := hM.at e1
  obtain ⟨b, ys, rfl, h2, r2⟩ := ry
  refine .inr (.inr (.inl ⟨h1, b, xs, ys, rfl, rfl, h1', hM.zh _ _ h2, by rw [r1.len, r2.len]; exact hl, fun p hp => ?_⟩))
  obtain ⟨hM2, g2⟩ := new_z (o := .lst (xs ++ ys)) hM hp
  exact hQ _ M ⟨S.as, upd S.Z p (.lst (xs ++ ys)), upd S.H p (.lst (xs ++ ys))⟩ (.ref p) hk hM2 g2 ⟨p, _, rfl, upd_same, (r1.app r2).grow g2⟩
theorem add_tup (hl : ds.length + es.length ≤ 16777216) (hk : k (.tup (ds ++ es)) M) : Bin K (rAddU K) (.tup ds) (.tup es) M k := fun S vx vy hM rx ry Q hQ => by
  obtain ⟨a, xs, rfl, h1, r1⟩ := rx
  obtain ⟨b, ys, rfl, h2, r2⟩ := ry
  have l1 := r1.len
  have l2 := r2.len
  refine .inr (.inr (.inr ⟨a, b, xs, ys, rfl, rfl, ex_t hM.zh h1, ex_t hM.zh h2, by rw [l1, l2]; exact hl, fun e => ?_, fun _ e => ?_, fun _ _ p hp => ?_⟩))
  · have : ds = [] := by cases ds with | nil => rfl | cons _ _ => rw [e] at l1; simp at l1
    subst this
    exact hQ _ M S _ hk hM (Grow.refl _) ⟨b, ys, rfl, h2, r2⟩
  · have : es = [] := by cases es with | nil => rfl | cons _ _ => rw [e] at l2; simp at l2
    subst this
    rw [List.append_nil] at hk
    exact hQ _ M S _ hk hM (Grow.refl _) ⟨a, xs, rfl, h1, r1⟩
  · obtain ⟨hM2, g2⟩ := new_z (o := .tup (xs ++ ys)) hM hp
    exact hQ _ M ⟨S.as, upd S.Z p (.tup (xs ++ ys)), upd S.H p (.tup (xs ++ ys))⟩ (.ref p) hk hM2 g2 ⟨p, _, rfl, SqT.of upd_same, (r1.app r2).grow g2⟩
theorem sub_int (hk : k (.int (i - j)) M) : Bin K (rI0 fun i j => .int (i - j)) (.int i) (.int j) M k := bin_flat (v := .int (i - j)) (fun S vx vy _ rx ry Q q => ⟨i, j, rx, ry, q⟩) hk
theorem mul_int' (hc : CMulX i j) (hk : k (.int (i * j)) M) : Bin K (rMulU K) (.int i) (.int j) M k := bin_flat (v := .int (i * j)) (fun S vx vy _ rx ry Q q => .inl ⟨i, j, rx, ry, hc, q⟩) hk
theorem mul_lst (h1 : -(2 ^ 63) ≤ j) (h2 : j < 2 ^ 63) (hl : ds.length * j.toNat ≤ 16777216) (hk : k (.lst (List.replicate j.toNat ds).flatten) M) : Bin K (rMulU K) (.lst ds) (.int j) M k := fun S vx vy hM rx ry Q hQ => by
  obtain ⟨a, xs, rfl, e1, r1⟩ := rx
  refine .inr (.inl ⟨a, j, xs, rfl, ry, hM.zh _ _ e1, h1, h2, by rw [r1.len]; exact hl, fun p hp => ?_⟩)
  obtain ⟨hM2, g2⟩ := new_z (o := .lst (List.replicate j.toNat xs).flatten) hM hp
  have rr : ∀ n : Nat, RepL K S (List.replicate n ds).flatten (List.replicate n xs).flatten := by
    intro n
    induction n with
    | zero => exact RepL.nil
    | succ n ih => simp only [List.replicate_succ, List.flatten_cons]; exact r1.app ih
  exact hQ _ M ⟨S.as, upd S.Z p (.lst (List.replicate j.toNat xs).flatten), upd S.H p (.lst (List.replicate j.toNat xs).flatten)⟩ (.ref p) hk hM2 g2 ⟨p, _, rfl, upd_same, (rr _).grow g2⟩
theorem mul_tup (h0 : ds ≠ []) (h1 : 2 ≤ j) (h2 : j ≤ 1000) (hl : ds.length ≤ 1000) (hk : k (.tup (List.replicate j.toNat ds).flatten) M) : Bin K (rMulU K) (.tup ds) (.int j) M k := fun S vx vy hM rx ry Q hQ => by
  obtain ⟨a, xs, rfl, e1, r1⟩ := rx
  have l1 := r1.len
  refine .inr (.inr (.inl ⟨a, j, xs, rfl, ry, ex_t hM.zh e1, fun e => h0 (by cases ds with | nil => rfl | cons _ _ => rw [e] at l1; simp at l1), h1, h2, by omega, fun p hp => ?_⟩))
  obtain ⟨hM2, g2⟩ := new_z (o := .tup (List.replicate j.toNat xs).flatten) hM hp
  have rr : ∀ n : Nat, RepL K S (List.replicate n ds).flatten (List.replicate n xs).flatten := by
    intro n
    induction n with
    | zero => exact RepL.nil
    | succ n ih => simp only [List.replicate_succ, List.flatten_cons]; exact r1.app ih
  exact hQ _ M ⟨S.as, upd S.Z p (.tup (List.replicate j.toNat xs).flatten), upd S.H p (.tup (List.replicate j.toNat xs).flatten)⟩ (.ref p) hk hM2 g2 ⟨p, _, rfl, SqT.of upd_same, (rr _).grow g2⟩
theorem mul_str (h1 : 0 ≤ j) (h2 : j ≤ 1000) (hl : s.length ≤ 1000) (hk : k (.str ⟨(List.replicate j.toNat s.cps).foldl (· ++ ·) #[]⟩) M) : Bin K (rMulU K) (.str s) (.int j) M k :=
  bin_flat (v := .str _) (fun S vx vy _ rx ry Q q => .inr (.inr (.inr ⟨s, j, rx, ry, h1, h2, hl, q⟩))) hk
theorem div_int (hc : CDivW i j) (hk : k (.int (i / j)) M) : Bin K (rI CDivW fun i j => .int (i / j)) (.int i) (.int j) M k := bin_flat (v := .int (i / j)) (fun S vx vy _ rx ry Q q => ⟨i, j, rx, ry, hc, q⟩) hk
theorem mod_int (hc : 0 < j) (hk : k (.int (i % j)) M) : Bin K (rI (fun _ j => 0 < j) fun i j => .int (i % j)) (.int i) (.int j) M k := bin_flat (v := .int (i % j)) (fun S vx vy _ rx ry Q q => ⟨i, j, rx, ry, hc, q⟩) hk
theorem pow_int (hc : CPowX i j) (hk : k (.int (i ^ j.toNat)) M) : Bin K (rI CPowX fun i j => .int (i ^ j.toNat)) (.int i) (.int j) M k := bin_flat (v := .int (i ^ j.toNat)) (fun S vx vy _ rx ry Q q => ⟨i, j, rx, ry, hc, q⟩) hk
theorem lt_int (hk : k (.bl (decide (i < j))) M) : Bin K (rI0 fun i j => .bl (decide (i < j))) (.int i) (.int j) M k := bin_flat (v := .bl (decide (i < j))) (fun S vx vy _ rx ry Q q => ⟨i, j, rx, ry, q⟩) hk
theorem le_int (hk : k (.bl (decide (i ≤ j))) M) : Bin K (rI0 fun i j => .bl (decide (i ≤ j))) (.int i) (.int j) M k := bin_flat (v := .bl (decide (i ≤ j))) (fun S vx vy _ rx ry Q q => ⟨i, j, rx, ry, q⟩) hk
theorem gt_int (hk : k (.bl (decide (j < i))) M) : Bin K (rI0 fun i j => .bl (decide (j < i))) (.int i) (.int j) M k := bin_flat (v := .bl (decide (j < i))) (fun S vx vy _ rx ry Q q => ⟨i, j, rx, ry, q⟩) hk
theorem ge_int' (hk : k (.bl (decide (j ≤ i))) M) : Bin K (rI0 fun i j => .bl (decide (j ≤ i))) (.int i) (.int j) M k := bin_flat (v := .bl (decide (j ≤ i))) (fun S vx vy _ rx ry Q q => ⟨i, j, rx, ry, q⟩) hk
/-- ==, flat data -/
theorem eq_int (hk : k (.bl (decide (i = j))) M) : Bin K (rEqU K) (.int i) (.int j) M k := bin_flat (v := .bl (decide (i = j))) (fun S vx vy _ rx ry Q q => by
  cases rx; cases ry
  exact .inl ⟨rfl, by rw [show decide (V.int i = V.int j) = decide (i = j) from by rw [dec_int, Bool.beq_eq_decide_eq]]; exact q⟩) hk
theorem ne_int (hk : k (.bl (!decide (i = j))) M) : Bin K (rNeU K) (.int i) (.int j) M k := bin_flat (v := .bl (!decide (i = j))) (fun S vx vy _ rx ry Q q => by
  cases rx; cases ry
  exact .inl ⟨rfl, by rw [show decide (V.int i = V.int j) = decide (i = j) from by rw [dec_int, Bool.beq_eq_decide_eq]]; exact q⟩) hk
theorem eq_str (hk : k (.bl (decide (s = t))) M) : Bin K (rEqU K) (.str s) (.str t) M k := bin_flat (v := .bl (decide (s = t))) (fun S vx vy _ rx ry Q q => by
  cases rx; cases ry
  exact .inl ⟨rfl, by rw [show decide (V.str s = V.str t) = decide (s = t) from by rw [dec_str]; by_cases h : s = t <;> simp [h]]; exact q⟩) hk
theorem ne_str (hk : k (.bl (!decide (s = t))) M) : Bin K (rNeU K) (.str s) (.str t) M k := bin_flat (v := .bl (!decide (s = t))) (fun S vx vy _ rx ry Q q => by
  cases rx; cases ry
  exact .inl ⟨rfl, by rw [show decide (V.str s = V.str t) = decide (s = t) from by rw [dec_str]; by_cases h : s = t <;> simp [h]]; exact q⟩) hk
/-- ==, data of any kind -/
theorem eq_dat {n m : Nat} (hx : sm n x = true) (hy : sm m y = true) (hk : k (.bl (PyData.eqv (py x) (py y))) M) (hn : n ≤ 64 := by decide) (hm : m ≤ 64 := by decide) : Bin K (rEqU K) x y M k :=
  bin_flat (v := .bl (PyData.eqv (py x) (py y))) (fun S vx vy hM rx ry Q q => .inr ⟨_, _, dp_of hM hx rx, dp_of hM hy ry, shaped_of hx hn, shaped_of hy hm, q⟩) hk
theorem ne_dat {n m : Nat} (hx : sm n x = true) (hy : sm m y = true) (hk : k (.bl (!PyData.eqv (py x) (py y))) M) (hn : n ≤ 64 := by decide) (hm : m ≤ 64 := by decide) : Bin K (rNeU K) x y M k :=
  bin_flat (v := .bl (!PyData.eqv (py x) (py y))) (fun S vx vy hM rx ry Q q => .inr ⟨_, _, dp_of hM hx rx, dp_of hM hy ry, shaped_of hx hn, shaped_of hy hm, q⟩) hk
def isNon : D → Bool
  | .non => true
  | _ => false
theorem rep_non {S : Sg} {v : V} {d : D} (h : Rep K S d v) (hr : ∀ u, d ≠ .raw u) : decide (v = .non) = isNon d := by
  cases d with
  | non => cases h; rfl
  | bl b => cases h; rfl
  | int i => cases h; rfl
  | str s => cases h; rfl
  | tup ds => obtain ⟨a, xs, rfl, _⟩ := h; rfl
  | lst ds => obtain ⟨a, xs, rfl, _⟩ := h; rfl
  | seq ds => obtain ⟨a, xs, rfl, _⟩ := h; rfl
  | dct ks ds => obtain ⟨a, xs, rfl, _⟩ := h; rfl
  | ins C fs ds => obtain ⟨a, dx, xs, rfl, _⟩ := h; rfl
  | hdl a => cases h; rfl
  | raw v => exact absurd rfl (hr v)
theorem is_non (hk : k (.bl (isNon x)) M) (hr : ∀ u, x ≠ .raw u := by intro _ h; cases h) : Bin K rIsN x .non M k := bin_flat (v := .bl (isNon x)) (fun S vx vy _ rx ry Q q => ⟨ry, by rw [rep_non rx hr]; exact q⟩) hk
theorem not_non (hk : k (.bl (!isNon x)) M) (hr : ∀ u, x ≠ .raw u := by intro _ h; cases h) : Bin K rNotN x .non M k := bin_flat (v := .bl (!isNon x)) (fun S vx vy _ rx ry Q q => ⟨ry, by rw [rep_non rx hr]; exact q⟩) hk
/-- items -/
theorem ixN_of {n j : Nat} {i : Int} (h : (0 ≤ i ∧ i = j ∧ j < n) ∨ (i < 0 ∧ i + n = j)) : ixN n i = some j := by
  unfold ixN
  rcases h with ⟨h0, h1, h2⟩ | ⟨h0, h1⟩
  · rw [if_pos h0, if_pos (by omega)]; simp [h1]
  · rw [if_neg (by omega)]
    first
      | (rw [if_pos (by omega)]; congr 1; omega)
      | (split
         · congr 1; omega
         · omega)
theorem ix_tup' {j : Nat} (hi : (0 ≤ i ∧ i = j ∧ j < ds.length) ∨ (i < 0 ∧ i + ds.length = j)) (hd : ds[j]? = some d) (hk : k d M) : Bin K (rIx K) (.tup ds) (.int i) M k := fun S vx vy hM rx ry Q hQ => by
  obtain ⟨a, xs, rfl, h1, r1⟩ := rx
  obtain ⟨x, e, r⟩ := r1.get hd
  refine .inr (.inl ⟨a, xs, i, x, rfl, ry, ex_t hM.zh h1, ?_, hQ d M S x hk hM (Grow.refl _) r⟩)
  unfold atI
  rw [ixN_of (n := xs.length) (j := j) (by rw [r1.len]; exact hi)]; exact e
theorem ix_lst' {j : Nat} (hi : (0 ≤ i ∧ i = j ∧ j < ds.length) ∨ (i < 0 ∧ i + ds.length = j)) (hd : ds[j]? = some d) (hk : k d M) : Bin K (rIx K) (.lst ds) (.int i) M k := fun S vx vy hM rx ry Q hQ => by
  obtain ⟨a, xs, rfl, h1, r1⟩ := rx
  obtain ⟨x, e, r⟩ := r1.get hd
  refine .inl ⟨a, xs, i, x, rfl, ry, SqL.of (hM.zh _ _ h1), ?_, hQ d M S x hk hM (Grow.refl _) r⟩
  unfold atI
  rw [ixN_of (n := xs.length) (j := j) (by rw [r1.len]; exact hi)]; exact e
theorem ix_seq' {j : Nat} (hi : (0 ≤ i ∧ i = j ∧ j < ds.length) ∨ (i < 0 ∧ i + ds.length = j)) (hd : ds[j]? = some d) (hk : k d M) : Bin K (rIx K) (.seq ds) (.int i) M k := fun S vx vy hM rx ry Q hQ => by
  obtain ⟨a, xs, rfl, h1, r1⟩ := rx
  obtain ⟨x, e, r⟩ := r1.get hd
  refine .inl ⟨a, xs, i, x, rfl, ry, ex_l hM.zh h1, ?_, hQ d M S x hk hM (Grow.refl _) r⟩
  unfold atI
  rw [ixN_of (n := xs.length) (j := j) (by rw [r1.len]; exact hi)]; exact e
theorem ix_hdl {j p : Nat} {h : Addr} (hm : M[p]? = some (h, .lst ds)) (hi : (0 ≤ i ∧ i = j ∧ j < ds.length) ∨ (i < 0 ∧ i + ds.length = j)) (hd : ds[j]? = some d) (hk : k d M) : Bin K (rIx K) (.hdl h) (.int i) M k := fun S vx vy hM rx ry Q hQ => by
  cases rx
  obtain ⟨_, xs, h1, r1⟩ := hM.at hm
  obtain ⟨x, e, r⟩ := r1.get hd
  refine .inl ⟨h, xs, i, x, rfl, ry, SqL.of h1, ?_, hQ d M S x hk hM (Grow.refl _) r⟩
  unfold atI
  rw [ixN_of (n := xs.length) (j := j) (by rw [r1.len]; exact hi)]; exact e
theorem ix_str' {j c : Nat} (hi : (0 ≤ i ∧ i = j ∧ j < s.length) ∨ (i < 0 ∧ i + s.length = j)) (hd : s.cps[j]? = some c) (hl : s.length ≤ 16777216) (hk : k (.str ⟨#[c]⟩) M) : Bin K (rIx K) (.str s) (.int i) M k :=
  bin_flat (v := .str ⟨#[c]⟩) (fun S vx vy _ rx ry Q q => .inr (.inr ⟨s, i, c, rx, ry, hl, by
    unfold atI
    rw [ixN_of (n := s.cps.toList.length) (j := j) (by rw [show s.cps.toList.length = s.length from by simp [Str.length]]; exact hi)]
    simpa using hd, q⟩)) hk
end
end PD

set_option Elab.async false
set_option linter.all false
set_option maxRecDepth 100000
set_option maxHeartbeats 4000000
/-! PD: calls, objects. -/
namespace PD
open PySem L2
open Evl (Ex ex_rd ex_l ex_t)

/-! ### built-ins -/
def CallD (K : PySem.W.Frag) (r : List V → Hp → VK → Prop) (ds : List D) (M : Ms) (k : KD) : Prop := ∀ S vs, OkM K S M → RepL K S ds vs → ∀ Q, KV K S k Q → r vs S.H Q
section
variable {X : Cx} {Γ : En} {M : Ms} {e a b c o : Expr} {es : List Expr} {st : Stmt} {rest : List Stmt} {k : KD} {kx : KX} {E : ED} {d x y z : D} {pos apos p : Pos} {id T : String} {nm : Str} {r : List V → Hp → VK → Prop}
theorem ge_callB (hc : CallR X (.builtin id) r) (hm : X.mg nm = none) (hv : bootBuiltins nm = some (.builtin id)) (h : GA X Γ M (e :: es) (fun ds M1 => CallD X.K r ds M1 k) kx) (hg : Gl X nm := by rfl) (hn : nm ≠ "__name__" := by decide) (hdb : (nm == ("__debug__" : Str)) = false := by decide)
    (he : starEach (e :: es) X.env = (false, eval e X.env) :: starEach es X.env := by rfl) (hpl : (backTo pos (starEach es X.env)).any (·.1) = false := by rfl) : GE X Γ M (.Call (.Name nm p) (e :: es) [] pos) k kx := fun S σ hM hE W tk hW Q hQ =>
  of_pe (pe_callB hc hg hm hv wa hn hdb he hpl) (h S σ hM hE W tk hW _ fun ds M1 S1 vs h1 hM1 g1 r1 => h1 S1 vs hM1 r1 Q (hQ.grow g1))
theorem ge_callT (hc : CallR X (.type T) r) (hm : X.mg nm = none) (hv : bootBuiltins nm = some (.type T)) (h : GA X Γ M (e :: es) (fun ds M1 => CallD X.K r ds M1 k) kx) (hg : Gl X nm := by rfl) (hn : nm ≠ "__name__" := by decide) (hdb : (nm == ("__debug__" : Str)) = false := by decide)
    (he : starEach (e :: es) X.env = (false, eval e X.env) :: starEach es X.env := by rfl) (hpl : (backTo pos (starEach es X.env)).any (·.1) = false := by rfl) : GE X Γ M (.Call (.Name nm p) (e :: es) [] pos) k kx := fun S σ hM hE W tk hW Q hQ =>
  of_pe (pe_callTy hc hg hm hv wa hn hdb he hpl) (h S σ hM hE W tk hW _ fun ds M1 S1 vs h1 hM1 g1 r1 => h1 S1 vs hM1 r1 Q (hQ.grow g1))
def CallV (K : PySem.W.Frag) (r : List V → Hp → VK → Prop) (ds : List D) (M : Ms) (z : D) : Prop := CallD K r ds M fun d M' => d = z ∧ M' = M
theorem CallV.cd {K : PySem.W.Frag} {ds : List D} (h : CallV K r ds M z) (hk : k z M) : CallD K r ds M k := fun S vs hM r1 Q hQ => h S vs hM r1 Q fun d M' S' v ⟨q1, q2⟩ => by rw [q1, q2]; exact hQ z M S' v hk
theorem ev_callB {ds : List D} (hc : CallR X (.builtin id) r) (hm : X.mg nm = none) (hv : bootBuiltins nm = some (.builtin id)) (h : AV X Γ M (e :: es) ds) (hr : CallV X.K r ds M z) (hg : Gl X nm := by rfl) (hn : nm ≠ "__name__" := by decide) (hdb : (nm == ("__debug__" : Str)) = false := by decide)
    (he : starEach (e :: es) X.env = (false, eval e X.env) :: starEach es X.env := by rfl) (hpl : (backTo pos (starEach es X.env)).any (·.1) = false := by rfl) : EV X Γ M (.Call (.Name nm p) (e :: es) [] pos) z := ge_callB hc hm hv (h.ga hr) hg hn hdb he hpl
theorem ev_callT {ds : List D} (hc : CallR X (.type T) r) (hm : X.mg nm = none) (hv : bootBuiltins nm = some (.type T)) (h : AV X Γ M (e :: es) ds) (hr : CallV X.K r ds M z) (hg : Gl X nm := by rfl) (hn : nm ≠ "__name__" := by decide) (hdb : (nm == ("__debug__" : Str)) = false := by decide)
    (he : starEach (e :: es) X.env = (false, eval e X.env) :: starEach es X.env := by rfl) (hpl : (backTo pos (starEach es X.env)).any (·.1) = false := by rfl) : EV X Γ M (.Call (.Name nm p) (e :: es) [] pos) z := ge_callT hc hm hv (h.ga hr) hg hn hdb he hpl
end
section
variable {K : PySem.W.Frag} {M : Ms} {k : KD} {i j : Int} {s t : Str} {ds es : List D} {x y d : D} {b : Bool} {r : List V → Hp → VK → Prop}
theorem call_flat {v : V} (h : ∀ S vs, OkM K S M → RepL K S ds vs → ∀ Q : VK, Q v S.H → r vs S.H Q) (hk : k d M) (hd : ∀ S, Rep K S d v := by intro _; rfl) : CallD K r ds M k := fun S vs hM rv Q hQ => h S vs hM rv Q (hQ d M S v hk hM (Grow.refl _) (hd S))
theorem rep1 {S : Sg} {vs : List V} (h : RepL K S [x] vs) : ∃ v, vs = [v] ∧ Rep K S x v := by
  obtain ⟨v, r, rfl, h1, h2⟩ := h
  have e : r = [] := h2
  subst e
  exact ⟨v, rfl, h1⟩
theorem rep2 {S : Sg} {vs : List V} (h : RepL K S [x, y] vs) : ∃ v w, vs = [v, w] ∧ Rep K S x v ∧ Rep K S y w := by
  obtain ⟨v, r, rfl, h1, h2⟩ := h
  obtain ⟨w, rfl, h3⟩ := rep1 h2
  exact ⟨v, w, rfl, h1, h3⟩
def rLen (K : PySem.W.Frag) : List V → Hp → VK → Prop := fun xs H Q => (∃ x n, xs = [x] ∧ LenV K x H n ∧ Q (.int n) H) ∨ (∃ a kvs, xs = [.ref a] ∧ H a = some (.dK kvs) ∧ Q (.int (kvs.length : Nat)) H)
theorem len_str (hl : s.length ≤ 16777216) (hk : k (.int s.length) M) : CallD K (fun xs H Q => ∃ x n, xs = [x] ∧ LenV K x H n ∧ Q (.int (n : Nat)) H) [.str s] M k := call_flat (v := .int (s.length : Nat)) (fun S vs _ rv Q q => by
  obtain ⟨v, rfl, r⟩ := rep1 rv
  cases r
  exact ⟨_, s.length, rfl, ⟨hl, rfl⟩, q⟩) hk
theorem len_tup (hk : k (.int ds.length) M) : CallD K (fun xs H Q => ∃ x n, xs = [x] ∧ LenV K x H n ∧ Q (.int (n : Nat)) H) [.tup ds] M k := call_flat (v := .int (ds.length : Nat)) (fun S vs hM rv Q q => by
  obtain ⟨v, rfl, a, xs, rfl, h, r⟩ := rep1 rv
  exact ⟨_, ds.length, rfl, .inr ⟨xs, ex_t hM.zh h, r.len.symm⟩, q⟩) hk
theorem len_lst (hk : k (.int ds.length) M) : CallD K (fun xs H Q => ∃ x n, xs = [x] ∧ LenV K x H n ∧ Q (.int (n : Nat)) H) [.lst ds] M k := call_flat (v := .int (ds.length : Nat)) (fun S vs hM rv Q q => by
  obtain ⟨v, rfl, a, xs, rfl, h, r⟩ := rep1 rv
  exact ⟨_, ds.length, rfl, .inl ⟨xs, SqL.of (hM.zh _ _ h), r.len.symm⟩, q⟩) hk
theorem len_seq (hk : k (.int ds.length) M) : CallD K (fun xs H Q => ∃ x n, xs = [x] ∧ LenV K x H n ∧ Q (.int (n : Nat)) H) [.seq ds] M k := call_flat (v := .int (ds.length : Nat)) (fun S vs hM rv Q q => by
  obtain ⟨v, rfl, a, xs, rfl, h, r⟩ := rep1 rv
  exact ⟨_, ds.length, rfl, .inl ⟨xs, ex_l hM.zh h, r.len.symm⟩, q⟩) hk
theorem len_hdl {p : Nat} {h : Addr} (hm : M[p]? = some (h, .lst ds)) (hk : k (.int ds.length) M) : CallD K (fun xs H Q => ∃ x n, xs = [x] ∧ LenV K x H n ∧ Q (.int (n : Nat)) H) [.hdl h] M k := call_flat (v := .int (ds.length : Nat)) (fun S vs hM rv Q q => by
  obtain ⟨v, rfl, rfl⟩ := rep1 rv
  obtain ⟨_, xs, h, r⟩ := hM.at hm
  exact ⟨_, ds.length, rfl, .inl ⟨xs, SqL.of h, r.len.symm⟩, q⟩) hk
def rInt1 : List V → Hp → VK → Prop := fun xs H Q => (∃ i, xs = [.int i] ∧ Q (.int i) H) ∨ ∃ k, xs = [.bl k] ∧ Q (.int (if k then 1 else 0)) H
theorem int_int (hk : k (.int i) M) : CallD K rInt1 [.int i] M k := call_flat (v := .int i) (fun S vs _ rv Q q => by
  obtain ⟨v, rfl, r⟩ := rep1 rv
  cases r
  exact .inl ⟨i, rfl, q⟩) hk
theorem int_bl (hk : k (.int (if b then 1 else 0)) M) : CallD K rInt1 [.bl b] M k := call_flat (v := .int (if b then 1 else 0)) (fun S vs _ rv Q q => by
  obtain ⟨v, rfl, r⟩ := rep1 rv
  cases r
  exact .inr ⟨b, rfl, q⟩) hk
def rAbs : List V → Hp → VK → Prop := fun xs H Q => ∃ i, xs = [.int i] ∧ Q (.int (if i < 0 then -i else i)) H
theorem abs_int (hk : k (.int (if i < 0 then -i else i)) M) : CallD K rAbs [.int i] M k := call_flat (v := .int (if i < 0 then -i else i)) (fun S vs _ rv Q q => by
  obtain ⟨v, rfl, r⟩ := rep1 rv
  cases r
  exact ⟨i, rfl, q⟩) hk
def rMin2 : List V → Hp → VK → Prop := fun xs H Q => ∃ i j, xs = [.int i, .int j] ∧ Q (.int (if j < i then j else i)) H
theorem max2_int (hk : k (.int (if j > i then j else i)) M) : CallD K Evl.rMax2 [.int i, .int j] M k := call_flat (v := .int (if j > i then j else i)) (fun S vs _ rv Q q => by
  obtain ⟨v, w, rfl, r1, r2⟩ := rep2 rv
  cases r1; cases r2
  exact ⟨i, j, rfl, q⟩) hk
theorem min2_int (hk : k (.int (if j < i then j else i)) M) : CallD K rMin2 [.int i, .int j] M k := call_flat (v := .int (if j < i then j else i)) (fun S vs _ rv Q q => by
  obtain ⟨v, w, rfl, r1, r2⟩ := rep2 rv
  cases r1; cases r2
  exact ⟨i, j, rfl, q⟩) hk
def rTupOf (K : PySem.W.Frag) : List V → Hp → VK → Prop := fun xs H Q => ∃ p ys, xs = [.ref p] ∧ ((SqL K H p ys ∧ ∀ l, H l = none → Q (.ref l) (upd H l (.tup ys))) ∨ (SqT K H p ys ∧ Q (.ref p) H))
def rLstOf (K : PySem.W.Frag) : List V → Hp → VK → Prop := fun xs H Q => ∃ p ys, xs = [.ref p] ∧ (SqL K H p ys ∨ SqT K H p ys) ∧ ∀ l, H l = none → Q (.ref l) (upd H l (.lst ys))
theorem tup_lst (hk : k (.tup ds) M) : CallD K (rTupOf K) [.lst ds] M k := fun S vs hM rv Q hQ => by
  obtain ⟨v, rfl, a, xs, rfl, h, r⟩ := rep1 rv
  refine ⟨a, xs, rfl, .inl ⟨SqL.of (hM.zh _ _ h), fun l hl => ?_⟩⟩
  obtain ⟨hM2, g2⟩ := new_z (o := .tup xs) hM hl
  exact hQ _ M ⟨S.as, upd S.Z l (.tup xs), upd S.H l (.tup xs)⟩ (.ref l) hk hM2 g2 ⟨l, _, rfl, SqT.of upd_same, r.grow g2⟩
theorem tup_hdl {p : Nat} {h : Addr} (hm : M[p]? = some (h, .lst ds)) (hk : k (.tup ds) M) : CallD K (rTupOf K) [.hdl h] M k := fun S vs hM rv Q hQ => by
  obtain ⟨v, rfl, rfl⟩ := rep1 rv
  obtain ⟨_, xs, h, r⟩ := hM.at hm
  refine ⟨_, xs, rfl, .inl ⟨SqL.of h, fun l hl => ?_⟩⟩
  obtain ⟨hM2, g2⟩ := new_z (o := .tup xs) hM hl
  exact hQ _ M ⟨S.as, upd S.Z l (.tup xs), upd S.H l (.tup xs)⟩ (.ref l) hk hM2 g2 ⟨l, _, rfl, SqT.of upd_same, r.grow g2⟩
theorem tup_tup (hk : k (.tup ds) M) : CallD K (rTupOf K) [.tup ds] M k := fun S vs hM rv Q hQ => by
  obtain ⟨v, rfl, a, xs, rfl, h, r⟩ := rep1 rv
  exact ⟨a, xs, rfl, .inr ⟨ex_t hM.zh h, hQ _ M S _ hk hM (Grow.refl _) ⟨a, xs, rfl, h, r⟩⟩⟩
theorem lst_tup (hk : k (.lst ds) M) : CallD K (rLstOf K) [.tup ds] M k := fun S vs hM rv Q hQ => by
  obtain ⟨v, rfl, a, xs, rfl, h, r⟩ := rep1 rv
  refine ⟨a, xs, rfl, .inr (ex_t hM.zh h), fun l hl => ?_⟩
  obtain ⟨hM2, g2⟩ := new_z (o := .lst xs) hM hl
  exact hQ _ M ⟨S.as, upd S.Z l (.lst xs), upd S.H l (.lst xs)⟩ (.ref l) hk hM2 g2 ⟨l, _, rfl, upd_same, r.grow g2⟩
theorem lst_tupM (hk : ∀ p, k (.hdl p) (M ++ [(p, .lst ds)])) : CallD K (rLstOf K) [.tup ds] M k := fun S vs hM rv Q hQ => by
  obtain ⟨v, rfl, a, xs, rfl, h, r⟩ := rep1 rv
  refine ⟨a, xs, rfl, .inr (ex_t hM.zh h), fun l hl => ?_⟩
  obtain ⟨hM2, g2⟩ := new_m (m := .lst ds) (o := .lst xs) hM hl (fun g => ⟨hM.zh.none hl, xs, upd_same, r.grow g⟩)
  exact hQ _ _ ⟨S.as ++ [l], S.Z, upd S.H l (.lst xs)⟩ (.ref l) (hk l) hM2 g2 rfl
theorem lst_lst (hk : k (.lst ds) M) : CallD K (rLstOf K) [.lst ds] M k := fun S vs hM rv Q hQ => by
  obtain ⟨v, rfl, a, xs, rfl, h, r⟩ := rep1 rv
  refine ⟨a, xs, rfl, .inl (SqL.of (hM.zh _ _ h)), fun l hl => ?_⟩
  obtain ⟨hM2, g2⟩ := new_z (o := .lst xs) hM hl
  exact hQ _ M ⟨S.as, upd S.Z l (.lst xs), upd S.H l (.lst xs)⟩ (.ref l) hk hM2 g2 ⟨l, _, rfl, upd_same, r.grow g2⟩
theorem lst_lstM (hk : ∀ p, k (.hdl p) (M ++ [(p, .lst ds)])) : CallD K (rLstOf K) [.lst ds] M k := fun S vs hM rv Q hQ => by
  obtain ⟨v, rfl, a, xs, rfl, h, r⟩ := rep1 rv
  refine ⟨a, xs, rfl, .inl (SqL.of (hM.zh _ _ h)), fun l hl => ?_⟩
  obtain ⟨hM2, g2⟩ := new_m (m := .lst ds) (o := .lst xs) hM hl (fun g => ⟨hM.zh.none hl, xs, upd_same, r.grow g⟩)
  exact hQ _ _ ⟨S.as ++ [l], S.Z, upd S.H l (.lst xs)⟩ (.ref l) (hk l) hM2 g2 rfl
theorem repBl {S : Sg} : ∀ {bs : List Bool} {xs : List V}, RepL K S (bs.map D.bl) xs → xs = bs.map V.bl
  | [], _, h => h
  | b :: bs, _, h => by
    obtain ⟨x, r, rfl, h1, h2⟩ := h
    cases h1
    rw [repBl h2]; rfl
theorem repInt {S : Sg} : ∀ {bs : List Int} {xs : List V}, RepL K S (bs.map D.int) xs → xs = bs.map V.int
  | [], _, h => h
  | b :: bs, _, h => by
    obtain ⟨x, r, rfl, h1, h2⟩ := h
    cases h1
    rw [repInt h2]; rfl
theorem repStr {S : Sg} : ∀ {bs : List Str} {xs : List V}, RepL K S (bs.map D.str) xs → xs = bs.map V.str
  | [], _, h => h
  | b :: bs, _, h => by
    obtain ⟨x, r, rfl, h1, h2⟩ := h
    cases h1
    rw [repStr h2]; rfl
theorem all_lst {bs : List Bool} (hb : ds = bs.map D.bl) (hk : k (.bl (bs.all id)) M) : CallD K (rAll K) [.lst ds] M k := call_flat (v := .bl (bs.all id)) (fun S vs hM rv Q q => by
  subst hb
  obtain ⟨v, rfl, a, xs, rfl, h, r⟩ := rep1 rv
  rw [repBl r] at h
  exact ⟨a, bs, rfl, SqL.of (hM.zh _ _ h), q⟩) hk
theorem any_lst {bs : List Bool} (hb : ds = bs.map D.bl) (hk : k (.bl (bs.any id)) M) : CallD K (rAny K) [.lst ds] M k := call_flat (v := .bl (bs.any id)) (fun S vs hM rv Q q => by
  subst hb
  obtain ⟨v, rfl, a, xs, rfl, h, r⟩ := rep1 rv
  rw [repBl r] at h
  exact ⟨a, bs, rfl, SqL.of (hM.zh _ _ h), q⟩) hk
theorem sum_lst {bs : List Int} (hb : ds = bs.map D.int) (hk : k (.int bs.sum) M) : CallD K (rSum K) [.lst ds] M k := call_flat (v := .int bs.sum) (fun S vs hM rv Q q => by
  subst hb
  obtain ⟨v, rfl, a, xs, rfl, h, r⟩ := rep1 rv
  rw [repInt r] at h
  exact ⟨a, bs, rfl, SqL.of (hM.zh _ _ h), q⟩) hk
/-- isinstance of built-in classes -/
def tyN : D → Option String
  | .non => some "NoneType"
  | .bl _ => some "bool"
  | .int _ => some "int"
  | .str _ => some "str"
  | .tup _ => some "tuple"
  | .lst _ => some "list"
  | .seq _ => some "list"
  | .dct _ _ => some "dict"
  | _ => none
theorem sqT_ty {H : Hp} {a : Addr} {xs : List V} (h : SqT K H a xs) : TyX K H (.ref a) (.type "tuple") := by
  rcases h with (h | ⟨o, h⟩) | ⟨o, its, n, h, hc, _⟩
  · exact .base (.tup h)
  · exact .fTuple h
  · exact .kTuple h hc
theorem sqL_ty {H : Hp} {a : Addr} {xs : List V} (h : SqL K H a xs) : TyX K H (.ref a) (.type "list") := by
  rcases h with (h | ⟨o, h⟩) | ⟨o, its, n, h, hc, _⟩
  · exact .base (.lst h)
  · exact .base (.frz h)
  · exact .kList h hc
theorem ty_of {S : Sg} {v : V} {t : String} (hM : OkM K S M) (r : Rep K S x v) (h : tyN x = some t) : TyX K S.H v (.type t) := by
  cases x with
  | non => cases r; cases h; exact .base .non
  | bl b => cases r; cases h; exact .base (.bl b)
  | int i => cases r; cases h; exact .base (.int i)
  | str s => cases r; cases h; exact .base (.str s)
  | tup ds => obtain ⟨a, xs, rfl, e, _⟩ := r; cases h; exact sqT_ty (ex_t hM.zh e)
  | lst ds => obtain ⟨a, xs, rfl, e, _⟩ := r; cases h; exact .base (.lst (hM.zh _ _ e))
  | seq ds => obtain ⟨a, xs, rfl, e, _⟩ := r; cases h; exact sqL_ty (ex_l hM.zh e)
  | dct ks ds => obtain ⟨a, xs, rfl, e, _⟩ := r; cases h; exact .base (.dK (hM.zh _ _ e))
  | ins C fs ds => cases h
  | hdl k => cases h
  | raw u => cases h
theorem isi_ty {t c : String} (h : tyN x = some t) (hb : kitB t c = some b) (hk : k (.bl b) M) : CallD K (rIsi K) [x, .raw (.ty c)] M k := call_flat (v := .bl b) (fun S vs hM rv Q q => by
  obtain ⟨v, w, rfl, r1, r2⟩ := rep2 rv
  cases r2
  exact ⟨v, .ty c, .type t, .type c, b, rfl, .ty c, ty_of hM r1 h, kit_ty hb, q⟩) hk
end

/-! ### defs of one's own -/
abbrev RSp := List D → Ms → KD → KX → Prop
/-- a call that is handed the objects at ks: behind it they stand in their places again -/
def CallOk (R : RSp) (ks : List Nat) (ds : List D) (M : Ms) (k : KD) (kx : KX) : Prop := ks.Nodup ∧ (∀ j ∈ ks, j < M.length) ∧
  R ds (pick ks M) (fun d N => (N.take ks.length).map (·.1) = (pick ks M).map (·.1) ∧ k d (merge ks M N)) (fun c f N => (N.take ks.length).map (·.1) = (pick ks M).map (·.1) ∧ kx c f (merge ks M N))
def spD (K : PySem.W.Frag) (R : RSp) : Sp := fun vs H Q E => ∃ S ds M k kx, S.H = H ∧ OkM K S M ∧ RepL K S ds vs ∧ R ds M k kx ∧ KV K S k Q ∧
  ∀ cls fs M' S' dd, kx cls fs M' → OkM K S' M' → Grow S S' → XRep K S' dd fs → E cls dd S'.H
structure FnD (P : Program) (w : World) (K : PySem.W.Frag) (mg : Str → Option Value) (base : Heap) (j : Nat) (x : Str) (dds : List D) (R : RSp) : Prop where
  ex : ∃ f fd ps ds dvs, mg x = some (.ref f) ∧ PySem.W.keepIn K (.ref f) = true ∧ Binds K fd ps ds ∧ Vals dvs ds ∧ (∀ S, RepL K S dds dvs) ∧ FnOk P w K mg base (L2.CX P w) j f fd ps (spD K R)
/-- m, a method that the class at C has -/
structure MtD (P : Program) (w : World) (K : PySem.W.Frag) (mg : Str → Option Value) (base : Heap) (j : Nat) (C : Addr) (m : Str) (dds : List D) (R : RSp) : Prop where
  cl : Cls K C
  ex : ∃ f fd ps ds dvs, Meth K C m f ∧ Binds K fd ps ds ∧ Vals dvs ds ∧ (∀ S, RepL K S dds dvs) ∧ FnOk P w K mg base (L2.CX P w) j f fd ps (spD K R)
/-- the making of an instance of the class C named x -/
structure MkD (P : Program) (w : World) (K : PySem.W.Frag) (mg : Str → Option Value) (base : Heap) (j : Nat) (C : Addr) (x : Str) (dds : List D) (R : RSp) : Prop where
  cl : Cls K C
  gC : mg x = some (.ref C)
  ex : ∃ f fd ps ds dvs, Mk K C f ∧ Binds K fd ps ds ∧ Vals dvs ds ∧ (∀ S, RepL K S dds dvs) ∧ FnOk P w K mg base (L2.CX P w) j f fd ps (spD K R)
/-- an object, standing or not -/
def ObjD (M : Ms) (d : D) (C : Addr) (fs : List Str) (ds : List D) : Prop := d = .ins C fs ds ∨ ∃ (j : Nat) (a : Addr), d = .hdl a ∧ M[j]? = some (a, MO.ins C fs ds)
theorem ObjD.at {K : PySem.W.Frag} {S : Sg} {M : Ms} {d : D} {C : Addr} {fs : List Str} {ds : List D} {v : V} (o : ObjD M d C fs ds) (hM : OkM K S M) (r : Rep K S d v) :
    ∃ a dx kvs, v = .ref a ∧ S.H a = some (.ins C dx kvs) ∧ kvs.map (·.1) = fs ∧ RepL K S ds (kvs.map (·.2)) := by
  rcases o with rfl | ⟨j, a, rfl, hj⟩
  · obtain ⟨a, dx, kvs, rfl, h, e, r⟩ := r
    exact ⟨a, dx, kvs, rfl, hM.zh _ _ h, e, r⟩
  · cases r
    obtain ⟨_, dx, kvs, h, e, r⟩ := hM.at hj
    exact ⟨a, dx, kvs, rfl, h, e, r⟩
theorem lookup_ix : ∀ {kvs : List (Str × V)} {i : Nat} {f : Str} {v : V}, (kvs.map (·.1)).Nodup → (kvs.map (·.1))[i]? = some f → (kvs.map (·.2))[i]? = some v → kvs.lookup f = some v
  | [], _, _, _, _, h, _ => by simp at h
  | (g, u) :: r, 0, f, v, _, h1, h2 => by
    simp at h1 h2
    subst h1; subst h2
    simp [List.lookup]
  | (g, u) :: r, i + 1, f, v, nd, h1, h2 => by
    have h1' : (r.map (·.1))[i]? = some f := h1
    have h2' : (r.map (·.2))[i]? = some v := h2
    have nd' : g ∉ r.map (·.1) ∧ (r.map (·.1)).Nodup := List.nodup_cons.mp nd
    have hne : f ≠ g := fun e => nd'.1 (by rw [← e]; exact List.mem_of_getElem? h1')
    have hb : (f == g) = false := by simpa using hne
    simp only [List.lookup, hb]
    exact lookup_ix (i := i) nd'.2 h1' h2'
theorem lookup_no : ∀ {kvs : List (Str × V)} {f : Str}, f ∉ kvs.map (·.1) → kvs.lookup f = none
  | [], _, _ => rfl
  | (g, u) :: r, f, h => by
    simp only [List.map_cons, List.mem_cons, not_or] at h
    have hb : (f == g) = false := by simpa using h.1
    simp only [List.lookup, hb]
    exact lookup_no h.2
section
variable {X : Cx} {Γ : En} {M : Ms} {e a b c o : Expr} {es : List Expr} {st : Stmt} {rest : List Stmt} {k : KD} {kx : KX} {E : ED} {d x y z : D} {pos apos p : Pos} {nm m : Str} {j l : Nat} {C : Addr} {dds : List D} {R : RSp}
theorem sp_of {K : PySem.W.Frag} {S' : Sg} {ds : List D} {M' : Ms} {ks : List Nat} {vs : List V} {Q : VK} {W : WX} {σ : L2.St} (hM : OkM K S' M') (rv : RepL K S' ds vs) (h : CallOk R ks ds M' k kx) (hQ : KV K S' k Q) (hW : KW K S' kx W σ) :
    spD K R vs S'.H Q (L2.WE W σ) := by
  obtain ⟨nd, hk, h⟩ := h
  refine ⟨⟨(pick ks M').map (·.1), S'.Z, S'.H⟩, ds, pick ks M', _, _, rfl, pick_ok hM nd, (sg_mono (S := S') (S' := ⟨(pick ks M').map (·.1), S'.Z, S'.H⟩) (Ex.refl _)).2 _ _ rv, h, fun d N S2 v ⟨hn, hd⟩ hN g r => ?_, fun cls fs N S2 dd ⟨hn, hd⟩ hN g r => ?_⟩
  · obtain ⟨a, b⟩ := merge_ok hM nd hk hN g hn
    exact hQ d _ ⟨(merge ks M' N).map (·.1), S2.Z, S2.H⟩ v hd a b ((sg_mono (S := S2) (S' := ⟨(merge ks M' N).map (·.1), S2.Z, S2.H⟩) (Ex.refl _)).1 _ _ r)
  · obtain ⟨a, b⟩ := merge_ok hM nd hk hN g hn
    refine hW cls fs _ ⟨(merge ks M' N).map (·.1), S2.Z, S2.H⟩ dd hd a b ?_
    cases dd with
    | none => exact r
    | some x => obtain ⟨kvs, h1, h2, h3⟩ := r; exact ⟨kvs, h1, h2, (sg_mono (S := S2) (S' := ⟨(merge ks M' N).map (·.1), S2.Z, S2.H⟩) (Ex.refl _)).2 _ _ h3⟩
theorem ge_call (F : FnD X.prog X.w X.K X.mg X.base j nm dds R) (hr : Room l X.A) (hl : j ≤ l) (h : GA X Γ M (e :: es) (fun ds M1 => ∃ ks, CallOk R ks (ds ++ dds) M1 k kx) kx) (hg : Gl X nm := by rfl) (hdb : (nm == ("__debug__" : Str)) = false := by decide)
    (he : starEach (e :: es) X.env = (false, eval e X.env) :: starEach es X.env := by rfl) (hpl : (backTo pos (starEach es X.env)).any (·.1) = false := by rfl) : GE X Γ M (.Call (.Name nm p) (e :: es) [] pos) k kx := fun S σ hM hE W tk hW Q hQ pins s I => by
  obtain ⟨f, fd, ps, dvl, dvs, hm, hk, hb, hd, hrd, F⟩ := F.ex
  refine wpAny_Call_Name_kw (ld_glob I hg hm ?_ hdb)
  refine PySem.W.callWith_K (h₀ := X.base) I.ok.mod.kin hk (thn (h S σ hM hE W tk hW (fun vs H1 => spD X.K R (vs ++ dvs) H1 Q (L2.WE W σ)) (fun ds M1 S1 vs ⟨ks, h1⟩ hM1 g1 r1 => sp_of hM1 (r1.app (hrd S1)) h1 (hQ.grow g1) (hW.grow g1)) pos pins s I) fun us s1 ⟨vs, H1, I1, r, q⟩ => ⟨I1.kIn, ?_⟩) he hpl
  exact run_fnSD F (hr.mono hl) hb hd (passAt tk σ) I1 r q
theorem ge_call0 (F : FnD X.prog X.w X.K X.mg X.base j nm dds R) (hr : Room l X.A) (hl : j ≤ l) (h : ∃ ks, CallOk R ks dds M k kx) (hg : Gl X nm := by rfl) (hdb : (nm == ("__debug__" : Str)) = false := by decide) : GE X Γ M (.Call (.Name nm p) [] [] pos) k kx := fun S σ hM hE W tk hW Q hQ pins s I => by
  obtain ⟨f, fd, ps, dvl, dvs, hm, hk, hb, hd, hrd, F⟩ := F.ex
  obtain ⟨ks, h⟩ := h
  refine wpAny_Call_Name_kw (ld_glob I hg hm ?_ hdb)
  exact PySem.W.callWith_K0 I.kIn hk (run_fnSD (us := []) (vs := []) F (hr.mono hl) hb hd (passAt tk σ) I .nil (sp_of hM (hrd S) h hQ hW))
theorem ge_meth {pl : Sem Bool} (F : MtD X.prog X.w X.K X.mg X.base j C m dds R) (hr : Room l X.A) (hl : j ≤ l) (h : GE X Γ M o (fun d M1 => ∃ fs ds0, ObjD M1 d C fs ds0 ∧ m ∉ fs ∧ GA X Γ M1 (e :: es) (fun ds M2 => ∃ ks, CallOk R ks (d :: (ds ++ dds)) M2 k kx) kx) kx)
    (hst : starEach (e :: es) X.env = (false, eval e X.env) :: starEach es X.env := by rfl) (hpl : (backTo pos (starEach es X.env)).any (·.1) = false := by rfl)
    (ht : eval (.Call (.Attribute o m apos) (e :: es) [] pos) X.env = (do
      let ov ← eval o X.env
      standAt apos.atName
      let (f, first) ← holding [ov] (getMethod ov m pl)
      callWith pos f first (backTo pos (starEach (e :: es) X.env)) (backToKw pos (keywordEach [] X.env))) := by rfl) : GE X Γ M (.Call (.Attribute o m apos) (e :: es) [] pos) k kx := fun S σ hM hE W tk hW Q hQ pins s I => by
  obtain ⟨f, fd, ps, dvl, dvs, hm, hb, hd, hrd, F'⟩ := F.ex
  refine PySem.W.methodCall_KW (pl := pl) (thn (h S σ hM hE W tk hW (fun x H1 => ∃ a dx fs, x = .ref a ∧ H1 a = some (.ins C dx fs) ∧ fs.lookup m = none ∧ WA X (e :: es) σ H1 fun vs H2 => spD X.K R (x :: (vs ++ dvs)) H2 Q (L2.WE W σ)) (fun d M1 S1 v ⟨fs, ds0, ob, nf, h1⟩ hM1 g1 r1 => by
    obtain ⟨a, dx, kvs, rfl, hh, hf, hrr⟩ := ob.at hM1 r1
    refine ⟨a, dx, kvs, rfl, hh, lookup_no (by rw [hf]; exact nf), ?_⟩
    exact h1 S1 σ hM1 (hE.grow g1) W tk (hW.grow g1) _ fun ds M2 S2 vs ⟨ks, h2⟩ hM2 g2 r2 => sp_of hM2 (.cons (r1.grow g2) (r2.app (hrd S2))) h2 ((hQ.grow g1).grow g2) ((hW.grow g1).grow g2)) pins s I) fun u s1 ⟨x, H1, I1, rx, a, dx, fs, ex, ea, l, q⟩ => ?_) ht
  subst ex
  obtain rfl : u = Value.ref a := rx
  refine getmeth_ok I1 ea F.cl hm l ?_
  refine PySem.W.callWith_K (first := [.ref a]) (h₀ := X.base) I.ok.mod.kin hm.kp (thn (q pos pins s1 I1) fun us s2 ⟨vs, H2, I2, r, q2⟩ => ⟨I2.kIn, ?_⟩) hst hpl
  exact run_fnSD (us := .ref a :: us) (vs := .ref a :: vs) F' (hr.mono hl) hb hd (passAt tk σ) I2 (.cons rfl r) q2
theorem ge_meth0 {pl : Sem Bool} (F : MtD X.prog X.w X.K X.mg X.base j C m dds R) (hr : Room l X.A) (hl : j ≤ l) (h : GE X Γ M o (fun d M1 => ∃ fs ds0, ObjD M1 d C fs ds0 ∧ m ∉ fs ∧ ∃ ks, CallOk R ks (d :: dds) M1 k kx) kx)
    (ht : eval (.Call (.Attribute o m apos) [] [] pos) X.env = (do
      let ov ← eval o X.env
      standAt apos.atName
      let (f, first) ← holding [ov] (getMethod ov m pl)
      callWith pos f first (backTo pos (starEach [] X.env)) (backToKw pos (keywordEach [] X.env))) := by rfl) : GE X Γ M (.Call (.Attribute o m apos) [] [] pos) k kx := fun S σ hM hE W tk hW Q hQ pins s I => by
  obtain ⟨f, fd, ps, dvl, dvs, hm, hb, hd, hrd, F'⟩ := F.ex
  refine PySem.W.methodCall_KW (pl := pl) (thn (h S σ hM hE W tk hW (fun x H1 => ∃ a dx fs, x = .ref a ∧ H1 a = some (.ins C dx fs) ∧ fs.lookup m = none ∧ spD X.K R (x :: dvs) H1 Q (L2.WE W σ)) (fun d M1 S1 v ⟨fs, ds0, ob, nf, ks, h1⟩ hM1 g1 r1 => by
    obtain ⟨a, dx, kvs, rfl, hh, hf, hrr⟩ := ob.at hM1 r1
    exact ⟨a, dx, kvs, rfl, hh, lookup_no (by rw [hf]; exact nf), sp_of hM1 (.cons r1 (hrd S1)) h1 (hQ.grow g1) (hW.grow g1)⟩) pins s I) fun u s1 ⟨x, H1, I1, rx, a, dx, fs, ex, ea, l, q⟩ => ?_) ht
  subst ex
  obtain rfl : u = Value.ref a := rx
  refine getmeth_ok I1 ea F.cl hm l ?_
  exact PySem.W.callWith_K0 (first := [.ref a]) I1.kIn hm.kp (run_fnSD (us := [.ref a]) (vs := [.ref a]) F' (hr.mono hl) hb hd (passAt tk σ) I1 (.cons rfl .nil) q)
/-- o.f -/
theorem ge_fld (i : Nat) {f : Str} (h : GE X Γ M o (fun d M1 => ∃ C fs ds v, Cls X.K C ∧ NoAttr X.K C f ∧ ObjD M1 d C fs ds ∧ fs.Nodup ∧ fs[i]? = some f ∧ ds[i]? = some v ∧ k v M1) kx) (hb : attributeBase o f X.env (eval o X.env) = eval o X.env := by rfl) : GE X Γ M (.Attribute o f pos) k kx := fun S σ hM hE W tk hW Q hQ =>
  of_pe (pe_fld we hb) (h S σ hM hE W tk hW _ fun d M1 S1 v ⟨C, fs, ds, u, cl, na, ob, nd, hf, hi, hk⟩ hM1 g1 r1 => by
    obtain ⟨a, dx, kvs, rfl, hh, he, hrr⟩ := ob.at hM1 r1
    obtain ⟨w, hw, rw'⟩ := hrr.get hi
    exact ⟨a, C, dx, kvs, w, rfl, hh, cl, na, lookup_ix (by rw [he]; exact nd) (by rw [he]; exact hf) hw, hQ u M1 S1 w hk hM1 g1 rw'⟩)
end
end PD

set_option Elab.async false
set_option linter.all false
set_option maxRecDepth 100000
set_option maxHeartbeats 4000000
/-! PD: loops, comprehensions, stores, raising, defs. -/
namespace PD
open PySem L2
open Evl (Ex ex_rd ex_l ex_t)

/-! ### targets -/
section
variable {X : Cx} {Γ : En} {M : Ms} {pos : Pos} {d : D}
theorem gg_name (i : Nat) {x : Str} {k : En → Prop} (h : k (Γ.set i (some d))) (hN : X.N.Nodup) (hi : X.N[i]? = some x := by rfl) (hx : Loc X.env.scope x := by first | exact Or.inl rfl | exact Or.inr rfl)
    (hf : X.fn x = true ∨ X.env.scope.names.lookup x = some .local := by first | exact .inl rfl | exact .inr rfl) : GG X Γ M (.Name x pos) d k := fun S σ hM hE v rv Q hQ pins s u I r =>
  (pg_name hN hi hx hf).run pins s σ S.H v u Q I r (hQ _ _ h (hE.set rv))
/-- a, b, .. = a tuple's items -/
def GGs (X : Cx) (Γ : En) (M : Ms) (ts : List Expr) (ds : List D) (k : En → Prop) : Prop := ∀ S σ, OkM X.K S M → EnvOk X.K S σ Γ → ∀ vs, RepL X.K S ds vs → ∀ Q : L2.St → Hp → Prop, (∀ Γ' σ', k Γ' → EnvOk X.K S σ' Γ' → Q σ' S.H) →
  ∀ (pins : List (Addr × Obj)) (s : Shared) (us : List Value), Inv X pins σ S.H s → Vals vs us → wpAny (model X.prog X.w) X.A (assignInOrder ((assignEach ts X.env).map (·.2)) us) (fun _ s' => ∃ σ' H', Inv X pins σ' H' s' ∧ Q σ' H') X.xe s
def WGs (X : Cx) (ts : List Expr) : TGs := fun vs σ H Q => ∀ (pins : List (Addr × Obj)) (s : Shared) (us : List Value), Inv X pins σ H s → Vals vs us → wpAny (model X.prog X.w) X.A (assignInOrder ((assignEach ts X.env).map (·.2)) us) (fun _ s' => ∃ σ' H', Inv X pins σ' H' s' ∧ Q σ' H') X.xe s
theorem wgs {ts : List Expr} : PGs X ts (WGs X ts) := ⟨fun pins s _ _ _ us _ I r h => h pins s us I r⟩
theorem ggs_nil {k : En → Prop} (h : k Γ) : GGs X Γ M [] [] k := fun S σ hM hE vs rv Q hQ pins s us I r => by
  have e : vs = [] := rv
  subst e
  exact pgs_nil.run pins s σ S.H [] us Q I r ⟨rfl, hQ _ _ h hE⟩
theorem ggs_cons {t : Expr} {ts : List Expr} {ds : List D} {k : En → Prop} (h : GG X Γ M t d fun Γ1 => GGs X Γ1 M ts ds k)
    (hs : (assignEach (t :: ts) X.env).map (·.2) = assign t X.env :: (assignEach ts X.env).map (·.2) := by rfl) : GGs X Γ M (t :: ts) (d :: ds) k := fun S σ hM hE vs rv Q hQ pins s us I r => by
  obtain ⟨x, xs, rfl, r1, r2⟩ := rv
  exact (pgs_cons (X := X) wg wgs hs).run pins s σ S.H (x :: xs) us Q I r ⟨x, xs, rfl, h S σ hM hE x r1 _ fun Γ1 σ1 h1 hE1 => fun pins s us I r => h1 S σ1 hM hE1 xs r2 Q hQ pins s us I r⟩
theorem gg_tup {es : List Expr} {j n : Nat} {ds : List D} {k : En → Prop} (hc : X.calm = true) (h : GGs X Γ M es ds k) (hl : ds.length = n) (hn : (assignEach es X.env).length = n := by rfl) (hst : (assignEach es X.env).findIdx? (·.1) = none := by rfl) :
    GG X Γ M (.Tuple es j pos) (.tup ds) k := fun S σ hM hE v rv Q hQ pins s u I r => by
  obtain ⟨a, xs, rfl, e, r1⟩ := rv
  exact (pg_tup (t := WGs X es) hc wgs hn hst).run pins s σ S.H (.ref a) u Q I r ⟨a, xs, rfl, ex_t hM.zh e, by rw [r1.len]; exact hl, fun pins s us I r => h S σ hM hE xs r1 Q hQ pins s us I r⟩
/-- the value is brought to stand first -/
theorem gg_hdl {t : Expr} {k : En → Prop} {d' : D} (h : GG X Γ M t d' k) (e : d = d') : GG X Γ M t d k := by rw [e]; exact h
theorem gs_asg {tg e : Expr} {E : ED} (h : GE X Γ M e (fun d M1 => GG X Γ M1 tg d fun Γ1 => E.nx Γ1 M1) (fun c f M1 => E.ex c f Γ M1)) (hs : swapsWithSole [tg] e pos.line X.env = pure false := by rfl) (hw : swappedStores [tg] e X.env = pure none := by rfl)
    (h1 : (assignEach [tg] X.env).map (·.2) = [assign tg X.env] := by rfl) : GS X Γ M (.Assign [tg] e pos) E := fun S σ hM hE W tk De L =>
  of_ps (ps_asg we wg hs hw h1) (h S σ hM hE W tk (L.kw hE) _ fun d M1 S1 v hk hM1 g1 r1 => hk S1 σ hM1 (hE.grow g1) v r1 _ fun Γ' σ' q hE' => L.nx _ M1 S1 _ q hM1 g1 hE')
theorem gs_par (i j : Nat) {x y : Str} {a b : Expr} {px py pt : Pos} {kt k2 : Nat} {pt2 : Pos} {E : ED} (hc : X.calm = true) (h : GA X Γ M [a, b] (fun ds M1 => ∃ v w, ds = [v, w] ∧ E.nx ((Γ.set i (some v)).set j (some w)) M1) (fun c f M1 => E.ex c f Γ M1))
    (hN : X.N.Nodup) (hi : X.N[i]? = some x := by rfl) (hj : X.N[j]? = some y := by rfl) (hij : i ≠ j := by decide) (hx : X.env.scope.names.lookup x = some .local := by rfl) (hy : X.env.scope.names.lookup y = some .local := by rfl)
    (hw : swappedStores [.Tuple [.Name x px, .Name y py] kt pt] (.Tuple [a, b] k2 pt2) X.env = pure (some [x, y]) := by rfl)
    (hs : swapsWithSole [.Tuple [.Name x px, .Name y py] kt pt] (.Tuple [a, b] k2 pt2) pos.line X.env = pure false := by rfl) : GS X Γ M (.Assign [.Tuple [.Name x px, .Name y py] kt pt] (.Tuple [a, b] k2 pt2) pos) E := fun S σ hM hE W tk De L =>
  of_ps (ps_par hc hN hi hj hij hx hy wa hw hs) (h S σ hM hE W tk (L.kw hE) _ fun ds M1 S1 vs ⟨v, w, e, hk⟩ hM1 g1 r1 => by
    subst e
    obtain ⟨p, q, rfl, r2, r3⟩ := rep2 r1
    exact ⟨p, q, rfl, L.nx _ M1 S1 _ hk hM1 g1 (((hE.grow g1).set r2).set r3)⟩)
end

/-! ### what is walked -/
def DWalk (K : PySem.W.Frag) (J : It) (n : Nat) (it : Nat → D → Prop) (G : Ms → Prop) (S1 : Sg) : Prop :=
  (∀ i S M, i < n → Grow S1 S → OkM K S M → G M → J.go i S.H) ∧ (∀ S M, Grow S1 S → OkM K S M → G M → J.stop n S.H) ∧
  ∀ i S M x H', i < n → Grow S1 S → OkM K S M → G M → J.yld i S.H x H' → ∃ S' d, S'.H = H' ∧ OkM K S' M ∧ Grow S S' ∧ it i d ∧ Rep K S' d x
abbrev KI := Nat → (Nat → D → Prop) → (Ms → Prop) → Ms → Prop
def WI (X : Cx) (tg iter : Expr) : TI := fun σ H R => ∀ (pins : List (Addr × Obj)) (s : Shared), Inv X pins σ H s → wpAny (model X.prog X.w) X.A (eval iter X.env) (fun v s1 => wpAny (model X.prog X.w) X.A (pyIter v) (PIE X pins σ tg R) X.xe s1) X.xe s
theorem wi {X : Cx} {tg iter : Expr} : PI X tg iter (WI X tg iter) := ⟨fun pins s _ _ _ I h => h pins s I⟩
def GI (X : Cx) (Γ : En) (M : Ms) (tg iter : Expr) (k : KI) (kx : KX) : Prop := ∀ S σ, OkM X.K S M → EnvOk X.K S σ Γ → ∀ W, Takes X W → KW X.K S kx W σ → ∀ R : It → Hp → Prop,
  (∀ n it G M1 S1 J, k n it G M1 → OkM X.K S1 M1 → Grow S S1 → DWalk X.K J n it G S1 → R J S1.H) → WI X tg iter σ S.H R
section
variable {X : Cx} {Γ : En} {M : Ms} {tg e : Expr} {k : KI} {kx : KX} {pos p : Pos}
theorem gi_lst (h : GE X Γ M e (fun d M1 => ∃ ds, d = .lst ds ∧ k ds.length (fun i x => ds[i]? = some x) (fun _ => True) M1) kx) : GI X Γ M tg e k kx := fun S σ hM hE W tk hW R hR pins s I =>
  (pi_list (tg := tg) (we (X := X) (e := e))).run pins s σ S.H R I (h S σ hM hE W tk hW _ fun d M1 S1 v ⟨ds, e, hk⟩ hM1 g1 r1 => by
    subst e
    obtain ⟨a, xs, rfl, hz, r⟩ := r1
    have l := r.len
    refine ⟨a, rfl, ⟨xs, SqL.of (hM1.zh _ _ hz)⟩, hR _ _ _ M1 S1 _ hk hM1 g1 ⟨fun i S2 M2 hi g2 hM2 _ => ?_, fun S2 M2 g2 hM2 _ => ?_, fun i S2 M2 x H' hi g2 hM2 _ y => ?_⟩⟩
    · have h2 : S2.H a = some (.lst xs) := hM2.zh _ _ (g2.zz _ _ hz)
      exact ⟨xs, xs[i]'(by omega), SqL.of h2, by simp [show i < xs.length by omega]⟩
    · have h2 : S2.H a = some (.lst xs) := hM2.zh _ _ (g2.zz _ _ hz)
      exact ⟨xs, SqL.of h2, by omega⟩
    · have h2 : S2.H a = some (.lst xs) := hM2.zh _ _ (g2.zz _ _ hz)
      obtain ⟨d, e1, e2⟩ := r.get' (y.2 xs (SqL.of h2))
      exact ⟨S2, d, y.1.symm, hM2, Grow.refl _, e1, e2.grow g2⟩)
theorem gi_seq (h : GE X Γ M e (fun d M1 => ∃ ds, d = .seq ds ∧ k ds.length (fun i x => ds[i]? = some x) (fun _ => True) M1) kx) : GI X Γ M tg e k kx := fun S σ hM hE W tk hW R hR pins s I =>
  (pi_list (tg := tg) (we (X := X) (e := e))).run pins s σ S.H R I (h S σ hM hE W tk hW _ fun d M1 S1 v ⟨ds, e, hk⟩ hM1 g1 r1 => by
    subst e
    obtain ⟨a, xs, rfl, hz, r⟩ := r1
    have l := r.len
    refine ⟨a, rfl, ⟨xs, ex_l hM1.zh hz⟩, hR _ _ _ M1 S1 _ hk hM1 g1 ⟨fun i S2 M2 hi g2 hM2 _ => ?_, fun S2 M2 g2 hM2 _ => ?_, fun i S2 M2 x H' hi g2 hM2 _ y => ?_⟩⟩
    · exact ⟨xs, xs[i]'(by omega), ex_l hM2.zh (ex_l g2.zz hz), by simp [show i < xs.length by omega]⟩
    · exact ⟨xs, ex_l hM2.zh (ex_l g2.zz hz), by omega⟩
    · obtain ⟨d, e1, e2⟩ := r.get' (y.2 xs (ex_l hM2.zh (ex_l g2.zz hz)))
      exact ⟨S2, d, y.1.symm, hM2, Grow.refl _, e1, e2.grow g2⟩)
theorem gi_tup (h : GE X Γ M e (fun d M1 => ∃ ds, d = .tup ds ∧ k ds.length (fun i x => ds[i]? = some x) (fun _ => True) M1) kx) : GI X Γ M tg e k kx := fun S σ hM hE W tk hW R hR pins s I =>
  (pi_tup (tg := tg) (we (X := X) (e := e))).run pins s σ S.H R I (h S σ hM hE W tk hW _ fun d M1 S1 v ⟨ds, e, hk⟩ hM1 g1 r1 => by
    subst e
    obtain ⟨a, xs, rfl, hz, r⟩ := r1
    have l := r.len
    refine ⟨a, rfl, ⟨xs, ex_t hM1.zh hz⟩, hR _ _ _ M1 S1 _ hk hM1 g1 ⟨fun i S2 M2 hi g2 hM2 _ => ?_, fun S2 M2 g2 hM2 _ => ?_, fun i S2 M2 x H' hi g2 hM2 _ y => ?_⟩⟩
    · exact ⟨xs, xs[i]'(by omega), ex_t hM2.zh (ex_t g2.zz hz), by simp [show i < xs.length by omega]⟩
    · exact ⟨xs, ex_t hM2.zh (ex_t g2.zz hz), by omega⟩
    · obtain ⟨d, e1, e2⟩ := r.get' (y.2 xs (ex_t hM2.zh (ex_t g2.zz hz)))
      exact ⟨S2, d, y.1.symm, hM2, Grow.refl _, e1, e2.grow g2⟩)
/-- a list that may change, and does not while it is walked -/
theorem gi_hdl (h : GE X Γ M e (fun d M1 => ∃ (j : Nat) (a : Addr) (ds : List D), d = .hdl a ∧ M1[j]? = some (a, MO.lst ds) ∧ k ds.length (fun i x => ds[i]? = some x) (fun M => ∃ j : Nat, M[j]? = some (a, .lst ds)) M1) kx) : GI X Γ M tg e k kx := fun S σ hM hE W tk hW R hR pins s I =>
  (pi_list (tg := tg) (we (X := X) (e := e))).run pins s σ S.H R I (h S σ hM hE W tk hW _ fun d M1 S1 v ⟨j, a, ds, e, hj, hk⟩ hM1 g1 r1 => by
    subst e
    cases r1
    obtain ⟨_, xs0, h0, r0⟩ := hM1.at hj
    have at2 : ∀ S2 M2, Grow S1 S2 → OkM X.K S2 M2 → (∃ j : Nat, M2[j]? = some (a, .lst ds)) → ∃ xs, S2.H a = some (.lst xs) ∧ RepL X.K S2 ds xs := fun S2 M2 g2 hM2 ⟨j2, hj2⟩ => by
      obtain ⟨_, xs, h, r⟩ := hM2.at hj2
      exact ⟨xs, h, r⟩
    refine ⟨a, rfl, ⟨xs0, SqL.of h0⟩, hR _ _ _ M1 S1 _ hk hM1 g1 ⟨fun i S2 M2 hi g2 hM2 hj2 => ?_, fun S2 M2 g2 hM2 hj2 => ?_, fun i S2 M2 x H' hi g2 hM2 hj2 y => ?_⟩⟩
    · obtain ⟨xs, h2, r⟩ := at2 S2 M2 g2 hM2 hj2
      have l := r.len
      exact ⟨xs, xs[i]'(by omega), SqL.of h2, by simp [show i < xs.length by omega]⟩
    · obtain ⟨xs, h2, r⟩ := at2 S2 M2 g2 hM2 hj2
      have l := r.len
      exact ⟨xs, SqL.of h2, by omega⟩
    · obtain ⟨xs, h2, r⟩ := at2 S2 M2 g2 hM2 hj2
      obtain ⟨d, e1, e2⟩ := r.get' (y.2 xs (SqL.of h2))
      exact ⟨S2, d, y.1.symm, hM2, Grow.refl _, e1, e2⟩)
theorem walk_rng {K : PySem.W.Frag} {lo : Int} {n : Nat} {S1 : Sg} : DWalk K (Itr lo n) n (fun i d => d = .int (lo + i)) (fun _ => True) S1 :=
  ⟨fun i S M hi _ _ _ => hi, fun S M _ _ _ => Nat.le_refl _, fun i S M x H' hi g hM _ y => ⟨S, .int (lo + i), y.1.symm, hM, Grow.refl _, rfl, y.2⟩⟩
theorem gi_range1 {a : Expr} (hm : X.mg "range" = none) (h : GA X Γ M [a] (fun ds M1 => ∃ j : Int, ds = [.int j] ∧ j < 4611686018427387904 ∧ -4611686018427387904 ≤ j ∧ k j.toNat (fun i d => d = .int (0 + i)) (fun _ => True) M1) kx) (hg : Gl X "range" := by rfl) (hs : starEach [a] X.env = [(false, eval a X.env)] := by rfl) :
    GI X Γ M tg (.Call (.Name "range" p) [a] [] pos) k kx := fun S σ hM hE W tk hW R hR pins s I =>
  (pi_range1 (tg := tg) hg hm wa hs).run pins s σ S.H R I (h S σ hM hE W tk hW _ fun ds M1 S1 vs ⟨j, e, h1, h2, hk⟩ hM1 g1 r1 => by
    subst e
    obtain ⟨v, rfl, r⟩ := rep1 r1
    cases r
    exact ⟨j, rfl, by omega, by omega, hR _ _ _ M1 S1 _ hk hM1 g1 walk_rng⟩)
theorem gi_range2 {a b : Expr} (hm : X.mg "range" = none) (h : GA X Γ M [a, b] (fun ds M1 => ∃ i j : Int, ds = [.int i, .int j] ∧ (-4611686018427387904 ≤ i ∧ i < 4611686018427387904 ∧ -4611686018427387904 ≤ j ∧ j < 4611686018427387904) ∧ k (j - i).toNat (fun t d => d = .int (i + t)) (fun _ => True) M1) kx) (hg : Gl X "range" := by rfl)
    (hs : starEach [a, b] X.env = [(false, eval a X.env), (false, eval b X.env)] := by rfl) (hs2 : starEach [b] X.env = [(false, eval b X.env)] := by rfl) : GI X Γ M tg (.Call (.Name "range" p) [a, b] [] pos) k kx := fun S σ hM hE W tk hW R hR pins s I =>
  (pi_range2 (tg := tg) hg hm wa hs hs2).run pins s σ S.H R I (h S σ hM hE W tk hW _ fun ds M1 S1 vs ⟨i, j, e, h1, hk⟩ hM1 g1 r1 => by
    subst e
    obtain ⟨v, w, rfl, r, r'⟩ := rep2 r1
    cases r; cases r'
    exact ⟨i, j, rfl, ⟨by omega, by omega, by omega, by omega⟩, hR _ _ _ M1 S1 _ hk hM1 g1 walk_rng⟩)
theorem gi_str (h : GE X Γ M e (fun d M1 => ∃ s, d = .str s ∧ k s.cps.size (fun i x => ∃ c, s.cps[i]? = some c ∧ x = .str ⟨#[c]⟩) (fun _ => True) M1) kx) : GI X Γ M tg e k kx := fun S σ hM hE W tk hW R hR pins s I =>
  (pi_str (tg := tg) (we (X := X) (e := e))).run pins s σ S.H R I (h S σ hM hE W tk hW _ fun d M1 S1 v ⟨z, e, hk⟩ hM1 g1 r1 => by
    subst e
    cases r1
    refine ⟨z, rfl, hR _ _ _ M1 S1 _ hk hM1 g1 ⟨fun i S2 M2 hi _ _ _ => hi, fun S2 M2 _ _ _ => Nat.le_refl _, fun i S2 M2 x H' hi g2 hM2 _ y => ?_⟩⟩
    obtain ⟨rfl, c, hc, rfl⟩ := y
    exact ⟨S2, .str ⟨#[c]⟩, rfl, hM2, Grow.refl _, ⟨c, hc, rfl⟩, rfl⟩)
theorem new_pair {K : PySem.W.Frag} {S : Sg} {M : Ms} {T : Addr} {x y : V} {d d' : D} (hM : OkM K S M) (hT : S.H T = none) (r : Rep K S d x) (r' : Rep K S d' y) :
    ∃ S', S'.H = upd S.H T (.tup [x, y]) ∧ OkM K S' M ∧ Grow S S' ∧ Rep K S' (.tup [d, d']) (.ref T) := by
  obtain ⟨hM2, g2⟩ := new_z (o := .tup [x, y]) hM hT
  exact ⟨⟨S.as, upd S.Z T (.tup [x, y]), upd S.H T (.tup [x, y])⟩, rfl, hM2, g2, T, [x, y], rfl, SqT.of upd_same, (RepL.cons r (.one r')).grow g2⟩
theorem gi_enum {es : List Expr} {j : Nat} {tpos : Pos} (hm : X.mg "enumerate" = none) (h : GA X Γ M [e] (fun ds M1 => ∃ xs, ds = [.lst xs] ∧ k xs.length (fun i x => ∃ d, xs[i]? = some d ∧ x = .tup [.int (i : Nat), d]) (fun _ => True) M1) kx) (hg : Gl X "enumerate" := by rfl) (hs : starEach [e] X.env = [(false, eval e X.env)] := by rfl) :
    GI X Γ M (.Tuple es j tpos) (.Call (.Name "enumerate" p) [e] [] pos) k kx := fun S σ hM hE W tk hW R hR pins s I =>
  (pi_enum (elts := es) (kk := j) (tpos := tpos) hg hm wa hs).run pins s σ S.H R I (h S σ hM hE W tk hW _ fun ds M1 S1 vs ⟨ds', e, hk⟩ hM1 g1 r1 => by
    subst e
    obtain ⟨v, rfl, a, xs, rfl, hz, r⟩ := rep1 r1
    have l := r.len
    refine ⟨a, xs, rfl, SqL.of (hM1.zh _ _ hz), hR _ _ _ M1 S1 _ hk hM1 g1 ⟨fun i S2 M2 hi g2 hM2 _ => ?_, fun S2 M2 g2 hM2 _ => ?_, fun i S2 M2 x H' hi g2 hM2 _ y => ?_⟩⟩
    · exact ⟨xs, xs[i]'(by omega), SqL.of (hM2.zh _ _ (g2.zz _ _ hz)), by simp [show i < xs.length by omega]⟩
    · exact ⟨xs, SqL.of (hM2.zh _ _ (g2.zz _ _ hz)), by omega⟩
    · obtain ⟨T, z, rfl, hT, rfl, hx⟩ := y
      obtain ⟨d, e1, e2⟩ := r.get' (hx xs (SqL.of (hM2.zh _ _ (g2.zz _ _ hz))))
      obtain ⟨S', q1, q2, q3, q4⟩ := new_pair (d := .int (i : Nat)) (d' := d) hM2 hT rfl (e2.grow g2)
      exact ⟨S', _, q1, q2, q3, ⟨d, e1, rfl⟩, q4⟩)
theorem gi_zipT {a b : Expr} {es : List Expr} {j : Nat} {tpos : Pos} (hm : X.mg "zip" = none) (h : GA X Γ M [a, b] (fun ds M1 => ∃ xs ys, ds = [.tup xs, .tup ys] ∧ k (min xs.length ys.length) (fun i x => ∃ d d', xs[i]? = some d ∧ ys[i]? = some d' ∧ x = .tup [d, d']) (fun _ => True) M1) kx) (hg : Gl X "zip" := by rfl)
    (hs : starEach [a, b] X.env = (false, eval a X.env) :: starEach [b] X.env := by rfl) (hpl : (backTo pos (starEach [b] X.env)).any (·.1) = false := by rfl) : GI X Γ M (.Tuple es j tpos) (.Call (.Name "zip" p) [a, b] [] pos) k kx := fun S σ hM hE W tk hW R hR pins s I =>
  (RZ.pi_zipA (elts := es) (kk := j) (tpos := tpos) hg hm wa hs hpl).run pins s σ S.H R I (h S σ hM hE W tk hW _ fun ds M1 S1 vs ⟨ds1, ds2, e, hk⟩ hM1 g1 r1 => by
    subst e
    obtain ⟨v, w, rfl, ⟨p1, xs, rfl, hz, r⟩, p2, ys, rfl, hz2, r2⟩ := rep2 r1
    have l := r.len
    have l2 := r2.len
    have t1 : ∀ S2 M2, Grow S1 S2 → OkM X.K S2 M2 → SqT X.K S2.H p1 xs ∧ SqT X.K S2.H p2 ys := fun S2 M2 g2 hM2 => ⟨ex_t hM2.zh (ex_t g2.zz hz), ex_t hM2.zh (ex_t g2.zz hz2)⟩
    refine ⟨p1, p2, xs, ys, rfl, .inr ⟨ex_t hM1.zh hz, ex_t hM1.zh hz2, hR _ _ _ M1 S1 _ hk hM1 g1 ⟨fun i S2 M2 hi g2 hM2 _ => ?_, fun S2 M2 g2 hM2 _ => ?_, fun i S2 M2 x H' hi g2 hM2 _ y => ?_⟩⟩⟩
    · obtain ⟨q1, q2⟩ := t1 S2 M2 g2 hM2
      exact ⟨xs, ys, xs[i]'(by omega), ys[i]'(by omega), q1, q2, by simp [show i < xs.length by omega], by simp [show i < ys.length by omega]⟩
    · obtain ⟨q1, q2⟩ := t1 S2 M2 g2 hM2
      exact ⟨xs, ys, q1, q2, by omega⟩
    · obtain ⟨q1, q2⟩ := t1 S2 M2 g2 hM2
      obtain ⟨T, u, w, rfl, hT, rfl, hx, hy⟩ := y
      obtain ⟨d, e1, e2⟩ := r.get' (hx xs q1)
      obtain ⟨d', e3, e4⟩ := r2.get' (hy ys q2)
      obtain ⟨S', a1, a2, a3, a4⟩ := new_pair hM2 hT (e2.grow g2) (e4.grow g2)
      exact ⟨S', _, a1, a2, a3, ⟨d, d', e1, e3, rfl⟩, a4⟩)
theorem gi_zipL {a b : Expr} {es : List Expr} {j : Nat} {tpos : Pos} (hm : X.mg "zip" = none) (h : GA X Γ M [a, b] (fun ds M1 => ∃ xs ys, ds = [.lst xs, .lst ys] ∧ k (min xs.length ys.length) (fun i x => ∃ d d', xs[i]? = some d ∧ ys[i]? = some d' ∧ x = .tup [d, d']) (fun _ => True) M1) kx) (hg : Gl X "zip" := by rfl)
    (hs : starEach [a, b] X.env = (false, eval a X.env) :: starEach [b] X.env := by rfl) (hpl : (backTo pos (starEach [b] X.env)).any (·.1) = false := by rfl) : GI X Γ M (.Tuple es j tpos) (.Call (.Name "zip" p) [a, b] [] pos) k kx := fun S σ hM hE W tk hW R hR pins s I =>
  (RZ.pi_zipA (elts := es) (kk := j) (tpos := tpos) hg hm wa hs hpl).run pins s σ S.H R I (h S σ hM hE W tk hW _ fun ds M1 S1 vs ⟨ds1, ds2, e, hk⟩ hM1 g1 r1 => by
    subst e
    obtain ⟨v, w, rfl, ⟨p1, xs, rfl, hz, r⟩, p2, ys, rfl, hz2, r2⟩ := rep2 r1
    have l := r.len
    have l2 := r2.len
    have t1 : ∀ S2 M2, Grow S1 S2 → OkM X.K S2 M2 → SqL X.K S2.H p1 xs ∧ SqL X.K S2.H p2 ys := fun S2 M2 g2 hM2 => ⟨SqL.of (hM2.zh _ _ (g2.zz _ _ hz)), SqL.of (hM2.zh _ _ (g2.zz _ _ hz2))⟩
    refine ⟨p1, p2, xs, ys, rfl, .inl ⟨(t1 S1 M1 (Grow.refl _) hM1).1, (t1 S1 M1 (Grow.refl _) hM1).2, hR _ _ _ M1 S1 _ hk hM1 g1 ⟨fun i S2 M2 hi g2 hM2 _ => ?_, fun S2 M2 g2 hM2 _ => ?_, fun i S2 M2 x H' hi g2 hM2 _ y => ?_⟩⟩⟩
    · obtain ⟨q1, q2⟩ := t1 S2 M2 g2 hM2
      exact ⟨xs, ys, xs[i]'(by omega), ys[i]'(by omega), q1, q2, by simp [show i < xs.length by omega], by simp [show i < ys.length by omega]⟩
    · obtain ⟨q1, q2⟩ := t1 S2 M2 g2 hM2
      exact ⟨xs, ys, q1, q2, by omega⟩
    · obtain ⟨q1, q2⟩ := t1 S2 M2 g2 hM2
      obtain ⟨T, u, w, rfl, hT, rfl, hx, hy⟩ := y
      obtain ⟨d, e1, e2⟩ := r.get' (hx xs q1)
      obtain ⟨d', e3, e4⟩ := r2.get' (hy ys q2)
      obtain ⟨S', a1, a2, a3, a4⟩ := new_pair hM2 hT (e2.grow g2) (e4.grow g2)
      exact ⟨S', _, a1, a2, a3, ⟨d, d', e1, e3, rfl⟩, a4⟩)
/-- for .. -/
theorem gs_for {iter : Expr} {body : List Stmt} {E : ED} (hp : PassesOwn (model X.prog X.w) X.A X.env X.xe) (hc : X.calm = true)
    (h : GI X Γ M tg iter (fun n it G M1 => ∃ P : Nat → En → Ms → Prop, P 0 Γ M1 ∧ (∀ i Γ2 M2, i ≤ n → P i Γ2 M2 → G M2) ∧
      (∀ i d Γ2 M2, i < n → it i d → P i Γ2 M2 → GG X Γ2 M2 tg d fun Γ3 => GB X Γ3 M2 body { E with nx := P (i + 1), ct := P (i + 1), bk := E.nx }) ∧ (∀ Γ2 M2, P n Γ2 M2 → E.nx Γ2 M2)) (fun c f M1 => E.ex c f Γ M1))
    (hs : ∀ x, foldedSetIterable iter X.env x = pure x := by intro _; rfl) : GS X Γ M (.For tg iter body [] pos) E := fun S σ hM hE W tk De L =>
  of_ps (ps_for hp hc wi wg wb hs) (h S σ hM hE W tk (L.kw hE) _ fun n it G M1 S1 J ⟨P, p0, pG, pt, pd⟩ hM1 g1 wk => by
    have wk' : Walk J n (fun H => ∃ S M, S.H = H ∧ Grow S1 S ∧ OkM X.K S M ∧ G M) (fun i H x H' => ∀ S M, S.H = H → Grow S1 S → OkM X.K S M → G M → ∃ S' d, S'.H = H' ∧ OkM X.K S' M ∧ Grow S S' ∧ it i d ∧ Rep X.K S' d x) := by
      obtain ⟨w1, w2, w3⟩ := wk
      refine ⟨fun i H hi ⟨S2, M2, e, g2, hM2, hG⟩ => ?_, fun H ⟨S2, M2, e, g2, hM2, hG⟩ => ?_, fun i H x H' hi _ y S2 M2 e g2 hM2 hG => ?_⟩
      · rw [← e]; exact w1 i S2 M2 hi g2 hM2 hG
      · rw [← e]; exact w2 S2 M2 g2 hM2 hG
      · rw [← e] at y; exact w3 i S2 M2 x H' hi g2 hM2 hG y
    refine for_it wk' (fun i σ2 H2 => ∃ S2 Γ2 M2, S2.H = H2 ∧ Grow S1 S2 ∧ OkM X.K S2 M2 ∧ EnvOk X.K S2 σ2 Γ2 ∧ P i Γ2 M2) ⟨S1, Γ, M1, rfl, Grow.refl _, hM1, hE.grow g1, p0⟩ (fun i σ2 H2 hi ⟨S2, Γ2, M2, e, g2, hM2, hE2, hP⟩ => ⟨S2, M2, e, g2, hM2, pG i Γ2 M2 hi hP⟩) ?_ ?_
    · intro i x σ2 H2 H' hi ⟨S2, Γ2, M2, e, g2, hM2, hE2, hP⟩ y
      obtain ⟨S3, d, e3, hM3, g3, hit, r3⟩ := y S2 M2 e g2 hM2 (pG i Γ2 M2 (Nat.le_of_lt hi) hP)
      rw [← e3]
      refine pt i d Γ2 M2 hi hit hP S3 σ2 hM3 (hE2.grow g3) x r3 _ fun Γ4 σ4 hb hE4 => ?_
      have hN : KN X.K S3 (P (i + 1)) (fun σ2 H2 => ∃ S2 Γ2 M2, S2.H = H2 ∧ Grow S1 S2 ∧ OkM X.K S2 M2 ∧ EnvOk X.K S2 σ2 Γ2 ∧ P (i + 1) Γ2 M2) :=
        fun Γ5 M5 S5 σ5 h5 hM5 g5 hE5 => ⟨S5, Γ5, M5, rfl, (g2.trans g3).trans g5, hM5, hE5, h5⟩
      have L3 := L.grow ((g1.trans g2).trans g3)
      exact hb S3 σ4 hM3 hE4 W tk _ ⟨hN, L3.rt, L3.nx, hN, L3.ex⟩
    · rintro σ2 H2 ⟨S2, Γ2, M2, rfl, g2, hM2, hE2, hP⟩
      exact L.nx Γ2 M2 S2 σ2 (pd Γ2 M2 hP) hM2 (g1.trans g2) hE2)
end

/-! ### comprehensions -/
def wipeG (Γ : En) : List Nat → En
  | [] => Γ
  | v :: vs => (wipeG Γ vs).set v none
theorem EnvOk.wipe {K : PySem.W.Frag} {S : Sg} {σ : L2.St} {Γ : En} (h : EnvOk K S σ Γ) : ∀ vs : List Nat, EnvOk K S (wipe σ vs) (wipeG Γ vs)
  | [] => h
  | v :: vs => by
    have ih := EnvOk.wipe h vs
    refine ⟨by simp only [L2.wipe, wipeG, List.length_set]; exact ih.1, fun i d e => ?_⟩
    unfold wipeG at e
    by_cases hi : v = i
    · subst hi
      by_cases hv : v < (wipeG Γ vs).length
      · rw [List.getElem?_set_self hv] at e; cases e
      · rw [List.getElem?_eq_none (by simpa using hv)] at e; cases e
    · rw [List.getElem?_set_ne hi] at e
      obtain ⟨x, h1, h2⟩ := ih.2 i d e
      exact ⟨x, by unfold L2.wipe; rw [List.getElem?_set_ne hi]; exact h1, h2⟩
def WTs (X : Cx) (ifs : List Expr) : TT := fun σ H Q => ∀ (pins : List (Addr × Obj)) (s : Shared), Inv X pins σ H s →
    wpAny (model X.prog X.w) X.A (forIn ifs true fun c r => if r = true then do let ok ← isTrue c X.env (eval c X.env); pure (ForInStep.yield ok) else pure (ForInStep.yield r)) (TP X pins σ Q) X.xe s
/-- the tests of a comprehension: none, or one -/
def GTs (X : Cx) (Γ : En) (M : Ms) (ifs : List Expr) (k : KB) : Prop := ∀ S σ, OkM X.K S M → EnvOk X.K S σ Γ → ∀ Q, KT X.K S k Q → WTs X ifs σ S.H Q
theorem gts_nil {X : Cx} {Γ : En} {M : Ms} {k : KB} (h : k true M) : GTs X Γ M [] k := fun S σ hM hE Q hQ pins s I => pts_nil.run pins s σ S.H Q I (hQ true M S h hM (Grow.refl _))
theorem gts_one {X : Cx} {Γ : En} {M : Ms} {c : Expr} {k : KB} (h : GT X Γ M c k fun _ _ _ => False) : GTs X Γ M [c] k := fun S σ hM hE Q hQ pins s I =>
  (pts_one (wt (X := X) (e := c))).run pins s σ S.H Q I (h S σ hM hE (fun _ _ _ _ => False) takes0 (fun _ _ _ _ _ z => z.elim) Q hQ)
/-- an object that is known but neither stands nor is held by a handle -/
theorem frz_f {K : PySem.W.Frag} {S : Sg} {M : Ms} {a : Addr} {o : HO} (h : OkM K S M) (hz : S.Z a = none) (ho : S.H a = some o) (hn : a ∉ S.as) : OkM K ⟨S.as, upd S.Z a o, S.H⟩ M ∧ (∀ S0, Grow S0 S → S0.H a = none → Grow S0 ⟨S.as, upd S.Z a o, S.H⟩) ∧ ∀ d v, Rep K S d v → Rep K ⟨S.as, upd S.Z a o, S.H⟩ d v := by
  have mono := sg_mono (K := K) (S := S) (S' := ⟨S.as, upd S.Z a o, S.H⟩) (ex_new hz)
  refine ⟨⟨h.len, h.nd, fun b u e => ?_, fun p hp => ?_, h.dom⟩, fun S0 g n0 => ?_, mono.1⟩
  · by_cases q : b = a
    · subst q
      have e' : upd S.Z b o b = some u := e
      rw [upd_same] at e'; cases e'; exact ho
    · have e' : upd S.Z a o b = some u := e
      rw [upd_ne q] at e'; exact h.zh b u e'
  · have hb : p.1 ≠ a := fun z => hn (by rw [← z]; exact h.in hp)
    exact (h.mo p hp).keep (S' := ⟨S.as, upd S.Z a o, S.H⟩) (ex_new hz) (fun e => by show upd S.Z a o p.1 = none; rw [upd_ne hb]; exact e) (fun _ e => e)
  · refine ⟨g.pre, g.zz.trans (ex_new hz), g.keep, g.dom, fun q h1 h2 h3 => ?_⟩
    have : q ≠ a := fun c => h1 (by rw [c]; exact n0)
    show upd S.Z a o q = none
    rw [upd_ne this]; exact g.sep q h1 h2 h3
/-- .. is changed -/
theorem upd_f {K : PySem.W.Frag} {S : Sg} {M : Ms} {a : Addr} {o : HO} (h : OkM K S M) (hz : S.Z a = none) (hn : a ∉ S.as) : OkM K ⟨S.as, S.Z, upd S.H a o⟩ M ∧ (∀ S0, Grow S0 S → S0.H a = none → Grow S0 ⟨S.as, S.Z, upd S.H a o⟩) ∧ (∀ d v, Rep K S d v → Rep K ⟨S.as, S.Z, upd S.H a o⟩ d v) ∧ ∀ ds v, RepL K S ds v → RepL K ⟨S.as, S.Z, upd S.H a o⟩ ds v := by
  have mono := sg_mono (K := K) (S := S) (S' := ⟨S.as, S.Z, upd S.H a o⟩) (Ex.refl _)
  have dm : ∀ q, S.H q ≠ none → upd S.H a o q ≠ none := fun q e => by
    by_cases z : q = a
    · rw [z, upd_same]; simp
    · rw [upd_ne z]; exact e
  refine ⟨⟨h.len, h.nd, fun b u e => ?_, fun p hp => ?_, fun b mb => dm b (h.dom b mb)⟩, fun S0 g n0 => ?_, mono⟩
  · have : b ≠ a := fun z => by rw [z, hz] at e; cases e
    show upd S.H a o b = some u
    rw [upd_ne this]; exact h.zh b u e
  · have hb : p.1 ≠ a := fun z => hn (by rw [← z]; exact h.in hp)
    exact (h.mo p hp).keep (S' := ⟨S.as, S.Z, upd S.H a o⟩) (Ex.refl _) (fun e => e) (fun u e => by show upd S.H a o p.1 = some u; rw [upd_ne hb]; exact e)
  · refine ⟨g.pre, g.zz, fun q u e n => ?_, fun q e => dm q (g.dom q e), g.sep⟩
    have : q ≠ a := fun c => by rw [c, n0] at e; cases e
    show upd S.H a o q = some u
    rw [upd_ne this]; exact g.keep q u e n
section
variable {X : Cx} {Γ : En} {M : Ms} {tg elt iter : Expr} {ifs : List Expr} {scope : Scope} {own : List (Str × Nat)} {k : KD} {kx : KX} {pos p : Pos}
theorem wipe_get : ∀ {σ : L2.St} {vs : List Nat} {j : Nat}, (wipe σ vs)[j]? = if j ∈ vs ∧ j < σ.length then some none else σ[j]?
  | σ, [], j => by simp [wipe]
  | σ, v :: vs, j => by
    have ih := wipe_get (σ := σ) (vs := vs) (j := j)
    unfold L2.wipe
    by_cases q : v = j
    · subst q
      by_cases hl : v < σ.length
      · rw [List.getElem?_set_self (by rw [wipe_length]; exact hl)]
        simp [hl]
      · rw [List.getElem?_eq_none (by rw [List.length_set, wipe_length]; omega), List.getElem?_eq_none (by omega)]
        simp [hl]
    · rw [List.getElem?_set_ne q, ih]
      have : j ≠ v := fun c => q c.symm
      simp [this]
theorem wipe_set {σ : L2.St} {vs : List Nat} {i : Nat} {x : Option V} (h : i ∈ vs) : wipe (σ.set i x) vs = wipe σ vs := by
  apply List.ext_getElem?
  intro j
  rw [wipe_get, wipe_get]
  by_cases q : i = j
  · subst q
    by_cases hl : i < σ.length
    · simp [h, hl]
    · simp [hl]
  · rw [List.getElem?_set_ne q]
    simp
/-- the target of a comprehension: own slots alone -/
def CG (X : Cx) (Γ : En) (M : Ms) (tg : Expr) (d : D) (vs : List Nat) (k : En → Prop) : Prop := ∀ S σ, OkM X.K S M → EnvOk X.K S σ Γ → ∀ v, Rep X.K S d v → ∀ Q : L2.St → Hp → Prop, (∀ Γ' σ', k Γ' → EnvOk X.K S σ' Γ' → wipe σ' vs = wipe σ vs → Q σ' S.H) → WG X tg v σ S.H Q
def CGs (X : Cx) (Γ : En) (M : Ms) (ts : List Expr) (ds : List D) (ws : List Nat) (k : En → Prop) : Prop := ∀ S σ, OkM X.K S M → EnvOk X.K S σ Γ → ∀ vs, RepL X.K S ds vs → ∀ Q : L2.St → Hp → Prop, (∀ Γ' σ', k Γ' → EnvOk X.K S σ' Γ' → wipe σ' ws = wipe σ ws → Q σ' S.H) → WGs X ts vs σ S.H Q
theorem cg_name {d : D} {vs : List Nat} {pos : Pos} (i : Nat) {x : Str} {k : En → Prop} (h : k (Γ.set i (some d))) (hN : X.N.Nodup) (hv : i ∈ vs := by first | decide | simp) (hi : X.N[i]? = some x := by rfl) (hx : Loc X.env.scope x := by first | exact Or.inl rfl | exact Or.inr rfl)
    (hf : X.fn x = true ∨ X.env.scope.names.lookup x = some .local := by first | exact .inl rfl | exact .inr rfl) : CG X Γ M (.Name x pos) d vs k := fun S σ hM hE v rv Q hQ pins s u I r =>
  (pg_name hN hi hx hf).run pins s σ S.H v u Q I r (hQ _ _ h (hE.set rv) (wipe_set hv))
theorem cgs_nil {vs : List Nat} {k : En → Prop} (h : k Γ) : CGs X Γ M [] [] vs k := fun S σ hM hE xs rv Q hQ pins s us I r => by
  have e : xs = [] := rv
  subst e
  exact pgs_nil.run pins s σ S.H [] us Q I r ⟨rfl, hQ _ _ h hE rfl⟩
theorem cgs_cons {d : D} {t : Expr} {ts : List Expr} {ds : List D} {vs : List Nat} {k : En → Prop} (h : CG X Γ M t d vs fun Γ1 => CGs X Γ1 M ts ds vs k)
    (hs : (assignEach (t :: ts) X.env).map (·.2) = assign t X.env :: (assignEach ts X.env).map (·.2) := by rfl) : CGs X Γ M (t :: ts) (d :: ds) vs k := fun S σ hM hE xs rv Q hQ pins s us I r => by
  obtain ⟨x, xs, rfl, r1, r2⟩ := rv
  exact (pgs_cons (X := X) wg wgs hs).run pins s σ S.H (x :: xs) us Q I r ⟨x, xs, rfl, h S σ hM hE x r1 _ fun Γ1 σ1 h1 hE1 w1 => h1 S σ1 hM hE1 xs r2 Q fun Γ2 σ2 h2 hE2 w2 => hQ Γ2 σ2 h2 hE2 (w2.trans w1)⟩
theorem cg_tup {es : List Expr} {j n : Nat} {ds : List D} {vs : List Nat} {pos : Pos} {k : En → Prop} (hc : X.calm = true) (h : CGs X Γ M es ds vs k) (hl : ds.length = n) (hn : (assignEach es X.env).length = n := by rfl) (hst : (assignEach es X.env).findIdx? (·.1) = none := by rfl) :
    CG X Γ M (.Tuple es j pos) (.tup ds) vs k := fun S σ hM hE v rv Q hQ pins s u I r => by
  obtain ⟨a, xs, rfl, e, r1⟩ := rv
  exact (pg_tup (t := WGs X es) hc wgs hn hst).run pins s σ S.H (.ref a) u Q I r ⟨a, xs, rfl, ex_t hM.zh e, by rw [r1.len]; exact hl, h S σ hM hE xs r1 Q hQ⟩
theorem cg_eq {d d' : D} {vs : List Nat} {k : En → Prop} (h : CG X Γ M tg d' vs k) (e : d = d') : CG X Γ M tg d vs k := by rw [e]; exact h
/-- in every block of this scope -/
def Blk (X : Cx) (scope : Scope) (p : Cx → Prop) : Prop := ∀ (s : Shared) (H : Hp) (C : Addr) (cl : List (Str × Addr)) (fp : List Addr), p (X.blk s H scope (compEnvC scope cl C X.env) fp)
/-- the turns of a comprehension: P by the turn, the list made so far, the objects -/
def LcOk (X : Cx) (Γ : En) (tg elt : Expr) (ifs : List Expr) (scope : Scope) (vs : List Nat) (k : KD) (n : Nat) (it : Nat → D → Prop) (G : Ms → Prop) (M1 : Ms) : Prop :=
  ∃ P : Nat → List D → Ms → Prop, P 0 [] M1 ∧ (∀ i acc M2, i ≤ n → P i acc M2 → G M2) ∧
    (∀ i d acc M2, i < n → it i d → P i acc M2 → Blk X scope fun Y => CG Y (wipeG Γ vs) M2 tg d vs fun Γ3 =>
      Blk X scope fun Y => GTs Y Γ3 M2 ifs fun b M3 => (b = true → Blk X scope fun Y => GE Y Γ3 M3 elt (fun y M4 => acc.length < 16777216 ∧ P (i + 1) (acc ++ [y]) M4) (fun _ _ _ => False)) ∧ (b = false → P (i + 1) acc M3)) ∧
    (∀ acc M2, P n acc M2 → k (.lst acc) M2)
/-- readings that serve every block -/
def allE (X : Cx) (scope : Scope) (e : Expr) : TE := fun σ H' Q => ∀ (s : Shared) (H : Hp) (C : Addr) (cl : List (Str × Addr)) (fp : List Addr), WE (X.blk s H scope (compEnvC scope cl C X.env) fp) e σ H' Q
def allTs (X : Cx) (scope : Scope) (ifs : List Expr) : TT := fun σ H' Q => ∀ (s : Shared) (H : Hp) (C : Addr) (cl : List (Str × Addr)) (fp : List Addr), WTs (X.blk s H scope (compEnvC scope cl C X.env) fp) ifs σ H' Q
def allG (X : Cx) (scope : Scope) (tg : Expr) : TG := fun v σ H' Q => ∀ (s : Shared) (H : Hp) (C : Addr) (cl : List (Str × Addr)) (fp : List Addr), WG (X.blk s H scope (compEnvC scope cl C X.env) fp) tg v σ H' Q
theorem wts {X : Cx} {ifs : List Expr} : PTs X ifs (WTs X ifs) := ⟨fun pins s _ _ _ I h => h pins s I⟩
theorem lc_run {n : Nat} {it : Nat → D → Prop} {G : Ms → Prop} {M1 : Ms} {S1 : Sg} {J : It} {σ : L2.St} {Q : VK} {Da : Addr} (hl : LcOk X Γ tg elt ifs scope (own.map (·.2)) k n it G M1) (hM1 : OkM X.K S1 M1) (hE : EnvOk X.K S1 σ Γ) (wk : DWalk X.K J n it G S1) (hQ : KV X.K S1 k Q) (hD : S1.H Da = none) :
    ∃ W : Nat → Nat → Hp → Prop, (∃ m, W 0 m (upd S1.H Da (.lst []))) ∧ ∀ i m H, W i m H → (J.stop i H ∧ Q (.ref Da) H) ∨ (J.go i H ∧ ∃ Nx : Hp → Prop, (∀ H', Nx H' → ∃ m', m' < m ∧ W (i + 1) m' H') ∧
      ∀ x H', J.yld i H x H' → allG X scope tg x (wipe σ (own.map (·.2))) H' fun σ2 H2 => wipe σ2 (own.map (·.2)) = wipe σ (own.map (·.2)) ∧ allTs X scope ifs σ2 H2 fun b H3 =>
        if b = true then allE X scope elt σ2 H3 fun y H4 => ∃ acc, H4 Da = some (.lst acc) ∧ acc.length < sizeLine ∧ Nx (upd H4 Da (.lst (acc ++ [y]))) else Nx H3) := by
  obtain ⟨P, p0, pG, pt, pd⟩ := hl
  have hDz : S1.Z Da = none := hM1.zh.none hD
  have hDa : Da ∉ S1.as := fun m => hM1.dom Da m hD
  have wk' : Walk J n (fun H => ∃ S M, S.H = H ∧ Grow S1 S ∧ OkM X.K S M ∧ G M) (fun i H x H' => ∀ S M, S.H = H → Grow S1 S → OkM X.K S M → G M → ∃ S' d, S'.H = H' ∧ OkM X.K S' M ∧ Grow S S' ∧ it i d ∧ Rep X.K S' d x) := by
    obtain ⟨w1, w2, w3⟩ := wk
    refine ⟨fun i H hi ⟨S2, M2, e, g2, hM2, hG⟩ => ?_, fun H ⟨S2, M2, e, g2, hM2, hG⟩ => ?_, fun i H x H' hi _ y S2 M2 e g2 hM2 hG => ?_⟩
    · rw [← e]; exact w1 i S2 M2 hi g2 hM2 hG
    · rw [← e]; exact w2 S2 M2 g2 hM2 hG
    · rw [← e] at y; exact w3 i S2 M2 x H' hi g2 hM2 hG y
  let Pv : Nat → Hp → Prop := fun i H2 => ∃ S2 M2 acc vs, S2.H = H2 ∧ Grow S1 S2 ∧ OkM X.K S2 M2 ∧ S2.Z Da = none ∧ Da ∉ S2.as ∧ S2.H Da = some (.lst vs) ∧ RepL X.K S2 acc vs ∧ P i acc M2
  refine lc_it wk' Pv ?_ (fun i H2 hi ⟨S2, M2, acc, vs, e, g2, hM2, _, _, _, _, hP⟩ => ⟨S2, M2, e, g2, hM2, pG i acc M2 hi hP⟩) ?_ ?_
  · obtain ⟨a1, a2, _⟩ := upd_f (o := .lst []) hM1 hDz hDa
    exact ⟨⟨S1.as, S1.Z, upd S1.H Da (.lst [])⟩, M1, [], [], rfl, a2 S1 (Grow.refl _) hD, a1, hDz, hDa, upd_same, RepL.nil, p0⟩
  · intro i x H H' hi ⟨S2, M2, acc, vs, e, g2, hM2, z2, n2, h2, r2, hP⟩ y s Hs C cl fp
    obtain ⟨S3, d, e3, hM3, g3, hit, r3⟩ := y S2 M2 e g2 hM2 (pG i acc M2 (Nat.le_of_lt hi) hP)
    rw [← e3]
    have keep : ∀ S', Grow S2 S' → S'.Z Da = none ∧ Da ∉ S'.as ∧ S'.H Da = some (.lst vs) := fun S' g' => by
      exact ⟨g'.sep Da (by rw [h2]; simp) z2 n2, g'.out (by rw [h2]; simp) n2, g'.keep Da _ h2 n2⟩
    refine pt i d acc M2 hi hit hP s Hs C cl fp S3 _ hM3 ((hE.grow (g2.trans g3)).wipe _) x r3 _ fun Γ4 σ4 hb hE4 w4 => ⟨w4.trans ?_, fun s' Hs' C' cl' fp' => ?_⟩
    · apply List.ext_getElem?
      intro j
      rw [wipe_get, wipe_get, wipe_length]
      split <;> rfl
    · refine hb s' Hs' C' cl' fp' S3 σ4 hM3 hE4 _ fun b M5 S5 hk hM5 g5 => ?_
      have g25 := g3.trans g5
      cases b with
      | true =>
        intro s'' Hs'' C'' cl'' fp''
        refine hk.1 rfl s'' Hs'' C'' cl'' fp'' S5 σ4 hM5 (hE4.grow g5) (fun _ _ _ _ => False) takes0 (fun _ _ _ _ _ z => z.elim) _ fun d6 M6 S6 v6 ⟨hl, hP6⟩ hM6 g6 r6 => ?_
        obtain ⟨z6, n6, h6⟩ := keep S6 (g25.trans g6)
        obtain ⟨a1, a2, a3, a4⟩ := upd_f (o := .lst (vs ++ [v6])) hM6 z6 n6
        refine ⟨vs, h6, by rw [r2.len]; exact hl, ⟨S6.as, S6.Z, upd S6.H Da (.lst (vs ++ [v6]))⟩, M6, acc ++ [d6], vs ++ [v6], rfl, a2 S1 (g2.trans (g25.trans g6)) hD, a1, z6, n6, upd_same, a4 _ _ ((r2.grow (g25.trans g6)).app (.one r6)), hP6⟩
      | false =>
        obtain ⟨z5, n5, h5⟩ := keep S5 g25
        exact ⟨S5, M5, acc, vs, rfl, g2.trans g25, hM5, z5, n5, h5, r2.grow g25, hk.2 rfl⟩
  · rintro H2 ⟨S2, M2, acc, vs, rfl, g2, hM2, z2, n2, h2, r2, hP⟩
    obtain ⟨a1, a2, a3⟩ := frz_f hM2 z2 h2 n2
    refine hQ (.lst acc) M2 ⟨S2.as, upd S2.Z Da (.lst vs), S2.H⟩ (.ref Da) (pd acc M2 hP) a1 (a2 S1 g2 hD) ⟨Da, vs, rfl, upd_same, ?_⟩
    exact (sg_mono (K := X.K) (S := S2) (S' := ⟨S2.as, upd S2.Z Da (.lst vs), S2.H⟩) (ex_new z2)).2 _ _ r2
theorem pg_all {tg : Expr} : ∀ (s : Shared) (H : Hp) (C : Addr) (cl : List (Str × Addr)) (fp : List Addr), PG (X.blk s H scope (compEnvC scope cl C X.env) fp) tg (allG X scope tg) := fun s H C cl fp => ⟨fun pins sh σ H' v u Q I r h => h s H C cl fp pins sh u I r⟩
theorem pts_all : ∀ (s : Shared) (H : Hp) (C : Addr) (cl : List (Str × Addr)) (fp : List Addr), PTs (X.blk s H scope (compEnvC scope cl C X.env) fp) ifs (allTs X scope ifs) := fun s H C cl fp => ⟨fun pins sh σ H' Q I h => h s H C cl fp pins sh I⟩
theorem pe_all : ∀ (s : Shared) (H : Hp) (C : Addr) (cl : List (Str × Addr)) (fp : List Addr), PE (X.blk s H scope (compEnvC scope cl C X.env) fp) elt (allE X scope elt) := fun s H C cl fp => ⟨fun pins sh σ H' Q I h => h s H C cl fp pins sh I⟩
/-- [elt for tg in iter if ..] -/
theorem ge_lc (own : List (Str × Nat)) (hc : X.calm = true) (hN : X.N.Nodup) (ok : BlkOk X.N X.env.scope scope own) (h : GI X Γ M tg iter (LcOk X Γ tg elt ifs scope (own.map (·.2)) k) kx)
    (hs : ∀ x, foldedSetIterable iter X.env x = pure x := by intro _; rfl) : GE X Γ M (.ListComp elt [⟨tg, iter, ifs, 0⟩] scope pos) k kx := fun S σ hM hE W tk hW Q hQ =>
  of_pe (pe_lc hc hN wi ok pg_all pts_all pe_all hs) (h S σ hM hE W tk hW _ fun n it G M1 S1 J hl hM1 g1 wk => fun Da hD => lc_run hl hM1 (hE.grow g1) wk (hQ.grow g1) hD)
/-- x = [elt for tg in iter if ..] on one line, x a local that no block captures -/
theorem gs_lc (j : Nat) (own : List (Str × Nat)) {y : Str} {py : Pos} {E : ED} (hc : X.calm = true) (hN : X.N.Nodup) (ok : BlkOk X.N X.env.scope scope own) (h : GI X Γ M tg iter (LcOk X Γ tg elt ifs scope (own.map (·.2)) fun d M1 => E.nx (Γ.set j (some d)) M1) fun c f M1 => E.ex c f Γ M1)
    (hsw : swapsWith (.ListComp elt [⟨tg, iter, ifs, 0⟩] scope pos) (some (.Name y py)) p.line X.env = pure true)
    (hy : X.N[j]? = some y := by rfl) (hyl : X.env.scope.names.lookup y = some .local := by rfl) (hs : ∀ x, foldedSetIterable iter X.env x = pure x := by intro _; rfl) : GS X Γ M (.Assign [.Name y py] (.ListComp elt [⟨tg, iter, ifs, 0⟩] scope pos) p) E := fun S σ hM hE W tk De L =>
  of_ps (ps_setLc hc hN hy hyl hsw wi ok pg_all pts_all pe_all hs) (h S σ hM hE W tk (L.kw hE) _ fun n it G M1 S1 J hl hM1 g1 wk => fun Da hD =>
    lc_run (Q := fun v H' => gName j v σ H' De.nx) hl hM1 (hE.grow g1) wk (fun d M2 S2 v hk hM2 g2 r2 => L.nx _ M2 S2 _ hk hM2 (g1.trans g2) ((hE.grow (g1.trans g2)).set r2)) hD)
end

/-! ### a def -/
theorem fn_ok {P : Program} {w : World} {K : PySem.W.Frag} {mg : Str → Option Value} {base : Heap} {x qual : Str} {st : Stmt} {f : Addr} {fd : FuncData} {N ps : List Str} {j : Nat} {R : RSp} (F : Fun K x qual st f fd) (sc : FnScope N ps (defScope st))
    (len : ∀ ds M k kx, R ds M k kx → ds.length = ps.length)
    (hb : ∀ (cdv : Value) (A : Around) (outer : List Env) (s : Shared) (H : Hp) (E : XK) (ds : List D) (M : Ms) (k : KD) (kx : KX), Room j (A.deeper (PyProof.Rows.envOfC qual (defScope st) s.heap.objs.size f cdv)) → R ds M k kx →
      GB (cxOf (L2.CX P w) P w K mg base N qual (defScope st) f cdv A outer s H E) (ds.map some ++ List.replicate (N.length - ds.length) none) M (defBody st) { nx := fun _ M' => k .non M', rt := k, ex := fun c f _ M' => kx c f M' }) :
    FnOk P w K mg base (L2.CX P w) (j + 1) f fd ps (spD K R) := by
  refine F.okX sc (fun vs H Q E ⟨S, ds, M, k, kx, _, _, r, h, _, _⟩ => by rw [r.len]; exact len _ _ _ _ h) fun cdv A outer s H vs Q E hr ⟨S, ds, M, k, kx, e, hM, r, h, hk, hx⟩ => ?_
  subst e
  refine ⟨WB _ (defBody st), wb, ?_⟩
  have hl := r.len
  have g := hb cdv A outer s S.H E ds M k kx hr h
  refine g S (start N vs) hM ⟨?_, fun i d hi => ?_⟩ (fun cls d _ H' => E cls d H') (takes_of rfl rfl rfl rfl) _ ⟨fun Γ' M' S' σ' a hM' g' hE' => hk .non M' S' .non a hM' g' rfl, hk, fun _ _ _ _ z => z.elim, fun _ _ _ _ z => z.elim, fun cls fs Γ' M' S' σ' dd a hM' g' hE' xr => hx cls fs M' S' dd a hM' g' xr⟩
  · simp [L2.start, hl]
  · have hi2 : i < ds.length := by
      by_cases q : i < ds.length
      · exact q
      · rw [List.getElem?_append_right (by simp; omega)] at hi
        have := List.getElem?_eq_some_iff.mp hi
        obtain ⟨_, h2⟩ := this
        simp at h2
    rw [List.getElem?_append_left (by simpa using hi2)] at hi
    have hd : ds[i]? = some d := by
      rw [List.getElem?_map] at hi
      cases e : ds[i]? with
      | none => rw [e] at hi; cases hi
      | some z => rw [e] at hi; simp at hi; rw [hi]
    obtain ⟨v, h1, h2⟩ := r.get hd
    refine ⟨v, ?_, h2⟩
    unfold L2.start
    rw [List.getElem?_append_left (by simp; rw [hl]; exact hi2), List.getElem?_map, h1]; rfl
end PD

set_option Elab.async false
set_option linter.all false
set_option maxRecDepth 100000
set_option maxHeartbeats 4000000
/-! PD: stores into lists and objects, their methods, new objects. -/
namespace PD
open PySem L2
open Evl (Ex ex_rd ex_l ex_t)
section
variable {X : Cx} {Γ : En} {M : Ms} {e a b c o i : Expr} {es : List Expr} {k : KD} {kx : KX} {E : ED} {d x y z : D} {pos pos' apos p : Pos} {nm m : Str} {j l : Nat} {C : Addr} {dds : List D} {R : RSp}
/-- o[i] = e, o a list that may change -/
theorem gs_seti (h : GE X Γ M e (fun d M1 => GE X Γ M1 o (fun x M2 => GE X Γ M2 i (fun y M3 => ∃ (q : Nat) (a : Addr) (ds : List D) (n : Int) (j : Nat), x = .hdl a ∧ M3[q]? = some (a, MO.lst ds) ∧ y = .int n ∧ ((0 ≤ n ∧ n = j ∧ j < ds.length) ∨ (n < 0 ∧ n + ds.length = j)) ∧ E.nx Γ (M3.set q (a, .lst (ds.set j d))))
      fun c f M1 => E.ex c f Γ M1) fun c f M1 => E.ex c f Γ M1) fun c f M1 => E.ex c f Γ M1)
    (hs : swapsWithSole [.Subscript o i pos'] e pos.line X.env = pure false := by rfl) (hw : swappedStores [.Subscript o i pos'] e X.env = pure none := by rfl) (h1 : (assignEach [.Subscript o i pos'] X.env).map (·.2) = [assign (.Subscript o i pos') X.env] := by rfl)
    (ha : ∀ v, assign (.Subscript o i pos') X.env v = (do
      let ov ← holding [v] (eval o X.env)
      let iv ← holding [v, ov] (eval i X.env)
      standAt pos'
      holding [v, ov, iv] (setItem ov iv v)
      release [v, ov, iv] []) := by intro _; rfl) : GS X Γ M (.Assign [.Subscript o i pos'] e pos) E := fun S σ hM hE W tk De L =>
  of_ps (ps_asg we (pg_sub we we set_list ha) hs hw h1) (h S σ hM hE W tk (L.kw hE) _ fun d M1 S1 v hk hM1 g1 r1 =>
    hk S1 σ hM1 (hE.grow g1) W tk ((L.kw hE).grow g1) _ fun x M2 S2 vx hk2 hM2 g2 rx =>
      hk2 S2 σ hM2 (hE.grow (g1.trans g2)) W tk ((L.kw hE).grow (g1.trans g2)) _ fun y M3 S3 vy ⟨q, a, ds, n, j, ex, hq, ey, hi, hnx⟩ hM3 g3 ry => by
        subst ex; subst ey
        cases rx; cases ry
        obtain ⟨hz, xs, hh, rr⟩ := hM3.at hq
        refine ⟨a, xs, n, j, rfl, rfl, hh, ixN_of (by rw [rr.len]; exact hi), ?_⟩
        obtain ⟨hM4, g4⟩ := set_m (o := .lst (xs.set j v)) (m := .lst (ds.set j d)) hM3 hq hz (fun g => ⟨hz, _, upd_same, (rr.grow g).set j ((r1.grow (g2.trans g3)).grow g)⟩)
        have gg := g1.trans (g2.trans (g3.trans g4))
        exact L.nx _ _ ⟨S3.as, S3.Z, upd S3.H a (.lst (xs.set j v))⟩ σ hnx hM4 gg (hE.grow gg))
theorem putF_ix : ∀ {kvs : List (Str × V)} {i : Nat} {f : Str} {v : V}, (kvs.map (·.1)).Nodup → (kvs.map (·.1))[i]? = some f → (putF f v kvs).map (·.1) = kvs.map (·.1) ∧ (putF f v kvs).map (·.2) = (kvs.map (·.2)).set i v
  | [], _, _, _, _, h => by simp at h
  | (g, u) :: r, 0, f, v, _, h => by
    have e : g = f := by simpa using h
    subst e
    have : putF g v ((g, u) :: r) = (g, v) :: r := by
      show (if g = g then _ else _) = _
      rw [if_pos rfl]
    rw [this]; simp
  | (g, u) :: r, i + 1, f, v, nd, h => by
    have h1' : (r.map (·.1))[i]? = some f := h
    have nd' : g ∉ r.map (·.1) ∧ (r.map (·.1)).Nodup := List.nodup_cons.mp nd
    have hne : ¬ g = f := fun e => nd'.1 (by rw [e]; exact List.mem_of_getElem? h1')
    have : putF f v ((g, u) :: r) = (g, u) :: putF f v r := by
      show (if g = f then _ else _) = _
      rw [if_neg hne]
    obtain ⟨q1, q2⟩ := putF_ix (v := v) nd'.2 h1'
    rw [this]; simp [q1, q2]
theorem putF_new : ∀ {kvs : List (Str × V)} {f : Str} {v : V}, f ∉ kvs.map (·.1) → putF f v kvs = kvs ++ [(f, v)]
  | [], _, _, _ => rfl
  | (g, u) :: r, f, v, h => by
    simp only [List.map_cons, List.mem_cons, not_or] at h
    have hne : ¬ g = f := fun e => h.1 e.symm
    show (if g = f then _ else _) = _
    rw [if_neg hne, putF_new h.2]; rfl
/-- what a store into an attribute makes of the attributes -/
inductive PutA (fs : List Str) (ds : List D) (f : Str) (d : D) : List Str → List D → Prop
  | old (i : Nat) (nd : fs.Nodup) (h : fs[i]? = some f) : PutA fs ds f d fs (ds.set i d)
  | new (h : f ∉ fs) : PutA fs ds f d (fs ++ [f]) (ds ++ [d])
theorem PutA.at {K : PySem.W.Frag} {S : Sg} {fs fs' : List Str} {ds ds' : List D} {f : Str} {kvs : List (Str × V)} {v : V} (h : PutA fs ds f d fs' ds') (hf : kvs.map (·.1) = fs) (hr : RepL K S ds (kvs.map (·.2))) (rv : Rep K S d v) :
    (putF f v kvs).map (·.1) = fs' ∧ RepL K S ds' ((putF f v kvs).map (·.2)) := by
  cases h with
  | old i nd h =>
    obtain ⟨q1, q2⟩ := putF_ix (kvs := kvs) (i := i) (f := f) (v := v) (by rw [hf]; exact nd) (by rw [hf]; exact h)
    exact ⟨by rw [q1, hf], by rw [q2]; exact hr.set i rv⟩
  | new h =>
    have e := putF_new (kvs := kvs) (f := f) (v := v) (by rw [hf]; exact h)
    exact ⟨by rw [e]; simp [hf], by rw [e]; simp only [List.map_append, List.map_cons, List.map_nil]; exact hr.app (.one rv)⟩
/-- o.f = e -/
theorem gs_fld {f : Str} (h : GE X Γ M e (fun d M1 => GE X Γ M1 o (fun x M2 => ∃ (q : Nat) (a C : Addr) (fs fs' : List Str) (ds ds' : List D), x = .hdl a ∧ M2[q]? = some (a, MO.ins C fs ds) ∧ Cls X.K C ∧ NoAttr X.K C f ∧ fs.length < 1000 ∧ PutA fs ds f d fs' ds' ∧ E.nx Γ (M2.set q (a, .ins C fs' ds')))
      fun c f M1 => E.ex c f Γ M1) fun c f M1 => E.ex c f Γ M1) (hs : swapsWith e (some (.Attribute o f pos')) pos.line X.env = pure false := by rfl) : GS X Γ M (.Assign [.Attribute o f pos'] e pos) E := fun S σ hM hE W tk De L =>
  of_ps (ps_fld we we hs) (h S σ hM hE W tk (L.kw hE) _ fun d M1 S1 v hk hM1 g1 r1 =>
    hk S1 σ hM1 (hE.grow g1) W tk ((L.kw hE).grow g1) _ fun x M2 S2 vx ⟨q, a, C, fs, fs', ds, ds', ex, hq, cl, na, hl, pa, hnx⟩ hM2 g2 rx => by
      subst ex
      cases rx
      obtain ⟨hz, dx, kvs, hh, hf, rr⟩ := hM2.at hq
      refine ⟨a, C, dx, kvs, rfl, hh, cl, na, by rw [← hf] at hl; simpa using hl, ?_⟩
      obtain ⟨hM4, g4⟩ := set_m (o := .ins C dx (putF f v kvs)) (m := .ins C fs' ds') hM2 hq hz (fun g => by
        obtain ⟨q1, q2⟩ := pa.at hf (rr.grow g) ((r1.grow g2).grow g)
        exact ⟨hz, dx, _, upd_same, q1, q2⟩)
      have gg := g1.trans (g2.trans g4)
      exact L.nx _ _ ⟨S2.as, S2.Z, upd S2.H a (.ins C dx (putF f v kvs))⟩ σ hnx hM4 gg (hE.grow gg))
/-- o.f op= e -/
theorem gs_fldaug {f : Str} {op : Operator} {rd : R2} (hop : InOp X op rd) (h : GE X Γ M o (fun x M1 => ∃ (C : Addr) (fs : List Str) (ds : List D) (i : Nat) (u : D), ObjD M1 x C fs ds ∧ Cls X.K C ∧ NoAttr X.K C f ∧ fs.Nodup ∧ fs[i]? = some f ∧ ds[i]? = some u ∧
      GE X Γ M1 e (fun y M2 => Bin X.K rd u y M2 fun d M3 => ∃ (q : Nat) (a : Addr) (fs fs' : List Str) (ds ds' : List D), x = .hdl a ∧ M3[q]? = some (a, MO.ins C fs ds) ∧ fs.length < 1000 ∧ PutA fs ds f d fs' ds' ∧ E.nx Γ (M3.set q (a, .ins C fs' ds')))
      fun c f M1 => E.ex c f Γ M1) fun c f M1 => E.ex c f Γ M1) : GS X Γ M (.AugAssign (.Attribute o f pos') op e pos) E := fun S σ hM hE W tk De L =>
  of_ps (ps_fldaug we we hop) (h S σ hM hE W tk (L.kw hE) _ fun x M1 S1 vx ⟨C, fs, ds, i, u, ob, cl, na, nd, hi, hu, hk⟩ hM1 g1 rx => by
    obtain ⟨a, dx, kvs, rfl, hh, hf, rr⟩ := ob.at hM1 rx
    obtain ⟨w, hw, rw'⟩ := rr.get hu
    refine ⟨a, C, dx, kvs, w, rfl, hh, cl, na, lookup_ix (by rw [hf]; exact nd) (by rw [hf]; exact hi) hw, ?_⟩
    refine hk S1 σ hM1 (hE.grow g1) W tk ((L.kw hE).grow g1) _ fun y M2 S2 vy hk2 hM2 g2 ry => ?_
    refine hk2 S2 w vy hM2 (rw'.grow g2) ry _ fun d M3 S3 v ⟨q, a', fs2, fs', ds2, ds', ex, hq, hl, pa, hnx⟩ hM3 g3 r3 => ?_
    have rx3 := (rx.grow g2).grow g3
    rw [ex] at rx3
    have ea : a = a' := by
      have : V.ref a = V.ref a' := rx3
      injection this
    subst ea
    obtain ⟨hz, dx2, kvs2, hh2, hf2, rr2⟩ := hM3.at hq
    refine ⟨dx2, kvs2, hh2, by rw [← hf2] at hl; simpa using hl, ?_⟩
    obtain ⟨hM4, g4⟩ := set_m (o := .ins C dx2 (putF f v kvs2)) (m := .ins C fs' ds') hM3 hq hz (fun g => by
      obtain ⟨q1, q2⟩ := pa.at hf2 (rr2.grow g) (r3.grow g)
      exact ⟨hz, dx2, _, upd_same, q1, q2⟩)
    have gg := g1.trans (g2.trans (g3.trans g4))
    exact L.nx _ _ ⟨S3.as, S3.Z, upd S3.H a (.ins C dx2 (putF f v kvs2))⟩ σ hnx hM4 gg (hE.grow gg))
theorem in_addU : InOp X .Add rAdd := in_add
theorem aug_add {K : PySem.W.Frag} {n t : Int} (hk : k (.int (n + t)) M) : Bin K rAdd (.int n) (.int t) M k := bin_flat (v := .int (n + t)) (fun S vx vy _ rx ry Q q => ⟨n, t, rx, ry, q⟩) hk
/-- x op= e, x a name -/
theorem gs_aug (i : Nat) {x : Str} {op : Operator} {ti : TIp} (ho : PIp X op ti) (hd : Γ[i]? = some (some d)) (h : GE X Γ M e (fun y M1 => Bin X.K ti d y M1 fun z M2 => E.nx (Γ.set i (some z)) M2) (fun c f M1 => E.ex c f Γ M1)) (hN : X.N.Nodup) (hi : X.N[i]? = some x := by rfl) (hx : Loc X.env.scope x := by first | exact Or.inl rfl | exact Or.inr rfl)
    (hf : X.fn x = true ∨ X.env.scope.names.lookup x = some .local := by first | exact .inl rfl | exact .inr rfl) : GS X Γ M (.AugAssign (.Name x pos') op e pos) E := fun S σ hM hE W tk De L =>
  of_ps (ps_aug hN hi hx we ho hf) (by
    obtain ⟨v, e1, r⟩ := hE.2 i d hd
    exact ⟨v, e1, h S σ hM hE W tk (L.kw hE) _ fun y M1 S1 vy hk hM1 g1 ry => hk S1 v vy hM1 (r.grow g1) ry _ fun z M2 S2 vz hk2 hM2 g2 rz => L.nx _ M2 S2 _ hk2 hM2 (g1.trans g2) ((hE.grow (g1.trans g2)).set rz)⟩)
theorem aug_int {K : PySem.W.Frag} {n t : Int} {f : Int → Int → Int} (hk : k (.int (f n t)) M) : Bin K (ipI f) (.int n) (.int t) M k := bin_flat (v := .int (f n t)) (fun S vx vy _ rx ry Q q => ⟨n, t, rx, ry, q⟩) hk
/-- l.append(e) -/
theorem ge_append (h : GE X Γ M o (fun x M1 => (∃ (q : Nat) (a : Addr) (ds : List D), x = .hdl a ∧ M1[q]? = some (a, MO.lst ds)) ∧ GE X Γ M1 e (fun y M2 => ∃ (q : Nat) (a : Addr) (ds : List D), x = .hdl a ∧ M2[q]? = some (a, MO.lst ds) ∧ ds.length < 16777216 ∧ k .non (M2.set q (a, .lst (ds ++ [y])))) kx) kx)
    (hbase : attributeBase o "append" X.env (eval o X.env) = eval o X.env := by rfl)
    (hfew : ((backTo p (starEach [e] X.env)).all (fun x => !x.1) && (backToKw p (keywordEach [] X.env)).all (fun x => x.1.isSome) && decide ([e].length + ([] : List Keyword).length + (if ([] : List Keyword).isEmpty then 0 else 1) < 30)) = true := by rfl)
    (hline : (apos.endLine == p.line) = true := by rfl) (hs : starEach [e] X.env = (false, eval e X.env) :: starEach [] X.env := by rfl) (hplain : (backTo p (starEach [] X.env)).any (·.1) = false := by rfl) :
    GE X Γ M (.Call (.Attribute o "append" apos) [e] [] p) k kx := fun S σ hM hE W tk hW Q hQ =>
  of_pe (pe_bm PySem.F.plainAttrs_list PySem.F.slot_list_append PySem.F.type_list_append mt_append we (pa_cons we pa_nil hs) hbase hfew hline hs hplain) (h S σ hM hE W tk hW _ fun x M1 S1 vx ⟨⟨q0, a0, ds0, ex0, hq0⟩, hk⟩ hM1 g1 rx => by
    subst ex0
    cases rx
    obtain ⟨_, xs0, hh0, _⟩ := hM1.at hq0
    refine ⟨.inl ⟨rfl, _, SqL.of hh0⟩, hk S1 σ hM1 (hE.grow g1) W tk (hW.grow g1) _ fun y M2 S2 vy ⟨q, a, ds, ex, hq, hl, hk2⟩ hM2 g2 ry => ?_⟩
    cases ex
    obtain ⟨hz, xs, hh, rr⟩ := hM2.at hq
    refine ⟨a0, xs, vy, rfl, rfl, hh, by rw [rr.len]; exact hl, ?_⟩
    obtain ⟨hM3, g3⟩ := set_m (o := .lst (xs ++ [vy])) (m := .lst (ds ++ [y])) hM2 hq hz (fun g => ⟨hz, _, upd_same, (rr.grow g).app (.one (ry.grow g))⟩)
    exact hQ .non _ ⟨S2.as, S2.Z, upd S2.H a0 (.lst (xs ++ [vy]))⟩ .non hk2 hM3 (g1.trans (g2.trans g3)) rfl)
/-- l.extend(e), e a list that stands -/
theorem ge_extend (h : GE X Γ M o (fun x M1 => (∃ (q : Nat) (a : Addr) (ds : List D), x = .hdl a ∧ M1[q]? = some (a, MO.lst ds)) ∧ GE X Γ M1 e (fun y M2 => ∃ (q : Nat) (a : Addr) (ds es : List D), x = .hdl a ∧ M2[q]? = some (a, MO.lst ds) ∧ y = .lst es ∧ ds.length + es.length ≤ 16777216 ∧ k .non (M2.set q (a, .lst (ds ++ es)))) kx) kx)
    (hbase : attributeBase o "extend" X.env (eval o X.env) = eval o X.env := by rfl)
    (hfew : ((backTo p (starEach [e] X.env)).all (fun x => !x.1) && (backToKw p (keywordEach [] X.env)).all (fun x => x.1.isSome) && decide ([e].length + ([] : List Keyword).length + (if ([] : List Keyword).isEmpty then 0 else 1) < 30)) = true := by rfl)
    (hline : (apos.endLine == p.line) = true := by rfl) (hs : starEach [e] X.env = (false, eval e X.env) :: starEach [] X.env := by rfl) (hplain : (backTo p (starEach [] X.env)).any (·.1) = false := by rfl) :
    GE X Γ M (.Call (.Attribute o "extend" apos) [e] [] p) k kx := fun S σ hM hE W tk hW Q hQ =>
  of_pe (pe_bm PySem.F.plainAttrs_list PySem.F.slot_list_extend PySem.F.type_list_extend mt_extend we (pa_cons we pa_nil hs) hbase hfew hline hs hplain) (h S σ hM hE W tk hW _ fun x M1 S1 vx ⟨⟨q0, a0, ds0, ex0, hq0⟩, hk⟩ hM1 g1 rx => by
    subst ex0
    cases rx
    obtain ⟨_, xs0, hh0, _⟩ := hM1.at hq0
    refine ⟨.inl ⟨rfl, _, SqL.of hh0⟩, hk S1 σ hM1 (hE.grow g1) W tk (hW.grow g1) _ fun y M2 S2 vy ⟨q, a, ds, es, ex, hq, ey, hl, hk2⟩ hM2 g2 ry => ?_⟩
    cases ex
    subst ey
    obtain ⟨b, ys, rfl, hb, rb⟩ := ry
    obtain ⟨hz, xs, hh, rr⟩ := hM2.at hq
    refine ⟨a0, b, xs, ys, rfl, rfl, hh, hM2.zh _ _ hb, by rw [rr.len, rb.len]; exact hl, ?_⟩
    obtain ⟨hM3, g3⟩ := set_m (o := .lst (xs ++ ys)) (m := .lst (ds ++ es)) hM2 hq hz (fun g => ⟨hz, _, upd_same, (rr.grow g).app (rb.grow g)⟩)
    exact hQ .non _ ⟨S2.as, S2.Z, upd S2.H a0 (.lst (xs ++ ys))⟩ .non hk2 hM3 (g1.trans (g2.trans g3)) rfl)
/-- what may change is looked at no more -/
theorem gb_drop {sts : List Stmt} {M' : Ms} (hs : M'.Sublist M) (h : GB X Γ M' sts E) : GB X Γ M sts E := fun S σ hM hE W tk De L => by
  obtain ⟨a, b⟩ := drop_m hM hs
  have g := b S (Grow.refl _)
  exact h ⟨M'.map (·.1), S.Z, S.H⟩ σ a (hE.grow g) W tk De (L.grow g)
theorem ge_drop (h : GE X Γ M e (fun d M1 => ∃ M2, M2.Sublist M1 ∧ k d M2) kx) : GE X Γ M e k kx := fun S σ hM hE W tk hW Q hQ =>
  h S σ hM hE W tk hW Q fun d M1 S1 v ⟨M2, hs, hk⟩ hM1 g1 r => by
    obtain ⟨a, b⟩ := drop_m hM1 hs
    exact hQ d M2 ⟨M2.map (·.1), S1.Z, S1.H⟩ v hk a (b S g1) ((sg_mono (S := S1) (S' := ⟨M2.map (·.1), S1.Z, S1.H⟩) (Ex.refl _)).1 _ _ r)
/-! ### new objects -/
theorem new_ins {K : PySem.W.Frag} {S : Sg} {M : Ms} {x dx C : Addr} (h : OkM K S M) (hx : S.H x = none) (hdx : S.H dx = none) (ne : dx ≠ x) :
    OkM K ⟨S.as ++ [x], S.Z, upd (upd S.H dx (.own x)) x (.ins C dx [])⟩ (M ++ [(x, .ins C [] [])]) ∧ Grow S ⟨S.as ++ [x], S.Z, upd (upd S.H dx (.own x)) x (.ins C dx [])⟩ := by
  have hz : S.Z dx = none := h.zh.none hdx
  have nd : dx ∉ S.as := fun m => h.dom dx m hdx
  obtain ⟨a1, a2, _⟩ := upd_f (o := .own x) h hz nd
  have g1 := a2 S (Grow.refl _) hdx
  have hx1 : (⟨S.as, S.Z, upd S.H dx (.own x)⟩ : Sg).H x = none := by show upd S.H dx (.own x) x = none; rw [upd_ne (Ne.symm ne)]; exact hx
  obtain ⟨b1, b2⟩ := new_m (o := .ins C dx []) (m := .ins C [] []) a1 hx1 (fun g => ⟨a1.zh.none hx1, dx, [], upd_same, rfl, RepL.nil⟩)
  exact ⟨b1, g1.trans b2⟩
/-- how a code ends that keeps its promise, as its caller sees it -/
theorem ends_of {pins : List (Addr × Obj)} {σ : L2.St} {H : Hp} {s : Shared} {Q : VK} {CX : CXT} {EX : XK} (pass : PassesAt CX X σ EX) (inv : L2.Inv X pins σ H s) (r : Result) (t : Shared) : CR CX X.stack X.prog X.w H s Q EX r t →
    match r with | .ok (.ret u) => EP X pins σ Q u t | .ok _ => False | .error er => X.xe er t := by
  intro c
  rcases r with er | fl
  · exact pass _ _ _ _ _ inv c
  · cases fl <;> first | exact inv.after c | exact c
/-- an instance is made, __init__ bound by whatever its arguments are: all the values bound, vals what they stand for -/
theorem maker {pins : List (Addr × Obj)} {σ : L2.St} {H : Hp} {s : Shared} {Q : VK} {us all : List Value} {kw : List (Str × Value)} {vals : List V} {f : Addr} {fd : FuncData} {ps : List Str} {sp : Sp} {CX : CXT} {kk : Nat} {EX : XK} (mk : Mk X.K C f) (F : FnOk X.prog X.w X.K X.mg X.base CX kk f fd ps sp) (room : Room (kk + 1) X.A) (pass : PassesAt CX X σ EX) (inv : L2.Inv X pins σ H s)
    (bound : ∀ t : Shared, X.K.In t.heap → BindsTo t fd ⟨.ref (s.heap.objs.size + 1) :: us, kw⟩ (ps.zip all)) (stand : Vals vals all)
    (told : sp vals (upd (upd H s.heap.objs.size (.own (s.heap.objs.size + 1))) (s.heap.objs.size + 1) (.ins C s.heap.objs.size [])) (fun v H2 => v = .non ∧ Q (.ref (s.heap.objs.size + 1)) H2) EX) :
    wpAny (model X.prog X.w) X.A (call (.ref C) us kw) (EP X pins σ Q) X.xe s := by
  have made := L2.Inv.made (C := C) inv
  apply wpAny_call
  apply make_map inv.kIn mk.makes mk.init (beq_iff_eq.mp mk.fn)
  refine codeAny_mono (F.run _ X.stack _ _ _ all vals _ EX (room.make C us kw) (made.env0.make C us kw) (bound _ made.kIn) stand told) fun r t c => ?_
  have e := ends_of pass made r t c
  rcases r with er | fl
  · exact e
  · cases fl <;> first
      | exact e.elim
      | (obtain ⟨_, H3, inv3, rel, isNone, q⟩ := e
         subst isNone
         exact ⟨rel, .ref (s.heap.objs.size + 1), H3, inv3, rfl, q⟩)
/-- the two names that a making takes are new -/
theorem fresh_two {pins : List (Addr × Obj)} {σ : L2.St} {H : Hp} {s : Shared} (inv : L2.Inv X pins σ H s) {p : Addr → Addr → Prop} (h : ∀ x dx, H x = none → H dx = none → dx ≠ x → p x dx) : p (s.heap.objs.size + 1) s.heap.objs.size :=
  h _ _ (inv.hok.fresh (Nat.le_add_right _ 1)) (inv.hok.fresh (Nat.le_refl _)) (Nat.succ_ne_self _).symm
/-- .. by position, what is raised wished for at the slots -/
theorem run_makeS {pins : List (Addr × Obj)} {σ : L2.St} {H : Hp} {s : Shared} {Q : VK} {us : List Value} {vs : List V} {f : Addr} {fd : FuncData} {ps : List Str} {dvl : List Value} {dvs : List V} {sp : Sp} {CX : CXT} {kk : Nat} {EE : L2.St → XK} (Mm : Mk X.K C f) (F : FnOk X.prog X.w X.K X.mg X.base CX kk f fd ps sp) (hr : Room (kk + 1) X.A) (hb : Binds X.K fd ps dvl) (hd : Vals dvs dvl)
    (hx : PassesAt CX X σ (EE σ)) (I : L2.Inv X pins σ H s) (r : Vals vs us) (h : ∀ x dx, H x = none → H dx = none → dx ≠ x → sp (.ref x :: (vs ++ dvs)) (upd (upd H dx (.own x)) x (.ins C dx [])) (fun v H2 => v = .non ∧ Q (.ref x) H2) (EE σ)) :
    wpAny (model X.prog X.w) X.A (call (.ref C) us) (EP X pins σ Q) X.xe s := by
  have told := fresh_two I h
  have stand : Vals (V.ref (s.heap.objs.size + 1) :: (vs ++ dvs)) (Value.ref (s.heap.objs.size + 1) :: (us ++ dvl)) := .cons rfl (r.append hd)
  have few := stand.length.symm.trans (F.len _ _ _ _ told)
  exact maker Mm F hr hx I (fun t kin => hb t (.ref (s.heap.objs.size + 1) :: us) kin few) stand told
theorem mk_of {S : Sg} {ds : List D} {vs dvs : List V} {ks : List Nat} {Q : VK} {W : WX} {σ : L2.St} (hM : OkM X.K S M) (rv : RepL X.K S ds vs) (hrd : ∀ S, RepL X.K S dds dvs) (hQ : KV X.K S k Q) (hW : KW X.K S kx W σ)
    (h : ∀ x, CallOk R (ks ++ [M.length]) (.hdl x :: (ds ++ dds)) (M ++ [(x, .ins C [] [])]) (fun d M2 => d = .non ∧ k (.hdl x) M2) kx) {x dx : Addr} (hx : S.H x = none) (hdx : S.H dx = none) (ne : dx ≠ x) :
    spD X.K R (.ref x :: (vs ++ dvs)) (upd (upd S.H dx (.own x)) x (.ins C dx [])) (fun v H2 => v = .non ∧ Q (.ref x) H2) (L2.WE W σ) := by
  obtain ⟨a, g⟩ := new_ins (C := C) hM hx hdx ne
  refine sp_of (S' := ⟨S.as ++ [x], S.Z, upd (upd S.H dx (.own x)) x (.ins C dx [])⟩) a (RepL.cons (d := .hdl x) rfl ((rv.app (hrd S)).grow g)) (h x) (fun d M' S' v ⟨e, hk⟩ hM' g' r => ?_) (hW.grow g)
  subst e
  exact ⟨r, hQ (.hdl x) M' S' (.ref x) hk hM' (g.trans g') rfl⟩
/-- C(..): behind it the object stands last of what may change -/
theorem ge_make (F : MkD X.prog X.w X.K X.mg X.base j C nm dds R) (hr : Room l X.A) (hl : j + 1 ≤ l) (h : GA X Γ M (e :: es) (fun ds M1 => ∃ ks, ∀ x, CallOk R (ks ++ [M1.length]) (.hdl x :: (ds ++ dds)) (M1 ++ [(x, .ins C [] [])]) (fun d M2 => d = .non ∧ k (.hdl x) M2) kx) kx) (hg : Gl X nm := by rfl) (hdb : (nm == ("__debug__" : Str)) = false := by decide)
    (he : starEach (e :: es) X.env = (false, eval e X.env) :: starEach es X.env := by rfl) (hpl : (backTo pos (starEach es X.env)).any (·.1) = false := by rfl) : GE X Γ M (.Call (.Name nm p) (e :: es) [] pos) k kx := fun S σ hM hE W tk hW Q hQ pins s I => by
  obtain ⟨f, fd, ps, dvl, dvs, Mm, hb, hd, hrd, F'⟩ := F.ex
  refine wpAny_Call_Name_kw (ld_glob I hg F.gC ?_ hdb)
  refine PySem.W.callWith_K (h₀ := X.base) I.ok.mod.kin Mm.kp (thn (h S σ hM hE W tk hW (fun vs H1 => ∀ x dx, H1 x = none → H1 dx = none → dx ≠ x → spD X.K R (.ref x :: (vs ++ dvs)) (upd (upd H1 dx (.own x)) x (.ins C dx [])) (fun v H2 => v = .non ∧ Q (.ref x) H2) (L2.WE W σ))
    (fun ds M1 S1 vs ⟨ks, h1⟩ hM1 g1 r1 x dx hx hdx ne => mk_of hM1 r1 hrd (hQ.grow g1) (hW.grow g1) h1 hx hdx ne) pos pins s I) fun us s1 ⟨vs, H1, I1, r, q⟩ => ⟨I1.kIn, ?_⟩) he hpl
  exact run_makeS (EE := L2.WE W) Mm F' (hr.mono hl) hb hd (passAt tk σ) I1 r q
theorem ge_make0 (F : MkD X.prog X.w X.K X.mg X.base j C nm dds R) (hr : Room l X.A) (hl : j + 1 ≤ l) (h : ∃ ks, ∀ x, CallOk R (ks ++ [M.length]) (.hdl x :: dds) (M ++ [(x, .ins C [] [])]) (fun d M2 => d = .non ∧ k (.hdl x) M2) kx) (hg : Gl X nm := by rfl) (hdb : (nm == ("__debug__" : Str)) = false := by decide) : GE X Γ M (.Call (.Name nm p) [] [] pos) k kx := fun S σ hM hE W tk hW Q hQ pins s I => by
  obtain ⟨f, fd, ps, dvl, dvs, Mm, hb, hd, hrd, F'⟩ := F.ex
  obtain ⟨ks, h⟩ := h
  refine wpAny_Call_Name_kw (ld_glob I hg F.gC ?_ hdb)
  exact PySem.W.callWith_K0 I.kIn Mm.kp (run_makeS (us := []) (vs := []) (EE := L2.WE W) Mm F' (hr.mono hl) hb hd (passAt tk σ) I .nil fun x dx hx hdx ne => mk_of (ds := []) hM RepL.nil hrd hQ hW h hx hdx ne)
/-- an object is not changed any more -/
theorem ge_frzI (h : GE X Γ M e (fun d M1 => ∃ (j : Nat) (a C : Addr) (fs : List Str) (ds : List D), d = .hdl a ∧ M1[j]? = some (a, MO.ins C fs ds) ∧ k (.ins C fs ds) (M1.eraseIdx j)) kx) : GE X Γ M e k kx := fun S σ hM hE W tk hW Q hQ =>
  h S σ hM hE W tk hW Q fun d M1 S1 v ⟨j, a, C, fs, ds, e, hj, hk⟩ hM1 g1 r => by
    subst e
    cases r
    obtain ⟨hz, dx, xs, hh, hf, hr⟩ := hM1.at hj
    obtain ⟨hM2, g2⟩ := frz_m hM1 hj hz hh
    have hs : (M1.eraseIdx j).Sublist (M1.set j (a, .gone)) := by
      rw [← List.eraseIdx_set_eq (l := M1) (i := j) (a := (a, MO.gone))]
      exact List.eraseIdx_sublist _ _
    obtain ⟨hM3, g3⟩ := drop_m hM2 hs
    exact hQ (.ins C fs ds) _ ⟨(M1.eraseIdx j).map (·.1), upd S1.Z a (.ins C dx xs), S1.H⟩ (.ref a) hk hM3 (g1.trans (g3 S1 g2)) ⟨a, dx, xs, rfl, upd_same, hf, (sg_mono (S := S1) (S' := ⟨(M1.eraseIdx j).map (·.1), upd S1.Z a (.ins C dx xs), S1.H⟩) (ex_new hz)).2 _ _ hr⟩
end
end PD

set_option Elab.async false
set_option linter.all false
set_option maxRecDepth 100000
set_option maxHeartbeats 4000000
/-! PD: classes as values, isinstance, in, exceptions raised. -/
namespace PD
open PySem L2
open Evl (Ex ex_rd ex_l ex_t)
theorem b_abs : bootBuiltins "abs" = some (.builtin "abs") := by decide +kernel
theorem b_all : bootBuiltins "all" = some (.builtin "all") := by decide +kernel
theorem b_any : bootBuiltins "any" = some (.builtin "any") := by decide +kernel
theorem b_sum : bootBuiltins "sum" = some (.builtin "sum") := by decide +kernel
theorem b_str : bootBuiltins "str" = some (.type "str") := by decide +kernel
theorem b_tuple : bootBuiltins "tuple" = some (.type "tuple") := by decide +kernel
theorem b_list : bootBuiltins "list" = some (.type "list") := by decide +kernel
theorem b_int : bootBuiltins "int" = some (.type "int") := by decide +kernel
theorem b_bool : bootBuiltins "bool" = some (.type "bool") := by decide +kernel
def isStrD : D → Bool | .str _ => true | _ => false
def isTupD : D → Bool | .tup _ => true | _ => false
def isLstD : D → Bool | .lst _ => true | .seq _ => true | _ => false
def isIntD : D → Bool | .int _ => true | .bl _ => true | _ => false
def isBlD : D → Bool | .bl _ => true | _ => false
def isS (s : Str) : D → Bool | .str t => decide (t = s) | _ => false
/-- its type is known -/
def kn (d : D) : Bool := (tyN d).isSome
section
variable {X : Cx} {Γ : En} {M : Ms} {e a b c o i : Expr} {es : List Expr} {k : KD} {kx : KX} {E : ED} {d x y z : D} {pos pos' apos p : Pos} {nm m : Str} {j l : Nat} {C : Addr} {T : String}
theorem ge_ty (hm : X.mg nm = none) (hv : bootBuiltins nm = some (.type T)) (hk : k (.raw (.ty T)) M) (hg : Gl X nm := by rfl) (hn : nm ≠ "__name__" := by decide) (hd : (nm == ("__debug__" : Str)) = false := by decide) : GE X Γ M (.Name nm pos) k kx := fun S σ hM hE W tk hW Q hQ =>
  of_pe (pe_bltn (v := .ty T) hg hm hv rfl hn hd) (hQ (.raw (.ty T)) M S _ hk hM (Grow.refl _) rfl)
theorem ev_ty (hm : X.mg nm = none) (hv : bootBuiltins nm = some (.type T)) (hg : Gl X nm := by rfl) (hn : nm ≠ "__name__" := by decide) (hd : (nm == ("__debug__" : Str)) = false := by decide) : EV X Γ M (.Name nm pos) (.raw (.ty T)) := ge_ty hm hv ⟨rfl, rfl⟩ hg hn hd
theorem ge_cls (hm : X.mg nm = some (.ref C)) (hk : k (.raw (.ref C)) M) (hg : Gl X nm := by rfl) (hd : (nm == ("__debug__" : Str)) = false := by decide) : GE X Γ M (.Name nm pos) k kx := fun S σ hM hE W tk hW Q hQ =>
  of_pe (pe_glob (v := .ref C) hg hm rfl hd) (hQ (.raw (.ref C)) M S _ hk hM (Grow.refl _) rfl)
theorem ev_cls (hm : X.mg nm = some (.ref C)) (hg : Gl X nm := by rfl) (hd : (nm == ("__debug__" : Str)) = false := by decide) : EV X Γ M (.Name nm pos) (.raw (.ref C)) := ge_cls hm ⟨rfl, rfl⟩ hg hd
end
section
variable {K : PySem.W.Frag} {M : Ms} {k : KD} {s : Str} {ds : List D} {d x y : D}
theorem tyN_mem {t : String} (h : tyN d = some t) : t ∈ ["NoneType", "bool", "int", "str", "tuple", "list", "dict"] := by
  cases d <;> simp [tyN] at h <;> subst h <;> decide
theorem isi_of {c : String} (g : String → Bool) (hg : ∀ t ∈ ["NoneType", "bool", "int", "str", "tuple", "list", "dict"], kitB t c = some (g t)) (h : kn d = true) {b : Bool} (hb : ∀ t, tyN d = some t → b = g t) (hk : k (.bl b) M) : CallD K (rIsi K) [d, .raw (.ty c)] M k := by
  cases e : tyN d with
  | none => simp [kn, e] at h
  | some t => exact isi_ty e (by rw [hb t e]; exact hg t (tyN_mem e)) hk
theorem isi_str (h : kn d = true) (hk : k (.bl (isStrD d)) M) : CallD K (rIsi K) [d, .raw (.ty "str")] M k := isi_of (fun t => t == "str") (by decide +kernel) h (fun t e => by cases d <;> simp [tyN] at e <;> subst e <;> rfl) hk
theorem isi_tup (h : kn d = true) (hk : k (.bl (isTupD d)) M) : CallD K (rIsi K) [d, .raw (.ty "tuple")] M k := isi_of (fun t => t == "tuple") (by decide +kernel) h (fun t e => by cases d <;> simp [tyN] at e <;> subst e <;> rfl) hk
theorem isi_lst (h : kn d = true) (hk : k (.bl (isLstD d)) M) : CallD K (rIsi K) [d, .raw (.ty "list")] M k := isi_of (fun t => t == "list") (by decide +kernel) h (fun t e => by cases d <;> simp [tyN] at e <;> subst e <;> rfl) hk
theorem isi_bool (h : kn d = true) (hk : k (.bl (isBlD d)) M) : CallD K (rIsi K) [d, .raw (.ty "bool")] M k := isi_of (fun t => t == "bool") (by decide +kernel) h (fun t e => by cases d <;> simp [tyN] at e <;> subst e <;> rfl) hk
theorem isi_int (h : kn d = true) (hk : k (.bl (isIntD d)) M) : CallD K (rIsi K) [d, .raw (.ty "int")] M k := isi_of (fun t => t == "int" || t == "bool") (by decide +kernel) h (fun t e => by cases d <;> simp [tyN] at e <;> subst e <;> rfl) hk
def strsD (ds : List D) : Bool := ds.all isStrD
theorem strs_flat {S : Sg} : ∀ {ds : List D} {xs : List V}, strsD ds = true → RepL K S ds xs → xs.all flatV = true ∧ ∀ s, inV (.str s) xs = ds.any (isS s)
  | [], xs, _, r => by have e : xs = [] := r; subst e; exact ⟨rfl, fun _ => rfl⟩
  | d :: ds, xs, h, r => by
    obtain ⟨x, q, rfl, r1, r2⟩ := r
    simp only [strsD, List.all_cons, Bool.and_eq_true] at h
    obtain ⟨a, b⟩ := strs_flat (ds := ds) h.2 r2
    cases d <;> first | (simp [isStrD] at h; done) | skip
    case str t =>
      cases r1
      refine ⟨by simp [flatV, a], fun s => ?_⟩
      have := b s
      unfold inV at this ⊢
      simp only [List.any_cons, this, isS]
      congr 1
theorem in_strs (h : strsD ds = true) (hk : k (.bl (ds.any (isS s))) M) : Bin K (rInU K) (.str s) (.tup ds) M k := bin_flat (v := .bl (ds.any (isS s))) (fun S vx vy hM rx ry Q q => by
  cases rx
  obtain ⟨a, xs, rfl, e, r⟩ := ry
  obtain ⟨h1, h2⟩ := strs_flat h r
  exact .inl ⟨a, xs, rfl, .inr (ex_t hM.zh e), rfl, h1, by rw [h2 s]; exact q⟩) hk
theorem in_strsL (h : strsD ds = true) (hk : k (.bl (ds.any (isS s))) M) : Bin K (rInU K) (.str s) (.lst ds) M k := bin_flat (v := .bl (ds.any (isS s))) (fun S vx vy hM rx ry Q q => by
  cases rx
  obtain ⟨a, xs, rfl, e, r⟩ := ry
  obtain ⟨h1, h2⟩ := strs_flat h r
  exact .inl ⟨a, xs, rfl, .inl (SqL.of (hM.zh _ _ e)), rfl, h1, by rw [h2 s]; exact q⟩) hk
theorem ni_strs (h : strsD ds = true) (hk : k (.bl (!ds.any (isS s))) M) : Bin K (rNotInU K) (.str s) (.tup ds) M k := bin_flat (v := .bl (!ds.any (isS s))) (fun S vx vy hM rx ry Q q => by
  cases rx
  obtain ⟨a, xs, rfl, e, r⟩ := ry
  obtain ⟨h1, h2⟩ := strs_flat h r
  exact .inl ⟨a, xs, rfl, .inr (ex_t hM.zh e), rfl, h1, by rw [h2 s]; exact q⟩) hk
theorem ni_strsL (h : strsD ds = true) (hk : k (.bl (!ds.any (isS s))) M) : Bin K (rNotInU K) (.str s) (.lst ds) M k := bin_flat (v := .bl (!ds.any (isS s))) (fun S vx vy hM rx ry Q q => by
  cases rx
  obtain ⟨a, xs, rfl, e, r⟩ := ry
  obtain ⟨h1, h2⟩ := strs_flat h r
  exact .inl ⟨a, xs, rfl, .inl (SqL.of (hM.zh _ _ e)), rfl, h1, by rw [h2 s]; exact q⟩) hk
theorem ni_strsH {p : Nat} {q : Addr} (hm : M[p]? = some (q, .lst ds)) (h : strsD ds = true) (hk : k (.bl (!ds.any (isS s))) M) : Bin K (rNotInU K) (.str s) (.hdl q) M k := bin_flat (v := .bl (!ds.any (isS s))) (fun S vx vy hM rx ry Q q => by
  cases rx; cases ry
  obtain ⟨_, xs, e, r⟩ := hM.at hm
  obtain ⟨h1, h2⟩ := strs_flat h r
  exact .inl ⟨_, xs, rfl, .inl (SqL.of e), rfl, h1, by rw [h2 s]; exact q⟩) hk
theorem in_strsH {p : Nat} {q : Addr} (hm : M[p]? = some (q, .lst ds)) (h : strsD ds = true) (hk : k (.bl (ds.any (isS s))) M) : Bin K (rInU K) (.str s) (.hdl q) M k := bin_flat (v := .bl (ds.any (isS s))) (fun S vx vy hM rx ry Q q => by
  cases rx; cases ry
  obtain ⟨_, xs, e, r⟩ := hM.at hm
  obtain ⟨h1, h2⟩ := strs_flat h r
  exact .inl ⟨_, xs, rfl, .inl (SqL.of e), rfl, h1, by rw [h2 s]; exact q⟩) hk
end

/-! ### slices -/
section
variable {K : PySem.W.Frag} {M : Ms}
def cutD (ds : List D) (lo hi : Option Int) : List D := (ds.drop (HT.sIx ds.length 0 lo)).take (HT.sIx ds.length ds.length hi - HT.sIx ds.length 0 lo)
theorem RepL.cut {S : Sg} {ds : List D} {xs : List V} (lo hi : Option Int) (r : RepL K S ds xs) : RepL K S (cutD ds lo hi) (cutV xs lo hi) := by
  unfold cutD cutV
  rw [r.len]
  exact (r.drop _).take _
end

/-! ### exceptions -/
/-- an exception class with an __init__ that stores its one argument under f -/
structure ExD (P : Program) (w : World) (K : PySem.W.Frag) (mg : Str → Option Value) (base : Heap) (x : Str) (C : Addr) (f : Str) : Prop where
  gC : mg x = some (.ref C)
  T : OexC K C
  no : PySem.W.findIn K (.ref C) f = some none
  ex : ∃ fI fd, PySem.W.findIn K (.ref C) "__init__" = some (some (.ref fI)) ∧ PySem.W.typeIn K (.ref fI) = some (.type "function") ∧ Binds K fd ["self", f] [] ∧
    FnOk P w K mg base (L2.CX P w) 1 fI fd ["self", f] (fun vs H Q _ => ∃ (a : Addr) (y : V), vs = [.ref a, y] ∧ H a = some (exo a C none) ∧ ∀ dx, H dx = none → dx ≠ a → Q .non (upd (upd H dx (exd dx [(f, y)])) a (exo a C (some dx))))
/-- self.f = f, as the __init__ of such a class -/
theorem ex_init {P : Program} {w : World} {K : PySem.W.Frag} {mg : Str → Option Value} {base : Heap} {C fI : Addr} {fd : FuncData} {f qual : Str} {st : Stmt} {p1 p2 p3 p4 : Pos} (F : Fun K "__init__" qual st fI fd) (sc : FnScope ["self", f] ["self", f] (defScope st)) (T : OexC K C) (no : PySem.W.findIn K (.ref C) f = some none)
    (hbd : defBody st = [.Assign [.Attribute (.Name "self" p1) f p2] (.Name f p3) p4]) (h0 : (defScope st).names.lookup ("self" : Str) = some .local) (h1 : (defScope st).names.lookup f = some .local) (hd1 : (f == ("__debug__" : Str)) = false) (hd2 : (f == ("__classdict__" : Str)) = false)
    (hs : ∀ X : Cx, swapsWith (.Name f p3) (some (.Attribute (.Name "self" p1) f p2)) p4.line X.env = pure false) :
    FnOk P w K mg base (L2.CX P w) 1 fI fd ["self", f] (fun vs H Q _ => ∃ (a : Addr) (y : V), vs = [.ref a, y] ∧ H a = some (exo a C none) ∧ ∀ dx, H dx = none → dx ≠ a → Q .non (upd (upd H dx (exd dx [(f, y)])) a (exo a C (some dx)))) := by
  refine F.okX sc (fun vs H Q E h => ?_) (fun cdv A outer s H vs Q E hr h => ?_)
  · obtain ⟨a, y, rfl, _⟩ := h
    rfl
  · obtain ⟨a, y, rfl, ha, k⟩ := h
    rw [hbd]
    refine ⟨_, pss_one (ps_ost (pe_var (i := 0) rfl (.inl h0)) (pe_var (i := 1) rfl (.inl h1) hd1 hd2) (hs _)), ?_⟩
    exact ⟨y, rfl, .ref a, rfl, a, C, rfl, T, no, .inl ⟨ha, fun dx n ne => k dx n ne⟩⟩
section
variable {X : Cx} {Γ : En} {M : Ms} {e : Expr} {E : ED} {pos pos' p p2 : Pos} {nm f : Str} {l : Nat} {C : Addr}
/-- raise C(e), C with one field -/
theorem gs_raise1 (F : ExD X.prog X.w X.K X.mg X.base nm C f) (hc : X.calm = true) (hr : Room l X.A) (hl : 2 ≤ l) (h : GE X Γ M e (fun d M1 => E.ex (.ref C) [(f, d)] Γ M1) (fun c f M1 => E.ex c f Γ M1)) (hg : Gl X nm := by rfl) (hdb : (nm == ("__debug__" : Str)) = false := by decide)
    (he : starEach [e] X.env = (false, eval e X.env) :: starEach [] X.env := by rfl) (hpl : (backTo pos (starEach [] X.env)).any (·.1) = false := by rfl) : GS X Γ M (.Raise (some (.Call (.Name nm p) [e] [] pos)) none pos') E := fun S σ hM hE W tk De L => by
  obtain ⟨fI, fd, iC, tI, hb, F1⟩ := F.ex
  refine of_ps (ps_raise hc tk (pmk_oex (ds := []) (dvs := []) F.T iC tI F1 (hr.mono hl) hb .nil passL hg F.gC (pa_cons we pa_nil he) hdb he hpl)) ?_
  refine h S σ hM hE W tk (L.kw hE) _ fun d M1 S1 v hk hM1 g1 r1 => ?_
  refine ⟨by show 1 ≤ 1000; decide, fun a ha => ⟨a, v, rfl, upd_same, fun dx hdx ne => ?_⟩⟩
  have hdx1 : S1.H dx = none := by rw [upd_ne ne] at hdx; exact hdx
  refine ⟨rfl, dx, [(f, v)], upd_same, ?_, hdx1, ?_⟩
  · rw [upd_ne ne, upd_same]
  · have hz : S1.Z dx = none := hM1.zh.none hdx1
    have hna : dx ∉ S1.as := fun m => hM1.dom dx m hdx1
    obtain ⟨a1, a2, a3, _⟩ := upd_f (o := .xd [(f, v)]) hM1 hz hna
    have eH : upd (del (upd (upd (upd S1.H a (exo a C none)) dx (exd dx [(f, v)])) a (exo a C (some dx))) a) dx (.xd [(f, v)]) = upd S1.H dx (.xd [(f, v)]) := by
      funext b
      by_cases q : b = dx
      · rw [q, upd_same, upd_same]
      · rw [upd_ne q, upd_ne q]
        by_cases q2 : b = a
        · rw [q2, del_same]; exact ha.symm
        · rw [del_ne q2, upd_ne q2, upd_ne q, upd_ne q2]
    rw [eH]
    have g2 := a2 S1 (Grow.refl _) hdx1
    exact L.ex (.ref C) [(f, d)] Γ M1 ⟨S1.as, S1.Z, upd S1.H dx (.xd [(f, v)])⟩ σ (some dx) hk a1 (g1.trans g2) (hE.grow (g1.trans g2)) ⟨[(f, v)], upd_same, rfl, .one (a3 _ _ r1)⟩
/-- an exception class without an __init__ of its own -/
structure ExP (K : PySem.W.Frag) (mg : Str → Option Value) (x : Str) (C : Addr) : Prop where
  gC : mg x = some (.ref C)
  xC : PySem.W.excIn K C [.type "ValueError", .type "Exception", .type "BaseException", .type "object"] "ValueError.__new__" = true
  kC : PySem.W.keepIn K (.ref C) = true
  sC : PySem.W.subIn K (.ref C) (.type "BaseException") = some true
  tC : PySem.W.typeIn K (.ref C) = some (.type "type")
theorem gs_raise0 {m : Str} {j : Nat} (F : ExP X.K X.mg nm C) (hc : X.calm = true) (h : E.ex (.ref C) [] Γ M) (hg : Gl X nm := by rfl) (hdb : (nm == ("__debug__" : Str)) = false := by decide) : GS X Γ M (.Raise (some (.Call (.Name nm p) [.Constant (.str m) j p2] [] pos)) none pos') E := fun S σ hM hE W tk De L =>
  of_ps (ps_raise hc tk (pmk_own PySem.F.excBase_ValueError F.xC F.gC F.kC (raises_own F.sC F.tC) hg hdb)) (L.ex (.ref C) [] Γ M S σ none h hM (Grow.refl _) hE rfl)
end
end PD

set_option Elab.async false
set_option linter.all false
set_option maxRecDepth 100000
set_option maxHeartbeats 4000000
/-! PD: more leaves. -/
namespace PD
open PySem L2
open Evl (Ex ex_rd ex_l ex_t)
section
variable {K : PySem.W.Frag} {M : Ms} {k : KD} {i : Int} {s : Str} {ds : List D} {d x y : D}
theorem ix_lstAny (h0 : 0 ≤ i) (h1 : i < ds.length) (hk : ∀ d, d ∈ ds → ds[i.toNat]? = some d → k d M) : Bin K (rIx K) (.lst ds) (.int i) M k := by
  have hl : i.toNat < ds.length := by omega
  exact ix_lst' (j := i.toNat) (d := ds[i.toNat]) (.inl ⟨h0, by omega, hl⟩) (by simp [hl]) (hk _ (List.getElem_mem hl) (by simp [hl]))
theorem ix_tupAny (h0 : 0 ≤ i) (h1 : i < ds.length) (hk : ∀ d, d ∈ ds → ds[i.toNat]? = some d → k d M) : Bin K (rIx K) (.tup ds) (.int i) M k := by
  have hl : i.toNat < ds.length := by omega
  exact ix_tup' (j := i.toNat) (d := ds[i.toNat]) (.inl ⟨h0, by omega, hl⟩) (by simp [hl]) (hk _ (List.getElem_mem hl) (by simp [hl]))
theorem ix_seqAny (h0 : 0 ≤ i) (h1 : i < ds.length) (hk : ∀ d, d ∈ ds → ds[i.toNat]? = some d → k d M) : Bin K (rIx K) (.seq ds) (.int i) M k := by
  have hl : i.toNat < ds.length := by omega
  exact ix_seq' (j := i.toNat) (d := ds[i.toNat]) (.inl ⟨h0, by omega, hl⟩) (by simp [hl]) (hk _ (List.getElem_mem hl) (by simp [hl]))
theorem ix_hdlAny {p : Nat} {q : Addr} (hm : M[p]? = some (q, .lst ds)) (h0 : 0 ≤ i) (h1 : i < ds.length) (hk : ∀ d, d ∈ ds → ds[i.toNat]? = some d → k d M) : Bin K (rIx K) (.hdl q) (.int i) M k := by
  have hl : i.toNat < ds.length := by omega
  exact ix_hdl hm (j := i.toNat) (d := ds[i.toNat]) (.inl ⟨h0, by omega, hl⟩) (by simp [hl]) (hk _ (List.getElem_mem hl) (by simp [hl]))
theorem nb300 (i : Int) (h0 : 0 ≤ i) (h1 : i < 1000000000000000000000000000000000000000000000000000000000000000000000000) : i.natAbs < 2 ^ 250 := by
  have : (1000000000000000000000000000000000000000000000000000000000000000000000000 : Int) < 2 ^ 250 := by decide
  have e : ((2 ^ 250 : Nat) : Int) = 2 ^ 250 := by decide
  omega
theorem powx {i : Int} {j b : Nat} (hi : i.natAbs < 2 ^ b) (hb : b * j ≤ 134217728) (h0 : 0 < b) : CPowX i (j : Int) := by
  refine ⟨by omega, ?_⟩
  have h := PySem.Flt.log2_lt_of h0 hi
  have e : (2 : Int) ^ 27 = 134217728 := by decide
  have q : Builtin.Int.intBits i ≤ b := by
    unfold Builtin.Int.intBits
    split <;> omega
  have q2 : Builtin.Int.intBits i * j ≤ b * j := Nat.mul_le_mul_right j q
  rw [e]
  have q3 : ((Builtin.Int.intBits i * j : Nat) : Int) ≤ 134217728 := by omega
  rw [Int.natCast_mul] at q3
  exact q3
theorem mulx {i j : Int} (h0 : 0 ≤ i) (h1 : i < 1000000000000000000000000000000000000000000000000000000000000000000000000) (h2 : 0 ≤ j) (h3 : j < 1000000000000000000000000000000000000000000000000000000000000000000000000) : CMulX i j := mulx_ok (nb300 i h0 h1) (nb300 j h2 h3) (by decide)
theorem divx {i j : Int} (h0 : 0 < j) (h1 : j < 1000000000000000000000000000000000000000000000000000000000000000000000000) : CDivW i j := wide_div (b := 250) h0 (nb300 j (by omega) h1) (by decide) (by decide)
theorem pow4 {i : Int} {n : Nat} (h0 : 0 ≤ i) (h1 : i < 1000000000000000000000000000000000000000000000000000000000000000000000000) (hn : n ≤ 100) : CPowX i (n : Int) := powx (nb300 i h0 h1) (by omega) (by decide)
theorem units65 {l : Nat} {A : Around} (hr : Room l A) : A.units + 65 < cLine := by have := hr.un; omega
end
end PD

set_option Elab.async false
set_option linter.all false
set_option maxRecDepth 100000
set_option maxHeartbeats 4000000
/-! PD: calls with keywords, slices, lists that may change compared. -/
namespace PD
open PySem L2
open Evl (Ex ex_rd ex_l ex_t)
/-- the items chosen of three lists: (0, i) of the first, (1, i) of the second, else of the third -/
def selL {α : Type} (sel : List (Nat × Nat)) (us its ws : List α) : List α := sel.filterMap fun p => (match p.1 with | 0 => us | 1 => its | _ => ws)[p.2]?
theorem vals_at {vs : List V} {us : List Value} (h : Vals vs us) (i : Nat) : (∃ v u, vs[i]? = some v ∧ us[i]? = some u ∧ RelV v u) ∨ (vs[i]? = none ∧ us[i]? = none) := by
  induction h generalizing i with
  | nil => exact .inr ⟨by simp, by simp⟩
  | cons r _ ih =>
    cases i with
    | zero => exact .inl ⟨_, _, rfl, rfl, r⟩
    | succ i => simpa using ih i
theorem vals_sel {vs ds zs : List V} {us its ws : List Value} (h1 : Vals vs us) (h2 : Vals ds its) (h3 : Vals zs ws) : ∀ sel, Vals (selL sel vs ds zs) (selL sel us its ws)
  | [] => .nil
  | (s, i) :: sel => by
    have ih := vals_sel h1 h2 h3 sel
    unfold selL at ih ⊢
    have key : ∀ {a : List V} {b : List Value}, Vals a b → Vals (a[i]?.toList ++ sel.filterMap fun p => (match p.1 with | 0 => vs | 1 => ds | _ => zs)[p.2]?) (b[i]?.toList ++ sel.filterMap fun p => (match p.1 with | 0 => us | 1 => its | _ => ws)[p.2]?) := fun {a b} h => by
      rcases vals_at h i with ⟨v, u, e1, e2, r⟩ | ⟨e1, e2⟩
      · rw [e1, e2]; exact .cons r ih
      · rw [e1, e2]; exact ih
    have red : ∀ {α : Type} (f : Nat × Nat → Option α) (p : Nat × Nat) (l : List (Nat × Nat)), (p :: l).filterMap f = (f p).toList ++ l.filterMap f := fun f p l => by
      cases e : f p <;> simp [List.filterMap_cons, e]
    rw [red, red]
    match s with
    | 0 => exact key h1
    | 1 => exact key h2
    | (n + 2) => exact key h3
theorem repl_sel {K : PySem.W.Frag} {S : Sg} {vs ds zs : List V} {us its ws : List D} (h1 : RepL K S us vs) (h2 : RepL K S its ds) (h3 : RepL K S ws zs) : ∀ sel, RepL K S (selL sel us its ws) (selL sel vs ds zs)
  | [] => RepL.nil
  | (s, i) :: sel => by
    have ih := repl_sel h1 h2 h3 sel
    unfold selL at ih ⊢
    have key : ∀ {a : List V} {b : List D}, RepL K S b a → RepL K S (b[i]?.toList ++ sel.filterMap fun p => (match p.1 with | 0 => us | 1 => its | _ => ws)[p.2]?) (a[i]?.toList ++ sel.filterMap fun p => (match p.1 with | 0 => vs | 1 => ds | _ => zs)[p.2]?) := fun {a b} h => by
      cases e : b[i]? with
      | some d =>
        obtain ⟨x, e2, r⟩ := h.get e
        rw [e2]; exact .cons r ih
      | none =>
        cases e2 : a[i]? with
        | none => exact ih
        | some x =>
          obtain ⟨d, e3, _⟩ := h.get' e2
          rw [e] at e3; cases e3
    have red : ∀ {α : Type} (f : Nat × Nat → Option α) (p : Nat × Nat) (l : List (Nat × Nat)), (p :: l).filterMap f = (f p).toList ++ l.filterMap f := fun f p l => by
      cases e : f p <;> simp [List.filterMap_cons, e]
    rw [red, red]
    match s with
    | 0 => exact key h1
    | 1 => exact key h2
    | (n + 2) => exact key h3
/-- a call with n values and the keywords ks -/
structure KwB (K : PySem.W.Frag) (fd : FuncData) (ps : List Str) (n : Nat) (ks : List Str) (sel : List (Nat × Nat)) (dds : List D) : Prop where
  ex : ∃ g gV, KBn K fd ps n ks g gV ∧ ∀ S ds es vs zs, RepL K S ds vs → RepL K S es zs → RepL K S (selL sel ds dds es) (gV vs zs)
theorem FunD.kwB {K : PySem.W.Frag} {x qual : Str} {params : Arguments} {body : List Stmt} {scope : Scope} {dvs : List V} {kws : List (Str × V)} {f : Addr} {fd : FuncData} {ps : List Str} (F : FunD K x qual params body scope dvs kws f fd) (n : Nat) (ks : List Str) (sel : List (Nat × Nat)) {dds : List D} (hd : dvs ≠ []) (hr : ∀ S, RepL K S dds dvs)
    (h : ∀ (T : Addr) (kV doc pm : Value) (an : Option Addr) (cdv ct : Value) (us its ws : List Value), us.length = n → its.length = dvs.length → ws.length = ks.length →
      ∃ k, bindArgs (PySem.W.fnOf x qual params body scope (.ref T) kV doc pm an cdv ct) ⟨us, ks.zip ws⟩ = seqItems? (.ref T) >>= k ∧ k (some its.toArray) = pure (ps.zip (selL sel us its ws))) : KwB K fd ps n ks sel dds := by
  obtain ⟨its, hk⟩ := F.kbindsD n ks (fun us its ws => selL sel us its ws) hd (fun r1 r2 r3 => vals_sel r1 r2 r3 sel) h
  exact ⟨_, _, hk, fun S ds es vs zs r1 r2 => repl_sel r1 (hr S) r2 sel⟩
theorem Fun.kwB {K : PySem.W.Frag} {x qual : Str} {st : Stmt} {f : Addr} {fd : FuncData} {ps : List Str} (F : Fun K x qual st f fd) (n : Nat) (ks : List Str) (sel : List (Nat × Nat))
    (h : ∀ (kV doc pm : Value) (an : Option Addr) (cdv ct : Value) (us ws : List Value), us.length = n → ws.length = ks.length →
      bindArgs (PySem.W.fnOf x qual (defArgs st) (defBody st) (defScope st) .none kV doc pm an cdv ct) ⟨us, ks.zip ws⟩ = pure (ps.zip (selL sel us [] ws))) : KwB K fd ps n ks sel [] := by
  obtain ⟨oc, od, kV, doc, pm, an, cdv, ct, osl, rfl, lk, hcd⟩ := F.ex
  exact ⟨_, _, ⟨fun s us ws _ l1 l2 => .of_eq (h kV doc pm an cdv ct us ws l1 l2), fun r1 r2 => vals_sel r1 .nil r2 sel⟩, fun S ds es vs zs r1 r2 => repl_sel r1 RepL.nil r2 sel⟩
structure FnK (P : Program) (w : World) (K : PySem.W.Frag) (mg : Str → Option Value) (base : Heap) (j : Nat) (x : Str) (n : Nat) (ks : List Str) (sel : List (Nat × Nat)) (dds : List D) (R : RSp) : Prop where
  ex : ∃ f fd ps, mg x = some (.ref f) ∧ PySem.W.keepIn K (.ref f) = true ∧ KwB K fd ps n ks sel dds ∧ FnOk P w K mg base (L2.CX P w) j f fd ps (spD K R)
structure MtK (P : Program) (w : World) (K : PySem.W.Frag) (mg : Str → Option Value) (base : Heap) (j : Nat) (C : Addr) (m : Str) (n : Nat) (ks : List Str) (sel : List (Nat × Nat)) (dds : List D) (R : RSp) : Prop where
  cl : Cls K C
  ex : ∃ f fd ps, Meth K C m f ∧ KwB K fd ps n ks sel dds ∧ FnOk P w K mg base (L2.CX P w) j f fd ps (spD K R)
structure MkK (P : Program) (w : World) (K : PySem.W.Frag) (mg : Str → Option Value) (base : Heap) (j : Nat) (C : Addr) (x : Str) (n : Nat) (ks : List Str) (sel : List (Nat × Nat)) (dds : List D) (R : RSp) : Prop where
  cl : Cls K C
  gC : mg x = some (.ref C)
  ex : ∃ f fd ps, Mk K C f ∧ KwB K fd ps n ks sel dds ∧ FnOk P w K mg base (L2.CX P w) j f fd ps (spD K R)
/-! ### keywords' values -/
def WK (X : Cx) (kws : List Keyword) : TA := fun σ H Q => ∀ (pos : Pos) (pins : List (Addr × Obj)) (s : Shared), Inv X pins σ H s → wpAny (model X.prog X.w) X.A (evalAll ((backToKw pos (keywordEach kws X.env)).map (·.2))) (AP X pins σ Q) X.xe s
theorem wk {X : Cx} {kws : List Keyword} : PK X kws (WK X kws) := ⟨fun pos pins s _ _ _ I h => h pos pins s I⟩
def GK (X : Cx) (Γ : En) (M : Ms) (kws : List Keyword) (k : KDs) (kx : KX) : Prop := ∀ S σ, OkM X.K S M → EnvOk X.K S σ Γ → ∀ W, Takes X W → KW X.K S kx W σ → ∀ Q, KA X.K S k Q → WK X kws σ S.H Q
section
variable {X : Cx} {Γ : En} {M : Ms} {e o : Expr} {es : List Expr} {kws : List Keyword} {ks : List Str} {sel : List (Nat × Nat)} {k : KD} {kx : KX} {E : ED} {d x y z : D} {pos apos p kpos : Pos} {nm m : Str} {j l n : Nat} {C : Addr} {dds : List D} {R : RSp} {kn : Option Str}
theorem gk_nil {k : KDs} (hk : k [] M) : GK X Γ M [] k kx := fun S σ hM hE W tk hW Q hQ pos pins s I => pk_nil.run pos pins s σ S.H Q I (hQ [] M S [] hk hM (Grow.refl _) RepL.nil)
theorem gk_cons {k : KDs} (h : GE X Γ M e (fun d M1 => GK X Γ M1 kws (fun ds M2 => k (d :: ds) M2) kx) kx) : GK X Γ M (⟨kn, e, kpos⟩ :: kws) k kx := fun S σ hM hE W tk hW Q hQ pos pins s I =>
  (pk_cons (nm := kn) (kpos := kpos) (we (X := X) (e := e)) (wk (X := X) (kws := kws))).run pos pins s σ S.H Q I (h S σ hM hE W tk hW _ fun d M1 S1 v h1 hM1 g1 r1 => h1 S1 σ hM1 (hE.grow g1) W tk (hW.grow g1) _ fun ds M2 S2 vs h2 hM2 g2 r2 =>
    hQ (d :: ds) M2 S2 (v :: vs) h2 hM2 (g1.trans g2) (.cons (r1.grow g2) r2))
theorem gk_of_ga {k : KDs} (v : EV X Γ M e d) (h : GK X Γ M kws (fun ds M2 => k (d :: ds) M2) kx) : GK X Γ M (⟨kn, e, kpos⟩ :: kws) k kx := gk_cons (v.ge h)
theorem run_fnNS {pins : List (Addr × Obj)} {σ : L2.St} {H : Hp} {s : Shared} {Q : VK} {us ws : List Value} {vs zs : List V} {f : Addr} {fd : FuncData} {ps : List Str} {sp : Sp} {CX : CXT} {kk : Nat} {EE : L2.St → XK} {g : List Value → List Value → List Value} {gV : List V → List V → List V} (F : FnOk X.prog X.w X.K X.mg X.base CX kk f fd ps sp) (hr : Room kk X.A) (hb : KBn X.K fd ps n ks g gV) (hx : PassesAt CX X σ (EE σ))
    (I : L2.Inv X pins σ H s) (r : Vals vs us) (rz : Vals zs ws) (l1 : vs.length = n) (l2 : zs.length = ks.length) (h : sp (gV vs zs) H Q (EE σ)) : wpAny (model X.prog X.w) X.A (call (.ref f) us (ks.zip ws)) (EP X pins σ Q) X.xe s :=
  wpAny_call (codeAny_mono (F.run _ X.stack s H _ (g us ws) _ Q _ hr I.env0 (hb.to s us ws I.kIn (by rw [← l1, r.length]) (by rw [← l2, rz.length])) (hb.rel r rz) h) (ends_of hx I))
theorem run_makeNS {pins : List (Addr × Obj)} {σ : L2.St} {H : Hp} {s : Shared} {Q : VK} {us ws : List Value} {vs zs : List V} {f : Addr} {fd : FuncData} {ps : List Str} {sp : Sp} {CX : CXT} {kk : Nat} {EE : L2.St → XK} {g : List Value → List Value → List Value} {gV : List V → List V → List V} (Mm : Mk X.K C f) (F : FnOk X.prog X.w X.K X.mg X.base CX kk f fd ps sp) (hr : Room (kk + 1) X.A) (hb : KBn X.K fd ps (n + 1) ks g gV)
    (hx : PassesAt CX X σ (EE σ)) (I : L2.Inv X pins σ H s) (r : Vals vs us) (rz : Vals zs ws) (l1 : vs.length = n) (l2 : zs.length = ks.length) (h : ∀ x dx, H x = none → H dx = none → dx ≠ x → sp (gV (.ref x :: vs) zs) (upd (upd H dx (.own x)) x (.ins C dx [])) (fun v H2 => v = .non ∧ Q (.ref x) H2) (EE σ)) :
    wpAny (model X.prog X.w) X.A (call (.ref C) us (ks.zip ws)) (EP X pins σ Q) X.xe s :=
  have self : Vals (.ref (s.heap.objs.size + 1) :: vs) (.ref (s.heap.objs.size + 1) :: us) := .cons rfl r
  maker Mm F hr hx I (fun t kin => hb.to t _ ws kin (by rw [← self.length, List.length_cons, l1]) (by rw [← l2, rz.length])) (hb.rel self rz) (fresh_two I h)
/-- what both kinds of argument leave -/
def Got (R : RSp) (sel : List (Nat × Nat)) (dds : List D) (n m : Nat) (ds zs : List D) (M : Ms) (k : KD) (kx : KX) : Prop := ds.length = n ∧ zs.length = m ∧ ∃ ks, CallOk R ks (selL sel ds dds zs) M k kx
/-- f(e, .., k = v, ..) -/
theorem ge_callK (F : FnK X.prog X.w X.K X.mg X.base j nm n ks sel dds R) (hr : Room l X.A) (hl : j ≤ l) (h : GA X Γ M (e :: es) (fun ds M1 => GK X Γ M1 kws (fun zs M2 => Got R sel dds n ks.length ds zs M2 k kx) kx) kx) (hall : (backToKw pos (keywordEach kws X.env)).all (·.1.isSome) = true := by rfl) (hks : (backToKw pos (keywordEach kws X.env)).filterMap (·.1) = ks := by rfl) (hg : Gl X nm := by rfl)
    (hdb : (nm == ("__debug__" : Str)) = false := by decide) (he : starEach (e :: es) X.env = (false, eval e X.env) :: starEach es X.env := by rfl) (hpl : ((backTo pos (starEach (e :: es) X.env)).any (·.1) || (backToKw pos (keywordEach kws X.env)).any (·.1.isNone)) = false := by rfl) : GE X Γ M (.Call (.Name nm p) (e :: es) kws pos) k kx := fun S σ hM hE W tk hW Q hQ pins s I => by
  obtain ⟨f, fd, ps, hm, hk, ⟨g, gV, hb, hrep⟩, F⟩ := F.ex
  refine wpAny_Call_Name_kw (ld_glob I hg hm ?_ hdb)
  refine PySem.W.callWith_KW (h₀ := X.base) I.ok.mod.kin hk hall (thn (h S σ hM hE W tk hW (fun vs H1 => WK X kws σ H1 fun zs H2 => vs.length = n ∧ zs.length = ks.length ∧ spD X.K R (gV vs zs) H2 Q (L2.WE W σ)) (fun ds M1 S1 vs h1 hM1 g1 r1 =>
    h1 S1 σ hM1 (hE.grow g1) W tk (hW.grow g1) _ fun zs M2 S2 ws ⟨q1, q2, kk, q3⟩ hM2 g2 r2 => ⟨r1.len.trans q1, r2.len.trans q2, sp_of hM2 (hrep S2 _ _ _ _ (r1.grow g2) r2) q3 ((hQ.grow g1).grow g2) ((hW.grow g1).grow g2)⟩) pos pins s I) fun us s1 ⟨vs, H1, I1, r, q⟩ => ?_) hpl he
  refine thn (q pos pins s1 I1) fun ws s2 ⟨zs, H2, I2, rz, l1, l2, q2⟩ => ⟨I2.kIn, ?_⟩
  rw [hks]
  exact run_fnNS (EE := L2.WE W) F (hr.mono hl) hb (passAt tk σ) I2 r rz l1 l2 q2
/-- C(e, .., k = v, ..) -/
theorem ge_makeK (F : MkK X.prog X.w X.K X.mg X.base j C nm (n + 1) ks sel dds R) (hr : Room l X.A) (hl : j + 1 ≤ l) (h : GA X Γ M (e :: es) (fun ds M1 => GK X Γ M1 kws (fun zs M2 => ds.length = n ∧ zs.length = ks.length ∧ ∃ kk, ∀ x, CallOk R (kk ++ [M2.length]) (selL sel (.hdl x :: ds) dds zs) (M2 ++ [(x, .ins C [] [])]) (fun d M3 => d = .non ∧ k (.hdl x) M3) kx) kx) kx)
    (hall : (backToKw pos (keywordEach kws X.env)).all (·.1.isSome) = true := by rfl) (hks : (backToKw pos (keywordEach kws X.env)).filterMap (·.1) = ks := by rfl) (hg : Gl X nm := by rfl)
    (hdb : (nm == ("__debug__" : Str)) = false := by decide) (he : starEach (e :: es) X.env = (false, eval e X.env) :: starEach es X.env := by rfl) (hpl : ((backTo pos (starEach (e :: es) X.env)).any (·.1) || (backToKw pos (keywordEach kws X.env)).any (·.1.isNone)) = false := by rfl) : GE X Γ M (.Call (.Name nm p) (e :: es) kws pos) k kx := fun S σ hM hE W tk hW Q hQ pins s I => by
  obtain ⟨f, fd, ps, Mm, ⟨g, gV, hb, hrep⟩, F'⟩ := F.ex
  refine wpAny_Call_Name_kw (ld_glob I hg F.gC ?_ hdb)
  refine PySem.W.callWith_KW (h₀ := X.base) I.ok.mod.kin Mm.kp hall (thn (h S σ hM hE W tk hW (fun vs H1 => WK X kws σ H1 fun zs H2 => vs.length = n ∧ zs.length = ks.length ∧ ∀ x dx, H2 x = none → H2 dx = none → dx ≠ x → spD X.K R (gV (.ref x :: vs) zs) (upd (upd H2 dx (.own x)) x (.ins C dx [])) (fun v H3 => v = .non ∧ Q (.ref x) H3) (L2.WE W σ)) (fun ds M1 S1 vs h1 hM1 g1 r1 =>
    h1 S1 σ hM1 (hE.grow g1) W tk (hW.grow g1) _ fun zs M2 S2 ws ⟨q1, q2, kk, q3⟩ hM2 g2 r2 => ⟨r1.len.trans q1, r2.len.trans q2, fun x dx hx hdx ne => by
      obtain ⟨a, gg⟩ := new_ins (C := C) hM2 hx hdx ne
      refine sp_of (S' := ⟨S2.as ++ [x], S2.Z, upd (upd S2.H dx (.own x)) x (.ins C dx [])⟩) a (hrep _ _ _ _ _ (RepL.cons (d := .hdl x) rfl ((r1.grow g2).grow gg)) (r2.grow gg)) (q3 x) (fun d M' S' v ⟨e, hk⟩ hM' g' r => ?_) (((hW.grow g1).grow g2).grow gg)
      subst e
      exact ⟨r, hQ (.hdl x) M' S' (.ref x) hk hM' (((g1.trans g2).trans gg).trans g') rfl⟩⟩) pos pins s I) fun us s1 ⟨vs, H1, I1, r, q⟩ => ?_) hpl he
  refine thn (q pos pins s1 I1) fun ws s2 ⟨zs, H2, I2, rz, l1, l2, q2⟩ => ⟨I2.kIn, ?_⟩
  rw [hks]
  exact run_makeNS (EE := L2.WE W) Mm F' (hr.mono hl) hb (passAt tk σ) I2 r rz l1 l2 q2
/-- C(k = v, ..) -/
theorem ge_makeK0 (F : MkK X.prog X.w X.K X.mg X.base j C nm 1 ks sel dds R) (hr : Room l X.A) (hl : j + 1 ≤ l) (h : GK X Γ M kws (fun zs M2 => zs.length = ks.length ∧ ∃ kk, ∀ x, CallOk R (kk ++ [M2.length]) (selL sel [.hdl x] dds zs) (M2 ++ [(x, .ins C [] [])]) (fun d M3 => d = .non ∧ k (.hdl x) M3) kx) kx)
    (hall : (backToKw pos (keywordEach kws X.env)).all (·.1.isSome) = true := by rfl) (hks : (backToKw pos (keywordEach kws X.env)).filterMap (·.1) = ks := by rfl) (hg : Gl X nm := by rfl)
    (hdb : (nm == ("__debug__" : Str)) = false := by decide) (hpl : ((backTo pos (starEach [] X.env)).any (·.1) || (backToKw pos (keywordEach kws X.env)).any (·.1.isNone)) = false := by rfl) : GE X Γ M (.Call (.Name nm p) [] kws pos) k kx := fun S σ hM hE W tk hW Q hQ pins s I => by
  obtain ⟨f, fd, ps, Mm, ⟨g, gV, hb, hrep⟩, F'⟩ := F.ex
  refine wpAny_Call_Name_kw (ld_glob I hg F.gC ?_ hdb)
  refine PySem.W.callWith_KW0 (h₀ := X.base) I.ok.mod.kin Mm.kp hall ?_ hpl
  refine thn (h S σ hM hE W tk hW (fun zs H2 => zs.length = ks.length ∧ ∀ x dx, H2 x = none → H2 dx = none → dx ≠ x → spD X.K R (gV (.ref x :: []) zs) (upd (upd H2 dx (.own x)) x (.ins C dx [])) (fun v H3 => v = .non ∧ Q (.ref x) H3) (L2.WE W σ)) (fun zs M2 S2 ws ⟨q2, kk, q3⟩ hM2 g2 r2 => ⟨r2.len.trans q2, fun x dx hx hdx ne => by
      obtain ⟨a, gg⟩ := new_ins (C := C) hM2 hx hdx ne
      refine sp_of (S' := ⟨S2.as ++ [x], S2.Z, upd (upd S2.H dx (.own x)) x (.ins C dx [])⟩) a (hrep _ _ _ _ _ (RepL.cons (d := .hdl x) rfl RepL.nil) (r2.grow gg)) (q3 x) (fun d M' S' v ⟨e, hk⟩ hM' g' r => ?_) ((hW.grow g2).grow gg)
      subst e
      exact ⟨r, hQ (.hdl x) M' S' (.ref x) hk hM' ((g2.trans gg).trans g') rfl⟩⟩) pos pins s I) fun ws s2 ⟨zs, H2, I2, rz, l2, q2⟩ => ⟨I2.kIn, ?_⟩
  rw [hks]
  exact run_makeNS (us := []) (vs := []) (EE := L2.WE W) Mm F' (hr.mono hl) hb (passAt tk σ) I2 .nil rz rfl l2 q2
/-- o.m(e, .., k = v, ..) -/
theorem ge_methK {pl : Sem Bool} (F : MtK X.prog X.w X.K X.mg X.base j C m (n + 1) ks sel dds R) (hr : Room l X.A) (hl : j ≤ l)
    (h : GE X Γ M o (fun d M1 => ∃ fs ds0, ObjD M1 d C fs ds0 ∧ m ∉ fs ∧ GA X Γ M1 (e :: es) (fun ds M2 => GK X Γ M2 kws (fun zs M3 => ds.length = n ∧ zs.length = ks.length ∧ ∃ kk, CallOk R kk (selL sel (d :: ds) dds zs) M3 k kx) kx) kx) kx)
    (hall : (backToKw pos (keywordEach kws X.env)).all (·.1.isSome) = true := by rfl) (hks : (backToKw pos (keywordEach kws X.env)).filterMap (·.1) = ks := by rfl)
    (hst : starEach (e :: es) X.env = (false, eval e X.env) :: starEach es X.env := by rfl) (hpl : ((backTo pos (starEach (e :: es) X.env)).any (·.1) || (backToKw pos (keywordEach kws X.env)).any (·.1.isNone)) = false := by rfl)
    (ht : eval (.Call (.Attribute o m apos) (e :: es) kws pos) X.env = (do
      let ov ← eval o X.env
      standAt apos.atName
      let (f, first) ← holding [ov] (getMethod ov m pl)
      callWith pos f first (backTo pos (starEach (e :: es) X.env)) (backToKw pos (keywordEach kws X.env))) := by rfl) : GE X Γ M (.Call (.Attribute o m apos) (e :: es) kws pos) k kx := fun S σ hM hE W tk hW Q hQ pins s I => by
  obtain ⟨f, fd, ps, hm, ⟨g, gV, hb, hrep⟩, F'⟩ := F.ex
  refine PySem.W.methodCall_KW (pl := pl) (thn (h S σ hM hE W tk hW (fun x H1 => ∃ a dx fs, x = .ref a ∧ H1 a = some (.ins C dx fs) ∧ fs.lookup m = none ∧ WA X (e :: es) σ H1 fun vs H2 => WK X kws σ H2 fun zs H3 => vs.length = n ∧ zs.length = ks.length ∧ spD X.K R (gV (x :: vs) zs) H3 Q (L2.WE W σ)) (fun d M1 S1 v ⟨fs, ds0, ob, nf, h1⟩ hM1 g1 r1 => by
    obtain ⟨a, dx, kvs, rfl, hh, hf, hrr⟩ := ob.at hM1 r1
    refine ⟨a, dx, kvs, rfl, hh, lookup_no (by rw [hf]; exact nf), ?_⟩
    refine h1 S1 σ hM1 (hE.grow g1) W tk (hW.grow g1) _ fun ds M2 S2 vs h2 hM2 g2 r2 => h2 S2 σ hM2 ((hE.grow g1).grow g2) W tk ((hW.grow g1).grow g2) _ fun zs M3 S3 ws ⟨q1, q2, kk, q3⟩ hM3 g3 r3 => ⟨r2.len.trans q1, r3.len.trans q2, ?_⟩
    exact sp_of hM3 (hrep S3 _ _ _ _ (.cons ((r1.grow g2).grow g3) (r2.grow g3)) r3) q3 (((hQ.grow g1).grow g2).grow g3) (((hW.grow g1).grow g2).grow g3)) pins s I) fun u s1 ⟨x, H1, I1, rx, a, dx, fs, ex, ea, l, q⟩ => ?_) ht
  subst ex
  obtain rfl : u = Value.ref a := rx
  refine getmeth_ok I1 ea F.cl hm l ?_
  refine PySem.W.callWith_KW (first := [.ref a]) (h₀ := X.base) I.ok.mod.kin hm.kp hall (thn (q pos pins s1 I1) fun us s2 ⟨vs, H2, I2, r, q2⟩ => ?_) hpl hst
  refine thn (q2 pos pins s2 I2) fun ws s3 ⟨zs, H3, I3, rz, l1, l2, q3⟩ => ⟨I3.kIn, ?_⟩
  rw [hks]
  exact run_fnNS (us := .ref a :: us) (vs := .ref a :: vs) (EE := L2.WE W) F' (hr.mono hl) hb (passAt tk σ) I3 (.cons rfl r) rz (congrArg Nat.succ l1) l2 q3
/-- o.m(k = v, ..) -/
theorem ge_methK0 {pl : Sem Bool} (F : MtK X.prog X.w X.K X.mg X.base j C m 1 ks sel dds R) (hr : Room l X.A) (hl : j ≤ l)
    (h : GE X Γ M o (fun d M1 => ∃ fs ds0, ObjD M1 d C fs ds0 ∧ m ∉ fs ∧ GK X Γ M1 kws (fun zs M3 => zs.length = ks.length ∧ ∃ kk, CallOk R kk (selL sel [d] dds zs) M3 k kx) kx) kx)
    (hall : (backToKw pos (keywordEach kws X.env)).all (·.1.isSome) = true := by rfl) (hks : (backToKw pos (keywordEach kws X.env)).filterMap (·.1) = ks := by rfl)
    (hpl : ((backTo pos (starEach [] X.env)).any (·.1) || (backToKw pos (keywordEach kws X.env)).any (·.1.isNone)) = false := by rfl)
    (ht : eval (.Call (.Attribute o m apos) [] kws pos) X.env = (do
      let ov ← eval o X.env
      standAt apos.atName
      let (f, first) ← holding [ov] (getMethod ov m pl)
      callWith pos f first (backTo pos (starEach [] X.env)) (backToKw pos (keywordEach kws X.env))) := by rfl) : GE X Γ M (.Call (.Attribute o m apos) [] kws pos) k kx := fun S σ hM hE W tk hW Q hQ pins s I => by
  obtain ⟨f, fd, ps, hm, ⟨g, gV, hb, hrep⟩, F'⟩ := F.ex
  refine PySem.W.methodCall_KW (pl := pl) (thn (h S σ hM hE W tk hW (fun x H1 => ∃ a dx fs, x = .ref a ∧ H1 a = some (.ins C dx fs) ∧ fs.lookup m = none ∧ WK X kws σ H1 fun zs H3 => zs.length = ks.length ∧ spD X.K R (gV [x] zs) H3 Q (L2.WE W σ)) (fun d M1 S1 v ⟨fs, ds0, ob, nf, h1⟩ hM1 g1 r1 => by
    obtain ⟨a, dx, kvs, rfl, hh, hf, hrr⟩ := ob.at hM1 r1
    refine ⟨a, dx, kvs, rfl, hh, lookup_no (by rw [hf]; exact nf), ?_⟩
    refine h1 S1 σ hM1 (hE.grow g1) W tk (hW.grow g1) _ fun zs M3 S3 ws ⟨q2, kk, q3⟩ hM3 g3 r3 => ⟨r3.len.trans q2, ?_⟩
    exact sp_of hM3 (hrep S3 _ _ _ _ (.cons (r1.grow g3) RepL.nil) r3) q3 ((hQ.grow g1).grow g3) ((hW.grow g1).grow g3)) pins s I) fun u s1 ⟨x, H1, I1, rx, a, dx, fs, ex, ea, l, q⟩ => ?_) ht
  subst ex
  obtain rfl : u = Value.ref a := rx
  refine getmeth_ok I1 ea F.cl hm l ?_
  refine PySem.W.callWith_KW0 (first := [.ref a]) (h₀ := X.base) I.ok.mod.kin hm.kp hall ?_ hpl
  refine thn (q pos pins s1 I1) fun ws s3 ⟨zs, H3, I3, rz, l2, q3⟩ => ⟨I3.kIn, ?_⟩
  rw [hks]
  exact run_fnNS (us := [.ref a]) (vs := [.ref a]) (EE := L2.WE W) F' (hr.mono hl) hb (passAt tk σ) I3 (.cons rfl .nil) rz rfl l2 q3
end
/-! ### a def with defaults -/
theorem fn_okD {P : Program} {w : World} {K : PySem.W.Frag} {mg : Str → Option Value} {base : Heap} {x qual : Str} {params : Arguments} {body : List Stmt} {scope : Scope} {dvs : List V} {kws : List (Str × V)} {f : Addr} {fd : FuncData} {N ps : List Str} {j : Nat} {R : RSp} (F : FunD K x qual params body scope dvs kws f fd) (sc : FnScope N ps scope)
    (len : ∀ ds M k kx, R ds M k kx → ds.length = ps.length)
    (hb : ∀ (cdv : Value) (A : Around) (outer : List Env) (s : Shared) (H : Hp) (E : XK) (ds : List D) (M : Ms) (k : KD) (kx : KX), Room j (A.deeper (PyProof.Rows.envOfC qual scope s.heap.objs.size f cdv)) → R ds M k kx →
      GB (cxOf (L2.CX P w) P w K mg base N qual scope f cdv A outer s H E) (ds.map some ++ List.replicate (N.length - ds.length) none) M body { nx := fun _ M' => k .non M', rt := k, ex := fun c f _ M' => kx c f M' }) :
    FnOk P w K mg base (L2.CX P w) (j + 1) f fd ps (spD K R) := by
  refine FunD.ok F sc (fun vs H Q E ⟨S, ds, M, k, kx, _, _, r, h, _, _⟩ => by rw [r.len]; exact len _ _ _ _ h) fun cdv A outer s H vs Q E hr ⟨S, ds, M, k, kx, e, hM, r, h, hk, hx⟩ => ?_
  subst e
  refine ⟨WB _ body, wb, ?_⟩
  have hl := r.len
  have g := hb cdv A outer s S.H E ds M k kx hr h
  refine g S (start N vs) hM ⟨?_, fun i d hi => ?_⟩ (fun cls d _ H' => E cls d H') (takes_of rfl rfl rfl rfl) _ ⟨fun Γ' M' S' σ' a hM' g' hE' => hk .non M' S' .non a hM' g' rfl, hk, fun _ _ _ _ z => z.elim, fun _ _ _ _ z => z.elim, fun cls fs Γ' M' S' σ' dd a hM' g' hE' xr => hx cls fs M' S' dd a hM' g' xr⟩
  · simp [L2.start, hl]
  · have hi2 : i < ds.length := by
      by_cases q : i < ds.length
      · exact q
      · rw [List.getElem?_append_right (by simp; omega)] at hi
        have := List.getElem?_eq_some_iff.mp hi
        obtain ⟨_, h2⟩ := this
        simp at h2
    rw [List.getElem?_append_left (by simpa using hi2)] at hi
    have hd : ds[i]? = some d := by
      rw [List.getElem?_map] at hi
      cases e : ds[i]? with
      | none => rw [e] at hi; cases hi
      | some z => rw [e] at hi; simp at hi; rw [hi]
    obtain ⟨v, h1, h2⟩ := r.get hd
    refine ⟨v, ?_, h2⟩
    unfold L2.start
    rw [List.getElem?_append_left (by simp; rw [hl]; exact hi2), List.getElem?_map, h1]; rfl
/-! ### slices -/
def WO (X : Cx) (e : Option Expr) : TO := fun σ H Q => ∀ (pins : List (Addr × Obj)) (s : Shared), Inv X pins σ H s → wpAny (model X.prog X.w) X.A (evalPart e X.env) (fun u s' => ∃ o H', Inv X pins σ H' s' ∧ IsPart u o ∧ Q o H') X.xe s
theorem wo {X : Cx} {e : Option Expr} : PO X e (WO X e) := ⟨fun pins s _ _ _ I h => h pins s I⟩
def GO (X : Cx) (Γ : En) (M : Ms) (e : Option Expr) (k : Option Int → Ms → Prop) (kx : KX) : Prop := ∀ S σ, OkM X.K S M → EnvOk X.K S σ Γ → ∀ W, Takes X W → KW X.K S kx W σ → ∀ Q : Option Int → Hp → Prop, (∀ o M' S', k o M' → OkM X.K S' M' → Grow S S' → Q o S'.H) → WO X e σ S.H Q
def Sl (K : PySem.W.Frag) (r : V → Option Int → Option Int → Hp → VK → Prop) (x : D) (lo hi : Option Int) (M : Ms) (k : KD) : Prop := ∀ S vx, OkM K S M → Rep K S x vx → ∀ Q, KV K S k Q → r vx lo hi S.H Q
section
variable {X : Cx} {Γ : En} {M : Ms} {e : Expr} {lo hi : Option Expr} {k : KD} {kx : KX} {pos p2 : Pos} {r : V → Option Int → Option Int → Hp → VK → Prop}
theorem go_none {k : Option Int → Ms → Prop} (h : k none M) : GO X Γ M none k kx := fun S σ hM hE W tk hW Q hQ pins s I => po_none.run pins s σ S.H Q I (hQ none M S h hM (Grow.refl _))
theorem go_some {k : Option Int → Ms → Prop} (h : GE X Γ M e (fun d M1 => ∃ i, d = .int i ∧ k (some i) M1) kx) : GO X Γ M (some e) k kx := fun S σ hM hE W tk hW Q hQ pins s I =>
  (po_some (we (X := X) (e := e))).run pins s σ S.H Q I (h S σ hM hE W tk hW _ fun d M1 S1 v ⟨i, e1, h1⟩ hM1 g1 r1 => by
    subst e1; cases r1
    exact ⟨i, rfl, hQ (some i) M1 S1 h1 hM1 g1⟩)
theorem ge_slice (hr : SlR X r) (h : GE X Γ M e (fun x M1 => GO X Γ M1 lo (fun l M2 => GO X Γ M2 hi (fun u M3 => Sl X.K r x l u M3 k) kx) kx) kx) : GE X Γ M (.Subscript e (.Slice lo hi none p2) pos) k kx := fun S σ hM hE W tk hW Q hQ =>
  of_pe (pe_slice hr we wo wo) (h S σ hM hE W tk hW _ fun x M1 S1 vx h1 hM1 g1 r1 => h1 S1 σ hM1 (hE.grow g1) W tk (hW.grow g1) _ fun l M2 S2 h2 hM2 g2 => h2 S2 σ hM2 ((hE.grow g1).grow g2) W tk ((hW.grow g1).grow g2) _ fun u M3 S3 h3 hM3 g3 =>
    h3 S3 vx hM3 ((r1.grow g2).grow g3) Q (((hQ.grow g1).grow g2).grow g3))
end
section
variable {K : PySem.W.Frag} {M : Ms} {k : KD} {ds : List D} {lo hi : Option Int}
theorem cutD_all (h : HT.sIx ds.length 0 lo = 0 ∧ HT.sIx ds.length ds.length hi = ds.length) : cutD ds lo hi = ds := by
  unfold cutD
  rw [h.1, h.2]
  simp
theorem sl_tupD (hk : k (.tup (cutD ds lo hi)) M) : Sl K (rSlA K) (.tup ds) lo hi M k := fun S vx hM rx Q hQ => by
  obtain ⟨a, xs, rfl, h1, r1⟩ := rx
  refine ⟨a, xs, rfl, ex_t hM.zh h1, fun q => ?_, fun _ p hp => ?_⟩
  · have e : cutD ds lo hi = ds := cutD_all (by rw [← r1.len]; exact q)
    rw [e] at hk
    exact hQ _ M S _ hk hM (Grow.refl _) ⟨a, xs, rfl, h1, r1⟩
  · obtain ⟨a1, g1⟩ := new_z (o := .tup (cutV xs lo hi)) hM hp
    exact hQ _ M _ (.ref p) hk a1 g1 ⟨p, _, rfl, .inl (.inl upd_same), (r1.grow g1).cut lo hi⟩
theorem sl_lstD (hk : k (.lst (cutD ds lo hi)) M) : Sl K (rSlL K) (.lst ds) lo hi M k := fun S vx hM rx Q hQ => by
  obtain ⟨a, xs, rfl, h1, r1⟩ := rx
  refine ⟨a, xs, rfl, SqL.of (hM.zh _ _ h1), fun p hp => ?_⟩
  obtain ⟨a1, g1⟩ := new_z (o := .lst (cutV xs lo hi)) hM hp
  exact hQ _ M _ (.ref p) hk a1 g1 ⟨p, _, rfl, upd_same, (r1.grow g1).cut lo hi⟩
theorem sl_hdlD {p : Nat} {h : Addr} (hm : M[p]? = some (h, .lst ds)) (hk : k (.lst (cutD ds lo hi)) M) : Sl K (rSlL K) (.hdl h) lo hi M k := fun S vx hM rx Q hQ => by
  cases rx
  obtain ⟨_, xs, h1, r1⟩ := hM.at hm
  refine ⟨h, xs, rfl, SqL.of h1, fun p hp => ?_⟩
  obtain ⟨a1, g1⟩ := new_z (o := .lst (cutV xs lo hi)) hM hp
  exact hQ _ M _ (.ref p) hk a1 g1 ⟨p, _, rfl, upd_same, (r1.grow g1).cut lo hi⟩
theorem sl_strD {s : Str} (hl : s.length ≤ 16777216) (hk : k (.str (cutS s lo hi)) M) : Sl K rSlS (.str s) lo hi M k := fun S vx hM rx Q hQ => by
  cases rx
  exact ⟨s, rfl, hl, hQ _ M S _ hk hM (Grow.refl _) rfl⟩
/-- a list that may change, compared -/
theorem dp_hdl {S : Sg} {n p : Nat} {h : Addr} (hM : OkM K S M) (hm : M[p]? = some (h, .lst ds)) (hs : sm n (.lst ds) = true) : Dp K S.H (.ref h) (py (.lst ds)) := by
  obtain ⟨hz, xs, hh, hr⟩ := hM.at hm
  obtain ⟨hM2, g2⟩ := frz_m hM hm hz hh
  exact dp_of (S := ⟨S.as, upd S.Z h (.lst xs), S.H⟩) hM2 hs ⟨h, xs, rfl, upd_same, hr.grow g2⟩
theorem ne_hdl {n m p : Nat} {h : Addr} {y : D} (hm : M[p]? = some (h, .lst ds)) (hx : sm n (.lst ds) = true) (hy : sm m y = true) (hk : k (.bl (!PyData.eqv (py (.lst ds)) (py y))) M) (hn : n ≤ 64 := by decide) (hmm : m ≤ 64 := by decide) : Bin K (rNeU K) (.hdl h) y M k :=
  bin_flat (v := .bl (!PyData.eqv (py (.lst ds)) (py y))) (fun S vx vy hM rx ry Q q => by cases rx; exact .inr ⟨_, _, dp_hdl hM hm hx, dp_of hM hy ry, shaped_of hx hn, shaped_of hy hmm, q⟩) hk
theorem eq_hdl {n m p : Nat} {h : Addr} {y : D} (hm : M[p]? = some (h, .lst ds)) (hx : sm n (.lst ds) = true) (hy : sm m y = true) (hk : k (.bl (PyData.eqv (py (.lst ds)) (py y))) M) (hn : n ≤ 64 := by decide) (hmm : m ≤ 64 := by decide) : Bin K (rEqU K) (.hdl h) y M k :=
  bin_flat (v := .bl (PyData.eqv (py (.lst ds)) (py y))) (fun S vx vy hM rx ry Q q => by cases rx; exact .inr ⟨_, _, dp_hdl hM hm hx, dp_of hM hy ry, shaped_of hx hn, shaped_of hy hmm, q⟩) hk
end
end PD

set_option Elab.async false
set_option linter.all false
set_option maxRecDepth 100000
set_option maxHeartbeats 4000000
/-! PD: methods of built-in values. -/
namespace PD
open PySem L2
open Evl (Ex ex_rd ex_l ex_t)
def BmD (K : PySem.W.Frag) (r : V → List V → Hp → VK → Prop) (x : D) (ds : List D) (M : Ms) (k : KD) : Prop := ∀ S vx vs, OkM K S M → Rep K S x vx → RepL K S ds vs → ∀ Q, KV K S k Q → r vx vs S.H Q
def TyD (K : PySem.W.Frag) (T : String) (x : D) (M : Ms) : Prop := ∀ S v, OkM K S M → Rep K S x v → tyV K T v S.H
section
variable {X : Cx} {Γ : En} {M : Ms} {e o : Expr} {es : List Expr} {k : KD} {kx : KX} {d x y z : D} {pos apos p cpos : Pos} {T id : String} {name : Str} {r : V → List V → Hp → VK → Prop}
theorem ge_bm (pa : PlainAttrs T) (slot : Slot T name id) (hty : typeOf (.builtin id) = pure (.type "method_descriptor")) (hm : MtR X id r) (h : GE X Γ M o (fun x M1 => TyD X.K T x M1 ∧ GA X Γ M1 (e :: es) (fun ds M2 => BmD X.K r x ds M2 k) kx) kx)
    (hbase : attributeBase o name X.env (eval o X.env) = eval o X.env := by rfl)
    (hfew : ((backTo cpos (starEach (e :: es) X.env)).all (fun x => !x.1) && (backToKw cpos (keywordEach [] X.env)).all (fun x => x.1.isSome)
      && decide ((e :: es).length + ([] : List Keyword).length + (if ([] : List Keyword).isEmpty then 0 else 1) < 30)) = true := by rfl)
    (hline : (apos.endLine == cpos.line) = true := by rfl) (hs : starEach (e :: es) X.env = (false, eval e X.env) :: starEach es X.env := by rfl) (hplain : (backTo cpos (starEach es X.env)).any (·.1) = false := by rfl) :
    GE X Γ M (.Call (.Attribute o name apos) (e :: es) [] cpos) k kx := fun S σ hM hE W tk hW Q hQ =>
  of_pe (pe_bm pa slot hty hm we wa hbase hfew hline hs hplain) (h S σ hM hE W tk hW _ fun x M1 S1 vx ⟨ty, h1⟩ hM1 g1 rx => ⟨ty S1 vx hM1 rx, h1 S1 σ hM1 (hE.grow g1) W tk (hW.grow g1) _ fun ds M2 S2 vs h2 hM2 g2 r2 =>
    h2 S2 vx vs hM2 (rx.grow g2) r2 Q ((hQ.grow g1).grow g2)⟩)
theorem ge_bm0 (pa : PlainAttrs T) (slot : Slot T name id) (hty : typeOf (.builtin id) = pure (.type "method_descriptor")) (hm : MtR X id r) (h : GE X Γ M o (fun x M1 => TyD X.K T x M1 ∧ BmD X.K r x [] M1 k) kx)
    (hbase : attributeBase o name X.env (eval o X.env) = eval o X.env := by rfl) (hline : (apos.endLine == cpos.line) = true := by rfl) : GE X Γ M (.Call (.Attribute o name apos) [] [] cpos) k kx := fun S σ hM hE W tk hW Q hQ =>
  of_pe (pe_bm0 pa slot hty hm we hbase hline) (h S σ hM hE W tk hW _ fun x M1 S1 vx ⟨ty, h1⟩ hM1 g1 rx => ⟨ty S1 vx hM1 rx, h1 S1 vx [] hM1 rx RepL.nil Q (hQ.grow g1)⟩)
end
/-- a tuple of strings that the top left under the name x -/
def GlobR (K : PySem.W.Frag) (mg : Str → Option Value) (x : Str) (ys : List Str) : Prop := ∃ a, mg x = some (.ref a) ∧ (∃ o, K.lookup a = some o ∧ o.cls = .type "tuple" ∧ o.dict = none) ∧ ∀ H, SqT K H a (ys.map V.str)
theorem repl_strs {K : PySem.W.Frag} {S : Sg} : ∀ ys : List Str, RepL K S (ys.map D.str) (ys.map V.str)
  | [] => RepL.nil
  | _ :: r => .cons rfl (repl_strs r)
theorem GlobR.glob {K : PySem.W.Frag} {mg : Str → Option Value} {x : Str} {ys : List Str} (g : GlobR K mg x ys) : Glob K mg x (.tup (ys.map D.str)) := by
  obtain ⟨a, h1, _, h3⟩ := g
  exact ⟨.ref a, .ref a, h1, rfl, fun S => ⟨a, _, rfl, h3 S.Z, repl_strs ys⟩⟩
section
variable {X : Cx} {Γ : En} {M : Ms} {e o : Expr} {k : KD} {kx : KX} {pos apos p cpos : Pos} {nm : Str} {ys : List Str}
/-- NAME.index(e), NAME a tuple of strings that the top left -/
theorem ge_gindex (g : GlobR X.K X.mg nm ys) (h : GE X Γ M e (fun y M1 => ∃ (z : Str) (j : Nat), y = .str z ∧ ys[j]? = some z ∧ (∀ m, m < j → ys[m]? ≠ some z) ∧ k (.int (j : Nat)) M1) kx) (hg : Gl X nm := by rfl) (h1 : (nm == ("__debug__" : Str)) = false := by decide)
    (hbase : attributeBase (.Name nm p) "index" X.env (eval (.Name nm p) X.env) = eval (.Name nm p) X.env := by rfl)
    (hfew : ((backTo cpos (starEach (e :: []) X.env)).all (fun x => !x.1) && (backToKw cpos (keywordEach [] X.env)).all (fun x => x.1.isSome)
      && decide ((e :: []).length + ([] : List Keyword).length + (if ([] : List Keyword).isEmpty then 0 else 1) < 30)) = true := by rfl)
    (hline : (apos.endLine == cpos.line) = true := by rfl) (hs : starEach (e :: []) X.env = (false, eval e X.env) :: starEach [] X.env := by rfl) (hplain : (backTo cpos (starEach [] X.env)).any (·.1) = false := by rfl) :
    GE X Γ M (.Call (.Attribute (.Name nm p) "index" apos) [e] [] cpos) k kx := by
  obtain ⟨a, g1, g2, g3⟩ := g
  refine ge_bm PySem.F.plainAttrs_tuple PySem.F.slot_tuple_index PySem.F.type_tuple_index mt_tup_index (ge_glob (d := .raw (.ref a)) ⟨.ref a, .ref a, g1, rfl, fun S => rfl⟩ ⟨fun S v hM r => ?_, ga_cons (h.mono (fun y M1 ⟨z, j, e, hj, hno, hk⟩ => ga_nil fun S vx vs hM rx rv Q hQ => ?_) fun _ _ _ q => q) hs⟩ hg h1) hbase hfew hline hs hplain
  · cases r
    exact .inr (.inl ⟨rfl, g2⟩)
  · cases rx
    subst e
    obtain ⟨v, rfl, rfl⟩ := rep1 rv
    exact ⟨a, ys, z, j, rfl, rfl, g3 _, hj, hno, hQ _ _ S _ hk hM (Grow.refl _) rfl⟩
end
end PD
namespace PD
open PySem L2
open Evl (Ex ex_rd ex_l ex_t)
theorem gb_eq {X : Cx} {Γ : En} {M M' : Ms} {sts : List Stmt} {E : ED} (e : M = M') (h : GB X Γ M' sts E) : GB X Γ M sts E := by rw [e]; exact h
theorem ge_eqM {X : Cx} {Γ : En} {M M' : Ms} {e : Expr} {k : KD} {kx : KX} (q : M = M') (h : GE X Γ M' e k kx) : GE X Γ M e k kx := by rw [q]; exact h
end PD
namespace PD
open PySem L2
open Evl (Ex ex_rd ex_l ex_t)
theorem repl_ints {K : PySem.W.Frag} {S : Sg} : ∀ ys : List Int, RepL K S (ys.map D.int) (ys.map V.int)
  | [] => RepL.nil
  | _ :: r => .cons rfl (repl_ints r)
/-- the law's own def: a list of ints is handed in -/
theorem fn_top {P : Program} {w : World} {K : PySem.W.Frag} {mg : Str → Option Value} {base : Heap} {CX : CXT} {n k : Nat} {fa : Addr} {fd : FuncData} {x : Str} {R : RSp} (F : FnOk P w K mg base CX k fa fd [x] (spD K R))
    (h : ∀ ns : List Int, ns.length ≤ n → R [.seq (ns.map D.int)] [] (fun d _ => d = .bl true) (fun _ _ _ => False)) :
    FnOk P w K mg base CX k fa fd [x] (fun vs H Q E => ∃ (a : Addr) (ns : List Int), vs = [.ref a] ∧ ns.length ≤ n ∧ SqL K H a (ns.map V.int) ∧ Q = (fun v _ => v = .bl true) ∧ E = fun _ _ _ => False) :=
  F.imp fun vs H Q E ⟨a, ns, e1, hl, hS, e2, e3⟩ => by
    subst e1; subst e2; subst e3
    exact ⟨⟨[], H, H⟩, [.seq (ns.map D.int)], [], _, _, rfl, ⟨rfl, List.nodup_nil, Ex.refl _, fun _ h => (nomatch h), fun _ h => (nomatch h)⟩, .cons ⟨a, _, rfl, hS, repl_ints ns⟩ RepL.nil, h ns hl, fun d M' S' v e _ _ r => by rw [e] at r; exact r, fun _ _ _ _ _ e _ _ _ => e⟩
end PD

set_option Elab.async false
set_option linter.all false
set_option maxRecDepth 100000
set_option maxHeartbeats 4000000
/-! PD: starred items, joins, f-strings. -/
namespace PD
open PySem L2
open Evl (Ex ex_rd ex_l ex_t)
/-- d holds the items ds, one behind the other -/
inductive SeqD (M : Ms) : D → List D → Prop
  | tup {ds : List D} : SeqD M (.tup ds) ds
  | lst {ds : List D} : SeqD M (.lst ds) ds
  | seq {ds : List D} : SeqD M (.seq ds) ds
  | hdl {ds : List D} {h : Addr} (p : Nat) (hm : M[p]? = some (h, .lst ds)) : SeqD M (.hdl h) ds
theorem SeqD.at {K : PySem.W.Frag} {S : Sg} {M : Ms} {d : D} {ds : List D} {v : V} (h : SeqD M d ds) (hM : OkM K S M) (r : Rep K S d v) : ∃ a xs, v = .ref a ∧ (SqT K S.H a xs ∨ SqL K S.H a xs) ∧ RepL K S ds xs := by
  cases h with
  | tup => obtain ⟨a, xs, rfl, h, rr⟩ := r; exact ⟨a, xs, rfl, .inl (ex_t hM.zh h), rr⟩
  | lst => obtain ⟨a, xs, rfl, h, rr⟩ := r; exact ⟨a, xs, rfl, .inr (SqL.of (hM.zh _ _ h)), rr⟩
  | seq => obtain ⟨a, xs, rfl, h, rr⟩ := r; exact ⟨a, xs, rfl, .inr (ex_l hM.zh h), rr⟩
  | hdl p hm =>
    cases r
    obtain ⟨_, xs, h1, r1⟩ := hM.at hm
    exact ⟨_, xs, rfl, .inr (SqL.of h1), r1⟩
section
variable {X : Cx} {Γ : En} {M : Ms} {e o : Expr} {es : List Expr} {k : KD} {kx : KX} {d x y z : D} {pos apos p cpos : Pos}
theorem ga_star {k : KDs} (h : GE X Γ M e (fun d M1 => ∃ ds, SeqD M1 d ds ∧ GA X Γ M1 es (fun ys M2 => k (ds ++ ys) M2) kx) kx) (hs : starEach (.Starred e p :: es) X.env = (true, eval e X.env) :: starEach es X.env := by rfl) : GA X Γ M (.Starred e p :: es) k kx := fun S σ hM hE W tk hW Q hQ =>
  of_pa (StX.pa_star we wa hs) (h S σ hM hE W tk hW _ fun d M1 S1 v ⟨ds, sq, h1⟩ hM1 g1 r1 => by
    obtain ⟨a, xs, rfl, h2, rr⟩ := sq.at hM1 r1
    exact ⟨a, xs, rfl, h2, h1 S1 σ hM1 (hE.grow g1) W tk (hW.grow g1) _ fun ys M2 S2 vs hk hM2 g2 r2 => hQ _ M2 S2 _ hk hM2 (g1.trans g2) ((rr.grow g2).app r2)⟩)
/-- parts of an f-string, acc told so far -/
def GJ (X : Cx) (Γ : En) (kx : KX) : Ms → List Expr → Str → (Str → Ms → Prop) → Prop
  | M, [], acc, k => k acc M
  | M, e :: es, acc, k => GE X Γ M e (fun d M1 => ∃ y : Str, d = .str y ∧ (acc ++ y).length ≤ 16777216 ∧ GJ X Γ kx M1 es (acc ++ y) k) kx
theorem gj_run {X : Cx} {Γ : En} {kx : KX} {S0 : Sg} : ∀ (es : List Expr) (M : Ms) (acc : Str) (k : Str → Ms → Prop) (S : Sg) (σ : L2.St), GJ X Γ kx M es acc k → OkM X.K S M → Grow S0 S → EnvOk X.K S σ Γ → ∀ W, Takes X W → KW X.K S kx W σ → ∀ Q : Str → Hp → Prop, (∀ s M' S', k s M' → OkM X.K S' M' → Grow S0 S' → Q s S'.H) →
    tJs (es.map (WE X)) acc σ S.H Q
  | [], M, acc, k, S, σ, h, hM, g, hE, W, tk, hW, Q, hQ => hQ acc M S h hM g
  | e :: es, M, acc, k, S, σ, h, hM, g, hE, W, tk, hW, Q, hQ => h S σ hM hE W tk hW _ fun d M1 S1 v ⟨y, e1, hl, h1⟩ hM1 g1 r1 => by
    subst e1; cases r1
    exact ⟨y, rfl, hl, gj_run es M1 (acc ++ y) k S1 σ h1 hM1 (g.trans g1) (hE.grow g1) W tk (hW.grow g1) Q hQ⟩
theorem pj_all : ∀ es : List Expr, PJ X es (es.map (WE X))
  | [] => .nil
  | _ :: es => .cons we (pj_all es)
theorem ge_fstr {v1 v2 : Expr} {rest : List Expr} (h : GJ X Γ kx M (v1 :: v2 :: rest) Str.empty (fun s M1 => k (.str s) M1)) : GE X Γ M (.JoinedStr (v1 :: v2 :: rest) pos) k kx := fun S σ hM hE W tk hW Q hQ =>
  of_pe (pe_joined (pj_all (v1 :: v2 :: rest))) (gj_run (S0 := S) (v1 :: v2 :: rest) M Str.empty _ S σ h hM (Grow.refl _) hE W tk hW (fun out H1 => Q (.str out) H1) fun s M' S' hk hM' g => hQ (.str s) M' S' (.str s) hk hM' g rfl)
theorem ge_fmtS (h : GE X Γ M e (fun d M1 => ∃ s : Str, d = .str s ∧ s.length ≤ 16777216 ∧ k (.str s) M1) kx) : GE X Γ M (.FormattedValue e (-1) none pos) k kx := fun S σ hM hE W tk hW Q hQ =>
  of_pe (pe_fmt we) (h S σ hM hE W tk hW _ fun d M1 S1 v ⟨s, e1, hl, h1⟩ hM1 g1 r1 => by
    subst e1; cases r1
    exact .inl ⟨s, rfl, hl, hQ (.str s) M1 S1 _ h1 hM1 g1 rfl⟩)
theorem ge_fmtI (h : GE X Γ M e (fun d M1 => ∃ i : Int, d = .int i ∧ i.natAbs.log2 < 1920 ∧ k (.str (toString i)) M1) kx) : GE X Γ M (.FormattedValue e (-1) none pos) k kx := fun S σ hM hE W tk hW Q hQ =>
  of_pe (pe_fmt we) (h S σ hM hE W tk hW _ fun d M1 S1 v ⟨i, e1, hl, h1⟩ hM1 g1 r1 => by
    subst e1; cases r1
    exact .inr ⟨i, rfl, hl, hQ (.str (toString i)) M1 S1 _ h1 hM1 g1 rfl⟩)
/-- s.join(xs) -/
theorem ge_join (h : GE X Γ M o (fun x M1 => ∃ a : Str, x = .str a ∧ GE X Γ M1 e (fun y M2 => ∃ ys : List Str, SeqD M2 y (ys.map D.str) ∧ (ys.map (·.length)).sum + ys.length * a.length ≤ 16777216 ∧ k (.str (Txt.join a ys)) M2) kx) kx)
    (hbase : attributeBase o "join" X.env (eval o X.env) = eval o X.env := by rfl)
    (hfew : ((backTo cpos (starEach (e :: []) X.env)).all (fun x => !x.1) && (backToKw cpos (keywordEach [] X.env)).all (fun x => x.1.isSome)
      && decide ((e :: []).length + ([] : List Keyword).length + (if ([] : List Keyword).isEmpty then 0 else 1) < 30)) = true := by rfl)
    (hline : (apos.endLine == cpos.line) = true := by rfl) (hs : starEach (e :: []) X.env = (false, eval e X.env) :: starEach [] X.env := by rfl) (hplain : (backTo cpos (starEach [] X.env)).any (·.1) = false := by rfl) :
    GE X Γ M (.Call (.Attribute o "join" apos) [e] [] cpos) k kx :=
  ge_bm PySem.F.plainAttrs_str PySem.F.slot_str_join PySem.F.type_str_join mt_join (h.mono (fun x M1 ⟨a, e1, h1⟩ => by
    subst e1
    refine ⟨fun S v _ r => by cases r; exact rfl, ga_cons (h1.mono (fun y M2 ⟨ys, sq, hl, hk⟩ => ga_nil fun S vx vs hM rx rv Q hQ => ?_) fun _ _ _ q => q) hs⟩
    cases rx
    obtain ⟨v, rfl, ru⟩ := rep1 rv
    obtain ⟨p, xs, rfl, h2, rr⟩ := sq.at hM ru
    have := repStr rr
    subst this
    exact ⟨a, p, ys, rfl, rfl, h2.symm, hl, hQ _ _ S _ hk hM (Grow.refl _) rfl⟩) fun _ _ _ q => q) hbase hfew hline hs hplain
/-- isinstance(e, (T1, T2)) -/
theorem ge_isiT2 {nm1 nm2 : Str} {T1 T2 : String} {j : Nat} {ptup p1 p2 : Pos} (hm : X.mg "isinstance" = none) (m1 : X.mg nm1 = none) (v1 : bootBuiltins nm1 = some (.type T1)) (m2 : X.mg nm2 = none) (v2 : bootBuiltins nm2 = some (.type T2))
    (h : GE X Γ M e (fun d M1 => ∃ t b1 b2, tyN d = some t ∧ kitB t T1 = some b1 ∧ kitB t T2 = some b2 ∧ k (.bl (b1 || b2)) M1) kx) (g0 : Gl X "isinstance" := by rfl) (g1 : Gl X nm1 := by rfl) (g2 : Gl X nm2 := by rfl) (n1' : nm1 ≠ "__name__" := by decide) (n2' : nm2 ≠ "__name__" := by decide) (d1 : (nm1 == ("__debug__" : Str)) = false := by decide) (d2 : (nm2 == ("__debug__" : Str)) = false := by decide)
    (he : starEach [e, .Tuple [.Name nm1 p1, .Name nm2 p2] j ptup] X.env = (false, eval e X.env) :: starEach [.Tuple [.Name nm1 p1, .Name nm2 p2] j ptup] X.env := by rfl) (hpl : (backTo pos (starEach [.Tuple [.Name nm1 p1, .Name nm2 p2] j ptup] X.env)).any (·.1) = false := by rfl)
    (he2 : starEach [.Tuple [.Name nm1 p1, .Name nm2 p2] j ptup] X.env = (false, eval (.Tuple [.Name nm1 p1, .Name nm2 p2] j ptup) X.env) :: starEach [] X.env := by rfl)
    (he3 : starEach [.Name nm1 p1, .Name nm2 p2] X.env = (false, eval (.Name nm1 p1) X.env) :: starEach [.Name nm2 p2] X.env := by rfl) (he4 : starEach [.Name nm2 p2] X.env = (false, eval (.Name nm2 p2) X.env) :: starEach [] X.env := by rfl) :
    GE X Γ M (.Call (.Name "isinstance" p) [e, .Tuple [.Name nm1 p1, .Name nm2 p2] j ptup] [] pos) k kx := fun S σ hM hE W tk hW Q hQ =>
  of_pe (pe_callB call_isiT g0 hm PyProof.Rows.boot_isinstance (pa_cons we (pa_cons (pe_tup (pa_cons (pe_bltn (v := .ty T1) g1 m1 v1 rfl n1' d1) (pa_cons (pe_bltn (v := .ty T2) g2 m2 v2 rfl n2' d2) pa_nil he4) he3)) pa_nil he2) he) (by decide) (by decide) he hpl)
    (h S σ hM hE W tk hW _ fun d M1 S1 v ⟨t, b1, b2, ht, q1, q2, hk⟩ hM1 g r => by
      refine ⟨by show 2 ≤ 16777216; decide, fun q hq => ?_⟩
      obtain ⟨hM2, g2⟩ := new_z (o := .tup [V.ty T1, V.ty T2]) hM1 hq
      refine ⟨v, q, [V.ty T1, V.ty T2], .type t, [.type T1, .type T2], b1 || b2, rfl, upd_same, .cons (.ty T1) (.cons (.ty T2) .nil), ty_of hM2 (r.grow g2) ht, ?_, hQ (.bl (b1 || b2)) M1 _ _ hk hM2 (g.trans g2) rfl⟩
      unfold PySem.W.kitAny
      rw [kit_ty q1]
      cases b1
      · show PySem.W.kitAny _ _ _ = _
        unfold PySem.W.kitAny
        rw [kit_ty q2]
        cases b2 <;> rfl
      · rfl)
end
section
variable {K : PySem.W.Frag} {M : Ms} {k : KD} {i j : Int}
theorem mulS_int (hc : CMul i j) (hk : k (.int (i * j)) M) : Bin K (rI CMul fun i j => .int (i * j)) (.int i) (.int j) M k := bin_flat (v := .int (i * j)) (fun S vx vy _ rx ry Q q => ⟨i, j, rx, ry, hc, q⟩) hk
end
section
variable {X : Cx} {Γ : En} {M : Ms} {e : Expr} {k : KD} {kx : KX} {i : Int} {pos : Pos}
theorem ge_neg (h : GE X Γ M e (fun d M1 => ∃ i, d = .int i ∧ k (.int (-i)) M1) kx) : GE X Γ M (.UnaryOp .USub e pos) k kx := fun S σ hM hE W tk hW Q hQ =>
  of_pe (pe_un un_neg we) (h S σ hM hE W tk hW _ fun d M1 S1 v ⟨i, e1, hk⟩ hM1 g1 r => by
    subst e1; cases r
    exact ⟨i, rfl, hQ (.int (-i)) M1 S1 _ hk hM1 g1 rfl⟩)
theorem ev_neg (h : EV X Γ M e (.int i)) : EV X Γ M (.UnaryOp .USub e pos) (.int (-i)) := ge_neg (h.ge ⟨i, rfl, rfl, rfl⟩)
end
theorem join_len (a : Str) (ys : List Str) : (Txt.join a ys).length ≤ (ys.map (·.length)).sum + ys.length * a.length := by
  rw [show Txt.join a ys = Str.join a ys from PySem.StrLaws.glued_eq_join a ys]
  exact PySem.StrLaws.join_length_le a ys
theorem empty_app (s : Str) : Str.empty ++ s = s := PySem.Str.empty_append s
/-- f(k = v, ..) -/
theorem ge_callK0 {X : Cx} {Γ : En} {M : Ms} {kws : List Keyword} {ks : List Str} {sel : List (Nat × Nat)} {k : KD} {kx : KX} {pos p : Pos} {nm : Str} {j l : Nat} {dds : List D} {R : RSp} (F : FnK X.prog X.w X.K X.mg X.base j nm 0 ks sel dds R) (hr : Room l X.A) (hl : j ≤ l) (h : GK X Γ M kws (fun zs M2 => zs.length = ks.length ∧ ∃ kk, CallOk R kk (selL sel [] dds zs) M2 k kx) kx)
    (hall : (backToKw pos (keywordEach kws X.env)).all (·.1.isSome) = true := by rfl) (hks : (backToKw pos (keywordEach kws X.env)).filterMap (·.1) = ks := by rfl) (hg : Gl X nm := by rfl)
    (hdb : (nm == ("__debug__" : Str)) = false := by decide) (hpl : ((backTo pos (starEach [] X.env)).any (·.1) || (backToKw pos (keywordEach kws X.env)).any (·.1.isNone)) = false := by rfl) : GE X Γ M (.Call (.Name nm p) [] kws pos) k kx := fun S σ hM hE W tk hW Q hQ pins s I => by
  obtain ⟨f, fd, ps, hm, hk, ⟨g, gV, hb, hrep⟩, F⟩ := F.ex
  refine wpAny_Call_Name_kw (ld_glob I hg hm ?_ hdb)
  refine PySem.W.callWith_KW0 (h₀ := X.base) I.ok.mod.kin hk hall ?_ hpl
  refine thn (h S σ hM hE W tk hW (fun zs H2 => zs.length = ks.length ∧ spD X.K R (gV [] zs) H2 Q (L2.WE W σ)) (fun zs M2 S2 ws ⟨q2, kk, q3⟩ hM2 g2 r2 => ⟨r2.len.trans q2, sp_of hM2 (hrep S2 _ _ _ _ RepL.nil r2) q3 (hQ.grow g2) (hW.grow g2)⟩) pos pins s I) fun ws s2 ⟨zs, H2, I2, rz, l2, q2⟩ => ⟨I2.kIn, ?_⟩
  rw [hks]
  exact run_fnNS (us := []) (vs := []) (EE := L2.WE W) F (hr.mono hl) hb (passAt tk σ) I2 .nil rz rfl l2 q2
end PD

set_option Elab.async false
set_option linter.all false
set_option maxRecDepth 100000
set_option maxHeartbeats 4000000
/-! PD: dicts. -/
namespace PD
open PySem L2
open Evl (Ex ex_rd ex_l ex_t)
def kD : Key → D
  | .inl i => .int i
  | .inr s => .str s
/-- a dict, standing or not -/
inductive DctD (M : Ms) : D → List Key → List D → Prop
  | dct {ks : List Key} {ds : List D} : DctD M (.dct ks ds) ks ds
  | hdl {ks : List Key} {ds : List D} {h : Addr} (p : Nat) (hm : M[p]? = some (h, .dct ks ds)) : DctD M (.hdl h) ks ds
theorem DctD.at {K : PySem.W.Frag} {S : Sg} {M : Ms} {d : D} {ks : List Key} {ds : List D} {v : V} (h : DctD M d ks ds) (hM : OkM K S M) (r : Rep K S d v) : ∃ a kvs, v = .ref a ∧ S.H a = some (.dK kvs) ∧ kvs.map (·.1) = ks ∧ RepL K S ds (kvs.map (·.2)) := by
  cases h with
  | dct => obtain ⟨a, kvs, rfl, h, e, rr⟩ := r; exact ⟨a, kvs, rfl, hM.zh _ _ h, e, rr⟩
  | hdl p hm =>
    cases r
    obtain ⟨_, kvs, h1, e, r1⟩ := hM.at hm
    exact ⟨_, kvs, rfl, h1, e, r1⟩
def valK : List Key → List D → Key → Option D
  | q :: ks, d :: ds, k => if q = k then some d else valK ks ds k
  | _, _, _ => none
/-- .. with a value at a key -/
def putDs : List Key → List D → Key → D → List D
  | q :: ks, d :: ds, k, y => (if q = k then y else d) :: putDs ks ds k y
  | _, ds, _, _ => ds
theorem valK_at {K : PySem.W.Frag} {S : Sg} : ∀ {kvs : List (Key × V)} {ds : List D} {k : Key}, RepL K S ds (kvs.map (·.2)) → (∀ d, valK (kvs.map (·.1)) ds k = some d → ∃ v, valV kvs k = some v ∧ Rep K S d v) ∧ (valK (kvs.map (·.1)) ds k = none → valV kvs k = none)
  | [], ds, k, r => by
    cases ds with
    | nil => exact ⟨fun d h => (nomatch h), fun _ => rfl⟩
    | cons d ds => obtain ⟨x, q, e, _⟩ := r; cases e
  | (q, u) :: kvs, [], k, r => by cases r
  | (q, u) :: kvs, d :: ds, k, r => by
    obtain ⟨x, xs, e, rx, rr⟩ := r
    have e1 : u = x ∧ kvs.map (·.2) = xs := by simpa using e
    obtain ⟨rfl, rfl⟩ := e1
    have ih := valK_at (k := k) rr
    simp only [List.map_cons, valK]
    by_cases h : q = k
    · rw [if_pos h, valV_pos (p := (q, u)) h]
      exact ⟨fun d' e => ⟨u, rfl, by cases e; exact rx⟩, fun e => (nomatch e)⟩
    · rw [if_neg h, valV_neg (p := (q, u)) h]
      exact ih
theorem put_maps {kvs : List (Key × V)} {k : Key} {v : V} : (kvs.map fun kv => if kv.1 = k then (kv.1, v) else kv).map (·.1) = kvs.map (·.1) := by
  rw [List.map_map]
  apply List.map_congr_left
  intro p _
  by_cases h : p.1 = k <;> simp [h]
theorem put_reps {K : PySem.W.Frag} {S : Sg} {k : Key} {v : V} {d : D} (rv : Rep K S d v) : ∀ {kvs : List (Key × V)} {ds : List D}, RepL K S ds (kvs.map (·.2)) → RepL K S (putDs (kvs.map (·.1)) ds k d) ((kvs.map fun kv => if kv.1 = k then (kv.1, v) else kv).map (·.2))
  | [], ds, r => by cases ds <;> exact r
  | (q, u) :: kvs, [], r => by cases r
  | (q, u) :: kvs, d' :: ds, r => by
    obtain ⟨x, xs, e, rx, rr⟩ := r
    have e1 : u = x ∧ kvs.map (·.2) = xs := by simpa using e
    obtain ⟨rfl, rfl⟩ := e1
    have ih := put_reps (k := k) rv rr
    simp only [List.map_cons, putDs]
    by_cases h : q = k
    · rw [if_pos h, if_pos h]; exact .cons rv ih
    · rw [if_neg h, if_neg h]; exact .cons rx ih
/-- what a store at a key makes of keys and values -/
inductive PutK (ks : List Key) (ds : List D) (k : Key) (d : D) : List Key → List D → Prop
  | old (h : k ∈ ks) : PutK ks ds k d ks (putDs ks ds k d)
  | new (h : k ∉ ks) : PutK ks ds k d (ks ++ [k]) (ds ++ [d])
theorem PutK.at {K : PySem.W.Frag} {S : Sg} {ks ks' : List Key} {ds ds' : List D} {k : Key} {d : D} {kvs : List (Key × V)} {v : V} (h : PutK ks ds k d ks' ds') (hf : kvs.map (·.1) = ks) (hr : RepL K S ds (kvs.map (·.2))) (rv : Rep K S d v) :
    (putK kvs k v).map (·.1) = ks' ∧ RepL K S ds' ((putK kvs k v).map (·.2)) := by
  subst hf
  unfold putK
  cases h with
  | old h =>
    have e : (kvs.any fun kv => decide (kv.1 = k)) = true := by
      obtain ⟨p, hp, e⟩ := List.mem_map.mp h
      exact List.any_eq_true.mpr ⟨p, hp, by simpa using e⟩
    rw [if_pos e]
    exact ⟨put_maps, put_reps rv hr⟩
  | new h =>
    have e : ¬ (kvs.any fun kv => decide (kv.1 = k)) = true := fun z => by
      obtain ⟨p, hp, e⟩ := List.any_eq_true.mp z
      exact h (List.mem_map.mpr ⟨p, hp, by simpa using e⟩)
    rw [if_neg e, List.map_append, List.map_append]
    exact ⟨rfl, hr.app (.one rv)⟩
theorem rep_kD {K : PySem.W.Frag} {S : Sg} {k : Key} {v : V} (r : Rep K S (kD k) v) : v = kV k := by cases k <;> exact r
def WC (X : Cx) (op : CmpOp) (a b : Expr) : TE := fun σ H Q => ∀ (pins : List (Addr × Obj)) (s : Shared), Inv X pins σ H s → True
section
variable {X : Cx} {Γ : En} {M : Ms} {e o i : Expr} {k : KD} {kx : KX} {d x y z : D} {pos pos' p : Pos} {E : ED}
/-- o[i], o a dict -/
theorem ge_dget (hu : X.A.units + 1 < cLine) (hs : NoSl i) (h : GE X Γ M o (fun x M1 => GE X Γ M1 i (fun y M2 => ∃ ks ds q d, DctD M2 x ks ds ∧ y = kD q ∧ valK ks ds q = some d ∧ k d M2) kx) kx) : GE X Γ M (.Subscript o i pos) k kx := fun S σ hM hE W tk hW Q hQ =>
  of_pe (pe_dget hu we we hs) (h S σ hM hE W tk hW _ fun x M1 S1 vx h1 hM1 g1 rx => h1 S1 σ hM1 (hE.grow g1) W tk (hW.grow g1) _ fun y M2 S2 vy ⟨ks, ds, q, d, hd, e1, hv, hk⟩ hM2 g2 ry => by
    subst e1
    have ey := rep_kD ry
    subst ey
    obtain ⟨a, kvs, rfl, hh, e2, rr⟩ := hd.at hM2 (rx.grow g2)
    subst e2
    obtain ⟨v, hvv, rv⟩ := (valK_at rr).1 d hv
    exact ⟨a, v, rfl, by rw [← hvv]; exact DGet.k hh, hQ d M2 S2 v hk hM2 (g1.trans g2) rv⟩)
theorem ge_din (hu : X.A.units + 1 < cLine) (h : GE X Γ M i (fun y M1 => GE X Γ M1 o (fun x M2 => ∃ ks ds q, DctD M2 x ks ds ∧ y = kD q ∧ k (.bl (valK ks ds q).isSome) M2) kx) kx) (hb : behindInMarks .In o = false := by first | exact nobehind _ (by decide) (by decide) | rfl) : GE X Γ M (.Compare i [.In] [o] pos) k kx := fun S σ hM hE W tk hW Q hQ =>
  of_pe (pe_cmp (pc_din hu we we) hb) (h S σ hM hE W tk hW _ fun y M1 S1 vy h1 hM1 g1 ry => h1 S1 σ hM1 (hE.grow g1) W tk (hW.grow g1) _ fun x M2 S2 vx ⟨ks, ds, q, hd, e1, hk⟩ hM2 g2 rx => by
    subst e1
    have ey := rep_kD ry
    subst ey
    obtain ⟨a, kvs, rfl, hh, e2, rr⟩ := hd.at hM2 rx
    subst e2
    have eo : (valV kvs q).isSome = (valK (kvs.map (·.1)) ds q).isSome := by
      cases e : valK (kvs.map (·.1)) ds q with
      | none => rw [(valK_at rr).2 e]; rfl
      | some d => obtain ⟨v, hv, _⟩ := (valK_at rr).1 d e; rw [hv]; rfl
    refine ⟨a, valV kvs q, rfl, DGet.k hh, ?_⟩
    rw [eo]
    exact hQ _ M2 S2 _ hk hM2 (g1.trans g2) rfl)
theorem ge_dnotin (hu : X.A.units + 1 < cLine) (h : GE X Γ M i (fun y M1 => GE X Γ M1 o (fun x M2 => ∃ ks ds q, DctD M2 x ks ds ∧ y = kD q ∧ k (.bl (!(valK ks ds q).isSome)) M2) kx) kx) (hb : behindInMarks .NotIn o = false := by first | exact nobehind _ (by decide) (by decide) | rfl) : GE X Γ M (.Compare i [.NotIn] [o] pos) k kx := fun S σ hM hE W tk hW Q hQ =>
  of_pe (pe_cmp (pc_dnotin hu we we) hb) (h S σ hM hE W tk hW _ fun y M1 S1 vy h1 hM1 g1 ry => h1 S1 σ hM1 (hE.grow g1) W tk (hW.grow g1) _ fun x M2 S2 vx ⟨ks, ds, q, hd, e1, hk⟩ hM2 g2 rx => by
    subst e1
    have ey := rep_kD ry
    subst ey
    obtain ⟨a, kvs, rfl, hh, e2, rr⟩ := hd.at hM2 rx
    subst e2
    have eo : (valV kvs q).isSome = (valK (kvs.map (·.1)) ds q).isSome := by
      cases e : valK (kvs.map (·.1)) ds q with
      | none => rw [(valK_at rr).2 e]; rfl
      | some d => obtain ⟨v, hv, _⟩ := (valK_at rr).1 d e; rw [hv]; rfl
    refine ⟨a, valV kvs q, rfl, DGet.k hh, ?_⟩
    rw [eo]
    exact hQ _ M2 S2 _ hk hM2 (g1.trans g2) rfl)
/-- o[i] = e, o a dict that may change -/
theorem gs_dput (hu : X.A.units + 1 < cLine) (h : GE X Γ M e (fun d M1 => GE X Γ M1 o (fun x M2 => GE X Γ M2 i (fun y M3 => ∃ (j : Nat) (a : Addr) (ks ks' : List Key) (ds ds' : List D) (q : Key), x = .hdl a ∧ M3[j]? = some (a, MO.dct ks ds) ∧ y = kD q ∧ ks.length < 16777216 ∧ PutK ks ds q d ks' ds' ∧ E.nx Γ (M3.set j (a, .dct ks' ds')))
    (fun c f M1 => E.ex c f Γ M1)) (fun c f M1 => E.ex c f Γ M1)) (fun c f M1 => E.ex c f Γ M1)) (hs : swapsWith e (some (.Subscript o i pos')) pos.line X.env = pure false := by rfl) : GS X Γ M (.Assign [.Subscript o i pos'] e pos) E := fun S σ hM hE W tk De L =>
  of_ps (ps_dput hu we we we hs) (h S σ hM hE W tk (L.kw hE) _ fun d M1 S1 v h1 hM1 g1 rv => h1 S1 σ hM1 (hE.grow g1) W tk ((L.kw hE).grow g1) _ fun x M2 S2 vx h2 hM2 g2 rx => h2 S2 σ hM2 ((hE.grow g1).grow g2) W tk (((L.kw hE).grow g1).grow g2) _ fun y M3 S3 vy ⟨j, a, ks, ks', ds, ds', q, e1, hj, e2, hl, hp, hk⟩ hM3 g3 ry => by
    subst e1; subst e2
    have ey := rep_kD ry
    subst ey
    have ex : vx = .ref a := rx
    subst ex
    obtain ⟨hz, kvs, hh, e3, rr⟩ := hM3.at hj
    have hl2 : kvs.length < sizeLine := by rw [← e3, List.length_map] at hl; exact hl
    obtain ⟨p1, p2⟩ := hp.at e3 rr ((rv.grow g2).grow g3)
    obtain ⟨hM4, g4⟩ := set_m (o := .dK (putK kvs q v)) (m := .dct ks' ds') hM3 hj hz (fun g => ⟨hz, _, upd_same, p1, p2.grow g⟩)
    have gg := ((g1.trans g2).trans g3).trans g4
    exact ⟨a, _, rfl, .inl ⟨kvs, q, hh, rfl, hl2, rfl⟩, L.nx Γ _ ⟨S3.as, S3.Z, upd S3.H a (.dK (putK kvs q v))⟩ σ hk hM4 gg (hE.grow gg)⟩)
end
section
variable {K : PySem.W.Frag} {M : Ms} {k : KD} {x : D} {ks : List Key} {ds : List D}
/-- dict(d): a copy -/
theorem dct_of (h : DctD M x ks ds) (hk : k (.dct ks ds) M) : CallD K (fun xs H Q => ∃ (a : Addr) (kvs : List (Key × V)), xs = [.ref a] ∧ Rd H a (.dK kvs) ∧ ∀ p, H p = none → Q (.ref p) (upd H p (.dK kvs))) [x] M k := fun S vs hM rv Q hQ => by
  obtain ⟨v, rfl, r⟩ := rep1 rv
  obtain ⟨a, kvs, rfl, hh, e, rr⟩ := h.at hM r
  refine ⟨a, kvs, rfl, Rd.of hh, fun l hl => ?_⟩
  obtain ⟨hM2, g2⟩ := new_z (o := .dK kvs) hM hl
  exact hQ _ M ⟨S.as, upd S.Z l (.dK kvs), upd S.H l (.dK kvs)⟩ (.ref l) hk hM2 g2 ⟨l, kvs, rfl, upd_same, e, rr.grow g2⟩
end
end PD

set_option Elab.async false
set_option linter.all false
set_option maxRecDepth 100000
set_option maxHeartbeats 4000000
/-! PD: chained comparisons, tuples stored into attributes. -/
namespace PD
open PySem L2
open Evl (Ex ex_rd ex_l ex_t)
section
variable {X : Cx} {Γ : En} {M : Ms} {a b c e o : Expr} {k : KD} {kx : KX} {pos : Pos} {op op' : CmpOp} {r r' : R2}
/-- a op b op' c -/
theorem ge_chain (ho : OpR X (compareOp op) r) (ho' : OpR X (compareOp op') r') (h : GE X Γ M a (fun x M1 => GE X Γ M1 b (fun y M2 => Bin X.K r x y M2 fun z M3 => ∃ v, z = .bl v ∧ (v = true → GE X Γ M3 c (fun w M4 => Bin X.K r' y w M4 k) kx) ∧ (v = false → k (.bl false) M3)) kx) kx) (hm : lastMarks [op, op'] [b, c] = false := by rfl) : GE X Γ M (.Compare a [op, op'] [b, c] pos) k kx := fun S σ hM hE W tk hW Q hQ =>
  of_pe (pe_chain ho ho' we we we (hm := hm)) (h S σ hM hE W tk hW _ fun x M1 S1 vx h1 hM1 g1 rx => h1 S1 σ hM1 (hE.grow g1) W tk (hW.grow g1) _ fun y M2 S2 vy h2 hM2 g2 ry => h2 S2 vx vy hM2 (rx.grow g2) ry _ fun z M3 S3 vz ⟨v, e1, q1, q2⟩ hM3 g3 rz => by
    subst e1; cases rz
    have g := (g1.trans g2).trans g3
    refine ⟨v, rfl, ?_⟩
    cases v
    · exact hQ _ M3 S3 _ (q2 rfl) hM3 g rfl
    · exact q1 rfl S3 σ hM3 (hE.grow g) W tk (hW.grow g) _ fun w M4 S4 vw h4 hM4 g4 rw' => h4 S4 vy vw hM4 ((ry.grow g3).grow g4) rw' Q (hQ.grow (g.trans g4)))
end
/-! ### attributes as targets -/
def gFld (K : PySem.W.Frag) (to : TE) (f : Str) : TG := fun v σ H Q => to σ H fun x H1 => ∃ a C dx fs, x = .ref a ∧ H1 a = some (.ins C dx fs) ∧ Cls K C ∧ NoAttr K C f ∧ fs.length < 1000 ∧ Q σ (upd H1 a (.ins C dx (putF f v fs)))
theorem pg_fld {X : Cx} {o : Expr} {to : TE} {f : Str} {pos : Pos} (ho : PE X o to) : PG X (.Attribute o f pos) (gFld X.K to f) := by
  refine ⟨fun pins s σ H v u Q I r h => ?_⟩
  rw [assign_Attribute]
  refine wpAny_bind (wpAny_holding (thn (ho.run pins s σ H _ I h) fun ov s1 ⟨x, H1, I1, r1, a, C, dx, fs, ex, ea, c, n, l, q1⟩ => ?_))
  subst ex
  obtain rfl : ov = Value.ref a := r1
  refine wpAny_bind (wpAny_standAt (wpAny_bind (wpAny_holding (setattr_ok I1 ea c n l r fun s3 I3 => ?_))))
  exact wpAny_release ⟨σ, _, I3, q1⟩
section
variable {X : Cx} {Γ : En} {M : Ms} {e o1 o2 : Expr} {E : ED} {f1 f2 : Str} {pos p1 p2 pt : Pos} {kt : Nat}
/-- o1.f1, o2.f2 = e -/
theorem gs_fld2 (hc : X.calm = true) (h : GE X Γ M e (fun d M1 => ∃ u v, d = .tup [u, v] ∧ GE X Γ M1 o1 (fun x M2 => ∃ (q : Nat) (a C : Addr) (fs fs' : List Str) (ds ds' : List D), x = .hdl a ∧ M2[q]? = some (a, MO.ins C fs ds) ∧ Cls X.K C ∧ NoAttr X.K C f1 ∧ fs.length < 1000 ∧ PutA fs ds f1 u fs' ds' ∧
      GE X Γ (M2.set q (a, .ins C fs' ds')) o2 (fun x M3 => ∃ (q : Nat) (a C : Addr) (fs fs' : List Str) (ds ds' : List D), x = .hdl a ∧ M3[q]? = some (a, MO.ins C fs ds) ∧ Cls X.K C ∧ NoAttr X.K C f2 ∧ fs.length < 1000 ∧ PutA fs ds f2 v fs' ds' ∧ E.nx Γ (M3.set q (a, .ins C fs' ds')))
      fun c f M1 => E.ex c f Γ M1) fun c f M1 => E.ex c f Γ M1) fun c f M1 => E.ex c f Γ M1)
    (hs : swapsWithSole [.Tuple [.Attribute o1 f1 p1, .Attribute o2 f2 p2] kt pt] e pos.line X.env = pure false := by rfl) (hw : swappedStores [.Tuple [.Attribute o1 f1 p1, .Attribute o2 f2 p2] kt pt] e X.env = pure none := by rfl)
    (h1 : (assignEach [.Tuple [.Attribute o1 f1 p1, .Attribute o2 f2 p2] kt pt] X.env).map (·.2) = [assign (.Tuple [.Attribute o1 f1 p1, .Attribute o2 f2 p2] kt pt) X.env] := by rfl)
    (h2 : (assignEach (.Attribute o1 f1 p1 :: [.Attribute o2 f2 p2]) X.env).map (·.2) = assign (.Attribute o1 f1 p1) X.env :: (assignEach [.Attribute o2 f2 p2] X.env).map (·.2) := by rfl) (h3 : (assignEach (.Attribute o2 f2 p2 :: []) X.env).map (·.2) = assign (.Attribute o2 f2 p2) X.env :: (assignEach [] X.env).map (·.2) := by rfl)
    (hn : (assignEach [.Attribute o1 f1 p1, .Attribute o2 f2 p2] X.env).length = 2 := by rfl) (hst : (assignEach [.Attribute o1 f1 p1, .Attribute o2 f2 p2] X.env).findIdx? (·.1) = none := by rfl) :
    GS X Γ M (.Assign [.Tuple [.Attribute o1 f1 p1, .Attribute o2 f2 p2] kt pt] e pos) E := fun S σ hM hE W tk De L =>
  of_ps (ps_asg we (pg_tup hc (pgs_cons (pg_fld we) (pgs_cons (pg_fld we) pgs_nil h3) h2) hn hst) hs hw h1) (h S σ hM hE W tk (L.kw hE) _ fun d M1 S1 w ⟨u, v, e1, h1⟩ hM1 g1 rd => by
    subst e1
    obtain ⟨t, xs, rfl, ht, rr⟩ := rd
    obtain ⟨x1, xs1, e2, ru, rr⟩ := rr
    obtain ⟨x2, xs2, e3, rv, rr⟩ := rr
    have rr' : xs2 = [] := rr
    subst rr'; subst e3; subst e2
    refine ⟨t, [x1, x2], rfl, ex_t hM1.zh ht, rfl, x1, [x2], rfl, ?_⟩
    refine h1 S1 σ hM1 (hE.grow g1) W tk ((L.kw hE).grow g1) _ fun x M2 S2 vx ⟨q, a, C, fs, fs', ds, ds', ex, hq, cl, na, hl, pa, hnx⟩ hM2 g2 rx => ?_
    subst ex
    have ex : vx = .ref a := rx
    subst ex
    obtain ⟨hz, dx, kvs, hh, hf, rrr⟩ := hM2.at hq
    refine ⟨a, C, dx, kvs, rfl, hh, cl, na, by rw [← hf] at hl; simpa using hl, x2, [], rfl, ?_⟩
    obtain ⟨hM3, g3⟩ := set_m (o := .ins C dx (putF f1 x1 kvs)) (m := .ins C fs' ds') hM2 hq hz (fun g => by
      obtain ⟨q1, q2⟩ := pa.at hf (rrr.grow g) ((ru.grow g2).grow g)
      exact ⟨hz, dx, _, upd_same, q1, q2⟩)
    have g13 := (g1.trans g2).trans g3
    refine hnx ⟨S2.as, S2.Z, upd S2.H a (.ins C dx (putF f1 x1 kvs))⟩ σ hM3 (hE.grow g13) W tk ((L.kw hE).grow g13) _ fun x M4 S4 vx ⟨q, a, C, fs, fs', ds, ds', ex, hq, cl, na, hl, pa, hnx⟩ hM4 g4 rx => ?_
    subst ex
    have ex : vx = .ref a := rx
    subst ex
    obtain ⟨hz, dx, kvs, hh, hf, rrr⟩ := hM4.at hq
    refine ⟨a, C, dx, kvs, rfl, hh, cl, na, by rw [← hf] at hl; simpa using hl, ?_⟩
    obtain ⟨hM5, g5⟩ := set_m (o := .ins C dx (putF f2 x2 kvs)) (m := .ins C fs' ds') hM4 hq hz (fun g => by
      obtain ⟨q1, q2⟩ := pa.at hf (rrr.grow g) ((((rv.grow g2).grow g3).grow g4).grow g)
      exact ⟨hz, dx, _, upd_same, q1, q2⟩)
    have gg := (g13.trans g4).trans g5
    exact ⟨rfl, L.nx _ _ ⟨S4.as, S4.Z, upd S4.H a (.ins C dx (putF f2 x2 kvs))⟩ σ hnx hM5 gg (hE.grow gg)⟩)
end
end PD

set_option Elab.async false
set_option linter.all false
set_option maxRecDepth 100000
set_option maxHeartbeats 4000000
/-! PD: dict comprehensions. -/
namespace PD
open PySem L2
open Evl (Ex ex_rd ex_l ex_t)
/-- what stands in the heap is taken among what may change -/
theorem adopt_m {K : PySem.W.Frag} {S : Sg} {M : Ms} {p : Addr} {m : MO} (h : OkM K S M) (hp : S.H p ≠ none) (hn : p ∉ S.as) (hm : MRep K S p m) :
    OkM K ⟨S.as ++ [p], S.Z, S.H⟩ (M ++ [(p, m)]) ∧ ∀ S0, Grow S0 S → S0.H p = none → Grow S0 ⟨S.as ++ [p], S.Z, S.H⟩ := by
  refine ⟨⟨by simp [h.len], ?_, h.zh, fun q hq => ?_, fun a ma => ?_⟩, fun S0 g n0 => ⟨fun a m => ?_, g.zz, g.keep, g.dom, g.sep⟩⟩
  · rw [List.nodup_append]
    exact ⟨h.nd, by simp, fun a ha b hb => by simp at hb; subst hb; exact fun e => hn (by rw [← e]; exact ha)⟩
  · rcases List.mem_append.mp hq with hq | hq
    · exact (h.mo q hq).keep (S' := ⟨S.as ++ [p], S.Z, S.H⟩) (Ex.refl _) (fun e => e) (fun _ e => e)
    · have e : q = (p, m) := by simpa using hq
      subst e
      exact hm.keep (S' := ⟨S.as ++ [p], S.Z, S.H⟩) (Ex.refl _) (fun e => e) (fun _ e => e)
  · rcases List.mem_append.mp ma with ma | ma
    · exact h.dom a ma
    · have ea : a = p := by simpa using ma
      rw [ea]; exact hp
  · rcases List.mem_append.mp m with m | m
    · exact g.pre a m
    · have ea : a = p := by simpa using m
      rw [ea]; exact .inr n0
section
variable {X : Cx} {Γ : En} {M : Ms} {kx vx tg iter : Expr} {ifs : List Expr} {scope : Scope} {pos : Pos} {k : KD} {kk : KX}
def DcOk (X : Cx) (Γ : En) (tg kx vx : Expr) (ifs : List Expr) (scope : Scope) (vs : List Nat) (k : KD) (n : Nat) (it : Nat → D → Prop) (G : Ms → Prop) (M1 : Ms) : Prop :=
  ∃ P : Nat → List Key → List D → Ms → Prop, P 0 [] [] M1 ∧ (∀ i ks ds M2, i ≤ n → P i ks ds M2 → G M2) ∧
    (∀ i d ks ds M2, i < n → it i d → P i ks ds M2 → Blk X scope fun Y => CG Y (wipeG Γ vs) M2 tg d vs fun Γ3 =>
      Blk X scope fun Y => GTs Y Γ3 M2 ifs fun b M3 => (b = true → Blk X scope fun Y => GE Y Γ3 M3 kx (fun y M4 => Blk X scope fun Y => GE Y Γ3 M4 vx (fun z M5 => ∃ q ks' ds', y = kD q ∧ ks.length < 16777216 ∧ PutK ks ds q z ks' ds' ∧ P (i + 1) ks' ds' M5) (fun _ _ _ => False)) (fun _ _ _ => False)) ∧ (b = false → P (i + 1) ks ds M3)) ∧
    (∀ ks ds M2, P n ks ds M2 → ∀ a, k (.hdl a) (M2 ++ [(a, .dct ks ds)]))
theorem dc_run {own : List (Str × Nat)} {n : Nat} {it : Nat → D → Prop} {G : Ms → Prop} {M1 : Ms} {S1 : Sg} {J : It} {σ : L2.St} {Q : VK} {Da : Addr} (hl : DcOk X Γ tg kx vx ifs scope (own.map (·.2)) k n it G M1) (hM1 : OkM X.K S1 M1) (hE : EnvOk X.K S1 σ Γ) (wk : DWalk X.K J n it G S1) (hQ : KV X.K S1 k Q) (hD : S1.H Da = none) :
    ∃ W : Nat → Nat → Hp → Prop, (∃ m, W 0 m (upd S1.H Da (.dK []))) ∧ ∀ i m H, W i m H → (J.stop i H ∧ Q (.ref Da) H) ∨ (J.go i H ∧ ∃ Nx : Hp → Prop, (∀ H', Nx H' → ∃ m', m' < m ∧ W (i + 1) m' H') ∧
      ∀ x H', J.yld i H x H' → allG X scope tg x (wipe σ (own.map (·.2))) H' fun σ2 H2 => wipe σ2 (own.map (·.2)) = wipe σ (own.map (·.2)) ∧ allTs X scope ifs σ2 H2 fun b H3 =>
        if b = true then allE X scope kx σ2 H3 fun y H4 => allE X scope vx σ2 H4 fun z H5 => ∃ kvs k, y = kV k ∧ H5 Da = some (.dK kvs) ∧ kvs.length < sizeLine ∧ Nx (upd H5 Da (.dK (putK kvs k z))) else Nx H3) := by
  obtain ⟨P, p0, pG, pt, pd⟩ := hl
  have hDz : S1.Z Da = none := hM1.zh.none hD
  have hDa : Da ∉ S1.as := fun m => hM1.dom Da m hD
  have wk' : Walk J n (fun H => ∃ S M, S.H = H ∧ Grow S1 S ∧ OkM X.K S M ∧ G M) (fun i H x H' => ∀ S M, S.H = H → Grow S1 S → OkM X.K S M → G M → ∃ S' d, S'.H = H' ∧ OkM X.K S' M ∧ Grow S S' ∧ it i d ∧ Rep X.K S' d x) := by
    obtain ⟨w1, w2, w3⟩ := wk
    refine ⟨fun i H hi ⟨S2, M2, e, g2, hM2, hG⟩ => ?_, fun H ⟨S2, M2, e, g2, hM2, hG⟩ => ?_, fun i H x H' hi _ y S2 M2 e g2 hM2 hG => ?_⟩
    · rw [← e]; exact w1 i S2 M2 hi g2 hM2 hG
    · rw [← e]; exact w2 S2 M2 g2 hM2 hG
    · rw [← e] at y; exact w3 i S2 M2 x H' hi g2 hM2 hG y
  let Pv : Nat → Hp → Prop := fun i H2 => ∃ S2 M2 ks ds kvs, S2.H = H2 ∧ Grow S1 S2 ∧ OkM X.K S2 M2 ∧ S2.Z Da = none ∧ Da ∉ S2.as ∧ S2.H Da = some (.dK kvs) ∧ kvs.map (·.1) = ks ∧ RepL X.K S2 ds (kvs.map (·.2)) ∧ P i ks ds M2
  have walks : ∀ i H2, i ≤ n → Pv i H2 → ∃ S M, S.H = H2 ∧ Grow S1 S ∧ OkM X.K S M ∧ G M := fun i H2 hi ⟨S2, M2, ks, ds, kvs, e, g2, hM2, _, _, _, _, _, hP⟩ => ⟨S2, M2, e, g2, hM2, pG i ks ds M2 hi hP⟩
  suffices parts : Pv 0 (upd S1.H Da (.dK [])) ∧ (∀ i x H H', i < n → Pv i H → (∀ S M, S.H = H → Grow S1 S → OkM X.K S M → G M → ∃ S' d, S'.H = H' ∧ OkM X.K S' M ∧ Grow S S' ∧ it i d ∧ Rep X.K S' d x) → allG X scope tg x (wipe σ (own.map (·.2))) H' fun σ2 H2 => wipe σ2 (own.map (·.2)) = wipe σ (own.map (·.2)) ∧ allTs X scope ifs σ2 H2 fun b H3 =>
      if b = true then allE X scope kx σ2 H3 fun y H4 => allE X scope vx σ2 H4 fun z H5 => ∃ kvs k, y = kV k ∧ H5 Da = some (.dK kvs) ∧ kvs.length < sizeLine ∧ Pv (i + 1) (upd H5 Da (.dK (putK kvs k z))) else Pv (i + 1) H3) ∧ (∀ H2, Pv n H2 → Q (.ref Da) H2) by
    obtain ⟨first, turn, last⟩ := parts
    refine ⟨fun i m H2 => i + m = n ∧ Pv i H2, ⟨n, Nat.zero_add n, first⟩, fun i m H2 ⟨left, here⟩ => ?_⟩
    have seen := walks i H2 (by omega) here
    cases m with
    | zero =>
      obtain rfl : i = n := left
      exact .inl ⟨wk'.stops H2 seen, last H2 here⟩
    | succ m =>
      have more : i < n := by omega
      exact .inr ⟨wk'.goes i H2 more seen, Pv (i + 1), fun H3 there => ⟨m, Nat.lt_succ_self m, by omega, there⟩, fun x H3 y => turn i x H2 H3 more here (wk'.yields i H2 x H3 more seen y)⟩
  refine ⟨?_, ?_, ?_⟩
  · obtain ⟨a1, a2, _⟩ := upd_f (o := .dK []) hM1 hDz hDa
    exact ⟨⟨S1.as, S1.Z, upd S1.H Da (.dK [])⟩, M1, [], [], [], rfl, a2 S1 (Grow.refl _) hD, a1, hDz, hDa, upd_same, rfl, RepL.nil, p0⟩
  · intro i x H H' hi ⟨S2, M2, ks, ds, kvs, e, g2, hM2, z2, n2, h2, f2, r2, hP⟩ y s Hs C cl fp
    obtain ⟨S3, d, e3, hM3, g3, hit, r3⟩ := y S2 M2 e g2 hM2 (pG i ks ds M2 (Nat.le_of_lt hi) hP)
    rw [← e3]
    have keep : ∀ S', Grow S2 S' → S'.Z Da = none ∧ Da ∉ S'.as ∧ S'.H Da = some (.dK kvs) := fun S' g' => by
      exact ⟨g'.sep Da (by rw [h2]; simp) z2 n2, g'.out (by rw [h2]; simp) n2, g'.keep Da _ h2 n2⟩
    refine pt i d ks ds M2 hi hit hP s Hs C cl fp S3 _ hM3 ((hE.grow (g2.trans g3)).wipe _) x r3 _ fun Γ4 σ4 hb hE4 w4 => ⟨w4.trans ?_, fun s' Hs' C' cl' fp' => ?_⟩
    · apply List.ext_getElem?
      intro j
      rw [wipe_get, wipe_get, wipe_length]
      split <;> rfl
    · refine hb s' Hs' C' cl' fp' S3 σ4 hM3 hE4 _ fun b M5 S5 hk hM5 g5 => ?_
      have g25 := g3.trans g5
      cases b with
      | true =>
        intro s'' Hs'' C'' cl'' fp''
        refine hk.1 rfl s'' Hs'' C'' cl'' fp'' S5 σ4 hM5 (hE4.grow g5) (fun _ _ _ _ => False) takes0 (fun _ _ _ _ _ z => z.elim) _ fun y6 M6 S6 v6 h6 hM6 g6 r6 => ?_
        intro s3 Hs3 C3 cl3 fp3
        refine h6 s3 Hs3 C3 cl3 fp3 S6 σ4 hM6 ((hE4.grow g5).grow g6) (fun _ _ _ _ => False) takes0 (fun _ _ _ _ _ z => z.elim) _ fun z7 M7 S7 v7 ⟨q, ks', ds', e7, hl7, p7, hP7⟩ hM7 g7 r7 => ?_
        subst e7
        have ey := rep_kD r6
        subst ey
        obtain ⟨zz, nn, hh⟩ := keep S7 ((g25.trans g6).trans g7)
        obtain ⟨a1, a2, a3, a4⟩ := upd_f (o := .dK (putK kvs q v7)) hM7 zz nn
        obtain ⟨q1, q2⟩ := p7.at f2 (r2.grow ((g25.trans g6).trans g7)) r7
        refine ⟨kvs, q, rfl, hh, by rw [← f2, List.length_map] at hl7; exact hl7, ⟨S7.as, S7.Z, upd S7.H Da (.dK (putK kvs q v7))⟩, M7, ks', ds', putK kvs q v7, rfl, a2 S1 (g2.trans ((g25.trans g6).trans g7)) hD, a1, zz, nn, upd_same, q1, a4 _ _ q2, hP7⟩
      | false =>
        obtain ⟨z5, n5, h5⟩ := keep S5 g25
        exact ⟨S5, M5, ks, ds, kvs, rfl, g2.trans g25, hM5, z5, n5, h5, f2, r2.grow g25, hk.2 rfl⟩
  · rintro H2 ⟨S2, M2, ks, ds, kvs, rfl, g2, hM2, z2, n2, h2, f2, r2, hP⟩
    obtain ⟨a1, a2⟩ := adopt_m (m := .dct ks ds) hM2 (by rw [h2]; simp) n2 ⟨z2, kvs, h2, f2, r2⟩
    exact hQ (.hdl Da) _ ⟨S2.as ++ [Da], S2.Z, S2.H⟩ (.ref Da) (pd ks ds M2 hP Da) a1 (a2 S1 g2 hD) rfl
/-- {kx: vx for tg in iter if ..}: it may change afterwards -/
theorem ge_dc (own : List (Str × Nat)) (hc : X.calm = true) (hN : X.N.Nodup) (ok : BlkOk X.N X.env.scope scope own) (h : GI X Γ M tg iter (DcOk X Γ tg kx vx ifs scope (own.map (·.2)) k) kk)
    (hs : ∀ x, foldedSetIterable iter X.env x = pure x := by intro _; rfl) : GE X Γ M (.DictComp kx vx [⟨tg, iter, ifs, 0⟩] scope pos) k kk := fun S σ hM hE W tk hW Q hQ =>
  of_pe (pe_dc hc hN wi ok pg_all pts_all pe_all pe_all hs) (h S σ hM hE W tk hW _ fun n it G M1 S1 J hl hM1 g1 wk => fun Da hD => dc_run hl hM1 (hE.grow g1) wk (hQ.grow g1) hD)
end
section
variable {X : Cx} {Γ : En} {M : Ms} {e : Expr} {k : KD} {kx : KX}
/-- a dict is not changed any more -/
theorem ge_frzD (h : GE X Γ M e (fun d M1 => ∃ (j : Nat) (a : Addr) (ks : List Key) (ds : List D), d = .hdl a ∧ M1[j]? = some (a, MO.dct ks ds) ∧ k (.dct ks ds) (M1.eraseIdx j)) kx) : GE X Γ M e k kx := fun S σ hM hE W tk hW Q hQ =>
  h S σ hM hE W tk hW Q fun d M1 S1 v ⟨j, a, ks, ds, e, hj, hk⟩ hM1 g1 r => by
    subst e
    cases r
    obtain ⟨hz, kvs, hh, hf, hr⟩ := hM1.at hj
    obtain ⟨hM2, g2⟩ := frz_m hM1 hj hz hh
    have hs : (M1.eraseIdx j).Sublist (M1.set j (a, .gone)) := by
      rw [← List.eraseIdx_set_eq (l := M1) (i := j) (a := (a, MO.gone))]
      exact List.eraseIdx_sublist _ _
    obtain ⟨hM3, g3⟩ := drop_m hM2 hs
    exact hQ (.dct ks ds) _ ⟨(M1.eraseIdx j).map (·.1), upd S1.Z a (.dK kvs), S1.H⟩ (.ref a) hk hM3 (g1.trans (g3 S1 g2)) ⟨a, kvs, rfl, upd_same, hf, (sg_mono (S := S1) (S' := ⟨(M1.eraseIdx j).map (·.1), upd S1.Z a (.dK kvs), S1.H⟩) (ex_new hz)).2 _ _ hr⟩
end
end PD

set_option Elab.async false
set_option linter.all false
set_option maxRecDepth 100000
set_option maxHeartbeats 4000000
/-! PD: the store in another order, calls that are handed a part of it. -/
namespace PD
open PySem L2
open Evl (Ex ex_rd ex_l ex_t)
theorem perm_m {K : PySem.W.Frag} {S : Sg} {M M' : Ms} (h : OkM K S M) (hp : M.Perm M') : OkM K ⟨M'.map (·.1), S.Z, S.H⟩ M' ∧ ∀ S0, Grow S0 S → Grow S0 ⟨M'.map (·.1), S.Z, S.H⟩ := by
  have pm : (M.map (·.1)).Perm (M'.map (·.1)) := hp.map _
  have mem : ∀ a, a ∈ M'.map (·.1) ↔ a ∈ S.as := fun a => by rw [h.len]; exact pm.symm.mem_iff
  refine ⟨⟨rfl, pm.nodup_iff.mp (by rw [← h.len]; exact h.nd), h.zh, fun p hq => (h.mo p (hp.symm.mem_iff.mp hq)).keep (S' := ⟨M'.map (·.1), S.Z, S.H⟩) (Ex.refl _) (fun e => e) (fun _ e => e), fun a ha => h.dom a ((mem a).mp ha)⟩, fun S0 g => ⟨fun a ha => g.pre a ((mem a).mp ha), g.zz, g.keep, g.dom, g.sep⟩⟩
section
variable {X : Cx} {Γ : En} {M M' : Ms} {e : Expr} {k : KD} {kx : KX} {E : ED} {sts : List Stmt}
theorem gb_perm (hp : M.Perm M') (h : GB X Γ M' sts E) : GB X Γ M sts E := fun S σ hM hE W tk De L => by
  obtain ⟨a, b⟩ := perm_m hM hp
  have g := b S (Grow.refl _)
  exact h ⟨M'.map (·.1), S.Z, S.H⟩ σ a (hE.grow g) W tk De (L.grow g)
theorem ge_perm (h : GE X Γ M e (fun d M1 => ∃ M2, M1.Perm M2 ∧ k d M2) kx) : GE X Γ M e k kx := fun S σ hM hE W tk hW Q hQ =>
  h S σ hM hE W tk hW Q fun d M1 S1 v ⟨M2, hp, hk⟩ hM1 g1 r => by
    obtain ⟨a, b⟩ := perm_m hM1 hp
    exact hQ d M2 ⟨M2.map (·.1), S1.Z, S1.H⟩ v hk a (b S g1) ((sg_mono (S := S1) (S' := ⟨M2.map (·.1), S1.Z, S1.H⟩) (Ex.refl _)).1 _ _ r)
end
theorem pick_one {M : Ms} {j : Nat} {p : Addr × MO} (h : M[j]? = some p) : pick [j] M = [p] := by simp [pick, h]
theorem merge_one {M : Ms} {j : Nat} {p : Addr × MO} : merge [j] M [p] = M.set j p := by simp [merge]
/-- a call that is handed one object -/
theorem callOk1 {R : RSp} {ds : List D} {M : Ms} {j : Nat} {p : Addr × MO} {k : KD} {kx : KX} (h : M[j]? = some p) (hR : R ds [p] (fun d N => (N.take 1).map (·.1) = [p.1] ∧ k d (merge [j] M N)) (fun c f N => (N.take 1).map (·.1) = [p.1] ∧ kx c f (merge [j] M N))) : CallOk R [j] ds M k kx := by
  refine ⟨by simp, fun i hi => by rw [List.mem_singleton.mp hi]; exact (List.getElem?_eq_some_iff.mp h).1, ?_⟩
  rw [pick_one h]
  exact hR
theorem fm_congr {α β : Type} {f g : α → Option β} : ∀ {l : List α}, (∀ x ∈ l, f x = g x) → l.filterMap f = l.filterMap g
  | [], _ => rfl
  | a :: l, h => by rw [List.filterMap_cons, List.filterMap_cons, h a (by simp), fm_congr fun x hx => h x (by simp [hx])]
theorem pick_range : ∀ {A B : Ms}, pick (List.range A.length) (A ++ B) = A := fun {A B} => by
  unfold pick
  apply List.ext_getElem?
  intro i
  have e : ((List.range A.length).filterMap fun x => (A ++ B)[x]?) = (List.range A.length).filterMap fun x => A[x]? := by
    refine fm_congr fun x hx => ?_
    rw [List.getElem?_append_left (List.mem_range.mp hx)]
  rw [e]
  have e2 : ((List.range A.length).filterMap fun x => A[x]?) = A := by
    induction A with
    | nil => rfl
    | cons a A ih =>
      rw [List.length_cons, List.range_succ_eq_map, List.filterMap_cons]
      simp only [List.getElem?_cons_zero, List.filterMap_map]
      congr 1
      have : ((fun x => (a :: A)[x]?) ∘ Nat.succ) = fun x => A[x]? := by funext x; simp
      rw [this]
      exact ih (by
        refine fm_congr fun x hx => ?_
        rw [List.getElem?_append_left (List.mem_range.mp hx)])
  rw [e2]
theorem merge_pre : ∀ {pre A B N : Ms}, A.length ≤ N.length → merge ((List.range A.length).map (· + pre.length)) (pre ++ A ++ B) N = pre ++ N.take A.length ++ B ++ N.drop A.length
  | pre, [], B, N, _ => by simp [merge]
  | pre, a :: A, B, [], h => by simp at h
  | pre, a :: A, B, p :: N, h => by
    rw [List.length_cons, List.range_succ_eq_map, List.map_cons, List.map_map]
    simp only [merge, Nat.zero_add]
    have e1 : (pre ++ (a :: A) ++ B).set pre.length p = (pre ++ [p]) ++ A ++ B := by
      rw [List.append_assoc, List.set_append_right _ _ (Nat.le_refl _)]
      simp
    have e2 : ((fun x => x + pre.length) ∘ Nat.succ) = fun x => x + (pre ++ [p]).length := by funext x; simp; omega
    rw [e1, e2, merge_pre (pre := pre ++ [p]) (by simpa using h)]
    simp
theorem merge_range {A B N : Ms} (h : A.length ≤ N.length) : merge (List.range A.length) (A ++ B) N = N.take A.length ++ B ++ N.drop A.length := by
  have := merge_pre (pre := []) (B := B) h
  simpa using this
/-- a call that is handed the first objects -/
theorem callOkPre {R : RSp} {ds : List D} {A B : Ms} {k : KD} {kx : KX} (hR : R ds A (fun d N => (N.take (List.range A.length).length).map (·.1) = A.map (·.1) ∧ k d (merge (List.range A.length) (A ++ B) N)) (fun c f N => (N.take (List.range A.length).length).map (·.1) = A.map (·.1) ∧ kx c f (merge (List.range A.length) (A ++ B) N))) : CallOk R (List.range A.length) ds (A ++ B) k kx := by
  refine ⟨List.nodup_range, fun j hj => by have := List.mem_range.mp hj; simp; omega, ?_⟩
  rw [pick_range]
  exact hR
end PD

set_option Elab.async false
set_option linter.all false
set_option maxRecDepth 100000
set_option maxHeartbeats 4000000
/-! PD: list comprehensions whose list may change afterwards. -/
namespace PD
open PySem L2
open Evl (Ex ex_rd ex_l ex_t)
section
variable {X : Cx} {Γ : En} {M : Ms} {elt tg iter : Expr} {ifs : List Expr} {scope : Scope} {pos : Pos} {k : KD} {kx : KX} {own : List (Str × Nat)}
def LcOkM (X : Cx) (Γ : En) (tg elt : Expr) (ifs : List Expr) (scope : Scope) (vs : List Nat) (k : KD) (n : Nat) (it : Nat → D → Prop) (G : Ms → Prop) (M1 : Ms) : Prop :=
  ∃ P : Nat → List D → Ms → Prop, P 0 [] M1 ∧ (∀ i acc M2, i ≤ n → P i acc M2 → G M2) ∧
    (∀ i d acc M2, i < n → it i d → P i acc M2 → Blk X scope fun Y => CG Y (wipeG Γ vs) M2 tg d vs fun Γ3 =>
      Blk X scope fun Y => GTs Y Γ3 M2 ifs fun b M3 => (b = true → Blk X scope fun Y => GE Y Γ3 M3 elt (fun y M4 => acc.length < 16777216 ∧ P (i + 1) (acc ++ [y]) M4) (fun _ _ _ => False)) ∧ (b = false → P (i + 1) acc M3)) ∧
    (∀ acc M2, P n acc M2 → ∀ a, k (.hdl a) (M2 ++ [(a, .lst acc)]))
theorem lc_runM {own : List (Str × Nat)} {n : Nat} {it : Nat → D → Prop} {G : Ms → Prop} {M1 : Ms} {S1 : Sg} {J : It} {σ : L2.St} {Q : VK} {Da : Addr} (hl : LcOkM X Γ tg elt ifs scope (own.map (·.2)) k n it G M1) (hM1 : OkM X.K S1 M1) (hE : EnvOk X.K S1 σ Γ) (wk : DWalk X.K J n it G S1) (hQ : KV X.K S1 k Q) (hD : S1.H Da = none) :
    ∃ W : Nat → Nat → Hp → Prop, (∃ m, W 0 m (upd S1.H Da (.lst []))) ∧ ∀ i m H, W i m H → (J.stop i H ∧ Q (.ref Da) H) ∨ (J.go i H ∧ ∃ Nx : Hp → Prop, (∀ H', Nx H' → ∃ m', m' < m ∧ W (i + 1) m' H') ∧
      ∀ x H', J.yld i H x H' → allG X scope tg x (wipe σ (own.map (·.2))) H' fun σ2 H2 => wipe σ2 (own.map (·.2)) = wipe σ (own.map (·.2)) ∧ allTs X scope ifs σ2 H2 fun b H3 =>
        if b = true then allE X scope elt σ2 H3 fun y H4 => ∃ acc, H4 Da = some (.lst acc) ∧ acc.length < sizeLine ∧ Nx (upd H4 Da (.lst (acc ++ [y]))) else Nx H3) := by
  obtain ⟨P, p0, pG, pt, pd⟩ := hl
  have hDz : S1.Z Da = none := hM1.zh.none hD
  have hDa : Da ∉ S1.as := fun m => hM1.dom Da m hD
  have wk' : Walk J n (fun H => ∃ S M, S.H = H ∧ Grow S1 S ∧ OkM X.K S M ∧ G M) (fun i H x H' => ∀ S M, S.H = H → Grow S1 S → OkM X.K S M → G M → ∃ S' d, S'.H = H' ∧ OkM X.K S' M ∧ Grow S S' ∧ it i d ∧ Rep X.K S' d x) := by
    obtain ⟨w1, w2, w3⟩ := wk
    refine ⟨fun i H hi ⟨S2, M2, e, g2, hM2, hG⟩ => ?_, fun H ⟨S2, M2, e, g2, hM2, hG⟩ => ?_, fun i H x H' hi _ y S2 M2 e g2 hM2 hG => ?_⟩
    · rw [← e]; exact w1 i S2 M2 hi g2 hM2 hG
    · rw [← e]; exact w2 S2 M2 g2 hM2 hG
    · rw [← e] at y; exact w3 i S2 M2 x H' hi g2 hM2 hG y
  let Pv : Nat → Hp → Prop := fun i H2 => ∃ S2 M2 acc vs, S2.H = H2 ∧ Grow S1 S2 ∧ OkM X.K S2 M2 ∧ S2.Z Da = none ∧ Da ∉ S2.as ∧ S2.H Da = some (.lst vs) ∧ RepL X.K S2 acc vs ∧ P i acc M2
  refine lc_it wk' Pv ?_ (fun i H2 hi ⟨S2, M2, acc, vs, e, g2, hM2, _, _, _, _, hP⟩ => ⟨S2, M2, e, g2, hM2, pG i acc M2 hi hP⟩) ?_ ?_
  · obtain ⟨a1, a2, _⟩ := upd_f (o := .lst []) hM1 hDz hDa
    exact ⟨⟨S1.as, S1.Z, upd S1.H Da (.lst [])⟩, M1, [], [], rfl, a2 S1 (Grow.refl _) hD, a1, hDz, hDa, upd_same, RepL.nil, p0⟩
  · intro i x H H' hi ⟨S2, M2, acc, vs, e, g2, hM2, z2, n2, h2, r2, hP⟩ y s Hs C cl fp
    obtain ⟨S3, d, e3, hM3, g3, hit, r3⟩ := y S2 M2 e g2 hM2 (pG i acc M2 (Nat.le_of_lt hi) hP)
    rw [← e3]
    have keep : ∀ S', Grow S2 S' → S'.Z Da = none ∧ Da ∉ S'.as ∧ S'.H Da = some (.lst vs) := fun S' g' => by
      exact ⟨g'.sep Da (by rw [h2]; simp) z2 n2, g'.out (by rw [h2]; simp) n2, g'.keep Da _ h2 n2⟩
    refine pt i d acc M2 hi hit hP s Hs C cl fp S3 _ hM3 ((hE.grow (g2.trans g3)).wipe _) x r3 _ fun Γ4 σ4 hb hE4 w4 => ⟨w4.trans ?_, fun s' Hs' C' cl' fp' => ?_⟩
    · apply List.ext_getElem?
      intro j
      rw [wipe_get, wipe_get, wipe_length]
      split <;> rfl
    · refine hb s' Hs' C' cl' fp' S3 σ4 hM3 hE4 _ fun b M5 S5 hk hM5 g5 => ?_
      have g25 := g3.trans g5
      cases b with
      | true =>
        intro s'' Hs'' C'' cl'' fp''
        refine hk.1 rfl s'' Hs'' C'' cl'' fp'' S5 σ4 hM5 (hE4.grow g5) (fun _ _ _ _ => False) takes0 (fun _ _ _ _ _ z => z.elim) _ fun d6 M6 S6 v6 ⟨hl, hP6⟩ hM6 g6 r6 => ?_
        obtain ⟨z6, n6, h6⟩ := keep S6 (g25.trans g6)
        obtain ⟨a1, a2, a3, a4⟩ := upd_f (o := .lst (vs ++ [v6])) hM6 z6 n6
        refine ⟨vs, h6, by rw [r2.len]; exact hl, ⟨S6.as, S6.Z, upd S6.H Da (.lst (vs ++ [v6]))⟩, M6, acc ++ [d6], vs ++ [v6], rfl, a2 S1 (g2.trans (g25.trans g6)) hD, a1, z6, n6, upd_same, a4 _ _ ((r2.grow (g25.trans g6)).app (.one r6)), hP6⟩
      | false =>
        obtain ⟨z5, n5, h5⟩ := keep S5 g25
        exact ⟨S5, M5, acc, vs, rfl, g2.trans g25, hM5, z5, n5, h5, r2.grow g25, hk.2 rfl⟩
  · rintro H2 ⟨S2, M2, acc, vs, rfl, g2, hM2, z2, n2, h2, r2, hP⟩
    obtain ⟨a1, a2⟩ := adopt_m (m := .lst acc) hM2 (by rw [h2]; simp) n2 ⟨z2, vs, h2, r2⟩
    exact hQ (.hdl Da) _ ⟨S2.as ++ [Da], S2.Z, S2.H⟩ (.ref Da) (pd acc M2 hP Da) a1 (a2 S1 g2 hD) rfl
/-- [elt for tg in iter if ..]: the list may change afterwards -/
theorem ge_lcM (own : List (Str × Nat)) (hc : X.calm = true) (hN : X.N.Nodup) (ok : BlkOk X.N X.env.scope scope own) (h : GI X Γ M tg iter (LcOkM X Γ tg elt ifs scope (own.map (·.2)) k) kx)
    (hs : ∀ x, foldedSetIterable iter X.env x = pure x := by intro _; rfl) : GE X Γ M (.ListComp elt [⟨tg, iter, ifs, 0⟩] scope pos) k kx := fun S σ hM hE W tk hW Q hQ =>
  of_pe (pe_lc hc hN wi ok pg_all pts_all pe_all hs) (h S σ hM hE W tk hW _ fun n it G M1 S1 J hl hM1 g1 wk => fun Da hD => lc_runM hl hM1 (hE.grow g1) wk (hQ.grow g1) hD)
end
end PD

set_option Elab.async false
set_option linter.all false
set_option maxRecDepth 100000
set_option maxHeartbeats 4000000
/-! PD: calls that are handed a part of the store whole: they may leave fewer entries, or others in their place. -/
namespace PD
open PySem L2
open Evl (Ex ex_rd ex_l ex_t)
theorem part_ok {K : PySem.W.Frag} {S S2 : Sg} {A B N : Ms} (h : OkM K S (B ++ A)) (h2 : OkM K S2 N) (g : Grow ⟨A.map (·.1), S.Z, S.H⟩ S2) :
    OkM K ⟨(B ++ N).map (·.1), S2.Z, S2.H⟩ (B ++ N) ∧ ∀ S0, Grow S0 S → Grow S0 ⟨(B ++ N).map (·.1), S2.Z, S2.H⟩ := by
  have nd := h.nd
  rw [h.len, List.map_append, List.nodup_append] at nd
  obtain ⟨ndB, _, apart⟩ := nd
  have inS : ∀ a, a ∈ S.as ↔ a ∈ B.map (·.1) ∨ a ∈ A.map (·.1) := fun a => by rw [h.len, List.map_append, List.mem_append]
  have N2 : ∀ a ∈ N.map (·.1), a ∈ A.map (·.1) ∨ S.H a = none := fun a ha => g.pre a (by rw [h2.len]; exact ha)
  have away : ∀ a ∈ B.map (·.1), a ∉ A.map (·.1) := fun a hb hc => apart a hb a hc rfl
  have live : ∀ a ∈ B.map (·.1), S.H a ≠ none := fun a hb => h.dom a ((inS a).mpr (.inl hb))
  have out : ∀ q, q ∉ S.as → q ∉ A.map (·.1) := fun q n m => n ((inS q).mpr (.inr m))
  refine ⟨⟨rfl, ?_, h2.zh, fun p hp => ?_, fun a ha => ?_⟩, fun S0 g0 => Grow.trans g0 ⟨fun a ha => ?_, g.zz, fun q o e n => g.keep q o e (out q n), g.dom, fun q e z n => g.sep q e z (out q n)⟩⟩
  · show ((B ++ N).map (·.1)).Nodup
    rw [List.map_append, List.nodup_append]
    refine ⟨ndB, by rw [← h2.len]; exact h2.nd, fun a hb c hc e => ?_⟩
    subst e
    rcases N2 a hc with q | q
    · exact away a hb q
    · exact live a hb q
  · rcases List.mem_append.mp hp with hb | hb
    · have hb1 : p.1 ∈ B.map (·.1) := List.mem_map_of_mem hb
      exact (h.mo p (List.mem_append_left _ hb)).keep (S' := ⟨(B ++ N).map (·.1), S2.Z, S2.H⟩) g.zz (fun z => g.sep p.1 (live p.1 hb1) z (away p.1 hb1)) (fun o e => g.keep p.1 o e (away p.1 hb1))
    · exact (h2.mo p hb).keep (S' := ⟨(B ++ N).map (·.1), S2.Z, S2.H⟩) (Ex.refl _) (fun e => e) (fun _ e => e)
  · have ha2 : a ∈ B.map (·.1) ∨ a ∈ N.map (·.1) := by rw [← List.mem_append, ← List.map_append]; exact ha
    rcases ha2 with hb | hb
    · exact g.dom a (live a hb)
    · exact h2.dom a (by rw [h2.len]; exact hb)
  · have ha2 : a ∈ B.map (·.1) ∨ a ∈ N.map (·.1) := by rw [← List.mem_append, ← List.map_append]; exact ha
    rcases ha2 with hb | hb
    · exact .inl ((inS a).mpr (.inl hb))
    · exact (N2 a hb).elim (fun q => .inl ((inS a).mpr (.inr q))) .inr
/-- a call is handed A, and N comes back -/
def Hand (R : RSp) (ds : List D) (M : Ms) (k : KD) (kx : KX) : Prop := ∃ A B : Ms, M.Perm (B ++ A) ∧ R ds A (fun d N => k d (B ++ N)) (fun c f N => kx c f (B ++ N))
theorem Hand.of {R : RSp} {ds : List D} {M : Ms} {k : KD} {kx : KX} (A B : Ms) (hp : M.Perm (B ++ A)) (h : R ds A (fun d N => k d (B ++ N)) (fun c f N => kx c f (B ++ N))) : Hand R ds M k kx := ⟨A, B, hp, h⟩
theorem Hand.all {R : RSp} {ds : List D} {M : Ms} {k : KD} {kx : KX} (h : R ds M k kx) : Hand R ds M k kx := ⟨M, [], .refl _, h⟩
theorem Hand.cut {R : RSp} {ds : List D} {M A : Ms} {k : KD} {kx : KX} (n : Nat) (e : M.drop n = A) (h : R ds A (fun d N => k d (M.take n ++ N)) (fun c f N => kx c f (M.take n ++ N))) : Hand R ds M k kx := ⟨A, M.take n, by rw [← e, List.take_append_drop], h⟩
theorem Hand.none {R : RSp} {ds : List D} {M : Ms} {k : KD} {kx : KX} (h : R ds [] (fun d N => k d (M ++ N)) (fun c f N => kx c f (M ++ N))) : Hand R ds M k kx := ⟨[], M, by rw [List.append_nil], h⟩
section
variable {R : RSp} {k : KD} {kx : KX}
theorem sp_ofF {K : PySem.W.Frag} {S' : Sg} {ds : List D} {M' : Ms} {vs : List V} {Q : VK} {W : WX} {σ : L2.St} (hM : OkM K S' M') (rv : RepL K S' ds vs) (h : Hand R ds M' k kx) (hQ : KV K S' k Q) (hW : KW K S' kx W σ) :
    spD K R vs S'.H Q (L2.WE W σ) := by
  obtain ⟨A, B, hp, h⟩ := h
  obtain ⟨p1, p2⟩ := perm_m hM hp
  obtain ⟨d1, _⟩ := drop_m p1 (List.sublist_append_right B A)
  refine ⟨⟨A.map (·.1), S'.Z, S'.H⟩, ds, A, _, _, rfl, d1, (sg_mono (S := S') (S' := ⟨A.map (·.1), S'.Z, S'.H⟩) (Ex.refl _)).2 _ _ rv, h, fun d N S2 v hd hN g r => ?_, fun cls fs N S2 dd hd hN g r => ?_⟩
  · obtain ⟨a, b⟩ := part_ok p1 hN g
    exact hQ d _ ⟨(B ++ N).map (·.1), S2.Z, S2.H⟩ v hd a (b _ (p2 _ (Grow.refl _))) ((sg_mono (S := S2) (S' := ⟨(B ++ N).map (·.1), S2.Z, S2.H⟩) (Ex.refl _)).1 _ _ r)
  · obtain ⟨a, b⟩ := part_ok p1 hN g
    refine hW cls fs _ ⟨(B ++ N).map (·.1), S2.Z, S2.H⟩ dd hd a (b _ (p2 _ (Grow.refl _))) ?_
    cases dd with
    | none => exact r
    | some x => obtain ⟨kvs, h1, h2, h3⟩ := r; exact ⟨kvs, h1, h2, (sg_mono (S := S2) (S' := ⟨(B ++ N).map (·.1), S2.Z, S2.H⟩) (Ex.refl _)).2 _ _ h3⟩
end
section
variable {X : Cx} {Γ : En} {M : Ms} {e a b c o i : Expr} {es : List Expr} {k : KD} {kx : KX} {E : ED} {d x y z : D} {pos pos' apos p : Pos} {nm m : Str} {j l : Nat} {C : Addr} {dds : List D} {R : RSp}
theorem ge_callF (F : FnD X.prog X.w X.K X.mg X.base j nm dds R) (hr : Room l X.A) (hl : j ≤ l) (h : GA X Γ M (e :: es) (fun ds M1 => Hand R (ds ++ dds) M1 k kx) kx) (hg : Gl X nm := by rfl) (hdb : (nm == ("__debug__" : Str)) = false := by decide)
    (he : starEach (e :: es) X.env = (false, eval e X.env) :: starEach es X.env := by rfl) (hpl : (backTo pos (starEach es X.env)).any (·.1) = false := by rfl) : GE X Γ M (.Call (.Name nm p) (e :: es) [] pos) k kx := fun S σ hM hE W tk hW Q hQ pins s I => by
  obtain ⟨f, fd, ps, dvl, dvs, hm, hk, hb, hd, hrd, F⟩ := F.ex
  refine wpAny_Call_Name_kw (ld_glob I hg hm ?_ hdb)
  refine PySem.W.callWith_K (h₀ := X.base) I.ok.mod.kin hk (thn (h S σ hM hE W tk hW (fun vs H1 => spD X.K R (vs ++ dvs) H1 Q (L2.WE W σ)) (fun ds M1 S1 vs h1 hM1 g1 r1 => sp_ofF hM1 (r1.app (hrd S1)) h1 (hQ.grow g1) (hW.grow g1)) pos pins s I) fun us s1 ⟨vs, H1, I1, r, q⟩ => ⟨I1.kIn, ?_⟩) he hpl
  exact run_fnSD F (hr.mono hl) hb hd (passAt tk σ) I1 r q
theorem ge_call0F (F : FnD X.prog X.w X.K X.mg X.base j nm dds R) (hr : Room l X.A) (hl : j ≤ l) (h : Hand R dds M k kx) (hg : Gl X nm := by rfl) (hdb : (nm == ("__debug__" : Str)) = false := by decide) : GE X Γ M (.Call (.Name nm p) [] [] pos) k kx := fun S σ hM hE W tk hW Q hQ pins s I => by
  obtain ⟨f, fd, ps, dvl, dvs, hm, hk, hb, hd, hrd, F⟩ := F.ex
  refine wpAny_Call_Name_kw (ld_glob I hg hm ?_ hdb)
  exact PySem.W.callWith_K0 I.kIn hk (run_fnSD (us := []) (vs := []) F (hr.mono hl) hb hd (passAt tk σ) I .nil (sp_ofF hM (hrd S) h hQ hW))
theorem ge_methF {pl : Sem Bool} (F : MtD X.prog X.w X.K X.mg X.base j C m dds R) (hr : Room l X.A) (hl : j ≤ l) (h : GE X Γ M o (fun d M1 => ∃ fs ds0, ObjD M1 d C fs ds0 ∧ m ∉ fs ∧ GA X Γ M1 (e :: es) (fun ds M2 => Hand R (d :: (ds ++ dds)) M2 k kx) kx) kx)
    (hst : starEach (e :: es) X.env = (false, eval e X.env) :: starEach es X.env := by rfl) (hpl : (backTo pos (starEach es X.env)).any (·.1) = false := by rfl)
    (ht : eval (.Call (.Attribute o m apos) (e :: es) [] pos) X.env = (do
      let ov ← eval o X.env
      standAt apos.atName
      let (f, first) ← holding [ov] (getMethod ov m pl)
      callWith pos f first (backTo pos (starEach (e :: es) X.env)) (backToKw pos (keywordEach [] X.env))) := by rfl) : GE X Γ M (.Call (.Attribute o m apos) (e :: es) [] pos) k kx := fun S σ hM hE W tk hW Q hQ pins s I => by
  obtain ⟨f, fd, ps, dvl, dvs, hm, hb, hd, hrd, F'⟩ := F.ex
  refine PySem.W.methodCall_KW (pl := pl) (thn (h S σ hM hE W tk hW (fun x H1 => ∃ a dx fs, x = .ref a ∧ H1 a = some (.ins C dx fs) ∧ fs.lookup m = none ∧ WA X (e :: es) σ H1 fun vs H2 => spD X.K R (x :: (vs ++ dvs)) H2 Q (L2.WE W σ)) (fun d M1 S1 v ⟨fs, ds0, ob, nf, h1⟩ hM1 g1 r1 => by
    obtain ⟨a, dx, kvs, rfl, hh, hf, hrr⟩ := ob.at hM1 r1
    refine ⟨a, dx, kvs, rfl, hh, lookup_no (by rw [hf]; exact nf), ?_⟩
    exact h1 S1 σ hM1 (hE.grow g1) W tk (hW.grow g1) _ fun ds M2 S2 vs h2 hM2 g2 r2 => sp_ofF hM2 (.cons (r1.grow g2) (r2.app (hrd S2))) h2 ((hQ.grow g1).grow g2) ((hW.grow g1).grow g2)) pins s I) fun u s1 ⟨x, H1, I1, rx, a, dx, fs, ex, ea, l, q⟩ => ?_) ht
  subst ex
  obtain rfl : u = Value.ref a := rx
  refine getmeth_ok I1 ea F.cl hm l ?_
  refine PySem.W.callWith_K (first := [.ref a]) (h₀ := X.base) I.ok.mod.kin hm.kp (thn (q pos pins s1 I1) fun us s2 ⟨vs, H2, I2, r, q2⟩ => ⟨I2.kIn, ?_⟩) hst hpl
  exact run_fnSD (us := .ref a :: us) (vs := .ref a :: vs) F' (hr.mono hl) hb hd (passAt tk σ) I2 (.cons rfl r) q2
theorem ge_meth0F {pl : Sem Bool} (F : MtD X.prog X.w X.K X.mg X.base j C m dds R) (hr : Room l X.A) (hl : j ≤ l) (h : GE X Γ M o (fun d M1 => ∃ fs ds0, ObjD M1 d C fs ds0 ∧ m ∉ fs ∧ Hand R (d :: dds) M1 k kx) kx)
    (ht : eval (.Call (.Attribute o m apos) [] [] pos) X.env = (do
      let ov ← eval o X.env
      standAt apos.atName
      let (f, first) ← holding [ov] (getMethod ov m pl)
      callWith pos f first (backTo pos (starEach [] X.env)) (backToKw pos (keywordEach [] X.env))) := by rfl) : GE X Γ M (.Call (.Attribute o m apos) [] [] pos) k kx := fun S σ hM hE W tk hW Q hQ pins s I => by
  obtain ⟨f, fd, ps, dvl, dvs, hm, hb, hd, hrd, F'⟩ := F.ex
  refine PySem.W.methodCall_KW (pl := pl) (thn (h S σ hM hE W tk hW (fun x H1 => ∃ a dx fs, x = .ref a ∧ H1 a = some (.ins C dx fs) ∧ fs.lookup m = none ∧ spD X.K R (x :: dvs) H1 Q (L2.WE W σ)) (fun d M1 S1 v ⟨fs, ds0, ob, nf, h1⟩ hM1 g1 r1 => by
    obtain ⟨a, dx, kvs, rfl, hh, hf, hrr⟩ := ob.at hM1 r1
    exact ⟨a, dx, kvs, rfl, hh, lookup_no (by rw [hf]; exact nf), sp_ofF hM1 (.cons r1 (hrd S1)) h1 (hQ.grow g1) (hW.grow g1)⟩) pins s I) fun u s1 ⟨x, H1, I1, rx, a, dx, fs, ex, ea, l, q⟩ => ?_) ht
  subst ex
  obtain rfl : u = Value.ref a := rx
  refine getmeth_ok I1 ea F.cl hm l ?_
  exact PySem.W.callWith_K0 (first := [.ref a]) I1.kIn hm.kp (run_fnSD (us := [.ref a]) (vs := [.ref a]) F' (hr.mono hl) hb hd (passAt tk σ) I1 (.cons rfl .nil) q)
theorem mk_ofF {S : Sg} {ds : List D} {vs dvs : List V} {Q : VK} {W : WX} {σ : L2.St} (hM : OkM X.K S M) (rv : RepL X.K S ds vs) (hrd : ∀ S, RepL X.K S dds dvs) (hQ : KV X.K S k Q) (hW : KW X.K S kx W σ)
    (h : ∀ x, Hand R (.hdl x :: (ds ++ dds)) (M ++ [(x, .ins C [] [])]) (fun d M2 => d = .non ∧ k (.hdl x) M2) kx) {x dx : Addr} (hx : S.H x = none) (hdx : S.H dx = none) (ne : dx ≠ x) :
    spD X.K R (.ref x :: (vs ++ dvs)) (upd (upd S.H dx (.own x)) x (.ins C dx [])) (fun v H2 => v = .non ∧ Q (.ref x) H2) (L2.WE W σ) := by
  obtain ⟨a, g⟩ := new_ins (C := C) hM hx hdx ne
  refine sp_ofF (S' := ⟨S.as ++ [x], S.Z, upd (upd S.H dx (.own x)) x (.ins C dx [])⟩) a (RepL.cons (d := .hdl x) rfl ((rv.app (hrd S)).grow g)) (h x) (fun d M' S' v ⟨e, hk⟩ hM' g' r => ?_) (hW.grow g)
  subst e
  exact ⟨r, hQ (.hdl x) M' S' (.ref x) hk hM' (g.trans g') rfl⟩
theorem ge_makeF (F : MkD X.prog X.w X.K X.mg X.base j C nm dds R) (hr : Room l X.A) (hl : j + 1 ≤ l) (h : GA X Γ M (e :: es) (fun ds M1 => ∀ x, Hand R (.hdl x :: (ds ++ dds)) (M1 ++ [(x, .ins C [] [])]) (fun d M2 => d = .non ∧ k (.hdl x) M2) kx) kx) (hg : Gl X nm := by rfl) (hdb : (nm == ("__debug__" : Str)) = false := by decide)
    (he : starEach (e :: es) X.env = (false, eval e X.env) :: starEach es X.env := by rfl) (hpl : (backTo pos (starEach es X.env)).any (·.1) = false := by rfl) : GE X Γ M (.Call (.Name nm p) (e :: es) [] pos) k kx := fun S σ hM hE W tk hW Q hQ pins s I => by
  obtain ⟨f, fd, ps, dvl, dvs, Mm, hb, hd, hrd, F'⟩ := F.ex
  refine wpAny_Call_Name_kw (ld_glob I hg F.gC ?_ hdb)
  refine PySem.W.callWith_K (h₀ := X.base) I.ok.mod.kin Mm.kp (thn (h S σ hM hE W tk hW (fun vs H1 => ∀ x dx, H1 x = none → H1 dx = none → dx ≠ x → spD X.K R (.ref x :: (vs ++ dvs)) (upd (upd H1 dx (.own x)) x (.ins C dx [])) (fun v H2 => v = .non ∧ Q (.ref x) H2) (L2.WE W σ))
    (fun ds M1 S1 vs h1 hM1 g1 r1 x dx hx hdx ne => mk_ofF hM1 r1 hrd (hQ.grow g1) (hW.grow g1) h1 hx hdx ne) pos pins s I) fun us s1 ⟨vs, H1, I1, r, q⟩ => ⟨I1.kIn, ?_⟩) he hpl
  exact run_makeS (EE := L2.WE W) Mm F' (hr.mono hl) hb hd (passAt tk σ) I1 r q
theorem ge_make0F (F : MkD X.prog X.w X.K X.mg X.base j C nm dds R) (hr : Room l X.A) (hl : j + 1 ≤ l) (h : ∀ x, Hand R (.hdl x :: dds) (M ++ [(x, .ins C [] [])]) (fun d M2 => d = .non ∧ k (.hdl x) M2) kx) (hg : Gl X nm := by rfl) (hdb : (nm == ("__debug__" : Str)) = false := by decide) : GE X Γ M (.Call (.Name nm p) [] [] pos) k kx := fun S σ hM hE W tk hW Q hQ pins s I => by
  obtain ⟨f, fd, ps, dvl, dvs, Mm, hb, hd, hrd, F'⟩ := F.ex
  refine wpAny_Call_Name_kw (ld_glob I hg F.gC ?_ hdb)
  exact PySem.W.callWith_K0 I.kIn Mm.kp (run_makeS (us := []) (vs := []) (EE := L2.WE W) Mm F' (hr.mono hl) hb hd (passAt tk σ) I .nil fun x dx hx hdx ne => mk_ofF (ds := []) hM RepL.nil hrd hQ hW h hx hdx ne)
end
section
variable {K : PySem.W.Frag} {M : Ms} {k : KD} {ds : List D}
theorem lst_hdl {p : Nat} {h : Addr} (hm : M[p]? = some (h, .lst ds)) (hk : k (.lst ds) M) : CallD K (rLstOf K) [.hdl h] M k := fun S vs hM rv Q hQ => by
  obtain ⟨v, rfl, rfl⟩ := rep1 rv
  obtain ⟨_, xs, h, r⟩ := hM.at hm
  refine ⟨_, xs, rfl, .inl (SqL.of h), fun l hl => ?_⟩
  obtain ⟨hM2, g2⟩ := new_z (o := .lst xs) hM hl
  exact hQ _ M ⟨S.as, upd S.Z l (.lst xs), upd S.H l (.lst xs)⟩ (.ref l) hk hM2 g2 ⟨l, _, rfl, upd_same, r.grow g2⟩
theorem in_signs {s t : Str} (hk : k (.bl (!(Builtin.Str.occurrences t s 0 t.length 1).isEmpty)) M) : Bin K (rInU K) (.str s) (.str t) M k :=
  bin_flat (v := .bl (!(Builtin.Str.occurrences t s 0 t.length 1).isEmpty)) (fun S vx vy _ rx ry Q q => by cases rx; cases ry; exact .inr (.inl ⟨s, t, rfl, rfl, q⟩)) hk
end
theorem ge_callK0F {X : Cx} {Γ : En} {M : Ms} {kws : List Keyword} {ks : List Str} {sel : List (Nat × Nat)} {k : KD} {kx : KX} {pos p : Pos} {nm : Str} {j l : Nat} {dds : List D} {R : RSp} (F : FnK X.prog X.w X.K X.mg X.base j nm 0 ks sel dds R) (hr : Room l X.A) (hl : j ≤ l) (h : GK X Γ M kws (fun zs M2 => zs.length = ks.length ∧ Hand R (selL sel [] dds zs) M2 k kx) kx)
    (hall : (backToKw pos (keywordEach kws X.env)).all (·.1.isSome) = true := by rfl) (hks : (backToKw pos (keywordEach kws X.env)).filterMap (·.1) = ks := by rfl) (hg : Gl X nm := by rfl)
    (hdb : (nm == ("__debug__" : Str)) = false := by decide) (hpl : ((backTo pos (starEach [] X.env)).any (·.1) || (backToKw pos (keywordEach kws X.env)).any (·.1.isNone)) = false := by rfl) : GE X Γ M (.Call (.Name nm p) [] kws pos) k kx := fun S σ hM hE W tk hW Q hQ pins s I => by
  obtain ⟨f, fd, ps, hm, hk, ⟨g, gV, hb, hrep⟩, F⟩ := F.ex
  refine wpAny_Call_Name_kw (ld_glob I hg hm ?_ hdb)
  refine PySem.W.callWith_KW0 (h₀ := X.base) I.ok.mod.kin hk hall ?_ hpl
  refine thn (h S σ hM hE W tk hW (fun zs H2 => zs.length = ks.length ∧ spD X.K R (gV [] zs) H2 Q (L2.WE W σ)) (fun zs M2 S2 ws ⟨q2, q3⟩ hM2 g2 r2 => ⟨r2.len.trans q2, sp_ofF hM2 (hrep S2 _ _ _ _ RepL.nil r2) q3 (hQ.grow g2) (hW.grow g2)⟩) pos pins s I) fun ws s2 ⟨zs, H2, I2, rz, l2, q2⟩ => ⟨I2.kIn, ?_⟩
  rw [hks]
  exact run_fnNS (us := []) (vs := []) (EE := L2.WE W) F (hr.mono hl) hb (passAt tk σ) I2 .nil rz rfl l2 q2
end PD

set_option Elab.async false
set_option linter.all false
set_option maxRecDepth 100000
set_option maxHeartbeats 4000000
/-! PD: x = [..] as a list that may change; xs == [] whatever the items are. -/
namespace PySem.SeqAt
open AutoSeq1 (wpAny_loadPart')
open MeetsSeq MeetsSeq2 MeetsSeq3 SeqRoads2
variable {prog : Program} {w : World}
theorem sizes_apart (p q : Addr) (as bs : Array Value) (i j : Nat) (e1 e2 : Option Addr) (z1 z2 : Array (Option Value)) (far : (as.size != bs.size) = true) :
    MeetsIn prog w (Builtin.«list.__eq__» ⟨[.ref p, .ref q], []⟩)
      (fun A R s => (s.heap.get? p = some ⟨.type "list", e1, .seq as i, z1⟩ ∧ s.heap.get? q = some ⟨.type "list", e2, .seq bs j, z2⟩) ∧ R (.ok (.ret (.bool false))) s) := by
  intro A R s h
  obtain ⟨hp, g, d, tk, os⟩ := s
  obtain ⟨⟨h1, h2⟩, h3⟩ := h
  have sb := AutoSeq1.sub_list_list
  wp_walk using wpAny_loadPart' h1, wpAny_loadPart' h2
  exact h3
theorem apart_run {A : Around} {s : Shared} {p q : Addr} {as bs : Array Value} (hp : s.heap.IsList p as) (hq : s.heap.IsList q bs) (far : (as.size != bs.size) = true) (hu : A.units < cLine) (E Q : Value → Shared → Prop) (h : Q (.bool false) s) :
    wpAny (model prog w) A (richCompare .Eq (.ref p) (.ref q)) Q E s := by
  obtain ⟨⟨c1, d1, x1, z1⟩, o1, k1, i, y1⟩ := id hp
  obtain ⟨⟨c2, d2, x2, z2⟩, o2, k2, j, y2⟩ := id hq
  simp only at k1 y1 k2 y2
  subst k1 y1 k2 y2
  exact wpAny_richCompare_same_room (op := .Eq) ⟨_, o1, rfl⟩ ⟨_, o2, rfl⟩ F.slot_list_eq (call_meetsIn F.slot_list_eq ⟨_, o1, rfl⟩ F.entry_list_eq (F.args_list_eq_2 _ _) (sizes_apart p q as bs i j d1 d2 z1 z2 far)
    ⟨⟨o1, o2⟩, show Value.bool false ≠ Value.notImplemented ∧ Q (.bool false) s from ⟨(fun x => nomatch x), h⟩⟩) hu
end PySem.SeqAt
namespace PD
open PySem L2
open Evl (Ex ex_rd ex_l ex_t)
/-- xs == [] -/
def rEmp (K : PySem.W.Frag) : R2 := fun x y H Q => ∃ a b xs, x = .ref a ∧ y = .ref b ∧ SqL K H a xs ∧ SqL K H b [] ∧ Q (.bl xs.isEmpty) H
theorem op_emp {X : Cx} (hu : X.A.units + 1 < cLine) : OpR X (compareOp .Eq) (rEmp X.K) := by
  intro pins s σ H x y v u Q I rx ry h
  obtain ⟨a, b, xs, rfl, rfl, h1, h2, q⟩ := h
  cases (show v = Value.ref a from rx)
  cases (show u = Value.ref b from ry)
  obtain ⟨us, r1, p1, _⟩ := I.list h1
  obtain ⟨ws, r2, p2, _⟩ := I.list h2
  cases r2
  cases xs with
  | nil =>
    cases r1
    exact SeqAt.rcP_lists (e := fun _ => true) p1.isList p2.isList rfl (by omega) (fun j g1 g2 => absurd g1 (by simp)) _ _ ⟨.bl true, H, I, rfl, q⟩
  | cons x xs =>
    cases r1
    exact SeqAt.apart_run p1.isList p2.isList (by simp) (by omega) _ _ ⟨.bl false, H, I, rfl, q⟩
theorem eq_emp {K : PySem.W.Frag} {M : Ms} {k : KD} {ds : List D} (hk : k (.bl ds.isEmpty) M) : Bin K (rEmp K) (.lst ds) (.lst []) M k := fun S vx vy hM rx ry Q hQ => by
  obtain ⟨a, xs, rfl, h1, r1⟩ := rx
  obtain ⟨b, ys, rfl, h2, r2⟩ := ry
  have e2 : ys = [] := r2
  subst e2
  have e1 : xs.isEmpty = ds.isEmpty := by have := r1.len; cases xs <;> cases ds <;> simp_all
  exact ⟨a, b, xs, rfl, rfl, SqL.of (hM.zh _ _ h1), SqL.of (hM.zh _ _ h2), by rw [e1]; exact hQ _ M S _ hk hM (Grow.refl _) rfl⟩
section
variable {X : Cx} {Γ : En} {M : Ms} {tg iter elt : Expr} {ifs : List Expr} {scope : Scope} {pos p : Pos}
theorem gs_lcM (j : Nat) (own : List (Str × Nat)) {y : Str} {py : Pos} {E : ED} (hc : X.calm = true) (hN : X.N.Nodup) (ok : BlkOk X.N X.env.scope scope own) (h : GI X Γ M tg iter (LcOkM X Γ tg elt ifs scope (own.map (·.2)) fun d M1 => E.nx (Γ.set j (some d)) M1) fun c f M1 => E.ex c f Γ M1)
    (hsw : swapsWith (.ListComp elt [⟨tg, iter, ifs, 0⟩] scope pos) (some (.Name y py)) p.line X.env = pure true)
    (hy : X.N[j]? = some y := by rfl) (hyl : X.env.scope.names.lookup y = some .local := by rfl) (hs : ∀ x, foldedSetIterable iter X.env x = pure x := by intro _; rfl) : GS X Γ M (.Assign [.Name y py] (.ListComp elt [⟨tg, iter, ifs, 0⟩] scope pos) p) E := fun S σ hM hE W tk De L =>
  of_ps (ps_setLc hc hN hy hyl hsw wi ok pg_all pts_all pe_all hs) (h S σ hM hE W tk (L.kw hE) _ fun n it G M1 S1 J hl hM1 g1 wk => fun Da hD =>
    lc_runM (Q := fun v H' => gName j v σ H' De.nx) hl hM1 (hE.grow g1) wk (fun d M2 S2 v hk hM2 g2 r2 => L.nx _ M2 S2 _ hk hM2 (g1.trans g2) ((hE.grow (g1.trans g2)).set r2)) hD)
end
theorem k_eq {k : KD} {d d' : D} {M M' : Ms} (h : k d M) (e1 : d = d') (e2 : M = M') : k d' M' := e1 ▸ e2 ▸ h
end PD

set_option Elab.async false
set_option linter.all false
set_option maxRecDepth 100000
set_option maxHeartbeats 4000000
/-! PD: len(set(xs)), xs a fresh list of texts, one at most. -/
namespace PD
open PySem L2
open Evl (Ex ex_rd ex_l ex_t)
theorem ge_lenset {X : Cx} {Γ : En} {M : Ms} {a : Expr} {p p2 q pos : Pos} {k : KD} {kx : KX} (hm : X.mg "len" = none) (hm2 : X.mg "set" = none) (hc : X.calm = true)
    (h : GE X Γ M a (fun d M1 => ∃ xs : List Str, d = .lst (xs.map D.str) ∧ xs.Nodup ∧ xs.length ≤ 1 ∧ k (.int xs.length) M1) kx) (hg : Gl X "len" := by rfl) (hg2 : Gl X "set" := by rfl)
    (na : starEach [a] X.env = (false, eval a X.env) :: starEach [] X.env := by rfl) : GE X Γ M (.Call (.Name "len" p) [.Call (.Name "set" p2) [a] [] q] [] pos) k kx := fun S σ hM hE W tk hW Q hQ =>
  of_pe (pe_lenSet hc hg hm hg2 hm2 we na) (h S σ hM hE W tk hW _ fun d M1 S1 v ⟨xs, e, _, hl, hk⟩ hM1 g1 r1 => by
    subst e
    obtain ⟨b, ys, rfl, hz, r⟩ := r1
    cases repStr r
    exact ⟨b, xs, rfl, .inl (SqL.of (hM1.zh _ _ hz)), hl, hQ _ M1 S1 _ hk hM1 g1 rfl⟩)
/-- a test a op b op' c -/
theorem gt_chain {X : Cx} {Γ : En} {M : Ms} {a b c : Expr} {pos : Pos} {op op' : CmpOp} {r r' : R2} {k : KB} {kx : KX} (ho : OpR X (compareOp op) r) (ho' : OpR X (compareOp op') r') (h : GE X Γ M a (fun x M1 => GE X Γ M1 b (fun y M2 => Bin X.K r x y M2 fun z M3 => ∃ v, z = .bl v ∧ (v = true → GE X Γ M3 c (fun w M4 => Bin X.K r' y w M4 fun d M5 => ∃ u, d = .bl u ∧ k u M5) kx) ∧ (v = false → k false M3)) kx) kx) (hm : lastMarks [op, op'] [b, c] = false := by rfl) : GT X Γ M (.Compare a [op, op'] [b, c] pos) k kx := fun S σ hM hE W tk hW Q hQ =>
  of_pt (pt_chain ho ho' we we we (hm := hm)) (h S σ hM hE W tk hW _ fun x M1 S1 vx h1 hM1 g1 rx => h1 S1 σ hM1 (hE.grow g1) W tk (hW.grow g1) _ fun y M2 S2 vy h2 hM2 g2 ry => h2 S2 vx vy hM2 (rx.grow g2) ry _ fun z M3 S3 vz ⟨v, e1, q1, q2⟩ hM3 g3 rz => by
    subst e1; cases rz
    have g := (g1.trans g2).trans g3
    refine ⟨v, rfl, ?_⟩
    cases v
    · exact ⟨false, rfl, hQ false M3 S3 (q2 rfl) hM3 g⟩
    · exact q1 rfl S3 σ hM3 (hE.grow g) W tk (hW.grow g) _ fun w M4 S4 vw h4 hM4 g4 rw' => h4 S4 vy vw hM4 ((ry.grow g3).grow g4) rw' _ fun d M5 S5 v5 ⟨u, e5, q5⟩ hM5 g5 r5 => by
        subst e5; cases r5
        exact ⟨u, rfl, hQ u M5 S5 q5 hM5 ((g.trans g4).trans g5)⟩)
theorem b_dict : bootBuiltins "dict" = some (.type "dict") := by kernel_rfl
theorem seen_at {K : PySem.W.Frag} {S : Sg} {kvs : List (Key × V)} {ds : List D} {q : Key} (rr : RepL K S ds (kvs.map (·.2))) : (valV kvs q).isSome = (valK (kvs.map (·.1)) ds q).isSome := by
  obtain ⟨h1, h2⟩ := valK_at (k := q) rr
  cases e : valK (kvs.map (·.1)) ds q with
  | some d => obtain ⟨v, hv, _⟩ := h1 d e; simp [hv]
  | none => simp [h2 e]
theorem gt_din {X : Cx} {Γ : En} {M : Ms} {i o : Expr} {pos : Pos} {k : KB} {kx : KX} (hu : X.A.units + 1 < cLine) (h : GE X Γ M i (fun y M1 => GE X Γ M1 o (fun x M2 => ∃ ks ds q, DctD M2 x ks ds ∧ y = kD q ∧ k ((valK ks ds q).isSome) M2) kx) kx) (hb : behindInMarks .In o = false := by first | exact nobehind _ (by decide) (by decide) | rfl) : GT X Γ M (.Compare i [.In] [o] pos) k kx := fun S σ hM hE W tk hW Q hQ =>
  of_pt (pt_cmp (pc_din hu we we) hb) (h S σ hM hE W tk hW _ fun y M1 S1 vy h1 hM1 g1 ry => h1 S1 σ hM1 (hE.grow g1) W tk (hW.grow g1) _ fun x M2 S2 vx ⟨ks, ds, q, hd, e1, hk⟩ hM2 g2 rx => by
    subst e1
    obtain rfl := rep_kD ry
    obtain ⟨a, kvs, rfl, hh, e2, rr⟩ := hd.at hM2 rx
    subst e2
    refine ⟨a, valV kvs q, rfl, DGet.k hh, _, rfl, ?_⟩
    rw [seen_at rr]
    exact hQ _ M2 S2 hk hM2 (g1.trans g2))
theorem gt_dnotin {X : Cx} {Γ : En} {M : Ms} {i o : Expr} {pos : Pos} {k : KB} {kx : KX} (hu : X.A.units + 1 < cLine) (h : GE X Γ M i (fun y M1 => GE X Γ M1 o (fun x M2 => ∃ ks ds q, DctD M2 x ks ds ∧ y = kD q ∧ k (!(valK ks ds q).isSome) M2) kx) kx) (hb : behindInMarks .NotIn o = false := by first | exact nobehind _ (by decide) (by decide) | rfl) : GT X Γ M (.Compare i [.NotIn] [o] pos) k kx := fun S σ hM hE W tk hW Q hQ =>
  of_pt (pt_cmp (pc_dnotin hu we we) hb) (h S σ hM hE W tk hW _ fun y M1 S1 vy h1 hM1 g1 ry => h1 S1 σ hM1 (hE.grow g1) W tk (hW.grow g1) _ fun x M2 S2 vx ⟨ks, ds, q, hd, e1, hk⟩ hM2 g2 rx => by
    subst e1
    obtain rfl := rep_kD ry
    obtain ⟨a, kvs, rfl, hh, e2, rr⟩ := hd.at hM2 rx
    subst e2
    refine ⟨a, valV kvs q, rfl, DGet.k hh, _, rfl, ?_⟩
    rw [seen_at rr]
    exact hQ _ M2 S2 hk hM2 (g1.trans g2))
end PD

set_option Elab.async false
set_option linter.all false
set_option maxRecDepth 100000
set_option maxHeartbeats 4000000
/-! PD: lists that are no longer changed, known by their names; isinstance of a list that may change. -/
namespace PD
open PySem L2
open Evl (Ex ex_rd ex_l ex_t)
theorem isi_hdl {K : PySem.W.Frag} {M : Ms} {k : KD} {h : Addr} {ds : List D} {c : String} {b : Bool} {p : Nat} (hm : M[p]? = some (h, .lst ds)) (hb : kitB "list" c = some b) (hk : k (.bl b) M) : CallD K (rIsi K) [.hdl h, .raw (.ty c)] M k := fun S vs hM rv Q hQ => by
  obtain ⟨v, w, rfl, r1, r2⟩ := rep2 rv
  cases r1; cases r2
  obtain ⟨_, xs, hh, _⟩ := hM.at hm
  exact ⟨.ref h, .ty c, .type "list", .type c, b, rfl, .ty c, .base (.lst hh), kit_ty hb, hQ _ M S _ hk hM (Grow.refl _) rfl⟩
/-- the entry at j is not changed any more -/
theorem frz_at {K : PySem.W.Frag} {S : Sg} {M : Ms} {j : Nat} {a : Addr} {ds : List D} (hM : OkM K S M) (hj : M[j]? = some (a, MO.lst ds)) :
    ∃ S', S'.H = S.H ∧ OkM K S' (M.eraseIdx j) ∧ Grow S S' ∧ ∃ xs, S'.Z a = some (.lst xs) ∧ RepL K S' ds xs := by
  obtain ⟨hz, xs, hh, hr⟩ := hM.at hj
  obtain ⟨hM2, g2⟩ := frz_m hM hj hz hh
  have hs : (M.eraseIdx j).Sublist (M.set j (a, .gone)) := by
    have e : (M.set j (a, MO.gone)).eraseIdx j = M.eraseIdx j := List.eraseIdx_set_eq
    rw [← e]
    exact List.eraseIdx_sublist _ _
  obtain ⟨hM3, g3⟩ := drop_m hM2 hs
  have g := g3 S g2
  exact ⟨⟨(M.eraseIdx j).map (·.1), upd S.Z a (.lst xs), S.H⟩, rfl, hM3, g, xs, upd_same, hr.grow g⟩
/-- a variable's list is not changed any more -/
theorem gb_frzV {X : Cx} {Γ : En} {M : Ms} {sts : List Stmt} {E : ED} (i j : Nat) {a : Addr} {ds : List D} (hi : Γ[i]? = some (some (.hdl a))) (hj : M[j]? = some (a, MO.lst ds)) (h : GB X (Γ.set i (some (.lst ds))) (M.eraseIdx j) sts E) : GB X Γ M sts E := fun S σ hM hE W tk De L => by
  obtain ⟨S', e, hM', g, xs, hz, hr⟩ := frz_at hM hj
  obtain ⟨v, hv, rv⟩ := hE.2 i _ hi
  have rv2 : v = .ref a := rv
  subst rv2
  have hE2 : EnvOk X.K S' (σ.set i (some (.ref a))) (Γ.set i (some (.lst ds))) := (hE.grow g).set ⟨a, xs, rfl, hz, hr⟩
  have es : σ.set i (some (.ref a)) = σ := by
    refine List.ext_getElem? fun q => ?_
    rw [List.getElem?_set]
    by_cases h : i = q
    · subst h
      have hl := (List.getElem?_eq_some_iff.mp hv).1
      rw [if_pos rfl, if_pos hl, hv]
    · rw [if_neg h]
  rw [es] at hE2
  have := h S' σ hM' hE2 W tk De (L.grow g)
  rw [e] at this
  exact this
end PD

set_option Elab.async false
set_option linter.all false
set_option maxRecDepth 100000
set_option maxHeartbeats 4000000
/-! PD: the set of the texts of a list, all unlike; its size. -/
namespace PT
open PySem PySem.Spec PyProof.Rows
section
variable {prog : Program} {w : World} {A : Around} {R : Result → Shared → Prop} {I S : Addr} {fp wr : List Addr} {G : Array GenState → Array GenState → Prop} {n : Nat} {P : Nat → Value → Prop} {St : Nat → Shared → Prop} {xs : List Str}
abbrev Holds (prog : Program) (w : World) (h : Heap) (S : Addr) (ys : List Str) : Prop := h.SetOf (PySem.strKind prog w) S (fun z => decide (z ∈ ys)) ys.length
theorem Holds.on {h h' : Heap} {ys : List Str} (a : Holds prog w h S ys) (same : ∀ o, h.get? S = some o → h'.get? S = some o) : Holds prog w h' S ys := by
  obtain ⟨o, es, ep, tb, ho, more⟩ := a
  exact ⟨o, es, ep, tb, same o ho, more⟩
theorem Holds.snoc {h : Heap} {ys : List Str} {y : Str} (a : h.SetOf (PySem.strKind prog w) S (fun z => decide (z ∈ ys) || decide (z = y)) (if decide (y ∈ ys) = true then ys.length else ys.length + 1)) (new : y ∉ ys) : Holds prog w h S (ys ++ [y]) :=
  SetOf_congr a (fun z => by by_cases q : z = y <;> simp [q]) (by simp [new])
/-- the loop that puts the texts in, from the i-th on -/
theorem fill (W : WalksS prog w A.in1 I fp wr G n P St) (apart : S ∉ fp) (len : xs.length = n) (nd : xs.Nodup) (small : n + 1 < scanBound) (told : ∀ i v, P i v → ∃ t, v = .str (xs.getD i Str.empty) t) :
    ∀ (m i : Nat) (s : Shared), i + m = n → St i s → Holds prog w s.heap S (xs.take i) → (∀ t, Moved (S :: wr) G s t → Holds prog w t.heap S xs → R (.ok (.ret .none)) t) →
      codeAny (model prog w) A (.builtin "set.update.loop" ⟨[.ref S, .ref I], []⟩) R s := by
  have free : S ∉ wr := fun z => apart (W.sub _ z)
  have wide : ∀ b ∈ wr, b ∈ S :: wr := fun b z => List.mem_cons_of_mem _ z
  intro m
  induction m with
  | zero =>
    intro i s e at' have' fin
    refine codeAny_builtin F.entry_set_update_loop ?_
    rw [Around.under_plainId F.plain_set_update_loop _]
    have ei : i = n := e
    subst ei
    show wpAny _ A.in1 (pyNext (.ref I) >>= _) _ _ s
    refine wpAny_bind (W.done s _ _ at' fun t moved => ?_)
    show wpAny _ A.in1 (ret Value.none) _ _ t
    rw [← len, List.take_length] at have'
    exact wpAny_pure (fin t (moved.mono wide) (have'.on fun o => moved.heap S o free))
  | succ m more =>
    intro i s e at' have' fin
    have il : i < n := by omega
    have ix : i < xs.length := by omega
    refine codeAny_builtin F.entry_set_update_loop ?_
    rw [Around.under_plainId F.plain_set_update_loop _]
    show wpAny _ A.in1 (pyNext (.ref I) >>= _) _ _ s
    refine wpAny_bind (W.item i s _ _ il at' fun v t pv at2 moved => ?_)
    obtain ⟨tk, rfl⟩ := told i v pv
    have y : xs.getD i Str.empty = xs[i] := by rw [List.getD_eq_getElem?_getD, List.getElem?_eq_getElem ix]; rfl
    rw [y]
    have lt : (xs.take i).length = i := by rw [List.length_take]; omega
    have fresh : xs[i] ∉ xs.take i := fun z => by
      obtain ⟨j, hj, ej⟩ := List.getElem_of_mem z
      rw [lt] at hj
      rw [List.getElem_take] at ej
      have := (List.getElem_inj nd).mp ej
      omega
    have grown : xs.take (i + 1) = xs.take i ++ [xs[i]] := by rw [List.take_add_one, List.getElem?_eq_getElem ix]; rfl
    show wpAny _ A.in1 (holding [Value.str xs[i] tk] (setAdd S (.str xs[i] tk)) >>= _) _ _ t
    refine wpAny_bind (wpAny_holding ?_)
    unfold setAdd
    refine wpAny_holding (wpAny_bind ((PySem.strKind prog w).pyHash (k := xs[i]) (strKind_is _ _ _ _) ?_))
    refine wpAny_setAddHashed_of (knd := PySem.strKind prog w) (s := { t with toks := t.toks + 1 }) (strKind_is _ _ _ _) rfl (have'.on fun o => moved.heap S o free) (by rw [lt]; omega) fun h' same in2 => ?_
    have in3 : Holds prog w h' S (xs.take (i + 1)) := by rw [grown]; exact Holds.snoc in2 fresh
    refine wpAny_pure ⟨plainId_quiet F.plain_set_update_loop _, more (i + 1) _ (by omega) (W.frame _ t _ _ at2 (Nat.le_succ _) fun b hb o eo => ?_) in3 fun t2 moved2 all => fin t2 ?_ all⟩
    · rw [same.2 b fun q : b = S => apart (by rw [← q]; exact hb)]; exact eo
    · refine Moved.trans W.gtrans ((moved.mono wide).then_heap (Nat.le_succ _) fun b o hb eo => ?_) moved2
      rw [same.2 b fun q : b = S => hb (by rw [q]; exact List.mem_cons_self)]; exact eo
end
section
variable {prog : Program} {w : World} {A : Around} {E : Value → Shared → Prop} {s : Shared}
abbrev emptySet (led : Bool) : Obj := { cls := .type "set", dict := none, data := .set #[] 0 (.fresh 0 0 led) }
theorem set_texts {l : Addr} {us : Array Value} {xs : List Str} {Q : Value → Shared → Prop} (calm : A.handled = none) (ls : s.heap.IsList l us) (tx : StrsAre us.toList xs) (nd : xs.Nodup) (small : xs.length + 1 < scanBound)
    (ok : ∀ (h' : Heap) (tk : Nat), Holds prog w h' s.heap.objs.size xs → (∀ b o, b < s.heap.objs.size → s.heap.get? b = some o → h'.get? b = some o) → Q (.ref s.heap.objs.size) { s with heap := h', toks := tk }) :
    wpAny (model prog w) A (call (.type "set") [.ref l]) Q E s := by
  obtain ⟨c, tl, way⟩ := PySem.F.called_set.mro
  have b1 := PySem.F.called_set.made
  have b2 := PySem.F.called_set.sub
  have b3 := PySem.F.called_set.notType
  have b4 := PySem.F.called_set.canCreate
  have b5 := PySem.F.typeCall_set_1 (.ref l)
  refine wpAny_call (codeAny_of_tree ?_)
  show wpAny _ _ (callAny (.type "set") _) _ _ _
  refine wpAny_pure ⟨Code.quiet_builtin _ (by decide +kernel), codeAny_builtin PySem.F.entry_type_call ?_⟩
  rw [Around.under_plain (weight_type_call_type "set" [.ref l] []) rfl]
  repeat (any_goals (first | assumption | wp_step))
  refine codeAny_mono (code_set_new_1 (.ref l) (E := E) (Q₁ := fun v t => ∃ led : Bool, v = .ref s.heap.objs.size ∧ t = { s with heap := s.heap.push (emptySet led) }) fun led => ⟨led, rfl, rfl⟩) fun r t hr => ?_
  match r, hr with
  | .error e, hr => exact hr
  | .ok .next, hr => exact hr.elim
  | .ok .brk, hr => exact hr.elim
  | .ok .cont, hr => exact hr.elim
  | .ok (.ret v), ⟨led, e1, e2⟩ =>
  subst e1 e2
  have here : (s.heap.push (emptySet led)).get? s.heap.objs.size = some (emptySet led) := Heap.get?_push_size _ rfl
  have kind : Shared.TypeIs { s with heap := s.heap.push (emptySet led) } (.ref s.heap.objs.size) "set" := ⟨_, here, rfl⟩
  have b6 := PySem.F.called_set.init.lookup
  have b7 := PySem.F.called_set.init.bind (.ref s.heap.objs.size)
  repeat (any_goals (first | assumption | wp_step))
  refine codeAny_mono (codeAny_call_builtin (R := wants (fun v t => v = .none ∧ ∃ h' tk, t = { s with heap := h', toks := tk } ∧ Holds prog w h' s.heap.objs.size xs ∧ ∀ b o, b < s.heap.objs.size → s.heap.get? b = some o → h'.get? b = some o) E)
    PySem.F.called_set.init.plain PySem.F.entry_set_init (check_set_init_1 kind ?_)) fun r t hr => ?_
  · obtain ⟨⟨c0, d0, x0, z0⟩, got, ec, k0, ed⟩ := ls
    simp only at ec ed
    subst ec ed
    have lower : l < s.heap.objs.size := Heap.lt_size got
    have got2 := Heap.get?_push_of_some (emptySet led) got
    have isl : (s.heap.push (emptySet led)).IsList l us := ⟨_, got2, rfl, k0, rfl⟩
    have a1 := PySem.F.sub_list_set
    have a2 := PySem.F.sub_list_frozenset
    have a3 : (Value.type "list" == Value.type "dict") = false := by decide
    unfold Builtin.«set.__init__» noKeywords Builtin.Frozenset.updateFrom
    generalize hPI : pyIter = PI
    wp_walk
    subst hPI
    refine wpAny_pyIter_list isl (wpAny_bind (wpAny_runValue ?_))
    have size1 : (s.heap.push (emptySet led)).objs.size = s.heap.objs.size + 1 := Heap.size_push ..
    have off : l ≠ (s.heap.push (emptySet led)).objs.size := by rw [size1]; exact Nat.ne_of_lt (Nat.lt_succ_of_lt lower)
    have calm3 : A.in1.in1.in1.handled = none := by simp [calm]
    have len : xs.length = us.size := by rw [← StrsAre.len_eq tx, Array.length_toList]
    refine fill ((Walks.list calm3 _ l off us).toS) (S := s.heap.objs.size) (by rw [size1]; simp only [List.mem_cons, List.not_mem_nil, or_false, not_or]; exact ⟨Nat.ne_of_lt (Nat.lt_succ_self _), Nat.ne_of_gt lower⟩) len nd (by omega) (fun i v hv => SS.strs_at tx i v (by rw [Array.getElem?_toList]; exact hv)) us.size 0 _ (by omega)
      ⟨⟨_, Heap.get?_push_size _ rfl, rfl, rfl⟩, isl.push _⟩ ?_ fun t moved all => ?_
    · exact SetOf_congr ((setObjOf_fresh (knd := PySem.strKind prog w) led).setOf (Heap.get?_push_of_some _ here) (by omega)) (fun _ => by simp) rfl
    · obtain ⟨h', g', d', tk', os'⟩ := t
      obtain rfl : g' = s.gens := moved.gens
      obtain rfl : d' = s.drawn := moved.drawn
      obtain rfl : os' = s.os := moved.os
      show wpAny _ _ _ _ _ _
      refine wpAny_pure ?_
      show wpAny _ _ (ret Value.none) _ _ _
      exact wpAny_pure ⟨rfl, h', tk', rfl, all, fun b o hb e => moved.heap b o (by rw [size1]; simp only [List.mem_cons, List.not_mem_nil, or_false, not_or]; exact ⟨Nat.ne_of_lt hb, Nat.ne_of_lt (Nat.lt_succ_of_lt hb)⟩) (Heap.get?_push_of_some _ (Heap.get?_push_of_some _ e))⟩
  · match r, hr with
    | .error e, hr => exact hr
    | .ok .next, hr => exact hr.elim
    | .ok .brk, hr => exact hr.elim
    | .ok .cont, hr => exact hr.elim
    | .ok (.ret v), ⟨e1, h', tk, e2, all, keep⟩ =>
    subst e1 e2
    repeat (any_goals (first | assumption | wp_step))
    exact ok _ _ all keep
end
end PT
namespace PD
open PySem L2
open Evl (Ex ex_rd ex_l ex_t)
open PySem.Spec PyProof.Rows
/-- len(set(e)), e a fresh list of unlike texts -/
theorem ge_lensetN {X : Cx} {Γ : En} {M : Ms} {a : Expr} {p p2 q pos : Pos} {k : KD} {kx : KX} (hm : X.mg "len" = none) (hm2 : X.mg "set" = none) (hc : X.calm = true)
    (h : GE X Γ M a (fun d M1 => ∃ xs : List Str, d = .lst (xs.map D.str) ∧ xs.Nodup ∧ xs.length ≤ 1000 ∧ k (.int xs.length) M1) kx) (hg : Gl X "len" := by rfl) (hg2 : Gl X "set" := by rfl)
    (na : starEach [a] X.env = (false, eval a X.env) :: starEach [] X.env := by rfl) : GE X Γ M (.Call (.Name "len" p) [.Call (.Name "set" p2) [a] [] q] [] pos) k kx := fun S σ hM hE W tk hW Q hQ pins s I => by
  refine Call_ (ld_blt I hg hm boot_len (callWith_builtin1 (args_cons (Call_ (ld_blt I hg2 hm2 boot_set (callWith_type1 (args_cons (thn (h S σ hM hE W tk hW (fun x H1 => ∃ b, ∃ xs : List Str, x = .ref b ∧ SqL X.K H1 b (xs.map V.str) ∧ xs.Nodup ∧ xs.length ≤ 1000 ∧ Q (.int xs.length) H1)
    (fun d M1 S1 v ⟨xs, e, nd, hl, hk⟩ hM1 g1 r1 => ?_) pins s I) fun v s1 ⟨x, H1, I1, r1, b, xs, ex, hq, nd, hl, q1⟩ => args_nil ?_) na) na rfl))) rfl) rfl rfl))
  · subst e
    obtain ⟨b, ys, rfl, hz, r⟩ := r1
    cases repStr r
    exact ⟨b, xs, rfl, SqL.of (hM1.zh _ _ hz), nd, hl, hQ _ M1 S1 _ hk hM1 g1 rfl⟩
  · subst ex
    cases r1
    obtain ⟨its, r, pl, _⟩ := I1.list hq
    refine PT.set_texts (I1.ok.hd hc) pl.isList (by simpa using strsAre_of r) nd (by unfold scanBound; omega) fun h' tk2 all keep => args_nil ?_
    obtain ⟨o, es, ep, t, ho, hex, hd, _, _, _, hf, hn⟩ := all
    have I2 : Inv X pins σ H1 { s1 with heap := h', toks := tk2 } := I1.kept fun b o e => keep b o (Heap.lt_size e) e
    exact call_len_set ho hex hd hf (by rw [hn]; omega) ⟨.int xs.length, H1, I2.tok _, ⟨_, by rw [hn]⟩, q1⟩
end PD

set_option Elab.async false
set_option linter.all false
set_option maxRecDepth 100000
set_option maxHeartbeats 4000000
/-! PD: three names stored at once, {} as a dict that may change. -/
namespace PD
open PySem L2
open Evl (Ex ex_rd ex_l ex_t)
section
variable {X : Cx} {Γ : En} {M : Ms} {k : KD} {kx : KX} {pos : Pos}
theorem rep3 {K : PySem.W.Frag} {S : Sg} {x y z : D} {vs : List V} (h : RepL K S [x, y, z] vs) : ∃ u v w, vs = [u, v, w] ∧ Rep K S x u ∧ Rep K S y v ∧ Rep K S z w := by
  obtain ⟨u, r1, rfl, hu, h1⟩ := h
  obtain ⟨v, r2, rfl, hv, h2⟩ := h1
  obtain ⟨w, r3, rfl, hw, h3⟩ := h2
  have e : r3 = [] := h3
  subst e
  exact ⟨u, v, w, rfl, hu, hv, hw⟩
theorem gs_par3 (i j l : Nat) {x y z : Str} {a b c : Expr} {px py pz pt : Pos} {kt k2 : Nat} {pt2 : Pos} {E : ED} (hc : X.calm = true) (h : GA X Γ M [a, b, c] (fun ds M1 => ∃ u v w, ds = [u, v, w] ∧ E.nx (((Γ.set i (some u)).set j (some v)).set l (some w)) M1) (fun c f M1 => E.ex c f Γ M1))
    (hN : X.N.Nodup) (hi : X.N[i]? = some x := by rfl) (hj : X.N[j]? = some y := by rfl) (hl : X.N[l]? = some z := by rfl) (hij : i ≠ j := by decide) (hil : i ≠ l := by decide) (hjl : j ≠ l := by decide)
    (hx : X.env.scope.names.lookup x = some .local := by rfl) (hy : X.env.scope.names.lookup y = some .local := by rfl) (hz : X.env.scope.names.lookup z = some .local := by rfl)
    (hw : swappedStores [.Tuple [.Name x px, .Name y py, .Name z pz] kt pt] (.Tuple [a, b, c] k2 pt2) X.env = pure (some [x, y, z]) := by rfl)
    (hs : swapsWithSole [.Tuple [.Name x px, .Name y py, .Name z pz] kt pt] (.Tuple [a, b, c] k2 pt2) pos.line X.env = pure false := by rfl) : GS X Γ M (.Assign [.Tuple [.Name x px, .Name y py, .Name z pz] kt pt] (.Tuple [a, b, c] k2 pt2) pos) E := fun S σ hM hE W tk De L =>
  of_ps (ps_par3 hc hN hi hj hl hij hil hjl hx hy hz wa hw hs) (h S σ hM hE W tk (L.kw hE) _ fun ds M1 S1 vs ⟨u, v, w, e, hk⟩ hM1 g1 r1 => by
    subst e
    obtain ⟨p, q, t, rfl, r2, r3, r4⟩ := rep3 r1
    exact ⟨p, q, t, rfl, L.nx _ M1 S1 _ hk hM1 g1 ((((hE.grow g1).set r2).set r3).set r4)⟩)
theorem ge_dnew (h : ∀ p, k (.hdl p) (M ++ [(p, .dct [] [])])) : GE X Γ M (.Dict [] [] pos) k kx := fun S σ hM hE W tk hW Q hQ =>
  of_pe pe_dnewK fun p hp => by
    obtain ⟨a, g⟩ := new_m (m := .dct [] []) (o := .dK []) hM hp (fun g => ⟨hM.zh.none hp, [], upd_same, rfl, RepL.nil⟩)
    exact hQ _ _ ⟨S.as ++ [p], S.Z, upd S.H p (.dK [])⟩ (.ref p) (h p) a g rfl
end
end PD

set_option Elab.async false
set_option linter.all false
set_option maxRecDepth 100000
set_option maxHeartbeats 4000000
/-! PD: dicts written out; pop. -/
namespace PD
open PySem L2
open Evl (Ex ex_rd ex_l ex_t)
section
variable {X : Cx} {Γ : En} {kx : KX} {pos : Pos}
/-- the pairs of a display, from the left -/
def GPs (X : Cx) (Γ : En) (kx : KX) : List (Expr × Expr) → Ms → (List (D × D) → Ms → Prop) → Prop
  | [], M, k => k [] M
  | (a, b) :: r, M, k => GE X Γ M a (fun x M1 => GE X Γ M1 b (fun y M2 => GPs X Γ kx r M2 fun ps M3 => k ((x, y) :: ps) M3) kx) kx
theorem RepL.erase {K : PySem.W.Frag} {S : Sg} : ∀ {ds : List D} {xs : List V} (i : Nat), RepL K S ds xs → RepL K S (ds.eraseIdx i) (xs.eraseIdx i)
  | [], _, _, h => by have e : _ = [] := h; subst e; exact .nil
  | d :: ds, _, 0, h => by obtain ⟨x, r, rfl, h1, h2⟩ := h; exact h2
  | d :: ds, _, i + 1, h => by obtain ⟨x, r, rfl, h1, h2⟩ := h; exact .cons h1 (RepL.erase i h2)
def RepP (K : PySem.W.Frag) (S : Sg) : List (D × D) → List (V × V) → Prop
  | [], vs => vs = []
  | (x, y) :: ps, vs => ∃ u v r, vs = (u, v) :: r ∧ Rep K S x u ∧ Rep K S y v ∧ RepP K S ps r
theorem RepP.grow {K : PySem.W.Frag} {S S' : Sg} (g : Grow S S') : ∀ {ps : List (D × D)} {vs : List (V × V)}, RepP K S ps vs → RepP K S' ps vs
  | [], _, h => h
  | (x, y) :: ps, _, ⟨u, v, r, e, h1, h2, h3⟩ => ⟨u, v, r, e, h1.grow g, h2.grow g, RepP.grow g h3⟩
theorem gps_run : ∀ (ps : List (Expr × Expr)) (M : Ms) (k : List (D × D) → Ms → Prop) (S0 S : Sg) (σ : L2.St), GPs X Γ kx ps M k → OkM X.K S M → Grow S0 S → EnvOk X.K S σ Γ → ∀ W, Takes X W → KW X.K S kx W σ → ∀ Q : List (V × V) → Hp → Prop, (∀ ds M' S' vs, k ds M' → OkM X.K S' M' → Grow S0 S' → RepP X.K S' ds vs → Q vs S'.H) →
    tPairs (ps.map fun p => (WE X p.1, WE X p.2)) σ S.H Q
  | [], M, k, S0, S, σ, h, hM, g, hE, W, tk, hW, Q, hQ => hQ [] M S [] h hM g rfl
  | (a, b) :: r, M, k, S0, S, σ, h, hM, g, hE, W, tk, hW, Q, hQ => h S σ hM hE W tk hW _ fun x M1 S1 u h1 hM1 g1 ru => h1 S1 σ hM1 (hE.grow g1) W tk (hW.grow g1) _ fun y M2 S2 v h2 hM2 g2 rv =>
    gps_run r M2 _ S2 S2 σ h2 hM2 (Grow.refl _) ((hE.grow g1).grow g2) W tk ((hW.grow g1).grow g2) _ fun ds M' S' vs hk hM' gg r' =>
      hQ ((x, y) :: ds) M' S' ((u, v) :: vs) hk hM' ((g.trans (g1.trans g2)).trans gg) ⟨u, v, vs, rfl, (ru.grow g2).grow gg, rv.grow gg, r'⟩
theorem pps_all : ∀ ps : List (Expr × Expr), PPs X pos (ps.map fun p => some p.1) (ps.map (·.2)) (ps.map fun p => (WE X p.1, WE X p.2))
  | [] => pps_nil
  | (a, b) :: r => pps_cons we we (pps_all r)
theorem repP_keys {K : PySem.W.Frag} {S : Sg} : ∀ {qs : List (Key × D)} {vs : List (V × V)}, RepP K S (qs.map fun q => (kD q.1, q.2)) vs → ∃ kvs : List (Key × V), vs = kvs.map (fun kv => (kV kv.1, kv.2)) ∧ kvs.map (·.1) = qs.map (·.1) ∧ RepL K S (qs.map (·.2)) (kvs.map (·.2))
  | [], vs, h => by
    have e : vs = [] := h
    exact ⟨[], e, rfl, RepL.nil⟩
  | (q, d) :: qs, vs, h => by
    obtain ⟨u, v, r, e, h1, h2, h3⟩ := h
    obtain ⟨kvs, e1, e2, e3⟩ := repP_keys h3
    have eu : u = kV q := rep_kD h1
    exact ⟨(q, v) :: kvs, by rw [e, e1, eu]; rfl, by rw [List.map_cons, List.map_cons, e2], .cons h2 e3⟩
theorem putK_new {kvs : List (Key × V)} {k : Key} {v : V} (h : k ∉ kvs.map (·.1)) : putK kvs k v = kvs ++ [(k, v)] := by
  have : ∀ kv ∈ kvs, ¬ kv.1 = k := fun kv hm e => h (e ▸ List.mem_map_of_mem hm)
  unfold putK
  rw [if_neg (by
    intro z
    first
      | exact absurd z (by simpa using h)
      | (simp at z; obtain ⟨a, ha⟩ := z; exact this _ ha rfl))]
theorem mergeK_new : ∀ {more kvs : List (Key × V)}, (kvs.map (·.1) ++ more.map (·.1)).Nodup → mergeK kvs more = kvs ++ more
  | [], kvs, _ => by simp [mergeK]
  | (k, v) :: r, kvs, h => by
    have hk : k ∉ kvs.map (·.1) := fun m => (List.nodup_append.mp h).2.2 k m k (by simp) rfl
    have e : mergeK kvs ((k, v) :: r) = mergeK (putK kvs k v) r := rfl
    rw [e, putK_new hk, mergeK_new (by simpa using h)]
    simp
/-- a dict written out, its keys unlike: it may change -/
theorem ge_disp {M : Ms} {k : KD} {keys : List (Option Expr)} {values : List Expr} (ps : List (Expr × Expr)) (ek : keys = ps.map fun p => some p.1) (ev : values = ps.map (·.2)) (h0 : ps ≠ []) (h15 : ps.length ≤ 15)
    (h : ∀ p, GPs X Γ kx ps (M ++ [(p, .dct [] [])]) fun ds M1 => ∃ (j : Nat) (qs : List (Key × D)), M1[j]? = some (p, .dct [] []) ∧ ds = qs.map (fun q => (kD q.1, q.2)) ∧ qs.length ≤ 15 ∧ (qs.map (·.1)).Nodup ∧ k (.hdl p) (M1.set j (p, .dct (qs.map (·.1)) (qs.map (·.2))))) :
    GE X Γ M (.Dict keys values pos) k kx := fun S σ hM hE W tk hW Q hQ => by
  subst ek ev
  refine of_pe (pe_disp (pps_all ps) (by simp) (by simp) (by simpa using h0) (by simpa using h15)) fun p hp => ?_
  obtain ⟨hM1, g1⟩ := new_m (o := .dK []) (m := .dct [] []) hM hp fun g => ⟨hM.zh.none hp, [], upd_same, rfl, RepL.nil⟩
  refine gps_run ps _ _ S ⟨S.as ++ [p], S.Z, upd S.H p (.dK [])⟩ σ (h p) hM1 g1 (hE.grow g1) W tk (hW.grow g1) _ fun ds M2 S2 vs ⟨j, qs, hj, e, hl, nd, hk⟩ hM2 g2 r2 => ?_
  subst e
  obtain ⟨kvs, e1, e2, e3⟩ := repP_keys r2
  obtain ⟨hz, kv0, hh, hf, hr⟩ := hM2.at hj
  have e0 : kv0 = [] := by simpa using hf
  subst e0
  refine ⟨hh, kvs, e1, by rw [← List.length_map (f := (·.1)), e2, List.length_map]; exact hl, ?_⟩
  have em : mergeK [] kvs = kvs := by rw [mergeK_new (by simpa [e2] using nd)]; rfl
  rw [em]
  obtain ⟨hM3, g3⟩ := set_m (o := .dK kvs) (m := .dct (qs.map (·.1)) (qs.map (·.2))) hM2 hj hz fun g => ⟨hz, kvs, upd_same, e2, e3.grow g⟩
  exact hQ (.hdl p) _ ⟨S2.as, S2.Z, upd S2.H p (.dK kvs)⟩ (.ref p) hk hM3 (g2.trans g3) rfl
variable {M : Ms} {e o : Expr} {k : KD} {p apos : Pos}
/-- l.pop(i), l a list that may change -/
theorem ge_popAt (h : GE X Γ M o (fun x M1 => (∃ (q : Nat) (a : Addr) (ds : List D), x = .hdl a ∧ M1[q]? = some (a, MO.lst ds)) ∧ GE X Γ M1 e (fun y M2 => ∃ (q : Nat) (a : Addr) (ds : List D) (i j : Nat) (d : D), x = .hdl a ∧ M2[q]? = some (a, MO.lst ds) ∧ y = .int (i : Int) ∧ j = i ∧ j < 16777216 ∧ ds[j]? = some d ∧ k d (M2.set q (a, .lst (ds.eraseIdx j)))) kx) kx)
    (hbase : attributeBase o "pop" X.env (eval o X.env) = eval o X.env := by rfl)
    (hfew : ((backTo p (starEach [e] X.env)).all (fun x => !x.1) && (backToKw p (keywordEach [] X.env)).all (fun x => x.1.isSome) && decide ([e].length + ([] : List Keyword).length + (if ([] : List Keyword).isEmpty then 0 else 1) < 30)) = true := by rfl)
    (hline : (apos.endLine == p.line) = true := by rfl) (hs : starEach [e] X.env = (false, eval e X.env) :: starEach [] X.env := by rfl) (hplain : (backTo p (starEach [] X.env)).any (·.1) = false := by rfl) :
    GE X Γ M (.Call (.Attribute o "pop" apos) [e] [] p) k kx := fun S σ hM hE W tk hW Q hQ =>
  of_pe (pe_bm PySem.F.plainAttrs_list PySem.F.slot_list_pop PySem.F.type_list_pop mt_popAt we (pa_cons we pa_nil hs) hbase hfew hline hs hplain) (h S σ hM hE W tk hW _ fun x M1 S1 vx ⟨⟨q0, a0, ds0, ex0, hq0⟩, hk⟩ hM1 g1 rx => by
    subst ex0
    cases rx
    obtain ⟨_, xs0, hh0, _⟩ := hM1.at hq0
    refine ⟨.inl ⟨rfl, _, SqL.of hh0⟩, hk S1 σ hM1 (hE.grow g1) W tk (hW.grow g1) _ fun y M2 S2 vy ⟨q, a, ds, i, j, d, ex, hq, ey, ej, hj9, hj, hk2⟩ hM2 g2 ry => ?_⟩
    cases ex
    subst ej ey
    cases ry
    obtain ⟨hz, xs, hh, rr⟩ := hM2.at hq
    obtain ⟨v, hv, rv⟩ := rr.get hj
    have hl := (List.getElem?_eq_some_iff.mp hv).1
    refine ⟨a0, xs, (j : Int), j, v, rfl, rfl, hh, by omega, by omega, ?_, hv, ?_⟩
    · have h0 : ¬ ((j : Int) < 0) := by omega
      have h1 : (j : Int) < (xs.length : Int) := by omega
      simp [seqIndex?, h0, hl]
    obtain ⟨hM3, g3⟩ := set_m (o := .lst (xs.eraseIdx j)) (m := .lst (ds.eraseIdx j)) hM2 hq hz (fun g => ⟨hz, _, upd_same, (rr.grow g).erase j⟩)
    exact hQ d _ ⟨S2.as, S2.Z, upd S2.H a0 (.lst (xs.eraseIdx j))⟩ v hk2 hM3 (g1.trans (g2.trans g3)) (rv.grow g3))
end
end PD

set_option Elab.async false
set_option linter.all false
set_option maxRecDepth 100000
set_option maxHeartbeats 4000000
/-! PD: == by a class's own def. -/
namespace PD
open PySem L2
open Evl (Ex ex_rd ex_l ex_t)
def noW : WX := fun _ _ _ _ => False
/-- x an instance of the class at C, y any value; sp is what the own == promises -/
def rOwnI (K : PySem.W.Frag) (C : Addr) (sp : Sp) : R2 := fun x y H Q => ∃ a b dx dy fs gs, x = .ref a ∧ y = .ref b ∧ H a = some (.ins C dx fs) ∧ H b = some (.ins C dy gs) ∧ sp [x, y] H (fun v H' => ∃ t, v = .bl t ∧ Q v H') (fun _ _ _ => False)
theorem op_ownI {X : Cx} {j l : Nat} {C : Addr} {R : RSp} (F : MtD X.prog X.w X.K X.mg X.base j C "__eq__" [] R) (hr : Room l X.A) (hl : j ≤ l) : OpR X (compareOp .Eq) (rOwnI X.K C (spD X.K R)) := by
  intro pins s σ H x y v u Q I rx ry h
  obtain ⟨a, b, dx, dy, fs, gs, rfl, rfl, ha, hb', hs⟩ := h
  cases rx
  cases ry
  obtain ⟨f, fd, ps, dvl, dvs, hm, hb, hd, hrd, F'⟩ := F.ex
  have e0 : dvs = [] := hrd ⟨[], H, H⟩
  subst e0
  have r0 := hr.mono hl
  obtain ⟨mA, J, _⟩ := ins_get I.hok ha
  obtain ⟨mB, J', _⟩ := ins_get I.hok hb'
  obtain ⟨od, J, _⟩ := J.look
  obtain ⟨od', J', _⟩ := J'.look
  obtain ⟨m, hF⟩ := I.fr
  refine PySem.W.cmp_K (op := .Eq) (tb := .ref C) r0.units0 hF I.ok.mod.kin J J'.type (by simp [PySem.W.notFirst]) hm.at_ hm.fn ?_
  refine wpAny_mono (run_fnSD (us := [.ref a, .ref b]) (vs := [.ref a, .ref b]) (E := L2.WE noW) F' r0 hb hd (passAt takes0 σ) I (.cons rfl (.cons rfl .nil)) hs) (fun w s' hq => ?_) fun _ _ z => z
  obtain ⟨z, H', I', rz, t, ez, q⟩ := hq
  subst ez
  obtain rfl : w = .bool t := rz
  exact ⟨.bl t, H', I', rfl, q⟩
theorem own_ok {K : PySem.W.Frag} {C : Addr} {R : RSp} {x y : D} {fs gs : List Str} {ds es : List D} {M : Ms} {k : KD} (ox : ObjD M x C fs ds) (oy : ObjD M y C gs es) (hbl : ∀ d M', k d M' → ∃ t, d = .bl t) (h : Hand R [x, y] M k fun _ _ _ => False) : Bin K (rOwnI K C (spD K R)) x y M k := fun S vx vy hM rx ry Q hQ => by
  obtain ⟨a, dx, kvs, rfl, ha, _, _⟩ := ox.at hM rx
  obtain ⟨b, dy, kvs2, rfl, hb, _, _⟩ := oy.at hM ry
  refine ⟨a, b, dx, dy, kvs, kvs2, rfl, rfl, ha, hb, ?_⟩
  have := sp_ofF (S' := S) (vs := [V.ref a, V.ref b]) (Q := fun v H' => ∃ t, v = .bl t ∧ Q v H') (W := noW) (σ := []) hM (.cons rx (.one ry)) h (fun d M' S' v hk hM' g r => by obtain ⟨t, e⟩ := hbl d M' hk; subst e; exact ⟨t, r, hQ _ M' S' v hk hM' g r⟩) (fun _ _ _ _ _ z => z.elim)
  exact this
/-- what isinstance asks of an own class -/
structure IsC (K : PySem.W.Frag) (C : Addr) : Prop where
  cl : Cls K C
  ha : PySem.W.findIn K (.ref C) "__class__" = some (some (.builtin "object.__class__"))
  hn : PySem.W.specialIn K (.builtin "object.__class__") "__get__" = some (some (.builtin "getset_descriptor.__get__"))
  htk : PySem.W.takesIn K (.builtin "object.__class__") = some true
  hm : PySem.W.mroIn K C (.type "object") = some true
theorem isi_own {K : PySem.W.Frag} {C : Addr} (ic : IsC K C) {x : D} {M : Ms} {k : KD} {fs : List Str} {ds : List D} (o : ObjD M x C fs ds) (hk : k (.bl true) M) : CallD K (rIsi K) [x, .raw (.ref C)] M k := call_flat (v := .bl true) (fun S vs hM rv Q q => by
  obtain ⟨v, w, rfl, r1, r2⟩ := rep2 rv
  cases r2
  obtain ⟨a, dx, kvs, rfl, ha, _, _⟩ := o.at hM r1
  exact ⟨.ref a, .ref C, .ref C, .ref C, true, rfl, .own C, .base (.ins ha ic.cl ic.ha ic.hn ic.htk ic.hm), by simp [PySem.W.kitOne], q⟩) hk
end PD

set_option Elab.async false
set_option linter.all false
set_option maxRecDepth 100000
set_option maxHeartbeats 4000000
/-! PW: a def's reading as a predicate (what must hold ahead so that it ends well), put together from parts; the syntax is met once, by CE, CS ..; the walk is over the reading alone. -/
namespace PD
open PySem L2
abbrev WpE := En → Ms → KD → KX → Prop
abbrev WpT := En → Ms → KB → KX → Prop
abbrev WpA := En → Ms → KDs → KX → Prop
abbrev WpS := En → Ms → ED → Prop
structure CE (X : Cx) (e : Expr) (w : WpE) : Prop where
  run : ∀ {Γ M k kx}, w Γ M k kx → GE X Γ M e k kx
structure CT (X : Cx) (e : Expr) (w : WpT) : Prop where
  run : ∀ {Γ M k kx}, w Γ M k kx → GT X Γ M e k kx
structure CP (X : Cx) (e : Expr) (w : WpT) : Prop where
  run : ∀ {Γ M k kx}, w Γ M k kx → GP X Γ M e k kx
structure CA (X : Cx) (es : List Expr) (w : WpA) : Prop where
  run : ∀ {Γ M k kx}, w Γ M k kx → GA X Γ M es k kx
structure CK (X : Cx) (kws : List Keyword) (w : WpA) : Prop where
  run : ∀ {Γ M k kx}, w Γ M k kx → GK X Γ M kws k kx
structure CS (X : Cx) (st : Stmt) (w : WpS) : Prop where
  run : ∀ {Γ M E}, w Γ M E → GS X Γ M st E
structure Cb (X : Cx) (sts : List Stmt) (w : WpS) : Prop where
  run : ∀ {Γ M E}, w Γ M E → GB X Γ M sts E
/-- p, and then q -/
structure Sd (p q : Prop) : Prop where
  h : p
  g : q
/-- a test's two ways -/
structure Br (v : Bool) (p q : Prop) : Prop where
  t : v = true → p
  f : v = false → q
/-- the list at a handle -/
inductive HL (M : Ms) (a : Addr) (f : Nat → List D → Prop) : Prop
  | mk (p : Nat) (ds : List D) (e : M[p]? = some (a, MO.lst ds)) (g : f p ds)
/-- a dict, standing or not -/
inductive HD (M : Ms) (d : D) (f : List Key → List D → Prop) : Prop
  | mk (ks : List Key) (ds : List D) (e : DctD M d ks ds) (g : f ks ds)
inductive HDm (M : Ms) (d : D) (f : Nat → Addr → List Key → List D → Prop) : Prop
  | mk (p : Nat) (a : Addr) (ks : List Key) (ds : List D) (e1 : d = .hdl a) (e : M[p]? = some (a, MO.dct ks ds)) (g : f p a ks ds)
/-- an object, standing or not -/
inductive HI (M : Ms) (d : D) (C : Addr) (f : List Str → List D → Prop) : Prop
  | mk (fs : List Str) (ds : List D) (e : ObjD M d C fs ds) (g : f fs ds)
inductive HIm (M : Ms) (d : D) (C : Addr) (f : Nat → Addr → List Str → List D → Prop) : Prop
  | mk (p : Nat) (a : Addr) (fs : List Str) (ds : List D) (e1 : d = .hdl a) (e : M[p]? = some (a, MO.ins C fs ds)) (g : f p a fs ds)
/-- one item of a list, told -/
inductive It1 (ds : List D) (i : Int) (f : D → Prop) : Prop
  | mk (j : Nat) (d : D) (hi : (0 ≤ i ∧ i = j ∧ j < ds.length) ∨ (i < 0 ∧ i + ds.length = j)) (hd : ds[j]? = some d) (g : f d)
theorem It1.any {ds : List D} {i : Int} {f : D → Prop} (h0 : 0 ≤ i) (h1 : i < ds.length) (g : ∀ d, d ∈ ds → ds[i.toNat]? = some d → f d) : It1 ds i f := by
  have h2 : i.toNat < ds.length := by omega
  have e : ds[i.toNat]? = some ds[i.toNat] := List.getElem?_eq_getElem h2
  exact .mk i.toNat _ (.inl ⟨h0, by omega, h2⟩) e (g _ (List.getElem_mem h2) e)
theorem It1.nat {ds : List D} {i : Nat} {d : D} {f : D → Prop} (h : ds[i]? = some d) (g : f d) : It1 ds (i : Int) f :=
  .mk i d (.inl ⟨by omega, rfl, (List.getElem?_eq_some_iff.mp h).1⟩) h g
theorem It1.last {ds : List D} {d : D} {f : D → Prop} (h : ds.getLast? = some d) (g : f d) : It1 ds (-1) f := by
  have hl : 0 < ds.length := by cases ds with
    | nil => cases h
    | cons a l => simp
  exact .mk (ds.length - 1) d (.inr ⟨by omega, by omega⟩) (by rw [← List.getLast?_eq_getElem?]; exact h) g

theorem strsD_map (l : List Str) : strsD (l.map D.str) = true := by simp [strsD, isStrD]
/-! ### names, constants -/
def nthG : List (Option D) → Nat → Option D
  | [], _ => none
  | o :: _, 0 => o
  | _ :: r, n + 1 => nthG r n
theorem nthG_at : ∀ {Γ : En} {i : Nat} {d : D}, nthG Γ i = some d → Γ[i]? = some (some d)
  | [], _, _, h => by cases h
  | o :: _, 0, d, h => by have e : o = some d := h; simp [e]
  | _ :: r, i + 1, d, h => by simpa using nthG_at (Γ := r) (i := i) h
/-- the environment with a value at a place, told as a list in full -/
def setK : En → Nat → D → (En → Prop) → Prop
  | [], _, _, f => f []
  | _ :: r, 0, d, f => f (some d :: r)
  | o :: r, n + 1, d, f => setK r n d fun r' => f (o :: r')
theorem setK_eq : ∀ {Γ : En} {i : Nat} {d : D} {f : En → Prop}, setK Γ i d f → f (Γ.set i (some d))
  | [], _, _, _, h => h
  | _ :: _, 0, _, _, h => h
  | _ :: r, n + 1, _, _, h => setK_eq (Γ := r) (i := n) h
def delK : En → Nat → (En → Prop) → Prop
  | [], _, f => f []
  | _ :: r, 0, f => f (none :: r)
  | o :: r, n + 1, f => delK r n fun r' => f (o :: r')
theorem delK_eq : ∀ {Γ : En} {i : Nat} {f : En → Prop}, delK Γ i f → f (Γ.set i none)
  | [], _, _, h => h
  | _ :: _, 0, _, h => h
  | _ :: r, n + 1, _, h => delK_eq (Γ := r) (i := n) h
/-- the objects with another one at a place -/
def setM : Ms → Nat → Addr × MO → (Ms → Prop) → Prop
  | [], _, _, f => f []
  | _ :: r, 0, x, f => f (x :: r)
  | o :: r, n + 1, x, f => setM r n x fun r' => f (o :: r')
theorem setM_eq : ∀ {M : Ms} {i : Nat} {x : Addr × MO} {f : Ms → Prop}, setM M i x f ↔ f (M.set i x)
  | [], _, _, _ => Iff.rfl
  | _ :: _, 0, _, _ => Iff.rfl
  | _ :: r, n + 1, _, _ => setM_eq (M := r) (i := n)
def startK : Nat → List D → (En → Prop) → Prop
  | 0, [], f => f []
  | 0, d :: ds, f => f (some d :: ds.map some)
  | n + 1, [], f => startK n [] fun r => f (none :: r)
  | n + 1, d :: ds, f => startK n ds fun r => f (some d :: r)
theorem startK_eq : ∀ {n : Nat} {ds : List D} {f : En → Prop}, startK n ds f → f (ds.map some ++ List.replicate (n - ds.length) none)
  | 0, [], f, h => h
  | 0, d :: ds, f, h => by simpa using (show f (some d :: ds.map some) from h)
  | n + 1, [], f, h => by
    have := startK_eq (n := n) (ds := []) h
    simpa [List.replicate_succ] using this
  | n + 1, d :: ds, f, h => by
    have := startK_eq (n := n) (ds := ds) h
    simpa using this
theorem fr1 {M : Ms} {p : Addr × MO} : (M ++ [p]).Perm (p :: M) := List.perm_append_singleton _ _
def gotG (o : Option D) (k : D → Prop) : Prop := match o with
  | some d => k d
  | none => False
def wVar (i : Nat) : WpE := fun Γ M k _ => gotG (nthG Γ i) fun d => k d M
def wLit (d : D) : WpE := fun _ M k _ => k d M
section
variable {X : Cx} {e a b c : Expr} {es : List Expr} {st : Stmt} {sts : List Stmt} {pos p : Pos} {wa wb wc w : WpE}
theorem CE.var (i : Nat) {x : Str} (hN : X.N[i]? = some x := by rfl) (hv : Vis X.env.scope x := by first | exact Or.inl rfl | exact Or.inr (Or.inl rfl) | exact Or.inr (Or.inr rfl))
    (h1 : (x == ("__debug__" : Str)) = false := by decide) (h2 : (x == ("__classdict__" : Str)) = false := by decide) : CE X (.Name x pos) (wVar i) := ⟨fun {Γ M k kx} h => by
  unfold wVar at h
  cases q : nthG Γ i with
  | none => rw [q] at h; exact h.elim
  | some d => rw [q] at h; exact ge_var i h hN hv (nthG_at q) h1 h2⟩
theorem CE.int {i : Int} {j : Nat} : CE X (.Constant (.int i) j pos) (wLit (.int i)) := ⟨fun h => ge_int h⟩
theorem CE.bl {v : Bool} {j : Nat} : CE X (.Constant (.bool v) j pos) (wLit (.bl v)) := ⟨fun h => ge_bl h⟩
theorem CE.non {j : Nat} : CE X (.Constant .none j pos) (wLit .non) := ⟨fun h => ge_non h⟩
theorem CE.str {v : Str} {j : Nat} : CE X (.Constant (.str v) j pos) (wLit (.str v)) := ⟨fun h => ge_str h⟩
theorem CE.glob {x : Str} {d : D} (g : Glob X.K X.mg x d) (hg : Gl X x := by rfl) (h1 : (x == ("__debug__" : Str)) = false := by decide) : CE X (.Name x pos) (wLit d) := ⟨fun h => ge_glob g h hg h1⟩
theorem CE.neg {i : Int} {j : Nat} {p : Pos} : CE X (.UnaryOp .USub (.Constant (.int i) j p) pos) (wLit (.int (-i))) := ⟨fun h => ge_neg (ge_int ⟨i, rfl, h⟩)⟩
def wNeg (a : WpE) : WpE := fun Γ M k kx => a Γ M (fun x M1 => match x with
  | .int i => k (.int (-i)) M1
  | _ => False) kx
theorem CE.negE (ha : CE X a wa) : CE X (.UnaryOp .USub a pos) (wNeg wa) := ⟨fun h => ge_neg (GE.mono (ha.run h) (fun d M1 h1 => by
  cases d <;> first | exact h1.elim | exact ⟨_, rfl, h1⟩) fun _ _ _ z => z)⟩

/-! ### operators -/
def opAdd : D → D → Ms → KD → Prop
  | .int i, .int j, M, k => k (.int (i + j)) M
  | .str s, .str t, M, k => Sd (s.length + t.length ≤ 16777216) (k (.str (s ++ t)) M)
  | .lst a, .lst b, M, k => Sd (a.length + b.length ≤ 16777216) (k (.lst (a ++ b)) M)
  | .tup a, .tup b, M, k => Sd (a.length + b.length ≤ 16777216) (k (.tup (a ++ b)) M)
  | .hdl h, .lst b, M, k => HL M h fun _ a => Sd (a.length + b.length ≤ 16777216) (k (.lst (a ++ b)) M)
  | _, _, _, _ => False
def opSub : D → D → Ms → KD → Prop
  | .int i, .int j, M, k => k (.int (i - j)) M
  | _, _, _, _ => False
def opMul : D → D → Ms → KD → Prop
  | .int i, .int j, M, k => Sd (CMulX i j) (k (.int (i * j)) M)
  | .lst ds, .int j, M, k => Sd (-(2 ^ 63) ≤ j ∧ j < 2 ^ 63 ∧ ds.length * j.toNat ≤ 16777216) (k (.lst (List.replicate j.toNat ds).flatten) M)
  | .tup ds, .int j, M, k => Sd (ds ≠ [] ∧ 2 ≤ j ∧ j ≤ 1000 ∧ ds.length ≤ 1000) (k (.tup (List.replicate j.toNat ds).flatten) M)
  | .str s, .int j, M, k => Sd (0 ≤ j ∧ j ≤ 1000 ∧ s.length ≤ 1000) (k (.str ⟨(List.replicate j.toNat s.cps).foldl (· ++ ·) #[]⟩) M)
  | _, _, _, _ => False
def opDiv : D → D → Ms → KD → Prop
  | .int i, .int j, M, k => Sd (CDivW i j) (k (.int (i / j)) M)
  | _, _, _, _ => False
def opMod : D → D → Ms → KD → Prop
  | .int i, .int j, M, k => Sd (0 < j) (k (.int (i % j)) M)
  | _, _, _, _ => False
def opPow : D → D → Ms → KD → Prop
  | .int i, .int j, M, k => Sd (CPowX i j) (k (.int (i ^ j.toNat)) M)
  | _, _, _, _ => False
def opIx : D → D → Ms → KD → Prop
  | .tup ds, .int i, M, k => It1 ds i fun d => k d M
  | .lst ds, .int i, M, k => It1 ds i fun d => k d M
  | .seq ds, .int i, M, k => It1 ds i fun d => k d M
  | .hdl h, .int i, M, k => HL M h fun _ ds => It1 ds i fun d => k d M
  | .str s, .int i, M, k => ∃ (j c : Nat), ((0 ≤ i ∧ i = j ∧ j < s.length) ∨ (i < 0 ∧ i + s.length = j)) ∧ s.cps[j]? = some c ∧ s.length ≤ 16777216 ∧ k (.str ⟨#[c]⟩) M
  | _, _, _, _ => False
def opSMul : D → D → Ms → KD → Prop
  | .int i, .int j, M, k => Sd (CMul i j) (k (.int (i * j)) M)
  | _, _, _, _ => False
section
variable {K : PySem.W.Frag} {x y : D} {M : Ms} {k : KD}
theorem opAdd_ok (h : opAdd x y M k) : Bin K (rAddU K) x y M k := by
  cases x <;> cases y <;> first | exact h.elim | skip
  · exact add_int h
  · exact add_str h.h h.g
  · exact add_tup h.h h.g
  · exact add_lst h.h h.g
  · obtain ⟨p, ds, e, g⟩ := h; exact add_lstM e g.h g.g
theorem opSub_ok (h : opSub x y M k) : Bin K (rI0 fun i j => .int (i - j)) x y M k := by
  cases x <;> cases y <;> first | exact h.elim | skip
  exact sub_int h
theorem opMul_ok (h : opMul x y M k) : Bin K (rMulU K) x y M k := by
  cases x <;> cases y <;> first | exact h.elim | skip
  · exact mul_int' h.h h.g
  · obtain ⟨⟨h1, h2, h3⟩, g⟩ := h; exact mul_str h1 h2 h3 g
  · obtain ⟨⟨h1, h2, h3, h4⟩, g⟩ := h; exact mul_tup h1 h2 h3 h4 g
  · obtain ⟨⟨h1, h2, h3⟩, g⟩ := h; exact mul_lst h1 h2 h3 g
theorem opSMul_ok (h : opSMul x y M k) : Bin K (rI CMul fun i j => .int (i * j)) x y M k := by
  cases x <;> cases y <;> first | exact h.elim | skip
  exact mulS_int h.h h.g
theorem opDiv_ok (h : opDiv x y M k) : Bin K (rI CDivW fun i j => .int (i / j)) x y M k := by
  cases x <;> cases y <;> first | exact h.elim | skip
  exact div_int h.h h.g
theorem opMod_ok (h : opMod x y M k) : Bin K (rI (fun _ j => 0 < j) fun i j => .int (i % j)) x y M k := by
  cases x <;> cases y <;> first | exact h.elim | skip
  exact mod_int h.h h.g
theorem opPow_ok (h : opPow x y M k) : Bin K (rI CPowX fun i j => .int (i ^ j.toNat)) x y M k := by
  cases x <;> cases y <;> first | exact h.elim | skip
  exact pow_int h.h h.g
theorem opIx_ok (h : opIx x y M k) : Bin K (rIx K) x y M k := by
  cases x <;> cases y <;> first | exact h.elim | skip
  · obtain ⟨j, c, h1, h2, h3, g⟩ := h; exact ix_str' h1 h2 h3 g
  · obtain ⟨j, d, h1, h2, g⟩ := h; exact ix_tup' h1 h2 g
  · obtain ⟨j, d, h1, h2, g⟩ := h; exact ix_lst' h1 h2 g
  · obtain ⟨j, d, h1, h2, g⟩ := h; exact ix_seq' h1 h2 g
  · obtain ⟨p, ds, e, ⟨j, d, h1, h2, g⟩⟩ := h; exact ix_hdl e h1 h2 g
end
/-- x op y -/
def w2 (op : D → D → Ms → KD → Prop) (a b : WpE) : WpE := fun Γ M k kx => a Γ M (fun x M1 => b Γ M1 (fun y M2 => op x y M2 k) kx) kx
theorem bin_of {op : Operator} {r : R2} {f : D → D → Ms → KD → Prop} (ho : OpR X (binaryOp op) r) (hf : ∀ {x y M k}, f x y M k → Bin X.K r x y M k) (ha : CE X a wa) (hb : CE X b wb) : CE X (.BinOp a op b pos) (w2 f wa wb) :=
  ⟨fun h => ge_bin ho (GE.mono (ha.run h) (fun _ _ h1 => GE.mono (hb.run h1) (fun _ _ h2 => hf h2) fun _ _ _ z => z) fun _ _ _ z => z)⟩
theorem CE.add (ha : CE X a wa) (hb : CE X b wb) : CE X (.BinOp a .Add b pos) (w2 opAdd wa wb) := bin_of op_addU opAdd_ok ha hb
theorem CE.sub (ha : CE X a wa) (hb : CE X b wb) : CE X (.BinOp a .Sub b pos) (w2 opSub wa wb) := bin_of op_sub opSub_ok ha hb
theorem CE.mul (ha : CE X a wa) (hb : CE X b wb) : CE X (.BinOp a .Mult b pos) (w2 opMul wa wb) := bin_of op_mulU opMul_ok ha hb
theorem CE.smul (ha : CE X a wa) (hb : CE X b wb) : CE X (.BinOp a .Mult b pos) (w2 opSMul wa wb) := bin_of op_mul opSMul_ok ha hb
theorem CE.div (ha : CE X a wa) (hb : CE X b wb) : CE X (.BinOp a .FloorDiv b pos) (w2 opDiv wa wb) := bin_of op_fdivW opDiv_ok ha hb
theorem CE.mod (ha : CE X a wa) (hb : CE X b wb) : CE X (.BinOp a .Mod b pos) (w2 opMod wa wb) := bin_of op_mod opMod_ok ha hb
theorem CE.pow (ha : CE X a wa) (hb : CE X b wb) : CE X (.BinOp a .Pow b pos) (w2 opPow wa wb) := bin_of op_powX opPow_ok ha hb
theorem CE.ix (hs : PlainIx b) (ha : CE X a wa) (hb : CE X b wb) : CE X (.Subscript a b pos) (w2 opIx wa wb) :=
  ⟨fun h => ge_ix ix_seq hs (GE.mono (ha.run h) (fun _ _ h1 => GE.mono (hb.run h1) (fun _ _ h2 => opIx_ok h2) fun _ _ _ z => z) fun _ _ _ z => z)⟩

/-! ### comparisons: they give a truth -/
abbrev CmpD := D → D → Ms → KB → Prop
def cLt : CmpD
  | .int i, .int j, M, k => k (decide (i < j)) M
  | _, _, _, _ => False
def cLe : CmpD
  | .int i, .int j, M, k => k (decide (i ≤ j)) M
  | _, _, _, _ => False
def cGt : CmpD
  | .int i, .int j, M, k => k (decide (j < i)) M
  | _, _, _, _ => False
def cGe : CmpD
  | .int i, .int j, M, k => k (decide (j ≤ i)) M
  | _, _, _, _ => False
/-- plain data, and its levels -/
inductive Pln (M : Ms) (d : D) : PyData → Prop
  | dat (n : Nat) (h : sm n d = true) (hn : n ≤ 64) : Pln M d (py d)
  | hdl (p n : Nat) (a : Addr) (ds : List D) (e : d = .hdl a) (hm : M[p]? = some (a, .lst ds)) (h : sm n (.lst ds) = true) (hn : n ≤ 64) : Pln M d (py (.lst ds))
def cEqG (x y : D) (M : Ms) (k : KB) : Prop := ∃ u v, Pln M x u ∧ Pln M y v ∧ k (PyData.eqv u v) M
def cEq : CmpD
  | .int i, .int j, M, k => k (decide (i = j)) M
  | .str s, .str t, M, k => k (decide (s = t)) M
  | x, y, M, k => cEqG x y M k
def cNeG (x y : D) (M : Ms) (k : KB) : Prop := ∃ u v, Pln M x u ∧ Pln M y v ∧ k (!PyData.eqv u v) M
def cNe : CmpD
  | .int i, .int j, M, k => k (!decide (i = j)) M
  | .str s, .str t, M, k => k (!decide (s = t)) M
  | x, y, M, k => cNeG x y M k
def cIs : CmpD
  | x, .non, M, k => Sd (∀ u, x ≠ .raw u) (k (isNon x) M)
  | _, _, _, _ => False
def cIsNot : CmpD
  | x, .non, M, k => Sd (∀ u, x ≠ .raw u) (k (!isNon x) M)
  | _, _, _, _ => False
def cIn : CmpD
  | .str s, .tup ds, M, k => Sd (strsD ds = true) (k (ds.any (isS s)) M)
  | .str s, .lst ds, M, k => Sd (strsD ds = true) (k (ds.any (isS s)) M)
  | .str s, .hdl h, M, k => HL M h fun _ ds => Sd (strsD ds = true) (k (ds.any (isS s)) M)
  | .str s, .str t, M, k => k (!(Builtin.Str.occurrences t s 0 t.length 1).isEmpty) M
  | _, _, _, _ => False
def cNotIn : CmpD
  | .str s, .tup ds, M, k => Sd (strsD ds = true) (k (!ds.any (isS s)) M)
  | .str s, .lst ds, M, k => Sd (strsD ds = true) (k (!ds.any (isS s)) M)
  | .str s, .hdl h, M, k => HL M h fun _ ds => Sd (strsD ds = true) (k (!ds.any (isS s)) M)
  | _, _, _, _ => False
section
variable {K : PySem.W.Frag} {x y : D} {M : Ms} {k : KB}
/-- the truth as a value -/
abbrev tru (k : KB) : KD := fun d M => ∃ v, d = .bl v ∧ k v M
theorem cLt_ok (h : cLt x y M k) : Bin K (rI0 fun i j => .bl (decide (i < j))) x y M (tru k) := by
  cases x <;> cases y <;> first | exact h.elim | exact lt_int ⟨_, rfl, h⟩
theorem cLe_ok (h : cLe x y M k) : Bin K (rI0 fun i j => .bl (decide (i ≤ j))) x y M (tru k) := by
  cases x <;> cases y <;> first | exact h.elim | exact le_int ⟨_, rfl, h⟩
theorem cGt_ok (h : cGt x y M k) : Bin K (rI0 fun i j => .bl (decide (j < i))) x y M (tru k) := by
  cases x <;> cases y <;> first | exact h.elim | exact gt_int ⟨_, rfl, h⟩
theorem cGe_ok (h : cGe x y M k) : Bin K (rI0 fun i j => .bl (decide (j ≤ i))) x y M (tru k) := by
  cases x <;> cases y <;> first | exact h.elim | exact ge_int' ⟨_, rfl, h⟩
theorem Pln.dp {S : Sg} {d : D} {u : PyData} {v : V} (h : Pln M d u) (hM : OkM K S M) (r : Rep K S d v) : Dp K S.H v u ∧ SeqAt.shaped u = true := by
  cases h with
  | dat n h hn => exact ⟨dp_of hM h r, shaped_of h hn⟩
  | hdl p n a ds e hm h hn =>
    subst e; cases r
    exact ⟨dp_hdl hM hm h, shaped_of h hn⟩
theorem cEqG_ok (h : cEqG x y M k) : Bin K (rEqU K) x y M (tru k) := by
  obtain ⟨u, v, hu, hv, hk⟩ := h
  exact bin_flat (v := .bl (PyData.eqv u v)) (fun S vx vy hM rx ry Q q => .inr ⟨_, _, (hu.dp hM rx).1, (hv.dp hM ry).1, (hu.dp hM rx).2, (hv.dp hM ry).2, q⟩) ⟨_, rfl, hk⟩
theorem cNeG_ok (h : cNeG x y M k) : Bin K (rNeU K) x y M (tru k) := by
  obtain ⟨u, v, hu, hv, hk⟩ := h
  exact bin_flat (v := .bl (!PyData.eqv u v)) (fun S vx vy hM rx ry Q q => .inr ⟨_, _, (hu.dp hM rx).1, (hv.dp hM ry).1, (hu.dp hM rx).2, (hv.dp hM ry).2, q⟩) ⟨_, rfl, hk⟩
theorem cEq_ok (h : cEq x y M k) : Bin K (rEqU K) x y M (tru k) := by
  cases x <;> cases y <;> first | exact eq_int ⟨_, rfl, h⟩ | exact eq_str ⟨_, rfl, h⟩ | exact cEqG_ok h
theorem cNe_ok (h : cNe x y M k) : Bin K (rNeU K) x y M (tru k) := by
  cases x <;> cases y <;> first | exact ne_int ⟨_, rfl, h⟩ | exact ne_str ⟨_, rfl, h⟩ | exact cNeG_ok h
theorem cIs_ok (h : cIs x y M k) : Bin K rIsN x y M (tru k) := by
  cases y <;> first | exact h.elim | exact is_non ⟨_, rfl, h.g⟩ h.h
theorem cIsNot_ok (h : cIsNot x y M k) : Bin K rNotN x y M (tru k) := by
  cases y <;> first | exact h.elim | exact not_non ⟨_, rfl, h.g⟩ h.h
theorem cIn_ok (h : cIn x y M k) : Bin K (rInU K) x y M (tru k) := by
  cases x <;> first | exact h.elim | skip
  cases y <;> first | exact h.elim | skip
  · exact in_signs ⟨_, rfl, h⟩
  · exact in_strs h.h ⟨_, rfl, h.g⟩
  · exact in_strsL h.h ⟨_, rfl, h.g⟩
  · obtain ⟨p, ds, e, g⟩ := h; exact in_strsH e g.h ⟨_, rfl, g.g⟩
theorem cNotIn_ok (h : cNotIn x y M k) : Bin K (rNotInU K) x y M (tru k) := by
  cases x <;> first | exact h.elim | skip
  cases y <;> first | exact h.elim | skip
  · exact ni_strs h.h ⟨_, rfl, h.g⟩
  · exact ni_strsL h.h ⟨_, rfl, h.g⟩
  · obtain ⟨p, ds, e, g⟩ := h; exact ni_strsH e g.h ⟨_, rfl, g.g⟩
end
/-- a test of two values -/
def wC (c : CmpD) (a b : WpE) : WpT := fun Γ M k kx => a Γ M (fun x M1 => b Γ M1 (fun y M2 => c x y M2 k) kx) kx
/-- a test as a value -/
def wV (t : WpT) : WpE := fun Γ M k kx => t Γ M (fun b M1 => k (.bl b) M1) kx
/-- a comparison, as a test and as a value -/
structure Kc (X : Cx) (e : Expr) (w : WpT) : Prop where
  t : CT X e w
  v : CE X e (wV w)
theorem cmp_of {op : CmpOp} {r : R2} {c : CmpD} (ho : OpR X (compareOp op) r) (hm : behindInMarks op b = false) (hc : ∀ {x y M k}, c x y M k → Bin X.K r x y M (tru k)) (ha : CE X a wa) (hb : CE X b wb) : Kc X (.Compare a [op] [b] pos) (wC c wa wb) :=
  ⟨⟨fun h => gt_cmp ho hm (GE.mono (ha.run h) (fun _ _ h1 => GE.mono (hb.run h1) (fun _ _ h2 => hc h2) fun _ _ _ z => z) fun _ _ _ z => z)⟩,
   ⟨fun {Γ M k kx} h => ge_cmp ho hm (GE.mono (ha.run h) (fun _ _ h1 => GE.mono (hb.run h1) (fun x M2 h2 => fun S vx vy hM rx ry Q hQ => hc h2 S vx vy hM rx ry Q fun d M' S' v ⟨t, e1, e2⟩ => by
      subst e1; exact hQ _ M' S' v e2) fun _ _ _ z => z) fun _ _ _ z => z)⟩⟩
theorem Kc.lt (ha : CE X a wa) (hb : CE X b wb) : Kc X (.Compare a [.Lt] [b] pos) (wC cLt wa wb) := cmp_of op_lt (nomark _) cLt_ok ha hb
theorem Kc.le (ha : CE X a wa) (hb : CE X b wb) : Kc X (.Compare a [.LtE] [b] pos) (wC cLe wa wb) := cmp_of op_le (nomark _) cLe_ok ha hb
theorem Kc.gt (ha : CE X a wa) (hb : CE X b wb) : Kc X (.Compare a [.Gt] [b] pos) (wC cGt wa wb) := cmp_of op_gt (nomark _) cGt_ok ha hb
theorem Kc.ge (ha : CE X a wa) (hb : CE X b wb) : Kc X (.Compare a [.GtE] [b] pos) (wC cGe wa wb) := cmp_of op_ge (nomark _) cGe_ok ha hb
theorem Kc.eq (hu : X.A.units + 65 < cLine) (ha : CE X a wa) (hb : CE X b wb) : Kc X (.Compare a [.Eq] [b] pos) (wC cEq wa wb) := cmp_of (op_eqU (Nat.lt_of_le_of_lt (Nat.add_le_add_left (by decide) _) hu)) (nomark _) cEq_ok ha hb
theorem Kc.ne (hu : X.A.units + 65 < cLine) (ha : CE X a wa) (hb : CE X b wb) : Kc X (.Compare a [.NotEq] [b] pos) (wC cNe wa wb) := cmp_of (op_neU (Nat.lt_of_le_of_lt (Nat.add_le_add_left (by decide) _) hu)) (nomark _) cNe_ok ha hb
theorem Kc.is (ha : CE X a wa) (hb : CE X b wb) : Kc X (.Compare a [.Is] [b] pos) (wC cIs wa wb) := cmp_of op_isN (nomark _) cIs_ok ha hb
theorem Kc.isNot (ha : CE X a wa) (hb : CE X b wb) : Kc X (.Compare a [.IsNot] [b] pos) (wC cIsNot wa wb) := cmp_of op_notN (nomark _) cIsNot_ok ha hb
theorem Kc.in (hu : X.A.units + 65 < cLine) (hm : behindInMarks .In b = false) (ha : CE X a wa) (hb : CE X b wb) : Kc X (.Compare a [.In] [b] pos) (wC cIn wa wb) := cmp_of (op_inU hu) hm cIn_ok ha hb
theorem Kc.notIn (hu : X.A.units + 65 < cLine) (hm : behindInMarks .NotIn b = false) (ha : CE X a wa) (hb : CE X b wb) : Kc X (.Compare a [.NotIn] [b] pos) (wC cNotIn wa wb) := cmp_of (op_notInU hu) hm cNotIn_ok ha hb
/-! xs == [], xs holding anything -/
def cEmp : CmpD
  | .lst ds, .lst [], M, k => k ds.isEmpty M
  | _, _, _, _ => False
theorem cEmp_ok {K : PySem.W.Frag} {x y : D} {M : Ms} {k : KB} (h : cEmp x y M k) : Bin K (rEmp K) x y M (tru k) := by
  cases x <;> first | exact h.elim | skip
  cases y <;> first | exact h.elim | skip
  rename_i ds es
  cases es <;> first | exact h.elim | exact eq_emp ⟨_, rfl, h⟩
theorem Kc.emp (hu : X.A.units + 65 < cLine) (ha : CE X a wa) (hb : CE X b wb) : Kc X (.Compare a [.Eq] [b] pos) (wC cEmp wa wb) := cmp_of (op_emp (Nat.lt_of_le_of_lt (Nat.add_le_add_left (by decide) _) hu)) (nomark _) cEmp_ok ha hb
/-! dicts -/
def cDin : CmpD := fun y x M k => HD M x fun ks ds => ∃ q, Sd (y = kD q) (k (valK ks ds q).isSome M)
def cDnotIn : CmpD := fun y x M k => HD M x fun ks ds => ∃ q, Sd (y = kD q) (k (!(valK ks ds q).isSome) M)
theorem Kc.dIn (hu : X.A.units + 65 < cLine) (ha : CE X a wa) (hb : CE X b wb) (hm : behindInMarks .In b = false := by first | exact nobehind _ (by decide) (by decide) | rfl) : Kc X (.Compare a [.In] [b] pos) (wC cDin wa wb) :=
  ⟨⟨fun h => gt_din (Nat.lt_of_le_of_lt (Nat.add_le_add_left (by decide) _) hu) (GE.mono (ha.run h) (fun _ _ h1 => GE.mono (hb.run h1) (fun x M2 ⟨ks, ds, e, q, g⟩ => ⟨ks, ds, q, e, g.h, g.g⟩) fun _ _ _ z => z) fun _ _ _ z => z) hm⟩,
   ⟨fun h => ge_din (Nat.lt_of_le_of_lt (Nat.add_le_add_left (by decide) _) hu) (GE.mono (ha.run h) (fun _ _ h1 => GE.mono (hb.run h1) (fun x M2 ⟨ks, ds, e, q, g⟩ => ⟨ks, ds, q, e, g.h, g.g⟩) fun _ _ _ z => z) fun _ _ _ z => z) hm⟩⟩
theorem Kc.dNotIn (hu : X.A.units + 65 < cLine) (ha : CE X a wa) (hb : CE X b wb) (hm : behindInMarks .NotIn b = false := by first | exact nobehind _ (by decide) (by decide) | rfl) : Kc X (.Compare a [.NotIn] [b] pos) (wC cDnotIn wa wb) :=
  ⟨⟨fun h => gt_dnotin (Nat.lt_of_le_of_lt (Nat.add_le_add_left (by decide) _) hu) (GE.mono (ha.run h) (fun _ _ h1 => GE.mono (hb.run h1) (fun x M2 ⟨ks, ds, e, q, g⟩ => ⟨ks, ds, q, e, g.h, g.g⟩) fun _ _ _ z => z) fun _ _ _ z => z) hm⟩,
   ⟨fun h => ge_dnotin (Nat.lt_of_le_of_lt (Nat.add_le_add_left (by decide) _) hu) (GE.mono (ha.run h) (fun _ _ h1 => GE.mono (hb.run h1) (fun x M2 ⟨ks, ds, e, q, g⟩ => ⟨ks, ds, q, e, g.h, g.g⟩) fun _ _ _ z => z) fun _ _ _ z => z) hm⟩⟩
def opDget : D → D → Ms → KD → Prop := fun x y M k => HD M x fun ks ds => ∃ q d, Sd (y = kD q ∧ valK ks ds q = some d) (k d M)
theorem CE.dget (hu : X.A.units + 65 < cLine) (hs : NoSl b) (ha : CE X a wa) (hb : CE X b wb) : CE X (.Subscript a b pos) (w2 opDget wa wb) :=
  ⟨fun h => ge_dget (Nat.lt_of_le_of_lt (Nat.add_le_add_left (by decide) _) hu) hs (GE.mono (ha.run h) (fun _ _ h1 => GE.mono (hb.run h1) (fun x M2 ⟨ks, ds, e, q, d, g⟩ => ⟨ks, ds, q, d, e, g.h.1, g.h.2, g.g⟩) fun _ _ _ z => z) fun _ _ _ z => z)⟩
/-! a op b op' c -/
def wCh (c c' : CmpD) (a b d : WpE) : WpT := fun Γ M k kx => a Γ M (fun x M1 => b Γ M1 (fun y M2 => c x y M2 fun v M3 => Br v (d Γ M3 (fun z M4 => c' y z M4 k) kx) (k false M3)) kx) kx
theorem chain_of {op op' : CmpOp} {r r' : R2} {f f' : CmpD} (ho : OpR X (compareOp op) r) (ho' : OpR X (compareOp op') r') (hf : ∀ {x y M k}, f x y M k → Bin X.K r x y M (tru k)) (hf' : ∀ {x y M k}, f' x y M k → Bin X.K r' x y M (tru k))
    (hm : lastMarks [op, op'] [b, c] = false) (ha : CE X a wa) (hb : CE X b wb) (hc : CE X c wc) : Kc X (.Compare a [op, op'] [b, c] pos) (wCh f f' wa wb wc) :=
  ⟨⟨fun h => gt_chain ho ho' (GE.mono (ha.run h) (fun _ _ h1 => GE.mono (hb.run h1) (fun x M2 h2 => fun S vx vy hM rx ry Q hQ => hf h2 S vx vy hM rx ry Q fun d M' S' v ⟨t, e1, e2⟩ => hQ _ M' S' v ⟨t, e1,
      fun q => GE.mono (hc.run (e2.t q)) (fun _ _ h3 => hf' h3) fun _ _ _ z => z, fun q => e2.f q⟩) fun _ _ _ z => z) fun _ _ _ z => z) hm⟩,
   ⟨fun h => ge_chain ho ho' (GE.mono (ha.run h) (fun _ _ h1 => GE.mono (hb.run h1) (fun x M2 h2 => fun S vx vy hM rx ry Q hQ => hf h2 S vx vy hM rx ry Q fun d M' S' v ⟨t, e1, e2⟩ => hQ _ M' S' v ⟨t, e1,
      fun q => GE.mono (hc.run (e2.t q)) (fun _ _ h3 => fun S vx vy hM rx ry Q hQ => hf' h3 S vx vy hM rx ry Q fun d M' S' v ⟨t, e1, e2⟩ => by subst e1; exact hQ _ M' S' v e2) fun _ _ _ z => z, fun q => e2.f q⟩) fun _ _ _ z => z) fun _ _ _ z => z) hm⟩⟩
theorem Kc.leLe (ha : CE X a wa) (hb : CE X b wb) (hc : CE X c wc) (hm : lastMarks [.LtE, .LtE] [b, c] = false := by rfl) : Kc X (.Compare a [.LtE, .LtE] [b, c] pos) (wCh cLe cLe wa wb wc) := chain_of op_le op_le cLe_ok cLe_ok hm ha hb hc
theorem Kc.leLt (ha : CE X a wa) (hb : CE X b wb) (hc : CE X c wc) (hm : lastMarks [.LtE, .Lt] [b, c] = false := by rfl) : Kc X (.Compare a [.LtE, .Lt] [b, c] pos) (wCh cLe cLt wa wb wc) := chain_of op_le op_lt cLe_ok cLt_ok hm ha hb hc
theorem Kc.ltLt (ha : CE X a wa) (hb : CE X b wb) (hc : CE X c wc) (hm : lastMarks [.Lt, .Lt] [b, c] = false := by rfl) : Kc X (.Compare a [.Lt, .Lt] [b, c] pos) (wCh cLt cLt wa wb wc) := chain_of op_lt op_lt cLt_ok cLt_ok hm ha hb hc

/-! ### tests -/
variable {ta tb : WpT}
/-- a value that is a truth, as a test -/
def wB (a : WpE) : WpT := fun Γ M k kx => a Γ M (fun d M1 => match d with
  | .bl b => k b M1
  | _ => False) kx
theorem CT.val (ha : CE X e w) (he : ∀ whole, isTrue e X.env whole = (do let v ← whole; standAt e.pos; holding [v] (truthy v)) := by intro _; rfl) : CT X e (wB w) :=
  ⟨fun h => gt_val (GE.mono (ha.run h) (fun d M1 h1 => by cases d <;> first | exact h1.elim | exact ⟨_, rfl, h1⟩) fun _ _ _ z => z) he⟩
def wNot (t : WpT) : WpT := fun Γ M k kx => t Γ M (fun b M1 => k (!b) M1) kx
theorem CT.not (ha : CT X a ta) : CT X (.UnaryOp .Not a pos) (wNot ta) := ⟨fun h => gt_not (ha.run h)⟩
theorem CE.not (ha : CE X a wa) : CE X (.UnaryOp .Not a pos) (wV (wNot (wB wa))) := ⟨fun h => ge_not (GE.mono (ha.run h) (fun d M1 h1 => by cases d <;> first | exact h1.elim | exact ⟨_, rfl, h1⟩) fun _ _ _ z => z)⟩
def wAnd (a b : WpT) : WpT := fun Γ M k kx => a Γ M (fun v M1 => Br v (b Γ M1 k kx) (k false M1)) kx
def wOr (a b : WpT) : WpT := fun Γ M k kx => a Γ M (fun v M1 => Br v (k true M1) (b Γ M1 k kx)) kx
theorem CT.bool {op : BoolOp} (h : CP X (.BoolOp op es pos) ta) : CT X (.BoolOp op es pos) ta := ⟨fun q => gt_bool (h.run q)⟩
theorem CP.and1 (h : CT X a ta) : CP X (.BoolOp .And [a] pos) ta := ⟨fun q => gp_and1 (h.run q)⟩
theorem CP.or1 (h : CT X a ta) : CP X (.BoolOp .Or [a] pos) ta := ⟨fun q => gp_or1 (h.run q)⟩
theorem CP.and (h : CT X a ta) (r : CP X (.BoolOp .And (b :: es) pos) tb) : CP X (.BoolOp .And (a :: b :: es) pos) (wAnd ta tb) :=
  ⟨fun q => gp_and (GT.mono (h.run q) (fun v M1 g => ⟨fun e => r.run (g.t e), fun e => g.f e⟩) fun _ _ _ z => z)⟩
theorem CP.or (h : CT X a ta) (r : CP X (.BoolOp .Or (b :: es) pos) tb) : CP X (.BoolOp .Or (a :: b :: es) pos) (wOr ta tb) :=
  ⟨fun q => gp_or (GT.mono (h.run q) (fun v M1 g => ⟨fun e => r.run (g.f e), fun e => g.t e⟩) fun _ _ _ z => z)⟩
/-- .. as values -/
def vAnd (a b : WpE) : WpE := fun Γ M k kx => a Γ M (fun d M1 => match d with
  | .bl v => Br v (b Γ M1 k kx) (k (.bl false) M1)
  | _ => False) kx
def vOr (a b : WpE) : WpE := fun Γ M k kx => a Γ M (fun d M1 => match d with
  | .bl v => Br v (k (.bl true) M1) (b Γ M1 k kx)
  | _ => False) kx
theorem CE.one {op : BoolOp} (h : CE X a w) : CE X (.BoolOp op [a] pos) w := ⟨fun q => ge_one (h.run q)⟩
theorem CE.and (h : CE X a wa) (r : CE X (.BoolOp .And (b :: es) pos) wb) : CE X (.BoolOp .And (a :: b :: es) pos) (vAnd wa wb) :=
  ⟨fun q => ge_and (GE.mono (h.run q) (fun d M1 g => by cases d <;> first | exact g.elim | exact ⟨_, rfl, fun e => r.run (g.t e), fun e => g.f e⟩) fun _ _ _ z => z)⟩
theorem CE.or (h : CE X a wa) (r : CE X (.BoolOp .Or (b :: es) pos) wb) : CE X (.BoolOp .Or (a :: b :: es) pos) (vOr wa wb) :=
  ⟨fun q => ge_or (GE.mono (h.run q) (fun d M1 g => by cases d <;> first | exact g.elim | exact ⟨_, rfl, fun e => r.run (g.f e), fun e => g.t e⟩) fun _ _ _ z => z)⟩
def wIfe (t : WpT) (a b : WpE) : WpE := fun Γ M k kx => t Γ M (fun v M1 => Br v (a Γ M1 k kx) (b Γ M1 k kx)) kx
theorem CE.ife (h : CT X c ta) (ha : CE X a wa) (hb : CE X b wb) : CE X (.IfExp c a b pos) (wIfe ta wa wb) :=
  ⟨fun q => ge_ife (GT.mono (h.run q) (fun v M1 g => ⟨fun e => ha.run (g.t e), fun e => hb.run (g.f e)⟩) fun _ _ _ z => z)⟩

/-! ### displays -/
variable {wes : WpA}
def wNil : WpA := fun _ M k _ => k [] M
def wCons (a : WpE) (r : WpA) : WpA := fun Γ M k kx => a Γ M (fun d M1 => r Γ M1 (fun ds M2 => k (d :: ds) M2) kx) kx
/-- *a, .. -/
def wStar (a : WpE) (r : WpA) : WpA := fun Γ M k kx => a Γ M (fun d M1 => ∃ ds, Sd (SeqD M1 d ds) (r Γ M1 (fun ys M2 => k (ds ++ ys) M2) kx)) kx
theorem CA.nil : CA X [] wNil := ⟨fun h => ga_nil h⟩
theorem CA.cons (ha : CE X e wa) (hr : CA X es wes) (hs : starEach (e :: es) X.env = (false, eval e X.env) :: starEach es X.env := by rfl) : CA X (e :: es) (wCons wa wes) :=
  ⟨fun h => ga_cons (GE.mono (ha.run h) (fun _ _ h1 => hr.run h1) fun _ _ _ z => z) hs⟩
theorem CA.star (ha : CE X e wa) (hr : CA X es wes) (hs : starEach (.Starred e p :: es) X.env = (true, eval e X.env) :: starEach es X.env := by rfl) : CA X (.Starred e p :: es) (wStar wa wes) :=
  ⟨fun h => ga_star (GE.mono (ha.run h) (fun _ _ ⟨ds, g⟩ => ⟨ds, g.h, hr.run g.g⟩) fun _ _ _ z => z) hs⟩
def wTup (r : WpA) : WpE := fun Γ M k kx => r Γ M (fun ds M1 => Sd (ds.length ≤ 16777216) (k (.tup ds) M1)) kx
def wLst (r : WpA) : WpE := fun Γ M k kx => r Γ M (fun ds M1 => Sd (ds.length ≤ 16777216) (k (.lst ds) M1)) kx
def wLstM (r : WpA) : WpE := fun Γ M k kx => r Γ M (fun ds M1 => Sd (ds.length ≤ 16777216) (∀ p, k (.hdl p) ((p, .lst ds) :: M1))) kx
def wDnew : WpE := fun Γ M k kx => ∀ p, k (.hdl p) ((p, .dct [] []) :: M)
theorem CE.tup {j : Nat} (h : CA X es wes) : CE X (.Tuple es j pos) (wTup wes) := ⟨fun q => ge_tup (GA.mono (h.run q) (fun ds M1 g => ⟨g.h, g.g⟩) fun _ _ _ z => z)⟩
theorem CE.lst (h : CA X es wes) : CE X (.List es pos) (wLst wes) := ⟨fun q => ge_lst (GA.mono (h.run q) (fun ds M1 g => ⟨g.h, g.g⟩) fun _ _ _ z => z)⟩
theorem CE.lstM (h : CA X es wes) : CE X (.List es pos) (wLstM wes) := ⟨fun q => ge_perm (ge_lstM (GA.mono (h.run q) (fun ds M1 g => ⟨g.h, fun p => ⟨_, fr1, g.g p⟩⟩) fun _ _ _ z => z))⟩
theorem CE.dnew : CE X (.Dict [] [] pos) wDnew := ⟨fun h => ge_perm (ge_dnew fun p => ⟨_, fr1, h p⟩)⟩
end
end PD

set_option Elab.async false
set_option linter.all false
set_option maxRecDepth 100000
set_option maxHeartbeats 4000000
/-! PW: calls, fields, slices, texts. -/
namespace PD
open PySem L2
section
variable {X : Cx} {e a b c o : Expr} {es : List Expr} {st : Stmt} {sts : List Stmt} {pos p apos cpos : Pos} {wa wb wc w wo : WpE} {wes : WpA} {nm m : Str} {j l : Nat} {C : Addr} {dds : List D} {R : RSp} {kws : List Keyword} {wks : WpA}
/-! ### built-in calls -/
def w1 (op : D → Ms → KD → Prop) (a : WpE) : WpE := fun Γ M k kx => a Γ M (fun x M1 => op x M1 k) kx
def oLen : D → Ms → KD → Prop
  | .str s, M, k => Sd (s.length ≤ 16777216) (k (.int s.length) M)
  | .tup ds, M, k => k (.int ds.length) M
  | .lst ds, M, k => k (.int ds.length) M
  | .seq ds, M, k => k (.int ds.length) M
  | .hdl h, M, k => HL M h fun _ ds => k (.int ds.length) M
  | _, _, _ => False
def oInt : D → Ms → KD → Prop
  | .int i, M, k => k (.int i) M
  | .bl b, M, k => k (.int (if b then 1 else 0)) M
  | _, _, _ => False
def oAbs : D → Ms → KD → Prop
  | .int i, M, k => k (.int (if i < 0 then -i else i)) M
  | _, _, _ => False
def oTup : D → Ms → KD → Prop
  | .lst ds, M, k => k (.tup ds) M
  | .tup ds, M, k => k (.tup ds) M
  | .hdl h, M, k => HL M h fun _ ds => k (.tup ds) M
  | _, _, _ => False
def oLst : D → Ms → KD → Prop
  | .lst ds, M, k => k (.lst ds) M
  | .tup ds, M, k => k (.lst ds) M
  | .hdl h, M, k => HL M h fun _ ds => k (.lst ds) M
  | _, _, _ => False
def oLstM : D → Ms → KD → Prop
  | .lst ds, M, k => ∀ p, k (.hdl p) ((p, .lst ds) :: M)
  | .tup ds, M, k => ∀ p, k (.hdl p) ((p, .lst ds) :: M)
  | _, _, _ => False
def oAll : D → Ms → KD → Prop
  | .lst ds, M, k => ∃ bs : List Bool, Sd (ds = bs.map D.bl) (k (.bl (bs.all id)) M)
  | _, _, _ => False
def oAny : D → Ms → KD → Prop
  | .lst ds, M, k => ∃ bs : List Bool, Sd (ds = bs.map D.bl) (k (.bl (bs.any id)) M)
  | _, _, _ => False
def oSum : D → Ms → KD → Prop
  | .lst ds, M, k => ∃ bs : List Int, Sd (ds = bs.map D.int) (k (.int bs.sum) M)
  | _, _, _ => False
def oDict : D → Ms → KD → Prop := fun x M k => HD M x fun ks ds => k (.dct ks ds) M
def oMax2 : D → D → Ms → KD → Prop
  | .int i, .int j, M, k => k (.int (if j > i then j else i)) M
  | _, _, _, _ => False
def oMin2 : D → D → Ms → KD → Prop
  | .int i, .int j, M, k => k (.int (if j < i then j else i)) M
  | _, _, _, _ => False
def oIsi (f : D → Bool) (t : String) : D → Ms → KD → Prop := fun x M k => match x with
  | .hdl h => HL M h fun _ ds => ∃ b, Sd (kitB "list" t = some b) (k (.bl b) M)
  | x => Sd (kn x = true) (k (.bl (f x)) M)
theorem CE.callB {id : String} {r : List V → Hp → VK → Prop} {f : D → Ms → KD → Prop} (hc : CallR X (.builtin id) r) (hf : ∀ {x M k}, f x M k → CallD X.K r [x] M k) (hm : X.mg nm = none) (hv : bootBuiltins nm = some (.builtin id)) (ha : CE X a wa) (hg : Gl X nm := by rfl) (hn : nm ≠ "__name__" := by decide) (hdb : (nm == ("__debug__" : Str)) = false := by decide)
    (he : starEach [a] X.env = (false, eval a X.env) :: starEach [] X.env := by rfl) (hpl : (backTo pos (starEach [] X.env)).any (·.1) = false := by rfl) : CE X (.Call (.Name nm p) [a] [] pos) (w1 f wa) :=
  ⟨fun q => ge_callB hc hm hv (ga_cons (GE.mono (ha.run q) (fun _ _ h1 => ga_nil (hf h1)) fun _ _ _ z => z) he) hg hn hdb he hpl⟩
theorem CE.callT {T : String} {r : List V → Hp → VK → Prop} {f : D → Ms → KD → Prop} (hc : CallR X (.type T) r) (hf : ∀ {x M k}, f x M k → CallD X.K r [x] M k) (hm : X.mg nm = none) (hv : bootBuiltins nm = some (.type T)) (ha : CE X a wa) (hg : Gl X nm := by rfl) (hn : nm ≠ "__name__" := by decide) (hdb : (nm == ("__debug__" : Str)) = false := by decide)
    (he : starEach [a] X.env = (false, eval a X.env) :: starEach [] X.env := by rfl) (hpl : (backTo pos (starEach [] X.env)).any (·.1) = false := by rfl) : CE X (.Call (.Name nm p) [a] [] pos) (w1 f wa) :=
  ⟨fun q => ge_callT hc hm hv (ga_cons (GE.mono (ha.run q) (fun _ _ h1 => ga_nil (hf h1)) fun _ _ _ z => z) he) hg hn hdb he hpl⟩
theorem CE.callB2 {id : String} {r : List V → Hp → VK → Prop} {f : D → D → Ms → KD → Prop} (hc : CallR X (.builtin id) r) (hf : ∀ {x y M k}, f x y M k → CallD X.K r [x, y] M k) (hm : X.mg nm = none) (hv : bootBuiltins nm = some (.builtin id)) (ha : CE X a wa) (hb : CE X b wb) (hg : Gl X nm := by rfl) (hn : nm ≠ "__name__" := by decide) (hdb : (nm == ("__debug__" : Str)) = false := by decide)
    (he : starEach [a, b] X.env = (false, eval a X.env) :: starEach [b] X.env := by rfl) (he2 : starEach [b] X.env = (false, eval b X.env) :: starEach [] X.env := by rfl) (hpl : (backTo pos (starEach [b] X.env)).any (·.1) = false := by rfl) : CE X (.Call (.Name nm p) [a, b] [] pos) (w2 f wa wb) :=
  ⟨fun q => ge_callB hc hm hv (ga_cons (GE.mono (ha.run q) (fun _ _ h1 => ga_cons (GE.mono (hb.run h1) (fun _ _ h2 => ga_nil (hf h2)) fun _ _ _ z => z) he2) fun _ _ _ z => z) he) hg hn hdb he hpl⟩
section
variable {K : PySem.W.Frag} {x y : D} {M : Ms} {k : KD}
theorem oLen_ok (h : oLen x M k) : CallD K (fun xs H Q => ∃ x n, xs = [x] ∧ LenV K x H n ∧ Q (.int (n : Nat)) H) [x] M k := by
  cases x <;> first | exact h.elim | exact len_str h.h h.g | exact len_tup h | exact len_lst h | exact len_seq h | (obtain ⟨p, ds, e, g⟩ := h; exact len_hdl e g)
theorem oInt_ok (h : oInt x M k) : CallD K rInt1 [x] M k := by
  cases x <;> first | exact h.elim | exact int_int h | exact int_bl h
theorem oAbs_ok (h : oAbs x M k) : CallD K rAbs [x] M k := by
  cases x <;> first | exact h.elim | exact abs_int h
theorem oTup_ok (h : oTup x M k) : CallD K (rTupOf K) [x] M k := by
  cases x <;> first | exact h.elim | exact tup_tup h | exact tup_lst h | (obtain ⟨p, ds, e, g⟩ := h; exact tup_hdl e g)
theorem oLst_ok (h : oLst x M k) : CallD K (rLstOf K) [x] M k := by
  cases x <;> first | exact h.elim | exact lst_tup h | exact lst_lst h | (obtain ⟨p, ds, e, g⟩ := h; exact lst_hdl e g)
theorem oLstM_ok (h : oLstM x M k) : CallD K (rLstOf K) [x] M (fun d M1 => ∃ M2, M1.Perm M2 ∧ k d M2) := by
  cases x <;> first | exact h.elim | exact lst_tupM (fun p => ⟨_, fr1, h p⟩) | exact lst_lstM (fun p => ⟨_, fr1, h p⟩)
theorem oAll_ok (h : oAll x M k) : CallD K (rAll K) [x] M k := by
  cases x <;> first | exact h.elim | (obtain ⟨bs, e, g⟩ := h; exact all_lst e g)
theorem oAny_ok (h : oAny x M k) : CallD K (rAny K) [x] M k := by
  cases x <;> first | exact h.elim | (obtain ⟨bs, e, g⟩ := h; exact any_lst e g)
theorem oSum_ok (h : oSum x M k) : CallD K (rSum K) [x] M k := by
  cases x <;> first | exact h.elim | (obtain ⟨bs, e, g⟩ := h; exact sum_lst e g)
theorem oMax2_ok (h : oMax2 x y M k) : CallD K Evl.rMax2 [x, y] M k := by
  cases x <;> cases y <;> first | exact h.elim | exact max2_int h
theorem oMin2_ok (h : oMin2 x y M k) : CallD K rMin2 [x, y] M k := by
  cases x <;> cases y <;> first | exact h.elim | exact min2_int h
theorem oDict_ok (h : oDict x M k) : CallD K (fun xs H Q => ∃ (a : Addr) (kvs : List (Key × V)), xs = [.ref a] ∧ Rd H a (.dK kvs) ∧ ∀ p, H p = none → Q (.ref p) (upd H p (.dK kvs))) [x] M k := by
  obtain ⟨ks, ds, e, g⟩ := h; exact dct_of e g
theorem oIsi_ok {f : D → Bool} {t : String} (hf : ∀ {x M k}, kn x = true → k (.bl (f x)) M → CallD K (rIsi K) [x, .raw (.ty t)] M k) (h : oIsi f t x M k) : CallD K (rIsi K) [x, .raw (.ty t)] M k := by
  cases x <;> first | exact hf h.h h.g | (obtain ⟨p, ds, e, b, g⟩ := h; exact isi_hdl e g.h g.g)
end
theorem CE.lstOfM (hm : X.mg nm = none) (hv : bootBuiltins nm = some (.type "list")) (ha : CE X a wa) (hg : Gl X nm := by rfl) (hn : nm ≠ "__name__" := by decide) (hdb : (nm == ("__debug__" : Str)) = false := by decide)
    (he : starEach [a] X.env = (false, eval a X.env) :: starEach [] X.env := by rfl) (hpl : (backTo pos (starEach [] X.env)).any (·.1) = false := by rfl) : CE X (.Call (.Name nm p) [a] [] pos) (w1 oLstM wa) :=
  ⟨fun q => ge_perm (ge_callT call_list_of hm hv (ga_cons (GE.mono (ha.run q) (fun _ _ h1 => ga_nil (oLstM_ok h1)) fun _ _ _ z => z) he) hg hn hdb he hpl)⟩
/-- isinstance(a, T) -/
theorem CE.isi {T : String} {f : D → Bool} {nm2 : Str} {p2 : Pos} (hf : ∀ {x M k}, kn x = true → k (.bl (f x)) M → CallD X.K (rIsi X.K) [x, .raw (.ty T)] M k) (hm : X.mg "isinstance" = none) (hm2 : X.mg nm2 = none) (hv2 : bootBuiltins nm2 = some (.type T)) (ha : CE X a wa) (hg : Gl X "isinstance" := by rfl) (hg2 : Gl X nm2 := by rfl) (hn2 : nm2 ≠ "__name__" := by decide) (hd2 : (nm2 == ("__debug__" : Str)) = false := by decide)
    (he : starEach [a, .Name nm2 p2] X.env = (false, eval a X.env) :: starEach [.Name nm2 p2] X.env := by rfl) (he2 : starEach [.Name nm2 p2] X.env = (false, eval (.Name nm2 p2) X.env) :: starEach [] X.env := by rfl) (hpl : (backTo pos (starEach [.Name nm2 p2] X.env)).any (·.1) = false := by rfl) : CE X (.Call (.Name "isinstance" p) [a, .Name nm2 p2] [] pos) (w1 (oIsi f T) wa) :=
  ⟨fun q => ge_callB call_isi hm PyProof.Rows.boot_isinstance (ga_cons (GE.mono (ha.run q) (fun _ _ h1 => ga_cons (ge_ty hm2 hv2 (ga_nil (oIsi_ok hf h1)) hg2 hn2 hd2) he2) fun _ _ _ z => z) he) hg (by decide) (by decide) he hpl⟩
/-- isinstance(a, C), C an own class, a one of its instances -/
def oIsiC (C : Addr) : D → Ms → KD → Prop := fun x M k => HI M x C fun _ _ => k (.bl true) M
theorem CE.isiC {nm2 : Str} {p2 : Pos} (ic : IsC X.K C) (hm : X.mg "isinstance" = none) (hm2 : X.mg nm2 = some (.ref C)) (ha : CE X a wa) (hg : Gl X "isinstance" := by rfl) (hg2 : Gl X nm2 := by rfl) (hd2 : (nm2 == ("__debug__" : Str)) = false := by decide)
    (he : starEach [a, .Name nm2 p2] X.env = (false, eval a X.env) :: starEach [.Name nm2 p2] X.env := by rfl) (he2 : starEach [.Name nm2 p2] X.env = (false, eval (.Name nm2 p2) X.env) :: starEach [] X.env := by rfl) (hpl : (backTo pos (starEach [.Name nm2 p2] X.env)).any (·.1) = false := by rfl) : CE X (.Call (.Name "isinstance" p) [a, .Name nm2 p2] [] pos) (w1 (oIsiC C) wa) :=
  ⟨fun q => ge_callB call_isi hm PyProof.Rows.boot_isinstance (ga_cons (GE.mono (ha.run q) (fun _ _ ⟨fs, ds, e, h1⟩ => ga_cons (ge_cls hm2 (ga_nil (isi_own ic e h1)) hg2 hd2) he2) fun _ _ _ z => z) he) hg (by decide) (by decide) he hpl⟩
/-- isinstance(a, (T1, T2)) -/
def oIsi2 (T1 T2 : String) : D → Ms → KD → Prop := fun x M k => ∃ t b1 b2, Sd (tyN x = some t ∧ kitB t T1 = some b1 ∧ kitB t T2 = some b2) (k (.bl (b1 || b2)) M)
/-- len(set(a)) of unlike texts -/
def oLenSet : D → Ms → KD → Prop
  | .lst ds, M, k => ∃ xs : List Str, Sd (ds = xs.map D.str ∧ xs.Nodup ∧ xs.length ≤ 1000) (k (.int xs.length) M)
  | _, _, _ => False
theorem CE.lenSet {p2 q : Pos} (hm : X.mg "len" = none) (hm2 : X.mg "set" = none) (hc : X.calm = true) (ha : CE X a wa) (hg : Gl X "len" := by rfl) (hg2 : Gl X "set" := by rfl) (na : starEach [a] X.env = (false, eval a X.env) :: starEach [] X.env := by rfl)
    (hh : ∀ {Γ : En} {M : Ms} {k : KD} {kx : KX}, GE X Γ M a (fun d M1 => ∃ xs : List Str, d = .lst (xs.map D.str) ∧ xs.Nodup ∧ xs.length ≤ 1000 ∧ k (.int xs.length) M1) kx → GE X Γ M (.Call (.Name "len" p) [.Call (.Name "set" p2) [a] [] q] [] pos) k kx) : CE X (.Call (.Name "len" p) [.Call (.Name "set" p2) [a] [] q] [] pos) (w1 oLenSet wa) :=
  ⟨fun h => hh (GE.mono (ha.run h) (fun d M1 h1 => by
    cases d <;> first | exact h1.elim | (obtain ⟨xs, ⟨e1, e2, e3⟩, g⟩ := h1; exact ⟨xs, by rw [e1], e2, e3, g⟩)) fun _ _ _ z => z)⟩

/-! ### own defs -/
/-- a call is handed a part A of the objects; behind it they stand in any sequence -/
inductive HandP (R : RSp) (ds : List D) (M : Ms) (k : KD) (kx : KX) : Prop
  | mk (A B : Ms) (hp : M.Perm (B ++ A)) (h : R ds A (fun d N => ∃ M', (B ++ N).Perm M' ∧ k d M') (fun c f N => kx c f (B ++ N)))
theorem HandP.hand {R : RSp} {ds : List D} {M : Ms} {k : KD} {kx : KX} (h : HandP R ds M k kx) : Hand R ds M (fun d M1 => ∃ M2, M1.Perm M2 ∧ k d M2) kx := by
  obtain ⟨A, B, hp, h⟩ := h
  exact ⟨A, B, hp, h⟩
theorem HandP.none {R : RSp} {ds : List D} {M : Ms} {k : KD} {kx : KX} (h : R ds [] (fun d N => ∃ M', (M ++ N).Perm M' ∧ k d M') (fun c f N => kx c f (M ++ N))) : HandP R ds M k kx := ⟨[], M, by simp, h⟩
/-- the objects from a on, n of them -/
theorem HandP.seg {R : RSp} {ds : List D} {M : Ms} {k : KD} {kx : KX} (a n : Nat) (h : R ds ((M.drop a).take n) (fun d N => ∃ M', ((M.take a ++ (M.drop a).drop n) ++ N).Perm M' ∧ k d M') (fun c f N => kx c f ((M.take a ++ (M.drop a).drop n) ++ N))) : HandP R ds M k kx :=
  ⟨(M.drop a).take n, M.take a ++ (M.drop a).drop n, by
    have e : M = M.take a ++ ((M.drop a).take n ++ (M.drop a).drop n) := by rw [List.take_append_drop, List.take_append_drop]
    have p : (M.take a ++ ((M.drop a).take n ++ (M.drop a).drop n)).Perm (M.take a ++ ((M.drop a).drop n ++ (M.drop a).take n)) := List.Perm.append_left _ List.perm_append_comm
    rw [List.append_assoc]
    exact (List.Perm.of_eq e).trans p, h⟩
/-- .. they come back in their place -/
theorem seg_back (M N : Ms) (a n : Nat) : ((M.take a ++ (M.drop a).drop n) ++ N).Perm (M.take a ++ (N ++ (M.drop a).drop n)) := by
  rw [List.append_assoc]
  exact List.Perm.append_left _ List.perm_append_comm
theorem Hand.perm {R : RSp} {ds : List D} {M M' : Ms} {k : KD} {kx : KX} (p : M.Perm M') (h : Hand R ds M' k kx) : Hand R ds M k kx := by
  obtain ⟨A, B, hp, h⟩ := h
  exact ⟨A, B, p.trans hp, h⟩
/-- a call by a spec -/
def wCall (R : RSp) (dds : List D) (as : WpA) : WpE := fun Γ M k kx => as Γ M (fun ds M1 => HandP R (ds ++ dds) M1 k kx) kx
theorem CE.call (F : FnD X.prog X.w X.K X.mg X.base j nm dds R) (hr : Room l X.A) (hl : j ≤ l) (ha : CA X (e :: es) wes) (hg : Gl X nm := by rfl) (hdb : (nm == ("__debug__" : Str)) = false := by decide)
    (he : starEach (e :: es) X.env = (false, eval e X.env) :: starEach es X.env := by rfl) (hpl : (backTo pos (starEach es X.env)).any (·.1) = false := by rfl) : CE X (.Call (.Name nm p) (e :: es) [] pos) (wCall R dds wes) :=
  ⟨fun q => ge_perm (ge_callF F hr hl (GA.mono (ha.run q) (fun _ _ h => h.hand) fun _ _ _ z => z) hg hdb he hpl)⟩
theorem CE.call0 (F : FnD X.prog X.w X.K X.mg X.base j nm dds R) (hr : Room l X.A) (hl : j ≤ l) (hg : Gl X nm := by rfl) (hdb : (nm == ("__debug__" : Str)) = false := by decide) : CE X (.Call (.Name nm p) [] [] pos) (wCall R dds wNil) :=
  ⟨fun q => ge_perm (ge_call0F F hr hl (HandP.hand q) hg hdb)⟩
/-- a method -/
def wMeth (R : RSp) (C : Addr) (m : Str) (dds : List D) (o : WpE) (as : WpA) : WpE := fun Γ M k kx => o Γ M (fun d M1 => HI M1 d C fun fs _ => Sd (m ∉ fs) (as Γ M1 (fun ds M2 => HandP R (d :: (ds ++ dds)) M2 k kx) kx)) kx
theorem CE.meth {pl : Sem Bool} (F : MtD X.prog X.w X.K X.mg X.base j C m dds R) (hr : Room l X.A) (hl : j ≤ l) (ho : CE X o wo) (ha : CA X (e :: es) wes)
    (hst : starEach (e :: es) X.env = (false, eval e X.env) :: starEach es X.env := by rfl) (hpl : (backTo pos (starEach es X.env)).any (·.1) = false := by rfl)
    (ht : eval (.Call (.Attribute o m apos) (e :: es) [] pos) X.env = (do
      let ov ← eval o X.env
      standAt apos.atName
      let (f, first) ← holding [ov] (getMethod ov m pl)
      callWith pos f first (backTo pos (starEach (e :: es) X.env)) (backToKw pos (keywordEach [] X.env))) := by rfl) : CE X (.Call (.Attribute o m apos) (e :: es) [] pos) (wMeth R C m dds wo wes) :=
  ⟨fun q => ge_perm (ge_methF (pl := pl) F hr hl (GE.mono (ho.run q) (fun _ _ ⟨fs, ds0, e1, g⟩ => ⟨fs, ds0, e1, g.h, GA.mono (ha.run g.g) (fun _ _ h => h.hand) fun _ _ _ z => z⟩) fun _ _ _ z => z) hst hpl ht)⟩
theorem CE.meth0 {pl : Sem Bool} (F : MtD X.prog X.w X.K X.mg X.base j C m dds R) (hr : Room l X.A) (hl : j ≤ l) (ho : CE X o wo)
    (ht : eval (.Call (.Attribute o m apos) [] [] pos) X.env = (do
      let ov ← eval o X.env
      standAt apos.atName
      let (f, first) ← holding [ov] (getMethod ov m pl)
      callWith pos f first (backTo pos (starEach [] X.env)) (backToKw pos (keywordEach [] X.env))) := by rfl) : CE X (.Call (.Attribute o m apos) [] [] pos) (wMeth R C m dds wo wNil) :=
  ⟨fun q => ge_perm (ge_meth0F (pl := pl) F hr hl (GE.mono (ho.run q) (fun _ _ ⟨fs, ds0, e1, g⟩ => ⟨fs, ds0, e1, g.h, HandP.hand g.g⟩) fun _ _ _ z => z) ht)⟩
/-- a new object -/
def wMake (R : RSp) (C : Addr) (dds : List D) (as : WpA) : WpE := fun Γ M k kx => as Γ M (fun ds M1 => ∀ x, Hand R (.hdl x :: (ds ++ dds)) ((x, .ins C [] []) :: M1) (fun d M2 => d = .non ∧ ∃ M3, M2.Perm M3 ∧ k (.hdl x) M3) kx) kx
theorem CE.make (F : MkD X.prog X.w X.K X.mg X.base j C nm dds R) (hr : Room l X.A) (hl : j + 1 ≤ l) (ha : CA X (e :: es) wes) (hg : Gl X nm := by rfl) (hdb : (nm == ("__debug__" : Str)) = false := by decide)
    (he : starEach (e :: es) X.env = (false, eval e X.env) :: starEach es X.env := by rfl) (hpl : (backTo pos (starEach es X.env)).any (·.1) = false := by rfl) : CE X (.Call (.Name nm p) (e :: es) [] pos) (wMake R C dds wes) :=
  ⟨fun q => ge_perm (ge_makeF F hr hl (GA.mono (ha.run q) (fun _ _ h x => Hand.perm fr1 (h x)) fun _ _ _ z => z) hg hdb he hpl)⟩
theorem CE.make0 (F : MkD X.prog X.w X.K X.mg X.base j C nm dds R) (hr : Room l X.A) (hl : j + 1 ≤ l) (hg : Gl X nm := by rfl) (hdb : (nm == ("__debug__" : Str)) = false := by decide) : CE X (.Call (.Name nm p) [] [] pos) (wMake R C dds wNil) :=
  ⟨fun q => ge_perm (ge_make0F F hr hl (fun x => Hand.perm fr1 (q x)) hg hdb)⟩
/-! keywords -/
variable {n : Nat} {ks : List Str} {sel : List (Nat × Nat)} {kn : Option Str} {kpos : Pos}
theorem GK.mono {Γ : En} {M : Ms} {k k' : KDs} {kx kx' : KX} (h : GK X Γ M kws k kx) (hk : ∀ d M', k d M' → k' d M') (hx : ∀ c f M', kx c f M' → kx' c f M') : GK X Γ M kws k' kx' := fun S σ hM hE W tk hW Q hQ =>
  h S σ hM hE W tk (fun c f M' S' dd a => hW c f M' S' dd (hx _ _ _ a)) Q fun d M' S' v a => hQ d M' S' v (hk _ _ a)
theorem CK.nil : CK X [] wNil := ⟨fun h => gk_nil h⟩
theorem CK.cons (ha : CE X e wa) (hr : CK X kws wks) : CK X (⟨kn, e, kpos⟩ :: kws) (wCons wa wks) := ⟨fun h => gk_cons (GE.mono (ha.run h) (fun _ _ h1 => hr.run h1) fun _ _ _ z => z)⟩
def wMakeK (R : RSp) (C : Addr) (n m : Nat) (sel : List (Nat × Nat)) (dds : List D) (as ks : WpA) : WpE := fun Γ M k kx => as Γ M (fun ds M1 => ks Γ M1 (fun zs M2 => ds.length = n ∧ zs.length = m ∧ ∃ kk, ∀ x, CallOk R (kk ++ [M2.length]) (selL sel (.hdl x :: ds) dds zs) (M2 ++ [(x, .ins C [] [])]) (fun d M3 => d = .non ∧ k (.hdl x) M3) kx) kx) kx
theorem CE.makeK (F : MkK X.prog X.w X.K X.mg X.base j C nm (n + 1) ks sel dds R) (hr : Room l X.A) (hl : j + 1 ≤ l) (ha : CA X (e :: es) wes) (hk : CK X kws wks) (hall : (backToKw pos (keywordEach kws X.env)).all (·.1.isSome) = true := by rfl) (hks : (backToKw pos (keywordEach kws X.env)).filterMap (·.1) = ks := by rfl) (hg : Gl X nm := by rfl)
    (hdb : (nm == ("__debug__" : Str)) = false := by decide) (he : starEach (e :: es) X.env = (false, eval e X.env) :: starEach es X.env := by rfl) (hpl : ((backTo pos (starEach (e :: es) X.env)).any (·.1) || (backToKw pos (keywordEach kws X.env)).any (·.1.isNone)) = false := by rfl) : CE X (.Call (.Name nm p) (e :: es) kws pos) (wMakeK R C n ks.length sel dds wes wks) :=
  ⟨fun q => ge_makeK F hr hl (GA.mono (ha.run q) (fun _ _ h1 => hk.run h1) fun _ _ _ z => z) hall hks hg hdb he hpl⟩
def wMakeK0 (R : RSp) (C : Addr) (m : Nat) (sel : List (Nat × Nat)) (dds : List D) (ks : WpA) : WpE := fun Γ M k kx => ks Γ M (fun zs M2 => zs.length = m ∧ ∃ kk, ∀ x, CallOk R (kk ++ [M2.length]) (selL sel [.hdl x] dds zs) (M2 ++ [(x, .ins C [] [])]) (fun d M3 => d = .non ∧ k (.hdl x) M3) kx) kx
theorem CE.makeK0 (F : MkK X.prog X.w X.K X.mg X.base j C nm 1 ks sel dds R) (hr : Room l X.A) (hl : j + 1 ≤ l) (hk : CK X kws wks) (hall : (backToKw pos (keywordEach kws X.env)).all (·.1.isSome) = true := by rfl) (hks : (backToKw pos (keywordEach kws X.env)).filterMap (·.1) = ks := by rfl) (hg : Gl X nm := by rfl)
    (hdb : (nm == ("__debug__" : Str)) = false := by decide) (hpl : ((backTo pos (starEach [] X.env)).any (·.1) || (backToKw pos (keywordEach kws X.env)).any (·.1.isNone)) = false := by rfl) : CE X (.Call (.Name nm p) [] kws pos) (wMakeK0 R C ks.length sel dds wks) :=
  ⟨fun q => ge_makeK0 F hr hl (hk.run q) hall hks hg hdb hpl⟩
def wCallK0 (R : RSp) (m : Nat) (sel : List (Nat × Nat)) (dds : List D) (ks : WpA) : WpE := fun Γ M k kx => ks Γ M (fun zs M2 => Sd (zs.length = m) (HandP R (selL sel [] dds zs) M2 k kx)) kx
theorem CE.callK0 (F : FnK X.prog X.w X.K X.mg X.base j nm 0 ks sel dds R) (hr : Room l X.A) (hl : j ≤ l) (hk : CK X kws wks) (hall : (backToKw pos (keywordEach kws X.env)).all (·.1.isSome) = true := by rfl) (hks : (backToKw pos (keywordEach kws X.env)).filterMap (·.1) = ks := by rfl) (hg : Gl X nm := by rfl)
    (hdb : (nm == ("__debug__" : Str)) = false := by decide) (hpl : ((backTo pos (starEach [] X.env)).any (·.1) || (backToKw pos (keywordEach kws X.env)).any (·.1.isNone)) = false := by rfl) : CE X (.Call (.Name nm p) [] kws pos) (wCallK0 R ks.length sel dds wks) :=
  ⟨fun q => ge_perm (ge_callK0F F hr hl (GK.mono (hk.run q) (fun _ _ h => ⟨h.h, h.g.hand⟩) fun _ _ _ z => z) hall hks hg hdb hpl)⟩
/-! == by an own def -/
def cOwn (R : RSp) (C : Addr) : CmpD := fun x y M k => HI M x C fun _ _ => HI M y C fun _ _ => Hand R [x, y] M (tru k) fun _ _ _ => False
theorem Kc.own (F : MtD X.prog X.w X.K X.mg X.base j C "__eq__" [] R) (hr : Room l X.A) (hl : j ≤ l) (ha : CE X a wa) (hb : CE X b wb) : Kc X (.Compare a [.Eq] [b] pos) (wC (cOwn R C) wa wb) :=
  cmp_of (op_ownI F hr hl) (nomark _) (fun {x y M k} h => by
    obtain ⟨fs, ds, e1, gs, es, e2, h⟩ := h
    exact own_ok e1 e2 (fun d M' ⟨t, e, _⟩ => ⟨t, e⟩) h) ha hb
/-! ### fields -/
def wFld (C : Addr) (i : Nat) (f : Str) (o : WpE) : WpE := fun Γ M k kx => o Γ M (fun d M1 => HI M1 d C fun fs ds => ∃ v, Sd (fs.Nodup ∧ fs[i]? = some f ∧ ds[i]? = some v) (k v M1)) kx
theorem CE.fld {f : Str} {i : Nat} (cl : Cls X.K C) (na : NoAttr X.K C f) (ho : CE X o wo) (hb : attributeBase o f X.env (eval o X.env) = eval o X.env := by rfl) : CE X (.Attribute o f pos) (wFld C i f wo) :=
  ⟨fun q => ge_fld i (GE.mono (ho.run q) (fun _ _ ⟨fs, ds, e1, v, g⟩ => ⟨C, fs, ds, v, cl, na, e1, g.h.1, g.h.2.1, g.h.2.2, g.g⟩) fun _ _ _ z => z) hb⟩
/-! ### slices -/
def opSl (x : D) (lo hi : Option Int) (M : Ms) (k : KD) : Prop := match x with
  | .tup ds => k (.tup (cutD ds lo hi)) M
  | .lst ds => k (.lst (cutD ds lo hi)) M
  | .hdl h => HL M h fun _ ds => k (.lst (cutD ds lo hi)) M
  | .str s => Sd (s.length ≤ 16777216) (k (.str (cutS s lo hi)) M)
  | _ => False
abbrev WpO := En → Ms → (Option Int → Ms → Prop) → KX → Prop
structure CO (X : Cx) (e : Option Expr) (w : WpO) : Prop where
  run : ∀ {Γ M k kx}, w Γ M k kx → GO X Γ M e k kx
def wO0 : WpO := fun _ M k _ => k none M
def wO1 (a : WpE) : WpO := fun Γ M k kx => a Γ M (fun d M1 => match d with
  | .int i => k (some i) M1
  | _ => False) kx
theorem CO.none : CO X none wO0 := ⟨fun h => go_none h⟩
theorem CO.some (ha : CE X e wa) : CO X (some e) (wO1 wa) := ⟨fun h => go_some (GE.mono (ha.run h) (fun d M1 h1 => by cases d <;> first | exact h1.elim | exact ⟨_, rfl, h1⟩) fun _ _ _ z => z)⟩
theorem GO.mono {Γ : En} {M : Ms} {eo : Option Expr} {k k' : Option Int → Ms → Prop} {kx kx' : KX} (h : GO X Γ M eo k kx) (hk : ∀ d M', k d M' → k' d M') (hx : ∀ c f M', kx c f M' → kx' c f M') : GO X Γ M eo k' kx' := fun S σ hM hE W tk hW Q hQ =>
  h S σ hM hE W tk (fun c f M' S' dd a => hW c f M' S' dd (hx _ _ _ a)) Q fun d M' S' a => hQ d M' S' (hk _ _ a)
variable {lo hi : Option Expr} {wl wh : WpO}
/-- a slice of something of the kind that r serves -/
def wSlice (okd : D → Bool) (a : WpE) (l h : WpO) : WpE := fun Γ M k kx => a Γ M (fun x M1 => l Γ M1 (fun u M2 => h Γ M2 (fun v M3 => Sd (okd x = true) (opSl x u v M3 k)) kx) kx) kx
def isTupK : D → Bool | .tup _ => true | _ => false
def isLstK : D → Bool | .lst _ => true | .hdl _ => true | _ => false
def isStrK : D → Bool | .str _ => true | _ => false
theorem slice_of {r : V → Option Int → Option Int → Hp → VK → Prop} {okd : D → Bool} {p2 : Pos} (hr : SlR X r) (hf : ∀ {x u v M k}, okd x = true → opSl x u v M k → Sl X.K r x u v M k) (ha : CE X e wa) (hl : CO X lo wl) (hh : CO X hi wh) : CE X (.Subscript e (.Slice lo hi none p2) pos) (wSlice okd wa wl wh) :=
  ⟨fun q => ge_slice hr (GE.mono (ha.run q) (fun _ _ h1 => GO.mono (hl.run h1) (fun _ _ h2 => GO.mono (hh.run h2) (fun _ _ h3 => hf h3.h h3.g) fun _ _ _ z => z) fun _ _ _ z => z) fun _ _ _ z => z)⟩
theorem CE.sliceT {p2 : Pos} (ha : CE X e wa) (hl : CO X lo wl) (hh : CO X hi wh) : CE X (.Subscript e (.Slice lo hi none p2) pos) (wSlice isTupK wa wl wh) :=
  slice_of sl_tupA (fun {x u v M k} h g => by cases x <;> first | exact sl_tupD g | cases h) ha hl hh
theorem CE.sliceL {p2 : Pos} (ha : CE X e wa) (hl : CO X lo wl) (hh : CO X hi wh) : CE X (.Subscript e (.Slice lo hi none p2) pos) (wSlice isLstK wa wl wh) :=
  slice_of sl_list (fun {x u v M k} h g => by cases x <;> first | exact sl_lstD g | (obtain ⟨p, ds, e, g⟩ := g; exact sl_hdlD e g) | cases h) ha hl hh
theorem CE.sliceS {p2 : Pos} (ha : CE X e wa) (hl : CO X lo wl) (hh : CO X hi wh) : CE X (.Subscript e (.Slice lo hi none p2) pos) (wSlice isStrK wa wl wh) :=
  slice_of sl_str (fun {x u v M k} h g => by cases x <;> first | exact sl_strD g.h g.g | cases h) ha hl hh
/-! ### texts -/
def wJoin (o a : WpE) : WpE := fun Γ M k kx => o Γ M (fun x M1 => match x with
  | .str s => a Γ M1 (fun y M2 => ∃ ys : List Str, Sd (SeqD M2 y (ys.map D.str) ∧ (ys.map (·.length)).sum + ys.length * s.length ≤ 16777216) (k (.str (Txt.join s ys)) M2)) kx
  | _ => False) kx
theorem CE.join (ho : CE X o wo) (ha : CE X e wa)
    (hbase : attributeBase o "join" X.env (eval o X.env) = eval o X.env := by rfl)
    (hfew : ((backTo cpos (starEach (e :: []) X.env)).all (fun x => !x.1) && (backToKw cpos (keywordEach [] X.env)).all (fun x => x.1.isSome)
      && decide ((e :: []).length + ([] : List Keyword).length + (if ([] : List Keyword).isEmpty then 0 else 1) < 30)) = true := by rfl)
    (hline : (apos.endLine == cpos.line) = true := by rfl) (hs : starEach (e :: []) X.env = (false, eval e X.env) :: starEach [] X.env := by rfl) (hplain : (backTo cpos (starEach [] X.env)).any (·.1) = false := by rfl) : CE X (.Call (.Attribute o "join" apos) [e] [] cpos) (wJoin wo wa) :=
  ⟨fun q => ge_join (GE.mono (ho.run q) (fun d M1 h1 => by
    cases d <;> first | exact h1.elim | exact ⟨_, rfl, GE.mono (ha.run h1) (fun _ _ ⟨ys, g⟩ => ⟨ys, g.h.1, g.h.2, g.g⟩) fun _ _ _ z => z⟩) fun _ _ _ z => z) hbase hfew hline hs hplain⟩
end
end PD

set_option Elab.async false
set_option linter.all false
set_option maxRecDepth 100000
set_option maxHeartbeats 4000000
/-! PW: statements, loops, comprehensions, steps that nobody sees, defs. -/
namespace PD
open PySem L2
abbrev noX : KX := fun _ _ _ => False
abbrev exE (E : ED) (Γ : En) : KX := fun c f M1 => E.ex c f Γ M1
/-! ### steps that nobody sees: what may change is looked at no more, or changes no more -/
def GhS (Γ : En) (M : Ms) (Γ' : En) (M' : Ms) : Prop := ∀ (K : PySem.W.Frag) (S : Sg) (σ : L2.St), OkM K S M → EnvOk K S σ Γ → ∃ S', S'.H = S.H ∧ OkM K S' M' ∧ Grow S S' ∧ EnvOk K S' σ Γ'
def GhV (d : D) (M : Ms) (d' : D) (M' : Ms) : Prop := ∀ (K : PySem.W.Frag) (S : Sg) (v : V), OkM K S M → Rep K S d v → ∃ S', S'.H = S.H ∧ OkM K S' M' ∧ Grow S S' ∧ Rep K S' d' v
inductive Gh (Γ : En) (M : Ms) (f : En → Ms → Prop) : Prop
  | mk (Γ' : En) (M' : Ms) (e : GhS Γ M Γ' M') (g : f Γ' M')
inductive GhR (d : D) (M : Ms) (f : KD) : Prop
  | mk (d' : D) (M' : Ms) (e : GhV d M d' M') (g : f d' M')
theorem GhS.refl {Γ : En} {M : Ms} : GhS Γ M Γ M := fun K S σ h e => ⟨S, rfl, h, Grow.refl _, e⟩
theorem GhV.refl {d : D} {M : Ms} : GhV d M d M := fun K S v h e => ⟨S, rfl, h, Grow.refl _, e⟩
theorem GhS.trans {Γ Γ1 Γ2 : En} {M M1 M2 : Ms} (a : GhS Γ M Γ1 M1) (b : GhS Γ1 M1 Γ2 M2) : GhS Γ M Γ2 M2 := fun K S σ h e => by
  obtain ⟨S1, q1, h1, g1, e1⟩ := a K S σ h e
  obtain ⟨S2, q2, h2, g2, e2⟩ := b K S1 σ h1 e1
  exact ⟨S2, q2.trans q1, h2, g1.trans g2, e2⟩
theorem GhV.trans {d d1 d2 : D} {M M1 M2 : Ms} (a : GhV d M d1 M1) (b : GhV d1 M1 d2 M2) : GhV d M d2 M2 := fun K S v h e => by
  obtain ⟨S1, q1, h1, g1, e1⟩ := a K S v h e
  obtain ⟨S2, q2, h2, g2, e2⟩ := b K S1 v h1 e1
  exact ⟨S2, q2.trans q1, h2, g1.trans g2, e2⟩
theorem GhS.drop {Γ : En} {M M' : Ms} (s : M'.Sublist M) : GhS Γ M Γ M' := fun K S σ h e => by
  obtain ⟨a, b⟩ := drop_m h s
  exact ⟨⟨M'.map (·.1), S.Z, S.H⟩, rfl, a, b S (Grow.refl _), e.grow (b S (Grow.refl _))⟩
theorem GhV.drop {d : D} {M M' : Ms} (s : M'.Sublist M) : GhV d M d M' := fun K S v h e => by
  obtain ⟨a, b⟩ := drop_m h s
  exact ⟨⟨M'.map (·.1), S.Z, S.H⟩, rfl, a, b S (Grow.refl _), e.grow (b S (Grow.refl _))⟩
theorem GhS.perm {Γ : En} {M M' : Ms} (s : M.Perm M') : GhS Γ M Γ M' := fun K S σ h e => by
  obtain ⟨a, b⟩ := perm_m h s
  exact ⟨⟨M'.map (·.1), S.Z, S.H⟩, rfl, a, b S (Grow.refl _), e.grow (b S (Grow.refl _))⟩
theorem GhV.perm {d : D} {M M' : Ms} (s : M.Perm M') : GhV d M d M' := fun K S v h e => by
  obtain ⟨a, b⟩ := perm_m h s
  exact ⟨⟨M'.map (·.1), S.Z, S.H⟩, rfl, a, b S (Grow.refl _), e.grow (b S (Grow.refl _))⟩
theorem frzI_at {K : PySem.W.Frag} {S : Sg} {M : Ms} {j : Nat} {a C : Addr} {fs : List Str} {ds : List D} (hM : OkM K S M) (hj : M[j]? = some (a, MO.ins C fs ds)) :
    ∃ S', S'.H = S.H ∧ OkM K S' (M.eraseIdx j) ∧ Grow S S' ∧ ∃ dx kvs, S'.Z a = some (.ins C dx kvs) ∧ kvs.map (·.1) = fs ∧ RepL K S' ds (kvs.map (·.2)) := by
  obtain ⟨hz, dx, kvs, hh, hf, hr⟩ := hM.at hj
  obtain ⟨hM2, g2⟩ := frz_m hM hj hz hh
  have hs : (M.eraseIdx j).Sublist (M.set j (a, .gone)) := by
    rw [← List.eraseIdx_set_eq (l := M) (i := j) (a := (a, MO.gone))]
    exact List.eraseIdx_sublist _ _
  obtain ⟨hM3, g3⟩ := drop_m hM2 hs
  exact ⟨⟨(M.eraseIdx j).map (·.1), upd S.Z a (.ins C dx kvs), S.H⟩, rfl, hM3, g3 S g2, dx, kvs, upd_same, hf, (sg_mono (S' := ⟨(M.eraseIdx j).map (·.1), upd S.Z a (.ins C dx kvs), S.H⟩) (ex_new hz)).2 _ _ hr⟩
theorem frzD_at {K : PySem.W.Frag} {S : Sg} {M : Ms} {j : Nat} {a : Addr} {ks : List Key} {ds : List D} (hM : OkM K S M) (hj : M[j]? = some (a, MO.dct ks ds)) :
    ∃ S', S'.H = S.H ∧ OkM K S' (M.eraseIdx j) ∧ Grow S S' ∧ ∃ kvs, S'.Z a = some (.dK kvs) ∧ kvs.map (·.1) = ks ∧ RepL K S' ds (kvs.map (·.2)) := by
  obtain ⟨hz, kvs, hh, hf, hr⟩ := hM.at hj
  obtain ⟨hM2, g2⟩ := frz_m hM hj hz hh
  have hs : (M.eraseIdx j).Sublist (M.set j (a, .gone)) := by
    rw [← List.eraseIdx_set_eq (l := M) (i := j) (a := (a, MO.gone))]
    exact List.eraseIdx_sublist _ _
  obtain ⟨hM3, g3⟩ := drop_m hM2 hs
  exact ⟨⟨(M.eraseIdx j).map (·.1), upd S.Z a (.dK kvs), S.H⟩, rfl, hM3, g3 S g2, kvs, upd_same, hf, (sg_mono (S' := ⟨(M.eraseIdx j).map (·.1), upd S.Z a (.dK kvs), S.H⟩) (ex_new hz)).2 _ _ hr⟩
theorem envSame {K : PySem.W.Frag} {S : Sg} {σ : L2.St} {Γ : En} {i : Nat} {a : Addr} {d : D} (hE : EnvOk K S σ Γ) (hi : Γ[i]? = some (some (.hdl a))) (r : Rep K S d (.ref a)) : EnvOk K S σ (Γ.set i (some d)) := by
  obtain ⟨v, hv, rv⟩ := hE.2 i _ hi
  have rv2 : v = .ref a := rv
  subst rv2
  have h := hE.set (i := i) r
  have es : σ.set i (some (.ref a)) = σ := by
    refine List.ext_getElem? fun q => ?_
    rw [List.getElem?_set]
    split
    · rename_i e; subst e
      have hl := (List.getElem?_eq_some_iff.mp hv).1
      rw [if_pos hl, hv]
    · rfl
  rw [es] at h
  exact h
/-- the list in the local i changes no more -/
theorem GhS.frz {Γ : En} {M : Ms} (i j : Nat) {a : Addr} {ds : List D} (hi : Γ[i]? = some (some (.hdl a))) (hj : M[j]? = some (a, MO.lst ds)) : GhS Γ M (Γ.set i (some (.lst ds))) (M.eraseIdx j) := fun K S σ h e => by
  obtain ⟨S', q, hM', g, xs, hz, hr⟩ := frz_at h hj
  exact ⟨S', q, hM', g, envSame (e.grow g) hi ⟨a, xs, rfl, hz, hr⟩⟩
theorem GhS.frzI {Γ : En} {M : Ms} (i j : Nat) {a C : Addr} {fs : List Str} {ds : List D} (hi : Γ[i]? = some (some (.hdl a))) (hj : M[j]? = some (a, MO.ins C fs ds)) : GhS Γ M (Γ.set i (some (.ins C fs ds))) (M.eraseIdx j) := fun K S σ h e => by
  obtain ⟨S', q, hM', g, dx, kvs, hz, hf, hr⟩ := frzI_at h hj
  exact ⟨S', q, hM', g, envSame (e.grow g) hi ⟨a, dx, kvs, rfl, hz, hf, hr⟩⟩
theorem GhS.frzD {Γ : En} {M : Ms} (i j : Nat) {a : Addr} {ks : List Key} {ds : List D} (hi : Γ[i]? = some (some (.hdl a))) (hj : M[j]? = some (a, MO.dct ks ds)) : GhS Γ M (Γ.set i (some (.dct ks ds))) (M.eraseIdx j) := fun K S σ h e => by
  obtain ⟨S', q, hM', g, kvs, hz, hf, hr⟩ := frzD_at h hj
  exact ⟨S', q, hM', g, envSame (e.grow g) hi ⟨a, kvs, rfl, hz, hf, hr⟩⟩
theorem GhV.frz {M : Ms} (j : Nat) {a : Addr} {ds : List D} (hj : M[j]? = some (a, MO.lst ds)) : GhV (.hdl a) M (.lst ds) (M.eraseIdx j) := fun K S v h e => by
  cases e
  obtain ⟨S', q, hM', g, xs, hz, hr⟩ := frz_at h hj
  exact ⟨S', q, hM', g, a, xs, rfl, hz, hr⟩
theorem GhV.frzI {M : Ms} (j : Nat) {a C : Addr} {fs : List Str} {ds : List D} (hj : M[j]? = some (a, MO.ins C fs ds)) : GhV (.hdl a) M (.ins C fs ds) (M.eraseIdx j) := fun K S v h e => by
  cases e
  obtain ⟨S', q, hM', g, dx, kvs, hz, hf, hr⟩ := frzI_at h hj
  exact ⟨S', q, hM', g, a, dx, kvs, rfl, hz, hf, hr⟩
theorem GhV.frzD {M : Ms} (j : Nat) {a : Addr} {ks : List Key} {ds : List D} (hj : M[j]? = some (a, MO.dct ks ds)) : GhV (.hdl a) M (.dct ks ds) (M.eraseIdx j) := fun K S v h e => by
  cases e
  obtain ⟨S', q, hM', g, kvs, hz, hf, hr⟩ := frzD_at h hj
  exact ⟨S', q, hM', g, a, kvs, rfl, hz, hf, hr⟩
theorem GhS.gb {X : Cx} {Γ Γ' : En} {M M' : Ms} {sts : List Stmt} {E : ED} (a : GhS Γ M Γ' M') (h : GB X Γ' M' sts E) : GB X Γ M sts E := fun S σ hM hE W tk De L => by
  obtain ⟨S', q, hM', g, e'⟩ := a X.K S σ hM hE
  have := h S' σ hM' e' W tk De (L.grow g)
  rw [q] at this
  exact this
theorem GhV.ge {X : Cx} {Γ : En} {M : Ms} {e : Expr} {k : KD} {kx : KX} (h : GE X Γ M e (fun d M1 => GhR d M1 k) kx) : GE X Γ M e k kx := fun S σ hM hE W tk hW Q hQ =>
  h S σ hM hE W tk hW Q fun d M1 S1 v ⟨d', M', a, g⟩ hM1 g1 r1 => by
    obtain ⟨S', q, hM', g', r'⟩ := a X.K S1 v hM1 r1
    rw [← q]
    exact hQ d' M' S' v g hM' (g1.trans g') r'

section
variable {X : Cx} {e a b c o i : Expr} {es : List Expr} {st : Stmt} {sts s1 s2 rest : List Stmt} {pos pos' p apos cpos : Pos} {wa wb wc w wo wi' : WpE} {wes : WpA} {nm m : Str} {j l : Nat} {C : Addr} {ws wr wt wf : WpS} {t : WpT}
def wGh (r : WpS) : WpS := fun Γ M E => Gh Γ M fun Γ' M' => r Γ' M' E
/-- .. of a value -/
def wGv (a : WpE) : WpE := fun Γ M k kx => a Γ M (fun d M1 => GhR d M1 k) kx
theorem Cb.gh (h : Cb X sts wr) : Cb X sts (wGh wr) := ⟨fun ⟨Γ', M', a, g⟩ => a.gb (h.run g)⟩
theorem CE.gv (h : CE X e w) : CE X e (wGv w) := ⟨fun q => GhV.ge (h.run q)⟩
/-! ### statements -/
def wEnd : WpS := fun Γ M E => E.nx Γ M
def wSeq (s r : WpS) : WpS := fun Γ M E => s Γ M { E with nx := fun Γ1 M1 => r Γ1 M1 E }
theorem Cb.nil : Cb X [] wEnd := ⟨fun h => gb_nil h⟩
theorem gs_nx {Γ : En} {M : Ms} {E : ED} {J J' : En → Ms → Prop} (h : GS X Γ M st { E with nx := J }) (hj : ∀ Γ1 M1, J Γ1 M1 → J' Γ1 M1) : GS X Γ M st { E with nx := J' } := fun S σ hM hE W tk De L =>
  h S σ hM hE W tk De ⟨fun Γ1 M1 S1 σ1 h1 => L.nx Γ1 M1 S1 σ1 (hj _ _ h1), L.rt, L.bk, L.ct, L.ex⟩
theorem Cb.cons (h : CS X st ws) (r : Cb X rest wr) : Cb X (st :: rest) (wSeq ws wr) := ⟨fun q => gb_cons (gs_nx (h.run q) fun _ _ g => r.run g)⟩
theorem Cb.one (h : CS X st ws) : Cb X [st] ws := ⟨fun q => gb_one (h.run q)⟩
def wSet (i : Nat) (a : WpE) : WpS := fun Γ M E => a Γ M (fun d M1 => setK Γ i d fun Γ1 => E.nx Γ1 M1) (exE E Γ)
theorem CS.set (i : Nat) {x : Str} {px : Pos} (ha : CE X e wa) (hN : X.N.Nodup) (hi : X.N[i]? = some x := by rfl) (hx : Loc X.env.scope x := by first | exact Or.inl rfl | exact Or.inr rfl)
    (hs : swapsWith e (some (.Name x px)) pos.line X.env = pure false := by rfl) (hf : X.fn x = true ∨ X.env.scope.names.lookup x = some .local := by first | exact .inl rfl | exact .inr rfl) : CS X (.Assign [.Name x px] e pos) (wSet i wa) := ⟨fun h => gs_set i (GE.mono (ha.run h) (fun d M1 q => setK_eq q) fun _ _ _ z => z) hN hi hx hs hf⟩
def wExpr (a : WpE) : WpS := fun Γ M E => a Γ M (fun _ M1 => E.nx Γ M1) (exE E Γ)
theorem CS.expr (ha : CE X e wa) (hs : swapsWith e none pos.line X.env = pure false := by rfl) : CS X (.Expr e pos) (wExpr wa) := ⟨fun h => gs_expr (ha.run h) hs⟩
def wRet (a : WpE) : WpS := fun Γ M E => a Γ M E.rt (exE E Γ)
theorem CS.ret (ha : CE X e wa) : CS X (.Return (some e) pos) (wRet wa) := ⟨fun h => gs_ret (ha.run h)⟩
def wRetN : WpS := fun Γ M E => E.rt .non M
theorem CS.retN : CS X (.Return none pos) wRetN := ⟨fun h => gs_retN h⟩
def wPass : WpS := fun Γ M E => E.nx Γ M
theorem CS.pass : CS X (.Pass pos) wPass := ⟨fun h => gs_pass h⟩
def wBrk : WpS := fun Γ M E => E.bk Γ M
theorem CS.brk : CS X (.Break pos) wBrk := ⟨fun h => gs_break h⟩
def wCnt : WpS := fun Γ M E => E.ct Γ M
theorem CS.cnt : CS X (.Continue pos) wCnt := ⟨fun h => gs_continue h⟩
def wIf (t : WpT) (a b : WpS) : WpS := fun Γ M E => t Γ M (fun v M1 => Br v (a Γ M1 E) (b Γ M1 E)) (exE E Γ)
theorem CS.if (ht : CT X c t) (h1 : Cb X s1 wt) (h2 : Cb X s2 wf) : CS X (.If c s1 s2 pos) (wIf t wt wf) :=
  ⟨fun h => gs_if (GT.mono (ht.run h) (fun v M1 g => ⟨fun q => h1.run (g.t q), fun q => h2.run (g.f q)⟩) fun _ _ _ z => z)⟩
/-! targets -/
abbrev WpG := En → D → (En → Prop) → Prop
structure CTg (X : Cx) (tg : Expr) (w : WpG) : Prop where
  run : ∀ {Γ M d k}, w Γ d k → GG X Γ M tg d k
structure CTs (X : Cx) (ts : List Expr) (w : En → List D → (En → Prop) → Prop) : Prop where
  run : ∀ {Γ M d k}, w Γ d k → GGs X Γ M ts d k
def gName (i : Nat) : WpG := fun Γ d k => setK Γ i d k
def gNil : En → List D → (En → Prop) → Prop
  | Γ, [], k => k Γ
  | _, _, _ => False
def gCons (g : WpG) (r : En → List D → (En → Prop) → Prop) : En → List D → (En → Prop) → Prop := fun Γ ds k => match ds with
  | d :: ds => g Γ d fun Γ1 => r Γ1 ds k
  | _ => False
def gTup (n : Nat) (r : En → List D → (En → Prop) → Prop) : WpG := fun Γ d k => match d with
  | .tup ds => Sd (ds.length = n) (r Γ ds k)
  | _ => False
theorem GG.mono {Γ : En} {M : Ms} {tg : Expr} {d : D} {k k' : En → Prop} (h : GG X Γ M tg d k) (hk : ∀ Γ1, k Γ1 → k' Γ1) : GG X Γ M tg d k' := fun S σ hM hE v r Q hQ => h S σ hM hE v r Q fun Γ1 σ1 q => hQ Γ1 σ1 (hk _ q)
theorem CTg.name (i : Nat) {x : Str} (hN : X.N.Nodup) (hi : X.N[i]? = some x := by rfl) (hx : Loc X.env.scope x := by first | exact Or.inl rfl | exact Or.inr rfl)
    (hf : X.fn x = true ∨ X.env.scope.names.lookup x = some .local := by first | exact .inl rfl | exact .inr rfl) : CTg X (.Name x pos) (gName i) := ⟨fun h => gg_name i (setK_eq h) hN hi hx hf⟩
theorem CTs.nil : CTs X [] gNil := ⟨fun {Γ M d k} h => by cases d <;> first | exact ggs_nil h | exact h.elim⟩
theorem CTs.cons {tt : Expr} {ts : List Expr} {g : WpG} {r : En → List D → (En → Prop) → Prop} (h : CTg X tt g) (hr : CTs X ts r) (hs : (assignEach (tt :: ts) X.env).map (·.2) = assign tt X.env :: (assignEach ts X.env).map (·.2) := by rfl) : CTs X (tt :: ts) (gCons g r) :=
  ⟨fun {Γ M d k} q => by cases d <;> first | exact q.elim | exact ggs_cons (GG.mono (h.run q) fun _ z => hr.run z) hs⟩
theorem CTg.tup {n kt : Nat} {r : En → List D → (En → Prop) → Prop} (hc : X.calm = true) (h : CTs X es r) (hn : (assignEach es X.env).length = n := by rfl) (hst : (assignEach es X.env).findIdx? (·.1) = none := by rfl) : CTg X (.Tuple es kt pos) (gTup n r) :=
  ⟨fun {Γ M d k} q => by cases d <;> first | exact q.elim | exact gg_tup hc (h.run q.g) q.h hn hst⟩
def wAsg (g : WpG) (a : WpE) : WpS := fun Γ M E => a Γ M (fun d M1 => g Γ d fun Γ1 => E.nx Γ1 M1) (exE E Γ)
theorem CS.asg {tg : Expr} {g : WpG} (ha : CE X e wa) (h : CTg X tg g) (hs : swapsWithSole [tg] e pos.line X.env = pure false := by rfl) (hw : swappedStores [tg] e X.env = pure none := by rfl)
    (h1 : (assignEach [tg] X.env).map (·.2) = [assign tg X.env] := by rfl) : CS X (.Assign [tg] e pos) (wAsg g wa) :=
  ⟨fun q => gs_asg (GE.mono (ha.run q) (fun _ _ z => h.run z) fun _ _ _ z => z) hs hw h1⟩
def wPar (i j : Nat) (r : WpA) : WpS := fun Γ M E => r Γ M (fun ds M1 => match ds with
  | [v, w] => setK Γ i v fun Γ1 => setK Γ1 j w fun Γ2 => E.nx Γ2 M1
  | _ => False) (exE E Γ)
theorem CS.par (i j : Nat) {x y : Str} {px py pt : Pos} {kt k2 : Nat} {pt2 : Pos} (hc : X.calm = true) (ha : CA X [a, b] wes)
    (hN : X.N.Nodup) (hi : X.N[i]? = some x := by rfl) (hj : X.N[j]? = some y := by rfl) (hij : i ≠ j := by decide) (hx : X.env.scope.names.lookup x = some .local := by rfl) (hy : X.env.scope.names.lookup y = some .local := by rfl)
    (hw : swappedStores [.Tuple [.Name x px, .Name y py] kt pt] (.Tuple [a, b] k2 pt2) X.env = pure (some [x, y]) := by rfl)
    (hs : swapsWithSole [.Tuple [.Name x px, .Name y py] kt pt] (.Tuple [a, b] k2 pt2) pos.line X.env = pure false := by rfl) : CS X (.Assign [.Tuple [.Name x px, .Name y py] kt pt] (.Tuple [a, b] k2 pt2) pos) (wPar i j wes) :=
  ⟨fun q => gs_par i j hc (GA.mono (ha.run q) (fun ds M1 z => by
    match ds, z with
    | [v, w], z => exact ⟨v, w, rfl, setK_eq (setK_eq z)⟩) fun _ _ _ z => z) hN hi hj hij hx hy hw hs⟩
def wPar3 (i j l : Nat) (r : WpA) : WpS := fun Γ M E => r Γ M (fun ds M1 => match ds with
  | [u, v, w] => setK Γ i u fun Γ1 => setK Γ1 j v fun Γ2 => setK Γ2 l w fun Γ3 => E.nx Γ3 M1
  | _ => False) (exE E Γ)
theorem CS.par3 (i j l : Nat) {x y z : Str} {px py pz pt : Pos} {kt k2 : Nat} {pt2 : Pos} (hc : X.calm = true) (ha : CA X [a, b, c] wes)
    (hN : X.N.Nodup) (hi : X.N[i]? = some x := by rfl) (hj : X.N[j]? = some y := by rfl) (hl : X.N[l]? = some z := by rfl) (hij : i ≠ j := by decide) (hil : i ≠ l := by decide) (hjl : j ≠ l := by decide)
    (hx : X.env.scope.names.lookup x = some .local := by rfl) (hy : X.env.scope.names.lookup y = some .local := by rfl) (hz : X.env.scope.names.lookup z = some .local := by rfl)
    (hw : swappedStores [.Tuple [.Name x px, .Name y py, .Name z pz] kt pt] (.Tuple [a, b, c] k2 pt2) X.env = pure (some [x, y, z]) := by rfl)
    (hs : swapsWithSole [.Tuple [.Name x px, .Name y py, .Name z pz] kt pt] (.Tuple [a, b, c] k2 pt2) pos.line X.env = pure false := by rfl) : CS X (.Assign [.Tuple [.Name x px, .Name y py, .Name z pz] kt pt] (.Tuple [a, b, c] k2 pt2) pos) (wPar3 i j l wes) :=
  ⟨fun q => gs_par3 i j l hc (GA.mono (ha.run q) (fun ds M1 z => by
    match ds, z with
    | [u, v, w], z => exact ⟨u, v, w, rfl, setK_eq (setK_eq (setK_eq z))⟩) fun _ _ _ z => z) hN (hi := hi) (hj := hj) (hl := hl) (hij := hij) (hil := hil) (hjl := hjl) (hx := hx) (hy := hy) (hz := hz) (hw := hw) (hs := hs)⟩
/-- o[i] = e -/
def wSeti (a o i : WpE) : WpS := fun Γ M E => a Γ M (fun d M1 => o Γ M1 (fun x M2 => i Γ M2 (fun y M3 => match x, y with
  | .hdl h, .int n => HL M3 h fun q ds => ∃ j : Nat, Sd ((0 ≤ n ∧ n = j ∧ j < ds.length) ∨ (n < 0 ∧ n + ds.length = j)) (setM M3 q (h, .lst (ds.set j d)) fun M4 => E.nx Γ M4)
  | _, _ => False) (exE E Γ)) (exE E Γ)) (exE E Γ)
theorem CS.seti (ha : CE X e wa) (ho : CE X o wo) (hi : CE X i wi') (hs : swapsWithSole [.Subscript o i pos'] e pos.line X.env = pure false := by rfl) (hw : swappedStores [.Subscript o i pos'] e X.env = pure none := by rfl) (h1 : (assignEach [.Subscript o i pos'] X.env).map (·.2) = [assign (.Subscript o i pos') X.env] := by rfl)
    (hv : ∀ v, assign (.Subscript o i pos') X.env v = (do
      let ov ← holding [v] (eval o X.env)
      let iv ← holding [v, ov] (eval i X.env)
      standAt pos'
      holding [v, ov, iv] (setItem ov iv v)
      release [v, ov, iv] []) := by intro _; rfl) : CS X (.Assign [.Subscript o i pos'] e pos) (wSeti wa wo wi') :=
  ⟨fun q => gs_seti (GE.mono (ha.run q) (fun _ _ q1 => GE.mono (ho.run q1) (fun x _ q2 => GE.mono (hi.run q2) (fun y M3 q3 => by
    cases x <;> cases y <;> first | exact q3.elim | (obtain ⟨p, ds, e1, j, g⟩ := q3; exact ⟨p, _, ds, _, j, rfl, e1, rfl, g.h, setM_eq.mp g.g⟩)) fun _ _ _ z => z) fun _ _ _ z => z) fun _ _ _ z => z) hs hw h1 hv⟩
/-- o[i] = e, o a dict -/
def wDput (a o i : WpE) : WpS := fun Γ M E => a Γ M (fun d M1 => o Γ M1 (fun x M2 => i Γ M2 (fun y M3 => HDm M3 x fun j h ks ds => ∃ q ks' ds', Sd (y = kD q ∧ ks.length < 16777216 ∧ PutK ks ds q d ks' ds') (setM M3 j (h, .dct ks' ds') fun M4 => E.nx Γ M4)) (exE E Γ)) (exE E Γ)) (exE E Γ)
theorem CS.dput (hu : X.A.units + 65 < cLine) (ha : CE X e wa) (ho : CE X o wo) (hi : CE X i wi') (hs : swapsWith e (some (.Subscript o i pos')) pos.line X.env = pure false := by rfl) : CS X (.Assign [.Subscript o i pos'] e pos) (wDput wa wo wi') :=
  ⟨fun q => gs_dput (Nat.lt_of_le_of_lt (Nat.add_le_add_left (by decide) _) hu) (GE.mono (ha.run q) (fun _ _ q1 => GE.mono (ho.run q1) (fun x _ q2 => GE.mono (hi.run q2) (fun y M3 ⟨p, h, ks, ds, e1, e2, q', ks', ds', g⟩ => ⟨p, h, ks, ks', ds, ds', q', e1, e2, g.h.1, g.h.2.1, g.h.2.2, setM_eq.mp g.g⟩) fun _ _ _ z => z) fun _ _ _ z => z) fun _ _ _ z => z) hs⟩
/-- o.f = e -/
def wFset (C : Addr) (f : Str) (a o : WpE) : WpS := fun Γ M E => a Γ M (fun d M1 => o Γ M1 (fun x M2 => HIm M2 x C fun q h fs ds => ∃ fs' ds', Sd (fs.length < 1000 ∧ PutA fs ds f d fs' ds') (setM M2 q (h, .ins C fs' ds') fun M4 => E.nx Γ M4)) (exE E Γ)) (exE E Γ)
theorem CS.fset {f : Str} (cl : Cls X.K C) (na : NoAttr X.K C f) (ha : CE X e wa) (ho : CE X o wo) (hs : swapsWith e (some (.Attribute o f pos')) pos.line X.env = pure false := by rfl) : CS X (.Assign [.Attribute o f pos'] e pos) (wFset C f wa wo) :=
  ⟨fun q => gs_fld (GE.mono (ha.run q) (fun _ _ q1 => GE.mono (ho.run q1) (fun x _ ⟨p, h, fs, ds, e1, e2, fs', ds', g⟩ => ⟨p, h, C, fs, fs', ds, ds', e1, e2, cl, na, g.h.1, g.h.2, setM_eq.mp g.g⟩) fun _ _ _ z => z) fun _ _ _ z => z) hs⟩
/-- o.f += e, whole numbers -/
def wFaug (C : Addr) (f : Str) (o a : WpE) : WpS := fun Γ M E => o Γ M (fun x M1 => HI M1 x C fun fs ds => ∃ (i : Nat) (n : Int), Sd (fs.Nodup ∧ fs[i]? = some f ∧ ds[i]? = some (.int n)) (a Γ M1 (fun y M2 => match y with
  | .int m => HIm M2 x C fun q h fs ds => ∃ fs' ds', Sd (fs.length < 1000 ∧ PutA fs ds f (.int (n + m)) fs' ds') (setM M2 q (h, .ins C fs' ds') fun M4 => E.nx Γ M4)
  | _ => False) (exE E Γ))) (exE E Γ)
theorem CS.faug {f : Str} (cl : Cls X.K C) (na : NoAttr X.K C f) (ho : CE X o wo) (ha : CE X e wa) : CS X (.AugAssign (.Attribute o f pos') .Add e pos) (wFaug C f wo wa) :=
  ⟨fun q => gs_fldaug in_addU (GE.mono (ho.run q) (fun x M1 ⟨fs, ds, e1, i, n, g⟩ => ⟨C, fs, ds, i, .int n, e1, cl, na, g.h.1, g.h.2.1, g.h.2.2, GE.mono (ha.run g.g) (fun y M2 q2 => by
    cases y <;> first | exact q2.elim | (obtain ⟨p, h, fs, ds, e1, e2, fs', ds', g⟩ := q2; exact aug_add ⟨p, h, fs, fs', ds, ds', e1, e2, g.h.1, g.h.2, setM_eq.mp g.g⟩)) fun _ _ _ z => z⟩) fun _ _ _ z => z)⟩
/-- o1.f1, o2.f2 = e -/
def wFset2 (C1 C2 : Addr) (f1 f2 : Str) (a o1 o2 : WpE) : WpS := fun Γ M E => a Γ M (fun d M1 => match d with
  | .tup [u, v] => o1 Γ M1 (fun x M2 => HIm M2 x C1 fun q h fs ds => ∃ fs' ds', Sd (fs.length < 1000 ∧ PutA fs ds f1 u fs' ds') (o2 Γ (M2.set q (h, .ins C1 fs' ds')) (fun y M3 => HIm M3 y C2 fun q h fs ds => ∃ fs' ds', Sd (fs.length < 1000 ∧ PutA fs ds f2 v fs' ds') (E.nx Γ (M3.set q (h, .ins C2 fs' ds')))) (exE E Γ))) (exE E Γ)
  | _ => False) (exE E Γ)
/-! lists that may change -/
def wApp (o a : WpE) : WpE := fun Γ M k kx => o Γ M (fun x M1 => match x with
  | .hdl h => HL M1 h fun _ _ => a Γ M1 (fun y M2 => HL M2 h fun q ds => Sd (ds.length < 16777216) (setM M2 q (h, .lst (ds ++ [y])) fun M4 => k .non M4)) kx
  | _ => False) kx
theorem CE.app (ho : CE X o wo) (ha : CE X e wa) (hbase : attributeBase o "append" X.env (eval o X.env) = eval o X.env := by rfl)
    (hfew : ((backTo p (starEach [e] X.env)).all (fun x => !x.1) && (backToKw p (keywordEach [] X.env)).all (fun x => x.1.isSome) && decide ([e].length + ([] : List Keyword).length + (if ([] : List Keyword).isEmpty then 0 else 1) < 30)) = true := by rfl)
    (hline : (apos.endLine == p.line) = true := by rfl) (hs : starEach [e] X.env = (false, eval e X.env) :: starEach [] X.env := by rfl) (hplain : (backTo p (starEach [] X.env)).any (·.1) = false := by rfl) : CE X (.Call (.Attribute o "append" apos) [e] [] p) (wApp wo wa) :=
  ⟨fun q => ge_append (GE.mono (ho.run q) (fun x M1 q1 => by
    cases x <;> first | exact q1.elim | (obtain ⟨p1, ds1, e1, g1⟩ := q1; exact ⟨⟨p1, _, ds1, rfl, e1⟩, GE.mono (ha.run g1) (fun y M2 ⟨p2, ds2, e2, g2⟩ => ⟨p2, _, ds2, rfl, e2, g2.h, setM_eq.mp g2.g⟩) fun _ _ _ z => z⟩)) fun _ _ _ z => z) hbase hfew hline hs hplain⟩
def wExt (o a : WpE) : WpE := fun Γ M k kx => o Γ M (fun x M1 => match x with
  | .hdl h => HL M1 h fun _ _ => a Γ M1 (fun y M2 => match y with
    | .lst es => HL M2 h fun q ds => Sd (ds.length + es.length ≤ 16777216) (setM M2 q (h, .lst (ds ++ es)) fun M4 => k .non M4)
    | _ => False) kx
  | _ => False) kx
theorem CE.ext (ho : CE X o wo) (ha : CE X e wa) (hbase : attributeBase o "extend" X.env (eval o X.env) = eval o X.env := by rfl)
    (hfew : ((backTo p (starEach [e] X.env)).all (fun x => !x.1) && (backToKw p (keywordEach [] X.env)).all (fun x => x.1.isSome) && decide ([e].length + ([] : List Keyword).length + (if ([] : List Keyword).isEmpty then 0 else 1) < 30)) = true := by rfl)
    (hline : (apos.endLine == p.line) = true := by rfl) (hs : starEach [e] X.env = (false, eval e X.env) :: starEach [] X.env := by rfl) (hplain : (backTo p (starEach [] X.env)).any (·.1) = false := by rfl) : CE X (.Call (.Attribute o "extend" apos) [e] [] p) (wExt wo wa) :=
  ⟨fun q => ge_extend (GE.mono (ho.run q) (fun x M1 q1 => by
    cases x <;> first | exact q1.elim | (obtain ⟨p1, ds1, e1, g1⟩ := q1; exact ⟨⟨p1, _, ds1, rfl, e1⟩, GE.mono (ha.run g1) (fun y M2 q2 => by
      cases y <;> first | exact q2.elim | (obtain ⟨p2, ds2, e2, g2⟩ := q2; exact ⟨p2, _, ds2, _, rfl, e2, rfl, g2.h, setM_eq.mp g2.g⟩)) fun _ _ _ z => z⟩)) fun _ _ _ z => z) hbase hfew hline hs hplain⟩
/-! raising -/
def wRaise (C : Addr) (f : Str) (a : WpE) : WpS := fun Γ M E => a Γ M (fun d M1 => E.ex (.ref C) [(f, d)] Γ M1) (exE E Γ)
theorem CS.raise1 {f : Str} {p2 : Pos} (F : ExD X.prog X.w X.K X.mg X.base nm C f) (hc : X.calm = true) (hr : Room l X.A) (hl : 2 ≤ l) (ha : CE X e wa) (hg : Gl X nm := by rfl) (hdb : (nm == ("__debug__" : Str)) = false := by decide)
    (he : starEach [e] X.env = (false, eval e X.env) :: starEach [] X.env := by rfl) (hpl : (backTo pos (starEach [] X.env)).any (·.1) = false := by rfl) : CS X (.Raise (some (.Call (.Name nm p) [e] [] pos)) none pos') (wRaise C f wa) :=
  ⟨fun q => gs_raise1 F hc hr hl (ha.run q) (hg := hg) (hdb := hdb) (he := he) (hpl := hpl)⟩
def wRaise0 (C : Addr) : WpS := fun Γ M E => E.ex (.ref C) [] Γ M
theorem CS.raise0 {m : Str} {j : Nat} {p2 : Pos} (F : ExP X.K X.mg nm C) (hc : X.calm = true) (hh : ∀ {Γ M E}, E.ex (.ref C) [] Γ M → GS X Γ M (.Raise (some (.Call (.Name nm p) [.Constant (.str m) j p2] [] pos)) none pos') E) : CS X (.Raise (some (.Call (.Name nm p) [.Constant (.str m) j p2] [] pos)) none pos') (wRaise0 C) := ⟨fun q => hh q⟩
end
end PD

set_option Elab.async false
set_option linter.all false
set_option maxRecDepth 100000
set_option maxHeartbeats 4000000
/-! PW: what is walked, loops, comprehensions, defs. -/
namespace PD
open PySem L2
open Evl (Ex ex_rd ex_l ex_t)
abbrev KIt := List D → (Ms → Prop) → Ms → Prop
abbrev WpI := En → Ms → KIt → KX → Prop
/-- the turns of a walk are those of a list of items -/
abbrev itK (k : KIt) : KI := fun n it G M1 => ∃ items : List D, items.length = n ∧ (∀ i d, it i d → items[i]? = some d) ∧ k items G M1
structure Ki (X : Cx) (tg iter : Expr) (w : WpI) : Prop where
  run : ∀ {Γ M k kx}, w Γ M k kx → GI X Γ M tg iter (itK k) kx
section
variable {X : Cx} {Γ : En} {M : Ms} {tg e a b c elt : Expr} {es ifs : List Expr} {kx : KX} {pos p : Pos} {wa wb wc we : WpE} {wes : WpA}
theorem GI.mono {k k' : KI} {kx' : KX} (h : GI X Γ M tg e k kx) (hk : ∀ n it G M1, k n it G M1 → k' n it G M1) (hx : ∀ c f M', kx c f M' → kx' c f M') : GI X Γ M tg e k' kx' := fun S σ hM hE W tk hW R hR =>
  h S σ hM hE W tk (fun c f M' S' dd a => hW c f M' S' dd (hx _ _ _ a)) R fun n it G M1 S1 J q => hR n it G M1 S1 J (hk _ _ _ _ q)
/-- a list, standing or not -/
theorem gi_any {k : KI} (h : GE X Γ M e (fun d M1 => match d with
    | .lst ds => k ds.length (fun i x => ds[i]? = some x) (fun _ => True) M1
    | .seq ds => k ds.length (fun i x => ds[i]? = some x) (fun _ => True) M1
    | .hdl a => HL M1 a fun _ ds => k ds.length (fun i x => ds[i]? = some x) (fun M => ∃ j : Nat, M[j]? = some (a, .lst ds)) M1
    | _ => False) kx) : GI X Γ M tg e k kx := fun S σ hM hE W tk hW R hR pins s I =>
  (pi_list (tg := tg) (we (X := X) (e := e))).run pins s σ S.H R I (h S σ hM hE W tk hW _ fun d M1 S1 v hk hM1 g1 r1 => by
    cases d <;> first | exact hk.elim | skip
    case lst ds =>
      obtain ⟨a, xs, rfl, hz, r⟩ := r1
      have l := r.len
      refine ⟨a, rfl, ⟨xs, SqL.of (hM1.zh _ _ hz)⟩, hR _ _ _ M1 S1 _ hk hM1 g1 ⟨fun i S2 M2 hi g2 hM2 _ => ?_, fun S2 M2 g2 hM2 _ => ?_, fun i S2 M2 x H' hi g2 hM2 _ y => ?_⟩⟩
      · exact ⟨xs, xs[i]'(by omega), SqL.of (hM2.zh _ _ (g2.zz _ _ hz)), by simp [show i < xs.length by omega]⟩
      · exact ⟨xs, SqL.of (hM2.zh _ _ (g2.zz _ _ hz)), by omega⟩
      · obtain ⟨d, e1, e2⟩ := r.get' (y.2 xs (SqL.of (hM2.zh _ _ (g2.zz _ _ hz))))
        exact ⟨S2, d, y.1.symm, hM2, Grow.refl _, e1, e2.grow g2⟩
    case seq ds =>
      obtain ⟨a, xs, rfl, hz, r⟩ := r1
      have l := r.len
      refine ⟨a, rfl, ⟨xs, ex_l hM1.zh hz⟩, hR _ _ _ M1 S1 _ hk hM1 g1 ⟨fun i S2 M2 hi g2 hM2 _ => ?_, fun S2 M2 g2 hM2 _ => ?_, fun i S2 M2 x H' hi g2 hM2 _ y => ?_⟩⟩
      · exact ⟨xs, xs[i]'(by omega), ex_l hM2.zh (ex_l g2.zz hz), by simp [show i < xs.length by omega]⟩
      · exact ⟨xs, ex_l hM2.zh (ex_l g2.zz hz), by omega⟩
      · obtain ⟨d, e1, e2⟩ := r.get' (y.2 xs (ex_l hM2.zh (ex_l g2.zz hz)))
        exact ⟨S2, d, y.1.symm, hM2, Grow.refl _, e1, e2.grow g2⟩
    case hdl a =>
      cases r1
      obtain ⟨j, ds, hj, hk⟩ := hk
      obtain ⟨_, xs0, h0, r0⟩ := hM1.at hj
      have at2 : ∀ S2 M2, Grow S1 S2 → OkM X.K S2 M2 → (∃ j : Nat, M2[j]? = some (a, .lst ds)) → ∃ xs, S2.H a = some (.lst xs) ∧ RepL X.K S2 ds xs := fun S2 M2 g2 hM2 ⟨j2, hj2⟩ => by
        obtain ⟨_, xs, h, r⟩ := hM2.at hj2
        exact ⟨xs, h, r⟩
      refine ⟨a, rfl, ⟨xs0, SqL.of h0⟩, hR _ _ _ M1 S1 _ hk hM1 g1 ⟨fun i S2 M2 hi g2 hM2 hj2 => ?_, fun S2 M2 g2 hM2 hj2 => ?_, fun i S2 M2 x H' hi g2 hM2 hj2 y => ?_⟩⟩
      · obtain ⟨xs, h2, r⟩ := at2 S2 M2 g2 hM2 hj2
        have l := r.len
        exact ⟨xs, xs[i]'(by omega), SqL.of h2, by simp [show i < xs.length by omega]⟩
      · obtain ⟨xs, h2, r⟩ := at2 S2 M2 g2 hM2 hj2
        have l := r.len
        exact ⟨xs, SqL.of h2, by omega⟩
      · obtain ⟨xs, h2, r⟩ := at2 S2 M2 g2 hM2 hj2
        obtain ⟨d, e1, e2⟩ := r.get' (y.2 xs (SqL.of h2))
        exact ⟨S2, d, y.1.symm, hM2, Grow.refl _, e1, e2⟩)
def iL (a : WpE) : WpI := fun Γ M k kx => a Γ M (fun d M1 => match d with
  | .lst ds => k ds (fun _ => True) M1
  | .seq ds => k ds (fun _ => True) M1
  | .hdl h => HL M1 h fun _ ds => k ds (fun M => ∃ j : Nat, M[j]? = some (h, .lst ds)) M1
  | _ => False) kx
theorem Ki.lst (ha : CE X e wa) : Ki X tg e (iL wa) := ⟨fun q => gi_any (GE.mono (ha.run q) (fun d M1 h => by
  cases d <;> first | exact h.elim | exact ⟨_, rfl, fun _ _ z => z, h⟩ | (obtain ⟨p, ds, e1, g⟩ := h; exact ⟨p, ds, e1, ds, rfl, fun _ _ z => z, g⟩)) fun _ _ _ z => z)⟩
def iT (a : WpE) : WpI := fun Γ M k kx => a Γ M (fun d M1 => match d with
  | .tup ds => k ds (fun _ => True) M1
  | _ => False) kx
theorem Ki.tup (ha : CE X e wa) : Ki X tg e (iT wa) := ⟨fun q => gi_tup (GE.mono (ha.run q) (fun d M1 h => by
  cases d <;> first | exact h.elim | exact ⟨_, rfl, _, rfl, fun _ _ z => z, h⟩) fun _ _ _ z => z)⟩
def signsD (s : Str) : List D := s.cps.toList.map fun c => .str ⟨#[c]⟩
def iS (a : WpE) : WpI := fun Γ M k kx => a Γ M (fun d M1 => match d with
  | .str s => k (signsD s) (fun _ => True) M1
  | _ => False) kx
theorem Ki.str (ha : CE X e wa) : Ki X tg e (iS wa) := ⟨fun q => gi_str (GE.mono (ha.run q) (fun d M1 h => by
  cases d <;> first | exact h.elim | exact ⟨_, rfl, _, by simp [signsD], fun i d ⟨c, e1, e2⟩ => by subst e2; simp [signsD, e1], h⟩) fun _ _ _ z => z)⟩
def rangeD (lo : Int) (n : Nat) : List D := (List.range n).map fun (i : Nat) => .int (lo + (i : Int))
theorem rangeD_at {lo : Int} {n i : Nat} {d : D} (h : (rangeD lo n)[i]? = some d) : i < n ∧ d = .int (lo + i) := by
  unfold rangeD at h
  rw [List.getElem?_map] at h
  by_cases q : i < n
  · rw [List.getElem?_range q] at h; cases h; exact ⟨q, rfl⟩
  · rw [List.getElem?_eq_none (by simpa using q)] at h; cases h
/-- range(a); the turns are told by their number alone -/
def iR1 (a : WpE) : WpI := fun Γ M k kx => a Γ M (fun d M1 => match d with
  | .int j => Sd (j < 4611686018427387904 ∧ -4611686018427387904 ≤ j) (k (rangeD 0 j.toNat) (fun _ => True) M1)
  | _ => False) kx
theorem it_range {lo : Int} {n : Nat} {k : KIt} {M1 : Ms} (h : k (rangeD lo n) (fun _ => True) M1) : ∃ items : List D, items.length = n ∧ (∀ (i : Nat) d, i < n ∧ d = .int (lo + i) → items[i]? = some d) ∧ k items (fun _ => True) M1 :=
  ⟨_, by simp [rangeD], fun i d ⟨e1, e2⟩ => by subst e2; unfold rangeD; rw [List.getElem?_map, List.getElem?_range e1]; rfl, h⟩
end
/-- range: the walk's turns lie below its end -/
theorem GI.lt {X : Cx} {Γ : En} {M : Ms} {tg e : Expr} {k : KI} {kx : KX} (h : GI X Γ M tg e (fun n it G M1 => k n (fun i d => i < n ∧ it i d) G M1) kx) : GI X Γ M tg e k kx := fun S σ hM hE W tk hW R hR =>
  h S σ hM hE W tk hW R fun n it G M1 S1 J q hM1 g1 wk => hR n _ G M1 S1 J q hM1 g1 ⟨wk.1, wk.2.1, fun i S M x H' hi g hM hG y => by
    obtain ⟨S', d, a1, a2, a3, a4, a5⟩ := wk.2.2 i S M x H' hi g hM hG y
    exact ⟨S', d, a1, a2, a3, ⟨hi, a4⟩, a5⟩⟩
section
variable {X : Cx} {Γ : En} {M : Ms} {tg e a b c elt : Expr} {es ifs : List Expr} {kx : KX} {pos p : Pos} {wa wb wc we : WpE} {wes : WpA}
theorem Ki.range1 (hm : X.mg "range" = none) (ha : CE X a wa) (hg : Gl X "range" := by rfl) (hs : starEach [a] X.env = [(false, eval a X.env)] := by rfl) : Ki X tg (.Call (.Name "range" p) [a] [] pos) (iR1 wa) :=
  ⟨fun q => GI.lt (gi_range1 hm (ga_cons (GE.mono (ha.run q) (fun d M1 h => by
    cases d <;> first | exact h.elim | exact ga_nil ⟨_, rfl, h.h.1, h.h.2, it_range h.g⟩) fun _ _ _ z => z) hs) hg hs)⟩
def iR2 (a b : WpE) : WpI := fun Γ M k kx => a Γ M (fun x M1 => b Γ M1 (fun y M2 => match x, y with
  | .int i, .int j => Sd (-4611686018427387904 ≤ i ∧ i < 4611686018427387904 ∧ -4611686018427387904 ≤ j ∧ j < 4611686018427387904) (k (rangeD i (j - i).toNat) (fun _ => True) M2)
  | _, _ => False) kx) kx
theorem Ki.range2 (hm : X.mg "range" = none) (ha : CE X a wa) (hb : CE X b wb) (hg : Gl X "range" := by rfl) (hs : starEach [a, b] X.env = [(false, eval a X.env), (false, eval b X.env)] := by rfl) (hs1 : starEach [a, b] X.env = (false, eval a X.env) :: starEach [b] X.env := by rfl) (hs2 : starEach [b] X.env = [(false, eval b X.env)] := by rfl) : Ki X tg (.Call (.Name "range" p) [a, b] [] pos) (iR2 wa wb) :=
  ⟨fun q => GI.lt (gi_range2 hm (ga_cons (GE.mono (ha.run q) (fun x M1 h1 => ga_cons (GE.mono (hb.run h1) (fun y M2 h => by
    cases x <;> cases y <;> first | exact h.elim | exact ga_nil ⟨_, _, rfl, h.h, it_range h.g⟩) fun _ _ _ z => z) hs2) fun _ _ _ z => z) hs1) hg hs hs2)⟩
def enumD (ds : List D) : List D := ds.zipIdx.map fun p => .tup [.int (p.2 : Nat), p.1]
theorem enumD_at {ds : List D} {i : Nat} {d : D} (h : (enumD ds)[i]? = some d) : ∃ x, ds[i]? = some x ∧ d = .tup [.int (i : Nat), x] := by
  unfold enumD at h
  rw [List.getElem?_map, List.getElem?_zipIdx] at h
  cases e : ds[i]? with
  | none => rw [e] at h; cases h
  | some x => rw [e] at h; simp at h; exact ⟨x, rfl, h.symm⟩
def iEnum (a : WpE) : WpI := fun Γ M k kx => a Γ M (fun d M1 => match d with
  | .lst ds => k (enumD ds) (fun _ => True) M1
  | _ => False) kx
theorem Ki.enum {kt : Nat} {tpos : Pos} (hm : X.mg "enumerate" = none) (ha : CE X e wa) (hg : Gl X "enumerate" := by rfl) (hs : starEach [e] X.env = [(false, eval e X.env)] := by rfl) : Ki X (.Tuple es kt tpos) (.Call (.Name "enumerate" p) [e] [] pos) (iEnum wa) :=
  ⟨fun q => gi_enum hm (ga_cons (GE.mono (ha.run q) (fun d M1 h => by
    cases d <;> first | exact h.elim | exact ga_nil ⟨_, rfl, _, by simp [enumD], fun i d ⟨x, e1, e2⟩ => by subst e2; simp [enumD, List.getElem?_zipIdx, e1], h⟩) fun _ _ _ z => z) hs) hg hs⟩
def zipD (xs ys : List D) : List D := (xs.zip ys).map fun p => .tup [p.1, p.2]
theorem zipD_at {xs ys : List D} {i : Nat} {d : D} (h : (zipD xs ys)[i]? = some d) : ∃ x y, xs[i]? = some x ∧ ys[i]? = some y ∧ d = .tup [x, y] := by
  unfold zipD at h
  rw [List.getElem?_map] at h
  cases e : (xs.zip ys)[i]? with
  | none => rw [e] at h; cases h
  | some q =>
    rw [e] at h; simp at h
    obtain ⟨e1, e2⟩ := List.getElem?_zip_eq_some.mp e
    exact ⟨q.1, q.2, e1, e2, h.symm⟩
def iZipT (a b : WpE) : WpI := fun Γ M k kx => a Γ M (fun x M1 => b Γ M1 (fun y M2 => match x, y with
  | .tup xs, .tup ys => k (zipD xs ys) (fun _ => True) M2
  | _, _ => False) kx) kx
def iZipL (a b : WpE) : WpI := fun Γ M k kx => a Γ M (fun x M1 => b Γ M1 (fun y M2 => match x, y with
  | .lst xs, .lst ys => k (zipD xs ys) (fun _ => True) M2
  | _, _ => False) kx) kx
theorem Ki.zipT {kt : Nat} {tpos : Pos} (hm : X.mg "zip" = none) (ha : CE X a wa) (hb : CE X b wb) (hg : Gl X "zip" := by rfl) (hs : starEach [a, b] X.env = (false, eval a X.env) :: starEach [b] X.env := by rfl) (hs2 : starEach [b] X.env = (false, eval b X.env) :: starEach [] X.env := by rfl) (hpl : (backTo pos (starEach [b] X.env)).any (·.1) = false := by rfl) : Ki X (.Tuple es kt tpos) (.Call (.Name "zip" p) [a, b] [] pos) (iZipT wa wb) :=
  ⟨fun q => gi_zipT hm (ga_cons (GE.mono (ha.run q) (fun x M1 h1 => ga_cons (GE.mono (hb.run h1) (fun y M2 h => by
    cases x <;> cases y <;> first | exact h.elim | exact ga_nil ⟨_, _, rfl, _, by simp [zipD], fun i d ⟨x, y, e1, e2, e3⟩ => by subst e3; simp [zipD, List.getElem?_zip_eq_some, e1, e2], h⟩) fun _ _ _ z => z) hs2) fun _ _ _ z => z) hs) hg hs hpl⟩
theorem Ki.zipL {kt : Nat} {tpos : Pos} (hm : X.mg "zip" = none) (ha : CE X a wa) (hb : CE X b wb) (hg : Gl X "zip" := by rfl) (hs : starEach [a, b] X.env = (false, eval a X.env) :: starEach [b] X.env := by rfl) (hs2 : starEach [b] X.env = (false, eval b X.env) :: starEach [] X.env := by rfl) (hpl : (backTo pos (starEach [b] X.env)).any (·.1) = false := by rfl) : Ki X (.Tuple es kt tpos) (.Call (.Name "zip" p) [a, b] [] pos) (iZipL wa wb) :=
  ⟨fun q => gi_zipL hm (ga_cons (GE.mono (ha.run q) (fun x M1 h1 => ga_cons (GE.mono (hb.run h1) (fun y M2 h => by
    cases x <;> cases y <;> first | exact h.elim | exact ga_nil ⟨_, _, rfl, _, by simp [zipD], fun i d ⟨x, y, e1, e2, e3⟩ => by subst e3; simp [zipD, List.getElem?_zip_eq_some, e1, e2], h⟩) fun _ _ _ z => z) hs2) fun _ _ _ z => z) hs) hg hs hpl⟩

/-! ### for -/
inductive Loop (items : List D) (G : Ms → Prop) (tg : WpG) (body : WpS) (E : ED) (Γ : En) (M : Ms) : Prop
  | mk (P : Nat → En → Ms → Prop) (p0 : P 0 Γ M) (pG : ∀ i Γ2 M2, i ≤ items.length → P i Γ2 M2 → G M2)
    (pt : ∀ i d Γ2 M2, items[i]? = some d → P i Γ2 M2 → tg Γ2 d fun Γ3 => body Γ3 M2 { E with nx := P (i + 1), ct := P (i + 1), bk := E.nx }) (pd : ∀ Γ2 M2, P items.length Γ2 M2 → E.nx Γ2 M2)
/-- .. over what does not change -/
theorem Loop.of {items : List D} {tg : WpG} {body : WpS} {E : ED} {Γ : En} {M : Ms} (P : Nat → En → Ms → Prop) (p0 : P 0 Γ M)
    (pt : ∀ i d Γ2 M2, items[i]? = some d → P i Γ2 M2 → tg Γ2 d fun Γ3 => body Γ3 M2 { E with nx := P (i + 1), ct := P (i + 1), bk := E.nx }) (pd : ∀ Γ2 M2, P items.length Γ2 M2 → E.nx Γ2 M2) : Loop items (fun _ => True) tg body E Γ M :=
  .mk P p0 (fun _ _ _ _ _ => trivial) pt pd
def wFor (it : WpI) (tg : WpG) (body : WpS) : WpS := fun Γ M E => it Γ M (fun items G M1 => Loop items G tg body E Γ M1) (exE E Γ)
theorem CS.for {tg : Expr} {body : List Stmt} {iter : Expr} {wi' : WpI} {g : WpG} {wb' : WpS} (hp : PassesOwn (model X.prog X.w) X.A X.env X.xe) (hc : X.calm = true) (hi : Ki X tg iter wi') (ht : CTg X tg g) (hb : Cb X body wb') (hs : ∀ x, foldedSetIterable iter X.env x = pure x := by intro _; rfl) : CS X (.For tg iter body [] pos) (wFor wi' g wb') :=
  ⟨fun q => gs_for hp hc (GI.mono (hi.run q) (fun n it G M1 ⟨items, e1, e2, h⟩ => by
    obtain ⟨P, p0, pG, pt, pd⟩ := h
    subst e1
    exact ⟨P, p0, pG, fun i d Γ2 M2 hi hd hP => GG.mono (ht.run (pt i d Γ2 M2 (e2 i d hd) hP)) fun _ z => hb.run z, pd⟩) fun _ _ _ z => z) hs⟩

/-! ### comprehensions -/
structure CGc (X : Cx) (tg : Expr) (vs : List Nat) (w : WpG) : Prop where
  run : ∀ {Γ M d k}, w Γ d k → CG X Γ M tg d vs k
structure CGcs (X : Cx) (ts : List Expr) (vs : List Nat) (w : En → List D → (En → Prop) → Prop) : Prop where
  run : ∀ {Γ M d k}, w Γ d k → CGs X Γ M ts d vs k
theorem CG.mono {d : D} {vs : List Nat} {k k' : En → Prop} (h : CG X Γ M tg d vs k) (hk : ∀ Γ1, k Γ1 → k' Γ1) : CG X Γ M tg d vs k' := fun S σ hM hE v r Q hQ => h S σ hM hE v r Q fun Γ1 σ1 q => hQ Γ1 σ1 (hk _ q)
theorem CGc.name (i : Nat) {x : Str} {vs : List Nat} (hN : X.N.Nodup) (hv : i ∈ vs := by first | decide | simp) (hi : X.N[i]? = some x := by rfl) (hx : Loc X.env.scope x := by first | exact Or.inl rfl | exact Or.inr rfl)
    (hf : X.fn x = true ∨ X.env.scope.names.lookup x = some .local := by first | exact .inl rfl | exact .inr rfl) : CGc X (.Name x pos) vs (gName i) := ⟨fun h => cg_name i (setK_eq h) hN hv hi hx hf⟩
theorem CGcs.nil {vs : List Nat} : CGcs X [] vs gNil := ⟨fun {Γ M d k} h => by cases d <;> first | exact cgs_nil h | exact h.elim⟩
theorem CGcs.cons {tt : Expr} {ts : List Expr} {vs : List Nat} {g : WpG} {r : En → List D → (En → Prop) → Prop} (h : CGc X tt vs g) (hr : CGcs X ts vs r) (hs : (assignEach (tt :: ts) X.env).map (·.2) = assign tt X.env :: (assignEach ts X.env).map (·.2) := by rfl) : CGcs X (tt :: ts) vs (gCons g r) :=
  ⟨fun {Γ M d k} q => by cases d <;> first | exact q.elim | exact cgs_cons (CG.mono (h.run q) fun _ z => hr.run z) hs⟩
theorem CGc.tup {n kt : Nat} {vs : List Nat} {r : En → List D → (En → Prop) → Prop} (hc : X.calm = true) (h : CGcs X es vs r) (hn : (assignEach es X.env).length = n := by rfl) (hst : (assignEach es X.env).findIdx? (·.1) = none := by rfl) : CGc X (.Tuple es kt pos) vs (gTup n r) :=
  ⟨fun {Γ M d k} q => by cases d <;> first | exact q.elim | exact cg_tup hc (h.run q.g) q.h hn hst⟩
def wipeK (Γ : En) : List Nat → (En → Prop) → Prop
  | [], f => f Γ
  | v :: vs, f => wipeK Γ vs fun Γ1 => delK Γ1 v f
theorem wipeK_eq : ∀ {Γ : En} {vs : List Nat} {f : En → Prop}, wipeK Γ vs f → f (wipeG Γ vs)
  | _, [], _, h => h
  | Γ, v :: vs, f, h => delK_eq (wipeK_eq (Γ := Γ) (vs := vs) h)
/-- the reading of a comprehension's turn -/
def wTurn (tg : WpG) (test : Option WpT) (elt : WpE) (Γ : En) (vs : List Nat) (M : Ms) (d : D) (kE : KD) (kB : Ms → Prop) : Prop := wipeK Γ vs fun Γ2 => tg Γ2 d fun Γ3 => match test with
  | none => elt Γ3 M kE noX
  | some t => t Γ3 M (fun b M3 => Br b (elt Γ3 M3 kE noX) (kB M3)) noX
inductive Lc (items : List D) (G : Ms → Prop) (tg : WpG) (test : Option WpT) (elt : WpE) (vs : List Nat) (Γ : En) (M : Ms) (k : List D → Ms → Prop) : Prop
  | mk (P : Nat → List D → Ms → Prop) (p0 : P 0 [] M) (pG : ∀ i acc M2, i ≤ items.length → P i acc M2 → G M2)
    (pt : ∀ i d acc M2, items[i]? = some d → P i acc M2 → wTurn tg test elt Γ vs M2 d (fun y M4 => Sd (acc.length < 16777216) (P (i + 1) (acc ++ [y]) M4)) (fun M3 => P (i + 1) acc M3)) (pd : ∀ acc M2, P items.length acc M2 → k acc M2)
theorem Lc.of {items : List D} {tg : WpG} {test : Option WpT} {elt : WpE} {vs : List Nat} {Γ : En} {M : Ms} {k : List D → Ms → Prop} (P : Nat → List D → Ms → Prop) (p0 : P 0 [] M)
    (pt : ∀ i d acc M2, items[i]? = some d → P i acc M2 → wTurn tg test elt Γ vs M2 d (fun y M4 => Sd (acc.length < 16777216) (P (i + 1) (acc ++ [y]) M4)) (fun M3 => P (i + 1) acc M3)) (pd : ∀ acc M2, P items.length acc M2 → k acc M2) : Lc items (fun _ => True) tg test elt vs Γ M k :=
  .mk P p0 (fun _ _ _ _ _ => trivial) pt pd
theorem Lc.mono {items : List D} {G : Ms → Prop} {tg : WpG} {test : Option WpT} {elt : WpE} {vs : List Nat} {Γ : En} {M : Ms} {k k' : List D → Ms → Prop} (h : Lc items G tg test elt vs Γ M k) (hk : ∀ acc M2, k acc M2 → k' acc M2) : Lc items G tg test elt vs Γ M k' := by
  obtain ⟨P, p0, pG, pt, pd⟩ := h
  exact ⟨P, p0, pG, pt, fun acc M2 hP => hk _ _ (pd acc M2 hP)⟩
theorem GS.permN {X : Cx} {Γ : En} {M : Ms} {st : Stmt} {E : ED} (h : GS X Γ M st { E with nx := fun Γ1 M1 => ∃ M2, M1.Perm M2 ∧ E.nx Γ1 M2 }) : GS X Γ M st E := fun S σ hM hE W tk De L =>
  h S σ hM hE W tk De ⟨fun Γ1 M1 S1 σ1 ⟨M2, p, q⟩ hM1 g1 e1 => by
    obtain ⟨a, b⟩ := perm_m hM1 p
    exact L.nx Γ1 M2 ⟨M2.map (·.1), S1.Z, S1.H⟩ σ1 q a (b S g1) (e1.grow (b S1 (Grow.refl _))), L.rt, L.bk, L.ct, L.ex⟩
theorem take_succ_of {items : List D} {i : Nat} {d : D} (h : items[i]? = some d) : items.take (i + 1) = items.take i ++ [d] := by rw [List.take_add_one, h]; rfl
/-- each item is turned into another one, nothing else happens -/
theorem Lc.map {items : List D} {G : Ms → Prop} {tg : WpG} {elt : WpE} {vs : List Nat} {Γ : En} {M : Ms} {k : List D → Ms → Prop} (f : D → D) (hG : G M) (hl : items.length ≤ 16777216)
    (h : ∀ (i : Nat) d (Q : KD), items[i]? = some d → Q (f d) M → wipeK Γ vs fun Γ2 => tg Γ2 d fun Γ3 => elt Γ3 M Q noX) (hk : k (items.map f) M) : Lc items G tg none elt vs Γ M k := by
  refine .mk (fun i acc M2 => acc = (items.take i).map f ∧ M2 = M) ⟨by simp, rfl⟩ (fun i acc M2 _ hP => by rw [hP.2]; exact hG) (fun i d acc M2 hd hP => ?_) fun acc M2 hP => ?_
  · obtain ⟨rfl, rfl⟩ := hP
    have hi := (List.getElem?_eq_some_iff.mp hd).1
    refine h i d _ hd ⟨by rw [List.length_map, List.length_take]; omega, by rw [take_succ_of hd, List.map_append]; rfl, rfl⟩
  · obtain ⟨rfl, rfl⟩ := hP
    rw [List.take_length]; exact hk
/-- .. those that pass a test -/
theorem Lc.filter {items : List D} {G : Ms → Prop} {tg : WpG} {t : WpT} {elt : WpE} {vs : List Nat} {Γ : En} {M : Ms} {k : List D → Ms → Prop} (p : D → Bool) (f : D → D) (hG : G M) (hl : items.length ≤ 16777216)
    (h : ∀ (i : Nat) d (Q : KD) (B : Ms → Prop), items[i]? = some d → (p d = true → Q (f d) M) → (p d = false → B M) → wipeK Γ vs fun Γ2 => tg Γ2 d fun Γ3 => t Γ3 M (fun b M3 => Br b (elt Γ3 M3 Q noX) (B M3)) noX) (hk : k ((items.filter p).map f) M) : Lc items G tg (some t) elt vs Γ M k := by
  refine .mk (fun i acc M2 => acc = ((items.take i).filter p).map f ∧ M2 = M) ⟨by simp, rfl⟩ (fun i acc M2 _ hP => by rw [hP.2]; exact hG) (fun i d acc M2 hd hP => ?_) fun acc M2 hP => ?_
  · obtain ⟨rfl, rfl⟩ := hP
    have hi := (List.getElem?_eq_some_iff.mp hd).1
    refine h i d _ _ hd (fun e => ⟨?_, ?_, rfl⟩) fun e => ⟨?_, rfl⟩
    · rw [List.length_map]
      have := List.length_filter_le p (items.take i)
      rw [List.length_take] at this
      omega
    · rw [take_succ_of hd, List.filter_append, List.map_append]; simp [e]
    · rw [take_succ_of hd, List.filter_append, List.map_append]; simp [e]
  · obtain ⟨rfl, rfl⟩ := hP
    rw [List.take_length]; exact hk
theorem Lc.mapT {α : Type} {xs : List α} {e : α → D} {G : Ms → Prop} {tg : WpG} {elt : WpE} {vs : List Nat} {Γ : En} {M : Ms} {k : List D → Ms → Prop} (f : α → D) (hG : G M) (hl : xs.length ≤ 16777216)
    (h : ∀ (i : Nat) a (Q : KD), xs[i]? = some a → Q (f a) M → wipeK Γ vs fun Γ2 => tg Γ2 (e a) fun Γ3 => elt Γ3 M Q noX) (hk : k (xs.map f) M) : Lc (xs.map e) G tg none elt vs Γ M k := by
  refine .mk (fun i acc M2 => acc = (xs.take i).map f ∧ M2 = M) ⟨by simp, rfl⟩ (fun i acc M2 _ hP => by rw [hP.2]; exact hG) (fun i d acc M2 hd hP => ?_) fun acc M2 hP => ?_
  · obtain ⟨rfl, rfl⟩ := hP
    rw [List.getElem?_map] at hd
    cases ha : xs[i]? with
    | none => rw [ha] at hd; cases hd
    | some a =>
      rw [ha] at hd; cases hd
      have hi := (List.getElem?_eq_some_iff.mp ha).1
      exact h i a _ ha ⟨by rw [List.length_map, List.length_take]; omega, by rw [List.take_add_one, ha, List.map_append]; rfl, rfl⟩
  · obtain ⟨rfl, rfl⟩ := hP
    rw [List.length_map, List.take_length]; exact hk
theorem Lc.filterT {α : Type} {xs : List α} {e : α → D} {G : Ms → Prop} {tg : WpG} {t : WpT} {elt : WpE} {vs : List Nat} {Γ : En} {M : Ms} {k : List D → Ms → Prop} (p : α → Bool) (f : α → D) (hG : G M) (hl : xs.length ≤ 16777216)
    (h : ∀ (i : Nat) a (Q : KD) (B : Ms → Prop), xs[i]? = some a → (p a = true → Q (f a) M) → (p a = false → B M) → wipeK Γ vs fun Γ2 => tg Γ2 (e a) fun Γ3 => t Γ3 M (fun b M3 => Br b (elt Γ3 M3 Q noX) (B M3)) noX) (hk : k ((xs.filter p).map f) M) : Lc (xs.map e) G tg (some t) elt vs Γ M k := by
  refine .mk (fun i acc M2 => acc = ((xs.take i).filter p).map f ∧ M2 = M) ⟨by simp, rfl⟩ (fun i acc M2 _ hP => by rw [hP.2]; exact hG) (fun i d acc M2 hd hP => ?_) fun acc M2 hP => ?_
  · obtain ⟨rfl, rfl⟩ := hP
    rw [List.getElem?_map] at hd
    cases ha : xs[i]? with
    | none => rw [ha] at hd; cases hd
    | some a =>
      rw [ha] at hd; cases hd
      have hi := (List.getElem?_eq_some_iff.mp ha).1
      refine h i a _ _ ha (fun e => ⟨?_, ?_, rfl⟩) fun e => ⟨?_, rfl⟩
      · rw [List.length_map]
        have := List.length_filter_le p (xs.take i)
        rw [List.length_take] at this
        omega
      · rw [List.take_add_one, ha, List.filter_append, List.map_append]; simp [e]
      · rw [List.take_add_one, ha, List.filter_append, List.map_append]; simp [e]
  · obtain ⟨rfl, rfl⟩ := hP
    rw [List.length_map, List.take_length]; exact hk
/-- the items are those of a list of another kind -/
theorem Loop.ofT {α : Type} {xs : List α} {e : α → D} {G : Ms → Prop} {tg : WpG} {body : WpS} {E : ED} {Γ : En} {M : Ms} (P : Nat → En → Ms → Prop) (p0 : P 0 Γ M) (pG : ∀ i Γ2 M2, i ≤ xs.length → P i Γ2 M2 → G M2)
    (pt : ∀ (i : Nat) a Γ2 M2, xs[i]? = some a → P i Γ2 M2 → tg Γ2 (e a) fun Γ3 => body Γ3 M2 { E with nx := P (i + 1), ct := P (i + 1), bk := E.nx }) (pd : ∀ Γ2 M2, P xs.length Γ2 M2 → E.nx Γ2 M2) : Loop (xs.map e) G tg body E Γ M := by
  refine .mk P p0 (fun i Γ2 M2 h hP => pG i Γ2 M2 (by simpa using h) hP) (fun i d Γ2 M2 hd hP => ?_) fun Γ2 M2 hP => pd Γ2 M2 (by simpa using hP)
  rw [List.getElem?_map] at hd
  cases ha : xs[i]? with
  | none => rw [ha] at hd; cases hd
  | some a => rw [ha] at hd; cases hd; exact pt i a Γ2 M2 ha hP
/-- .. of numbers in their row -/
theorem Loop.range {lo : Int} {n : Nat} {tg : WpG} {body : WpS} {E : ED} {Γ : En} {M : Ms} (P : Nat → En → Ms → Prop) (p0 : P 0 Γ M)
    (pt : ∀ (i : Nat) Γ2 M2, i < n → P i Γ2 M2 → tg Γ2 (.int (lo + (i : Int))) fun Γ3 => body Γ3 M2 { E with nx := P (i + 1), ct := P (i + 1), bk := E.nx }) (pd : ∀ Γ2 M2, P n Γ2 M2 → E.nx Γ2 M2) : Loop (rangeD lo n) (fun _ => True) tg body E Γ M := by
  refine .mk P p0 (fun _ _ _ _ _ => trivial) (fun i d Γ2 M2 hd hP => ?_) fun Γ2 M2 hP => pd Γ2 M2 (by simpa [rangeD] using hP)
  obtain ⟨hi, rfl⟩ := rangeD_at hd
  exact pt i Γ2 M2 hi hP
/-- a cut behind a statement -/
inductive Cut (s r : WpS) (Γ : En) (M : Ms) (E : ED) : Prop
  | mk (J : En → Ms → Prop) (h : s Γ M { E with nx := J }) (hr : ∀ Γ1 M1, J Γ1 M1 → r Γ1 M1 E)
def wCut (s r : WpS) : WpS := fun Γ M E => Cut s r Γ M E
theorem Cb.cut {st : Stmt} {rest : List Stmt} {ws wr : WpS} (h : CS X st ws) (r : Cb X rest wr) : Cb X (st :: rest) (wCut ws wr) := ⟨fun ⟨J, h1, h2⟩ => gb_cut J (h.run h1) fun Γ1 M1 q => r.run (h2 Γ1 M1 q)⟩
def wLc (it : WpI) (tg : WpG) (test : Option WpT) (elt : WpE) (vs : List Nat) : WpE := fun Γ M k kx => it Γ M (fun items G M1 => Lc items G tg test elt vs Γ M1 fun acc M2 => k (.lst acc) M2) kx
def wLcM (it : WpI) (tg : WpG) (test : Option WpT) (elt : WpE) (vs : List Nat) : WpE := fun Γ M k kx => it Γ M (fun items G M1 => Lc items G tg test elt vs Γ M1 fun acc M2 => ∀ a, k (.hdl a) ((a, .lst acc) :: M2)) kx
/-- the test of a comprehension in every block -/
inductive CIf (X : Cx) (scope : Scope) : List Expr → Option WpT → Prop
  | none : CIf X scope [] none
  | some {c : Expr} {t : WpT} (h : Blk X scope fun Y => CT Y c t) : CIf X scope [c] (some t)
variable {scope : Scope} {own : List (Str × Nat)} {iter : Expr} {wi' : WpI} {g : WpG} {test : Option WpT}
theorem lcok_of {k : KD} {n : Nat} {it : Nat → D → Prop} {G : Ms → Prop} {M1 : Ms} {items : List D} (ht : Blk X scope fun Y => CGc Y tg (own.map (·.2)) g) (hif : CIf X scope ifs test) (he : Blk X scope fun Y => CE Y elt we) (e1 : items.length = n) (e2 : ∀ i d, it i d → items[i]? = some d)
    (h : Lc items G g test we (own.map (·.2)) Γ M1 fun acc M2 => k (.lst acc) M2) : LcOk X Γ tg elt ifs scope (own.map (·.2)) k n it G M1 := by
  obtain ⟨P, p0, pG, pt, pd⟩ := h
  subst e1
  refine ⟨P, p0, pG, fun i d acc M2 hi hd hP s H C cl fp => CG.mono ((ht s H C cl fp).run (wipeK_eq (pt i d acc M2 (e2 i d hd) hP))) fun Γ3 z s H C cl fp => ?_, pd⟩
  cases hif with
  | none => exact gts_nil ⟨fun _ s H C cl fp => GE.mono ((he s H C cl fp).run z) (fun _ _ q => ⟨q.h, q.g⟩) fun _ _ _ z => z, fun z => nomatch z⟩
  | some hc => exact gts_one (GT.mono ((hc s H C cl fp).run z) (fun b M3 q => ⟨fun e s H C cl fp => GE.mono ((he s H C cl fp).run (q.t e)) (fun _ _ q => ⟨q.h, q.g⟩) fun _ _ _ z => z, fun e => q.f e⟩) fun _ _ _ z => z)
theorem lcokM_of {k : KD} {n : Nat} {it : Nat → D → Prop} {G : Ms → Prop} {M1 : Ms} {items : List D} (ht : Blk X scope fun Y => CGc Y tg (own.map (·.2)) g) (hif : CIf X scope ifs test) (he : Blk X scope fun Y => CE Y elt we) (e1 : items.length = n) (e2 : ∀ i d, it i d → items[i]? = some d)
    (h : Lc items G g test we (own.map (·.2)) Γ M1 fun acc M2 => ∀ a, k (.hdl a) ((a, .lst acc) :: M2)) : LcOkM X Γ tg elt ifs scope (own.map (·.2)) (fun d M1 => ∃ M2, M1.Perm M2 ∧ k d M2) n it G M1 := by
  obtain ⟨P, p0, pG, pt, pd⟩ := h
  subst e1
  refine ⟨P, p0, pG, fun i d acc M2 hi hd hP s H C cl fp => CG.mono ((ht s H C cl fp).run (wipeK_eq (pt i d acc M2 (e2 i d hd) hP))) fun Γ3 z s H C cl fp => ?_, fun acc M2 hP a => ⟨_, fr1, pd acc M2 hP a⟩⟩
  cases hif with
  | none => exact gts_nil ⟨fun _ s H C cl fp => GE.mono ((he s H C cl fp).run z) (fun _ _ q => ⟨q.h, q.g⟩) fun _ _ _ z => z, fun z => nomatch z⟩
  | some hc => exact gts_one (GT.mono ((hc s H C cl fp).run z) (fun b M3 q => ⟨fun e s H C cl fp => GE.mono ((he s H C cl fp).run (q.t e)) (fun _ _ q => ⟨q.h, q.g⟩) fun _ _ _ z => z, fun e => q.f e⟩) fun _ _ _ z => z)
theorem CE.lc (own : List (Str × Nat)) (hc : X.calm = true) (hN : X.N.Nodup) (ok : BlkOk X.N X.env.scope scope own) (hi : Ki X tg iter wi') (ht : Blk X scope fun Y => CGc Y tg (own.map (·.2)) g) (hif : CIf X scope ifs test) (he : Blk X scope fun Y => CE Y elt we)
    (hs : ∀ x, foldedSetIterable iter X.env x = pure x := by intro _; rfl) : CE X (.ListComp elt [⟨tg, iter, ifs, 0⟩] scope pos) (wLc wi' g test we (own.map (·.2))) :=
  ⟨fun q => ge_lc own hc hN ok (GI.mono (hi.run q) (fun n it G M1 ⟨items, e1, e2, h⟩ => lcok_of ht hif he e1 e2 h) fun _ _ _ z => z) hs⟩
theorem CE.lcM (own : List (Str × Nat)) (hc : X.calm = true) (hN : X.N.Nodup) (ok : BlkOk X.N X.env.scope scope own) (hi : Ki X tg iter wi') (ht : Blk X scope fun Y => CGc Y tg (own.map (·.2)) g) (hif : CIf X scope ifs test) (he : Blk X scope fun Y => CE Y elt we)
    (hs : ∀ x, foldedSetIterable iter X.env x = pure x := by intro _; rfl) : CE X (.ListComp elt [⟨tg, iter, ifs, 0⟩] scope pos) (wLcM wi' g test we (own.map (·.2))) :=
  ⟨fun q => ge_perm (ge_lcM own hc hN ok (GI.mono (hi.run q) (fun n it G M1 ⟨items, e1, e2, h⟩ => lcokM_of ht hif he e1 e2 h) fun _ _ _ z => z) hs)⟩
theorem CS.setLc (j : Nat) (own : List (Str × Nat)) {y : Str} {py : Pos} (hc : X.calm = true) (hN : X.N.Nodup) (ok : BlkOk X.N X.env.scope scope own) (hi : Ki X tg iter wi') (ht : Blk X scope fun Y => CGc Y tg (own.map (·.2)) g) (hif : CIf X scope ifs test) (he : Blk X scope fun Y => CE Y elt we)
    (hsw : swapsWith (.ListComp elt [⟨tg, iter, ifs, 0⟩] scope pos) (some (.Name y py)) p.line X.env = pure true)
    (hy : X.N[j]? = some y := by rfl) (hyl : X.env.scope.names.lookup y = some .local := by rfl) (hs : ∀ x, foldedSetIterable iter X.env x = pure x := by intro _; rfl) : CS X (.Assign [.Name y py] (.ListComp elt [⟨tg, iter, ifs, 0⟩] scope pos) p) (wSet j (wLc wi' g test we (own.map (·.2)))) :=
  ⟨fun {Γ M E} q => gs_lc j own hc hN ok (GI.mono (hi.run q) (fun n it G M1 ⟨items, e1, e2, h⟩ => lcok_of (k := fun d M1 => E.nx (Γ.set j (some d)) M1) ht hif he e1 e2 (h.mono fun _ _ q => setK_eq q)) fun _ _ _ z => z) hsw hy hyl hs⟩
theorem CS.setLcM (j : Nat) (own : List (Str × Nat)) {y : Str} {py : Pos} (hc : X.calm = true) (hN : X.N.Nodup) (ok : BlkOk X.N X.env.scope scope own) (hi : Ki X tg iter wi') (ht : Blk X scope fun Y => CGc Y tg (own.map (·.2)) g) (hif : CIf X scope ifs test) (he : Blk X scope fun Y => CE Y elt we)
    (hsw : swapsWith (.ListComp elt [⟨tg, iter, ifs, 0⟩] scope pos) (some (.Name y py)) p.line X.env = pure true)
    (hy : X.N[j]? = some y := by rfl) (hyl : X.env.scope.names.lookup y = some .local := by rfl) (hs : ∀ x, foldedSetIterable iter X.env x = pure x := by intro _; rfl) : CS X (.Assign [.Name y py] (.ListComp elt [⟨tg, iter, ifs, 0⟩] scope pos) p) (wSet j (wLcM wi' g test we (own.map (·.2)))) :=
  ⟨fun {Γ M E} q => GS.permN (gs_lcM j own hc hN ok (GI.mono (hi.run q) (fun n it G M1 ⟨items, e1, e2, h⟩ => lcokM_of (k := fun d M1 => E.nx (Γ.set j (some d)) M1) ht hif he e1 e2 (h.mono fun _ _ q a => setK_eq (q a))) fun _ _ _ z => z) hsw hy hyl hs)⟩
end
/-! ### dicts written out, pop -/
section
variable {X : Cx} {e o : Expr} {pos p apos : Pos} {wa wo : WpE}
/-- a dict written out: its pairs' readings -/
def wPairs : List (WpE × WpE) → En → Ms → (List (D × D) → Ms → Prop) → KX → Prop
  | [], _, M, k, _ => k [] M
  | (a, b) :: r, Γ, M, k, kx => a Γ M (fun x M1 => b Γ M1 (fun y M2 => wPairs r Γ M2 (fun ps M3 => k ((x, y) :: ps) M3) kx) kx) kx
inductive CPs (X : Cx) : List (Expr × Expr) → List (WpE × WpE) → Prop
  | nil : CPs X [] []
  | cons {a b : Expr} {wa wb : WpE} {r : List (Expr × Expr)} {wr : List (WpE × WpE)} (ha : CE X a wa) (hb : CE X b wb) (hr : CPs X r wr) : CPs X ((a, b) :: r) ((wa, wb) :: wr)
theorem gps_mono {Γ : En} {kx : KX} : ∀ {ps : List (Expr × Expr)} {M : Ms} {k k' : List (D × D) → Ms → Prop}, GPs X Γ kx ps M k → (∀ d M', k d M' → k' d M') → GPs X Γ kx ps M k'
  | [], _, _, _, h, hk => hk _ _ h
  | (a, b) :: r, _, _, _, h, hk => GE.mono h (fun _ _ h1 => GE.mono h1 (fun _ _ h2 => gps_mono (ps := r) h2 fun _ _ z => hk _ _ z) fun _ _ _ z => z) fun _ _ _ z => z
theorem CPs.run {ps : List (Expr × Expr)} {ws : List (WpE × WpE)} (c : CPs X ps ws) : ∀ {Γ : En} {M : Ms} {k : List (D × D) → Ms → Prop} {kx : KX}, wPairs ws Γ M k kx → GPs X Γ kx ps M k := by
  induction c with
  | nil => intro Γ M k kx h; exact h
  | cons ha hb hr ih => intro Γ M k kx h; exact GE.mono (ha.run h) (fun _ _ h1 => GE.mono (hb.run h1) (fun _ _ h2 => ih h2) fun _ _ _ z => z) fun _ _ _ z => z
/-- the pairs as keys and values -/
inductive AsK (ds : List (D × D)) (f : List Key → List D → Prop) : Prop
  | mk (qs : List (Key × D)) (e : ds = qs.map fun q => (kD q.1, q.2)) (nd : (qs.map (·.1)).Nodup) (g : f (qs.map (·.1)) (qs.map (·.2)))
def wDisp (ws : List (WpE × WpE)) : WpE := fun Γ M k kx => ∀ p, wPairs ws Γ ((p, .dct [] []) :: M) (fun ds M1 => ∃ j : Nat, Sd (M1[j]? = some (p, .dct [] [])) (AsK ds fun ks vs => setM M1 j (p, .dct ks vs) fun M2 => k (.hdl p) M2)) kx
theorem gps_len {Γ : En} {kx : KX} : ∀ {ps : List (Expr × Expr)} {M : Ms} {k : List (D × D) → Ms → Prop}, GPs X Γ kx ps M k → GPs X Γ kx ps M fun ds M1 => ds.length = ps.length ∧ k ds M1
  | [], _, _, h => ⟨rfl, h⟩
  | (a, b) :: r, _, _, h => GE.mono h (fun _ _ h1 => GE.mono h1 (fun _ _ h2 => gps_mono (gps_len (ps := r) h2) fun _ _ z => ⟨by rw [List.length_cons, z.1]; rfl, z.2⟩) fun _ _ _ z => z) fun _ _ _ z => z
theorem GPs.perm {Γ : En} {kx : KX} {ps : List (Expr × Expr)} {M M' : Ms} {k : List (D × D) → Ms → Prop} (h0 : ps ≠ []) (p : M.Perm M') (h : GPs X Γ kx ps M' k) : GPs X Γ kx ps M k := by
  cases ps with
  | nil => exact absurd rfl h0
  | cons q r =>
    intro S σ hM hE W tk hW Q hQ
    obtain ⟨a, b⟩ := perm_m hM p
    exact h ⟨M'.map (·.1), S.Z, S.H⟩ σ a (hE.grow (b S (Grow.refl _))) W tk (hW.grow (b S (Grow.refl _))) Q (KV.grow hQ (b S (Grow.refl _)))
theorem CPs.len {ps : List (Expr × Expr)} {ws : List (WpE × WpE)} (c : CPs X ps ws) : ws.length = ps.length := by
  induction c with
  | nil => rfl
  | cons _ _ _ ih => simp [ih]
theorem CE.disp {keys : List (Option Expr)} {values : List Expr} {ws : List (WpE × WpE)} (ps : List (Expr × Expr)) (c : CPs X ps ws) (ek : keys = ps.map (fun p => some p.1) := by rfl) (ev : values = ps.map (·.2) := by rfl) (h0 : ps ≠ [] := by simp) (h15 : ps.length ≤ 15 := by simp) : CE X (.Dict keys values pos) (wDisp ws) :=
  ⟨fun h => ge_disp ps ek ev h0 h15 fun p => GPs.perm h0 fr1 (gps_mono (gps_len (c.run (h p))) fun ds M1 ⟨hl, j, e1, qs, e2, nd, g⟩ => ⟨j, qs, e1, e2, by rw [e2, List.length_map] at hl; omega, nd, setM_eq.mp g⟩)⟩
def wPopAt (o a : WpE) : WpE := fun Γ M k kx => o Γ M (fun x M1 => match x with
  | .hdl h => HL M1 h fun _ _ => a Γ M1 (fun y M2 => match y with
    | .int n => HL M2 h fun q ds => ∃ (j : Nat) (d : D), Sd (n = (j : Int) ∧ j < 16777216 ∧ ds[j]? = some d) (setM M2 q (h, .lst (ds.eraseIdx j)) fun M3 => k d M3)
    | _ => False) kx
  | _ => False) kx
theorem CE.popAt (ho : CE X o wo) (ha : CE X e wa) (hbase : attributeBase o "pop" X.env (eval o X.env) = eval o X.env := by rfl)
    (hfew : ((backTo p (starEach [e] X.env)).all (fun x => !x.1) && (backToKw p (keywordEach [] X.env)).all (fun x => x.1.isSome) && decide ([e].length + ([] : List Keyword).length + (if ([] : List Keyword).isEmpty then 0 else 1) < 30)) = true := by rfl)
    (hline : (apos.endLine == p.line) = true := by rfl) (hs : starEach [e] X.env = (false, eval e X.env) :: starEach [] X.env := by rfl) (hplain : (backTo p (starEach [] X.env)).any (·.1) = false := by rfl) : CE X (.Call (.Attribute o "pop" apos) [e] [] p) (wPopAt wo wa) :=
  ⟨fun q => ge_popAt (GE.mono (ho.run q) (fun x M1 q1 => by
    cases x <;> first | exact q1.elim | (obtain ⟨p1, ds1, e1, g1⟩ := q1; exact ⟨⟨p1, _, ds1, rfl, e1⟩, GE.mono (ha.run g1) (fun y M2 q2 => by
      cases y <;> first | exact q2.elim | (obtain ⟨p2, ds2, e2, j, d, ⟨ej, h9, hd⟩, g2⟩ := q2; subst ej; exact ⟨p2, _, ds2, j, j, d, rfl, e2, rfl, rfl, h9, hd, setM_eq.mp g2⟩)) fun _ _ _ z => z⟩)) fun _ _ _ z => z) hbase hfew hline hs hplain⟩
end
/-! ### defs -/
abbrev endE (k : KD) (kx : KX) : ED := { nx := fun _ M' => k .non M', rt := k, ex := fun c f _ M' => kx c f M' }
/-- the reading keeps the spec -/
def VOk (w : WpS) (n : Nat) (R : RSp) : Prop := ∀ ds M k kx, R ds M k kx → startK n ds fun Γ => w Γ M (endE k kx)
theorem fn_wp {P : Program} {w : World} {K : PySem.W.Frag} {mg : Str → Option Value} {base : Heap} {x qual : Str} {st : Stmt} {f : Addr} {fd : FuncData} {N ps : List Str} {j : Nat} {R : RSp} {ww : WpS} (F : Fun K x qual st f fd) (sc : FnScope N ps (defScope st))
    (len : ∀ ds M k kx, R ds M k kx → ds.length = ps.length)
    (hc : ∀ (cdv : Value) (A : Around) (outer : List Env) (s : Shared) (H : Hp) (E : XK), Room j (A.deeper (PyProof.Rows.envOfC qual (defScope st) s.heap.objs.size f cdv)) → Cb (cxOf (L2.CX P w) P w K mg base N qual (defScope st) f cdv A outer s H E) (defBody st) ww)
    (hv : VOk ww N.length R) : FnOk P w K mg base (L2.CX P w) (j + 1) f fd ps (spD K R) :=
  fn_ok F sc len fun cdv A outer s H E ds M k kx hr h => (hc cdv A outer s H E hr).run (startK_eq (hv ds M k kx h))
theorem fn_wpD {P : Program} {w : World} {K : PySem.W.Frag} {mg : Str → Option Value} {base : Heap} {x qual : Str} {params : Arguments} {body : List Stmt} {scope : Scope} {dvs : List V} {kws : List (Str × V)} {f : Addr} {fd : FuncData} {N ps : List Str} {j : Nat} {R : RSp} {ww : WpS} (F : FunD K x qual params body scope dvs kws f fd) (sc : FnScope N ps scope)
    (len : ∀ ds M k kx, R ds M k kx → ds.length = ps.length)
    (hc : ∀ (cdv : Value) (A : Around) (outer : List Env) (s : Shared) (H : Hp) (E : XK), Room j (A.deeper (PyProof.Rows.envOfC qual scope s.heap.objs.size f cdv)) → Cb (cxOf (L2.CX P w) P w K mg base N qual scope f cdv A outer s H E) body ww)
    (hv : VOk ww N.length R) : FnOk P w K mg base (L2.CX P w) (j + 1) f fd ps (spD K R) :=
  fn_okD F sc len fun cdv A outer s H E ds M k kx hr h => (hc cdv A outer s H E hr).run (startK_eq (hv ds M k kx h))
end PD

set_option Elab.async false
set_option linter.all false
set_option maxRecDepth 100000
set_option maxHeartbeats 4000000
/-! PW: max/min of a list, index in a list of texts. -/
namespace PD
open PySem L2
open Evl (Ex ex_rd ex_l ex_t)
section
variable {K : PySem.W.Frag} {x y : D} {M : Ms} {k : KD} {ds : List D}
theorem maxl_lst {ns : List Int} (e : ds = ns.map D.int) (h0 : 0 < ns.length) (hk : ∀ m, m ∈ ns → (∀ y, y ∈ ns → y ≤ m) → k (.int m) M) : CallD K (rMax K) [.lst ds] M k := fun S vs hM rv Q hQ => by
  subst e
  obtain ⟨v, rfl, a, xs, rfl, h, r⟩ := rep1 rv
  rw [repInt r] at h
  exact ⟨a, ns, rfl, SqL.of (hM.zh _ _ h), h0, fun m h1 h2 => hQ _ M S _ (hk m h1 h2) hM (Grow.refl _) rfl⟩
theorem maxl_hdl {ns : List Int} {p : Nat} {h : Addr} (e : ds = ns.map D.int) (hm : M[p]? = some (h, .lst ds)) (h0 : 0 < ns.length) (hk : ∀ m, m ∈ ns → (∀ y, y ∈ ns → y ≤ m) → k (.int m) M) : CallD K (rMax K) [.hdl h] M k := fun S vs hM rv Q hQ => by
  subst e
  obtain ⟨v, rfl, rfl⟩ := rep1 rv
  obtain ⟨_, xs, hh, r⟩ := hM.at hm
  rw [repInt r] at hh
  exact ⟨_, ns, rfl, SqL.of hh, h0, fun m h1 h2 => hQ _ M S _ (hk m h1 h2) hM (Grow.refl _) rfl⟩
theorem minl_lst {ns : List Int} (e : ds = ns.map D.int) (h0 : 0 < ns.length) (hk : ∀ m, m ∈ ns → (∀ y, y ∈ ns → m ≤ y) → k (.int m) M) : CallD K (rMin K) [.lst ds] M k := fun S vs hM rv Q hQ => by
  subst e
  obtain ⟨v, rfl, a, xs, rfl, h, r⟩ := rep1 rv
  rw [repInt r] at h
  exact ⟨a, ns, rfl, SqL.of (hM.zh _ _ h), h0, fun m h1 h2 => hQ _ M S _ (hk m h1 h2) hM (Grow.refl _) rfl⟩
theorem minl_hdl {ns : List Int} {p : Nat} {h : Addr} (e : ds = ns.map D.int) (hm : M[p]? = some (h, .lst ds)) (h0 : 0 < ns.length) (hk : ∀ m, m ∈ ns → (∀ y, y ∈ ns → m ≤ y) → k (.int m) M) : CallD K (rMin K) [.hdl h] M k := fun S vs hM rv Q hQ => by
  subst e
  obtain ⟨v, rfl, rfl⟩ := rep1 rv
  obtain ⟨_, xs, hh, r⟩ := hM.at hm
  rw [repInt r] at hh
  exact ⟨_, ns, rfl, SqL.of hh, h0, fun m h1 h2 => hQ _ M S _ (hk m h1 h2) hM (Grow.refl _) rfl⟩
end
def oMaxL : D → Ms → KD → Prop
  | .lst ds, M, k => ∃ ns : List Int, Sd (ds = ns.map D.int ∧ 0 < ns.length) (∀ m, m ∈ ns → (∀ y, y ∈ ns → y ≤ m) → k (.int m) M)
  | .hdl h, M, k => HL M h fun _ ds => ∃ ns : List Int, Sd (ds = ns.map D.int ∧ 0 < ns.length) (∀ m, m ∈ ns → (∀ y, y ∈ ns → y ≤ m) → k (.int m) M)
  | _, _, _ => False
def oMinL : D → Ms → KD → Prop
  | .lst ds, M, k => ∃ ns : List Int, Sd (ds = ns.map D.int ∧ 0 < ns.length) (∀ m, m ∈ ns → (∀ y, y ∈ ns → m ≤ y) → k (.int m) M)
  | .hdl h, M, k => HL M h fun _ ds => ∃ ns : List Int, Sd (ds = ns.map D.int ∧ 0 < ns.length) (∀ m, m ∈ ns → (∀ y, y ∈ ns → m ≤ y) → k (.int m) M)
  | _, _, _ => False
section
variable {K : PySem.W.Frag} {x y : D} {M : Ms} {k : KD}
theorem oMaxL_ok (h : oMaxL x M k) : CallD K (rMax K) [x] M k := by
  cases x <;> first | exact h.elim | (obtain ⟨ns, ⟨e, h0⟩, g⟩ := h; exact maxl_lst e h0 g) | (obtain ⟨p, ds, e, ns, ⟨e2, h0⟩, g⟩ := h; exact maxl_hdl e2 e h0 g)
theorem oMinL_ok (h : oMinL x M k) : CallD K (rMin K) [x] M k := by
  cases x <;> first | exact h.elim | (obtain ⟨ns, ⟨e, h0⟩, g⟩ := h; exact minl_lst e h0 g) | (obtain ⟨p, ds, e, ns, ⟨e2, h0⟩, g⟩ := h; exact minl_hdl e2 e h0 g)
end
/-! xs.index(s) of texts -/
def wIdx (o a : WpE) : WpE := fun Γ M k kx => o Γ M (fun x M1 => match x with
  | .lst ds => a Γ M1 (fun y M2 => match y with
    | .str s => ∃ (ys : List Str) (j : Nat), Sd (ds = ys.map D.str ∧ ys[j]? = some s ∧ ∀ m, m < j → ys[m]? ≠ some s) (k (.int (j : Nat)) M2)
    | _ => False) kx
  | _ => False) kx
theorem eqV_str (a b : Str) : eqV (.str a) (.str b) = decide (a = b) := rfl
theorem CE.idx {X : Cx} {o e : Expr} {wo wa : WpE} {p apos : Pos} (ho : CE X o wo) (ha : CE X e wa) (hbase : attributeBase o "index" X.env (eval o X.env) = eval o X.env := by rfl)
    (hfew : ((backTo p (starEach [e] X.env)).all (fun x => !x.1) && (backToKw p (keywordEach [] X.env)).all (fun x => x.1.isSome) && decide ([e].length + ([] : List Keyword).length + (if ([] : List Keyword).isEmpty then 0 else 1) < 30)) = true := by rfl)
    (hline : (apos.endLine == p.line) = true := by rfl) (hs : starEach [e] X.env = (false, eval e X.env) :: starEach [] X.env := by rfl) (hplain : (backTo p (starEach [] X.env)).any (·.1) = false := by rfl) : CE X (.Call (.Attribute o "index" apos) [e] [] p) (wIdx wo wa) :=
  ⟨fun q => ge_bm PySem.F.plainAttrs_list PySem.F.slot_list_index PySem.F.type_list_index mt_index (GE.mono (ho.run q) (fun x M1 q1 => by
    cases x <;> first | exact q1.elim | (refine ⟨fun S v hM r => ?_, ga_cons (GE.mono (ha.run q1) (fun y M2 q2 => ga_nil ?_) fun _ _ _ z => z) hs⟩
                                         · obtain ⟨a, xs, rfl, h, _⟩ := r
                                           exact .inl ⟨rfl, _, SqL.of (hM.zh _ _ h)⟩
                                         · cases y <;> first | exact q2.elim | (obtain ⟨ys, j, ⟨e, hj, hno⟩, g⟩ := q2
                                                                                intro S vx vs hM rx rv Q hQ
                                                                                obtain ⟨v, rfl, rfl⟩ := rep1 rv
                                                                                obtain ⟨a, xs, rfl, h, r⟩ := rx
                                                                                subst e
                                                                                rw [repStr r] at h
                                                                                refine ⟨a, ys.map V.str, _, j, .str _, rfl, rfl, SqL.of (hM.zh _ _ h), rfl, by simp [flatV], by rw [List.getElem?_map, hj]; rfl, by simp [eqV], fun m z hm hz => ?_, hQ _ _ S _ g hM (Grow.refl _) rfl⟩
                                                                                rw [List.getElem?_map] at hz
                                                                                cases hy : ys[m]? with
                                                                                | none => rw [hy] at hz; cases hz
                                                                                | some t =>
                                                                                  rw [hy] at hz
                                                                                  cases hz
                                                                                  have : t ≠ _ := fun e => hno m hm (by rw [hy, e])
                                                                                  simpa [eqV] using this))) fun _ _ _ z => z) hbase hfew hline hs hplain⟩
end PD

set_option Elab.async false
set_option linter.all false
set_option maxRecDepth 100000
set_option maxHeartbeats 4000000
/-! PW: lists inside lists change no more. -/
namespace PD
open PySem L2
open Evl (Ex ex_rd ex_l ex_t)
theorem RepL.updAt {K : PySem.W.Frag} {S : Sg} {d d' : D} (h : ∀ v, Rep K S d v → Rep K S d' v) : ∀ {P R : List D} {xs : List V}, RepL K S (P ++ d :: R) xs → RepL K S (P ++ d' :: R) xs
  | [], R, _, r => by obtain ⟨x, q, rfl, h1, h2⟩ := r; exact .cons (h x h1) h2
  | p :: P, R, _, r => by obtain ⟨x, q, rfl, h1, h2⟩ := r; exact .cons h1 (RepL.updAt h h2)
theorem OkM.cont {K : PySem.W.Frag} {S : Sg} {a : Addr} {ds ds' : List D} {M : Ms} (hM : OkM K S ((a, .lst ds) :: M)) (h : ∀ xs, RepL K S ds xs → RepL K S ds' xs) : OkM K S ((a, .lst ds') :: M) :=
  ⟨hM.len, hM.nd, hM.zh, fun p hp => by
    rcases List.mem_cons.mp hp with e | hp
    · subst e
      obtain ⟨hz, xs, hh, r⟩ := hM.mo (a, .lst ds) List.mem_cons_self
      exact ⟨hz, xs, hh, h xs r⟩
    · exact hM.mo p (List.mem_cons_of_mem _ hp), hM.dom⟩
theorem tup_upd {K : PySem.W.Frag} {S : Sg} {ds ds' : List D} (h : ∀ xs, RepL K S ds xs → RepL K S ds' xs) : ∀ v, Rep K S (.tup ds) v → Rep K S (.tup ds') v := fun v r => by
  obtain ⟨a, xs, rfl, q, r⟩ := r
  exact ⟨a, xs, rfl, q, h xs r⟩
theorem hdl_upd {K : PySem.W.Frag} {S : Sg} {a : Addr} {ds : List D} {xs : List V} (hz : S.Z a = some (.lst xs)) (r : RepL K S ds xs) : ∀ v, Rep K S (.hdl a) v → Rep K S (.lst ds) v := fun v e => by
  cases e
  exact ⟨a, xs, rfl, hz, r⟩
end PD

set_option Elab.async false
set_option linter.all false
set_option maxRecDepth 100000
set_option maxHeartbeats 4000000
/-! PW: how often a text stands in a list. -/
namespace PD
open PySem L2
open Evl (Ex ex_rd ex_l ex_t)
def rTally (K : PySem.W.Frag) : V → List V → Hp → VK → Prop := fun x xs H Q => ∃ (p : Addr) (ys : List Str) (z : Str), x = .ref p ∧ xs = [.str z] ∧ SqL K H p (ys.map V.str) ∧ Q (.int (ys.count z : Nat)) H
theorem flat_strs (ys : List Str) : (ys.map V.str).all flatV = true := by
  rw [List.all_eq_true]
  intro x hx
  obtain ⟨y, _, rfl⟩ := List.mem_map.mp hx
  rfl
theorem tally_eq {z : Str} : ∀ {ys : List Str} {us : List Value}, Vals (ys.map V.str) us → us.countP (eqU (.str z)) = ys.count z
  | [], _, r => by cases r; rfl
  | y :: ys, _, r => by
    cases r with
    | cons h t =>
      rw [List.countP_cons, List.count_cons, tally_eq t, eqU_of h rfl, eqV_str]
      rfl
theorem mt_tally {X : Cx} : MtR X "list.count" (rTally X.K) := fun pins s σ H x xs v us Q I rx rxs ⟨p, ys, z, ex, exs, hs, q⟩ => by
  subst ex exs
  cases rx
  obtain ⟨u, rfl, hu⟩ := rxs.one
  obtain ⟨vs, hv, hl, _⟩ := I.list hs
  obtain ⟨ob, m, hp, hcl, hdi, hda⟩ := hl
  cases ob with
  | mk c d da sl =>
    cases hcl
    cases hda
    have main := SeqAt.list_countAt p vs.toArray m d sl u (eqU (.str z))
    refine call_meets PySem.F.slot_list_count ⟨_, hp, rfl⟩ PySem.F.entry_list_count (PySem.F.args_list_count_2 _ _) main ⟨hp, fun w hw => mem_eqAt hu rfl hv (flat_strs ys) w (by simpa using hw), .int (ys.count z : Nat), H, I.tok _, ⟨s.toks, ?_⟩, q⟩
    show Value.int ((vs.toArray.toList.countP (eqU (.str z)) : Nat) : Int) s.toks = _
    rw [show vs.toArray.toList.countP (eqU (.str z)) = ys.count z from tally_eq hv]
/-! xs.count(z) -/
def wTally (o a : WpE) : WpE := fun Γ M k kx => o Γ M (fun x M1 => match x with
  | .lst ds => a Γ M1 (fun y M2 => match y with
    | .str s => ∃ ys : List Str, Sd (ds = ys.map D.str) (k (.int (ys.count s : Nat)) M2)
    | _ => False) kx
  | _ => False) kx
theorem CE.tally {X : Cx} {o e : Expr} {wo wa : WpE} {p apos : Pos} (ho : CE X o wo) (ha : CE X e wa) (hbase : attributeBase o "count" X.env (eval o X.env) = eval o X.env := by rfl)
    (hfew : ((backTo p (starEach [e] X.env)).all (fun x => !x.1) && (backToKw p (keywordEach [] X.env)).all (fun x => x.1.isSome) && decide ([e].length + ([] : List Keyword).length + (if ([] : List Keyword).isEmpty then 0 else 1) < 30)) = true := by rfl)
    (hline : (apos.endLine == p.line) = true := by rfl) (hs : starEach [e] X.env = (false, eval e X.env) :: starEach [] X.env := by rfl) (hplain : (backTo p (starEach [] X.env)).any (·.1) = false := by rfl) : CE X (.Call (.Attribute o "count" apos) [e] [] p) (wTally wo wa) :=
  ⟨fun q => ge_bm PySem.F.plainAttrs_list PySem.F.slot_list_count PySem.F.type_list_count mt_tally (GE.mono (ho.run q) (fun x M1 q1 => by
    cases x <;> first | exact q1.elim | (refine ⟨fun S v hM r => ?_, ga_cons (GE.mono (ha.run q1) (fun y M2 q2 => ga_nil ?_) fun _ _ _ z => z) hs⟩
                                         · obtain ⟨a, xs, rfl, h, _⟩ := r
                                           exact .inl ⟨rfl, _, SqL.of (hM.zh _ _ h)⟩
                                         · cases y <;> first | exact q2.elim | (obtain ⟨ys, e, g⟩ := q2
                                                                                intro S vx vs hM rx rv Q hQ
                                                                                obtain ⟨v, rfl, rfl⟩ := rep1 rv
                                                                                obtain ⟨a, xs, rfl, h, r⟩ := rx
                                                                                subst e
                                                                                rw [repStr r] at h
                                                                                exact ⟨a, ys, _, rfl, rfl, SqL.of (hM.zh _ _ h), hQ _ _ S _ g hM (Grow.refl _) rfl⟩))) fun _ _ _ z => z) hbase hfew hline hs hplain⟩
end PD

set_option Elab.async false
set_option linter.all false
set_option maxRecDepth 100000
set_option maxHeartbeats 4000000
namespace W
open PySem L2 PD
local macro_rules | `(tactic| walk_at "sd") => `(tactic| first | assumption | rfl | omega | (simp; done) | (simp; omega) | (simp_all; done) | (simp_all; omega) | (split <;> (try split) <;> omega))
local macro_rules | `(tactic| walk_at "om") => `(tactic| first | omega | (simp; done) | (simp; omega) | (push_cast; omega) | (simp [merge]; done) | (simp_all; done) | (simp_all; omega))
local macro_rules | `(tactic| walk_at "no") => `(tactic| first | (intro z; cases z; done) | (intro z; exact absurd z (by decide)) | (intro z; exfalso; simp at z; done) | (intro z; exfalso; simp at z; omega) | (intro z; exfalso; simp_all; done) | (intro z; exfalso; simp_all; omega))
local macro_rules | `(tactic| walk_at "nb") => `(tactic| first | decide | (simp; done) | (simp; omega) | (simp_all; done) | (simp_all; omega))
local macro_rules | `(tactic| walk_at "mg") => `(tactic| first | rfl | assumption)
local macro_rules | `(tactic| walk_at "h") => `(tactic| try (conv => whnf))
local macro_rules | `(tactic| walk_at "sd") => `(tactic| (refine And.intro (a := _ < 4611686018427387904) ?_ ?_ <;> first | omega | (simp only [List.length_map, List.length_append, List.length_range, List.length_cons, List.length_nil]; omega)))
local macro_rules | `(tactic| walk_at "w") => `(tactic| (repeat ((try (conv => whnf)); first | (refine Sd.mk (strsD_map _) ?_) | (refine Sd.mk (by walk_at "sd") ?_) | (refine HL.mk 0 _ rfl ?_) | (refine HL.mk 1 _ rfl ?_) | (refine HL.mk 2 _ rfl ?_) | (refine HL.mk 3 _ rfl ?_) | (refine HL.mk 4 _ rfl ?_) | (refine HL.mk 5 _ rfl ?_) | (refine It1.mk 0 _ (.inl ⟨by decide, rfl, by simp⟩) rfl ?_) | (refine It1.mk 1 _ (.inl ⟨by decide, rfl, by simp⟩) rfl ?_) | (refine It1.mk 2 _ (.inl ⟨by decide, rfl, by simp⟩) rfl ?_) | (refine It1.mk 3 _ (.inl ⟨by decide, rfl, by simp⟩) rfl ?_))); try (conv => whnf))
local macro_rules | `(tactic| walk_at "b") => `(tactic| first | refine Br.mk (fun _ => ?_) (by walk_at "no") | refine Br.mk (by walk_at "no") (fun _ => ?_))
local macro_rules | `(tactic| walk_at "t") => `(tactic| refine Br.mk (fun _ => ?_) (by walk_at "no"))
local macro_rules | `(tactic| walk_at "f") => `(tactic| refine Br.mk (by walk_at "no") (fun _ => ?_))
/-! ### draws, rules, books: the data -/
structure Jar where
  a : Int
  b : Int
  c : Int
def Jar.mo (j : Jar) : MO := .lst [.int j.a, .int j.b, .int j.c]
structure Jar.Ok (j : Jar) (n : Int) : Prop where
  b0 : 0 ≤ j.b
  b1 : j.b < 10000000000000000000000000000000000000000
  c0 : 0 ≤ j.c
  c1 : j.c ≤ n
theorem Jar.Ok.mono {j : Jar} {n m : Int} (h : j.Ok n) (l : n ≤ m) : j.Ok m := ⟨h.b0, h.b1, h.c0, Int.le_trans h.c1 l⟩
def acts : List Str := ["take", "least", "last", "show", "ask"]
def doors : List Str := ["put", "look", "alter", "back", "pay", "again"]
abbrev Rule := List Str
structure OkR (r : Rule) : Prop where
  len : r.length ≤ 6
  mem : ∀ a ∈ r, a ∈ acts
def dR (r : Rule) : D := .tup (r.map D.str)
abbrev Six := List Rule
structure OkS (s : Six) : Prop where
  len : s.length = 6
  ok : ∀ r ∈ s, OkR r
def dS (s : Six) : D := .tup (s.map dR)
theorem acts_lay : ∀ a ∈ acts, PyData.canLay0 (.str a) = true := by decide +kernel
theorem dR_sm {r : Rule} (h : OkR r) : sm 1 (dR r) = true := by
  unfold dR
  simp only [sm]
  rw [sms_iff]
  intro d hd
  obtain ⟨a, ha, rfl⟩ := List.mem_map.mp hd
  simpa [sm] using acts_lay a (h.mem a ha)
theorem dS_sm {s : Six} (h : ∀ r ∈ s, OkR r) : sm 2 (dS s) = true := by
  unfold dS
  simp only [sm]
  rw [sms_iff]
  intro d hd
  obtain ⟨r, hr, rfl⟩ := List.mem_map.mp hd
  exact dR_sm (h r hr)
theorem eqv_strs : ∀ r q : List Str, PyData.eqvAll (pys (r.map D.str)) (pys (q.map D.str)) = decide (r = q)
  | [], [] => rfl
  | [], _ :: _ => rfl
  | _ :: _, [] => rfl
  | a :: r, b :: q => by
    simp only [List.map_cons, pys, PyData.eqvAll, py, PyData.eqv, eqv_strs r q]
    by_cases h : a = b <;> by_cases h2 : r = q <;> simp [h, h2]
theorem eqv_R (r q : Rule) : PyData.eqv (py (dR r)) (py (dR q)) = decide (r = q) := by
  unfold dR
  simp only [py, PyData.eqv, eqv_strs]
theorem eqv_Rs : ∀ s t : Six, PyData.eqvAll (pys (s.map dR)) (pys (t.map dR)) = decide (s = t)
  | [], [] => rfl
  | [], _ :: _ => rfl
  | _ :: _, [] => rfl
  | a :: r, b :: q => by
    simp only [List.map_cons, pys, PyData.eqvAll, eqv_R, eqv_Rs r q]
    by_cases h : a = b <;> by_cases h2 : r = q <;> simp [h, h2]
theorem eqv_S (s t : Six) : PyData.eqv (py (dS s)) (py (dS t)) = decide (s = t) := by
  unfold dS
  simp only [py, PyData.eqv, eqv_Rs]
/-- a value is an action, is a rule -/
def isAct : D → Bool | .str s => decide (s ∈ acts) | _ => false
def isRule : D → Bool | .tup ds => decide (ds.length ≤ 6) && ds.all isAct | _ => false
/-- what is_rule can be asked -/
def knR (d : D) : Bool := kn d && match d with | .tup ds => ds.all kn | _ => true
theorem isRule_dR {r : Rule} (h : OkR r) : isRule (dR r) = true := by
  unfold dR isRule
  simp only [List.length_map, Bool.and_eq_true, decide_eq_true_eq, List.all_eq_true]
  refine ⟨h.len, fun d hd => ?_⟩
  obtain ⟨a, ha, rfl⟩ := List.mem_map.mp hd
  simpa [isAct] using h.mem a ha
theorem knR_dR (r : Rule) : knR (dR r) = true := by
  unfold dR knR
  simp only [Bool.and_eq_true, List.all_eq_true]
  refine ⟨rfl, fun d hd => ?_⟩
  obtain ⟨a, ha, rfl⟩ := List.mem_map.mp hd
  rfl
def isDoor : D → Bool | .str s => decide (s ∈ doors) | _ => false
theorem any_strs : ∀ (l : List Str) (s : Str), (l.map D.str).any (isS s) = decide (s ∈ l)
  | [], s => by simp
  | t :: l, s => by
    simp only [List.map_cons, List.any_cons, any_strs l s, isS, List.mem_cons]
    by_cases h : t = s
    · simp [h]
    · have : s ≠ t := fun e => h e.symm
      by_cases h2 : s ∈ l <;> simp [h, this, h2]
theorem merge_nil (M : Ms) : merge [] M [] = M := by simp [merge]
def dDoors : D := .tup (doors.map D.str)
def dActs : D := .tup (acts.map D.str)
/-- a book as it stands -/
abbrev bk (C : Addr) (s : Six) : D := .ins C ["row"] [dS s]
def badAt (six : List D) : Nat := six.findIdx fun d => !isRule d
theorem rs_sm {s : Six} (h : ∀ r ∈ s, OkR r) : sm 2 (.lst (s.map dR)) = true := by
  simp only [sm]
  rw [sms_iff]
  intro d hd
  obtain ⟨r, hr, rfl⟩ := List.mem_map.mp hd
  exact dR_sm (h r hr)
theorem eqv_nilL : PyData.eqv (py (.lst [])) (py (.lst [])) = true := by simp [py, pys, PyData.eqv, PyData.eqvAll]
theorem idx_doors {s : Str} (h : s ∈ doors) : doors.idxOf s < 6 ∧ doors[doors.idxOf s]? = some s ∧ ∀ m, m < doors.idxOf s → doors[m]? ≠ some s := by
  have k : ∀ s ∈ doors, doors.idxOf s < 6 ∧ doors[doors.idxOf s]? = some s ∧ ∀ m, m < doors.idxOf s → doors[m]? ≠ some s := by decide +kernel
  exact k s h
theorem door_at {a : Nat} (h : a < 6) : ∃ dn, doors[a]? = some dn ∧ dn ∈ doors ∧ doors.idxOf dn = a := by
  have k : ∀ a < 6, ∃ dn ∈ doors, doors[a]? = some dn ∧ doors.idxOf dn = a := by decide +kernel
  obtain ⟨dn, h1, h2, h3⟩ := k a h
  exact ⟨dn, h2, h1, h3⟩
theorem isDoor_str {s : Str} (h : s ∈ doors) : isDoor (.str s) = true := by simpa [isDoor] using h
theorem isDoor_get {d : D} (h : isDoor d = true) : ∃ s, d = .str s ∧ s ∈ doors := by
  cases d <;> simp [isDoor] at h
  exact ⟨_, rfl, h⟩
theorem six_get {s : Six} (h : s.length = 6) : ∃ a b c d e f, s = [a, b, c, d, e, f] := by
  match s, h with
  | [a, b, c, d, e, f], _ => exact ⟨a, b, c, d, e, f, rfl⟩
theorem six_getD {s : List D} (h : s.length = 6) : ∃ a b c d e f, s = [a, b, c, d, e, f] := by
  match s, h with
  | [a, b, c, d, e, f], _ => exact ⟨a, b, c, d, e, f, rfl⟩
theorem okR_nil : OkR [] := ⟨by simp, by simp⟩
theorem all_rules {s : Six} (h : ∀ r ∈ s, OkR r) : (s.map dR).all isRule = true := by
  simp only [List.all_eq_true]
  intro d hd
  obtain ⟨r, hr, rfl⟩ := List.mem_map.mp hd
  exact isRule_dR (h r hr)
theorem all_knR {s : Six} : ∀ d ∈ s.map dR, knR d = true := by
  intro d hd
  obtain ⟨r, hr, rfl⟩ := List.mem_map.mp hd
  exact knR_dR r
theorem isAct_str (s : Str) : (acts.map D.str).any (isS s) = isAct (.str s) := any_strs acts s
theorem isDoor_any (s : Str) : (doors.map D.str).any (isS s) = isDoor (.str s) := any_strs doors s
theorem sub_one {α : Type} (a b : α) : List.Sublist [a] [a, b] := List.Sublist.cons₂ _ (List.nil_sublist _)
theorem mem_take_succ {α : Type} {l : List α} {i : Nat} {e d : α} (h : l[i]? = some e) (hd : d ∈ l.take (i + 1)) : d ∈ l.take i ∨ d = e := by
  rw [List.take_add_one, h] at hd
  simpa using hd
theorem first_eq {l : List D} {i j : Nat} {e e' : D} (h : l[i]? = some e) (he : isRule e = false) (ha : ∀ d ∈ l.take i, isRule d = true) (h' : l[j]? = some e') (he' : isRule e' = false) (ha' : ∀ d ∈ l.take j, isRule d = true) : i = j := by
  rcases Nat.lt_trichotomy i j with q | q | q
  · have := ha' e (List.mem_of_getElem? (i := i) (by rw [List.getElem?_take, if_pos q]; exact h))
    rw [he] at this; cases this
  · exact q
  · have := ha e' (List.mem_of_getElem? (i := j) (by rw [List.getElem?_take, if_pos q]; exact h'))
    rw [he'] at this; cases this
theorem names_at {a : Nat} {dn : Str} (h : doors[a]? = some dn) : (doors.map D.str)[a]? = some (.str dn) := by rw [List.getElem?_map, h]; rfl
theorem isTup_dR (r : Rule) : isTupD (dR r) = true := rfl
theorem isTup_dS (s : Six) : isTupD (dS s) = true := rfl
theorem eqv_S2 (s t : Six) : PyData.eqv (py (.tup (s.map dR))) (py (dS t)) = decide (s = t) := eqv_S s t
theorem six_ok {s t : Six} (h : ∀ r ∈ s, OkR r) (ht : ∀ r ∈ t, r = [] ∨ r ∈ s) : ∀ r ∈ t, OkR r := fun r hr => (ht r hr).elim (fun e => by rw [e]; exact okR_nil) (h r)
theorem le_max8 (n : Nat) : (if (if (n : Int) < 8 then (n : Int) else 8) > 1 then (if (n : Int) < 8 then (n : Int) else 8) else 1).toNat ≤ 8 := by split <;> split at * <;> omega
theorem lt_of_max {i n : Nat} (h : i < (if (if (n : Int) < 8 then (n : Int) else 8) > 1 then (if (n : Int) < 8 then (n : Int) else 8) else 1).toNat) : i < 8 := Nat.lt_of_lt_of_le h (le_max8 n)
theorem get_map {α : Type} {f : α → D} {l : List α} {i : Nat} {d : D} (h : (l.map f)[i]? = some d) : ∃ a, l[i]? = some a ∧ d = f a := by
  rw [List.getElem?_map] at h
  cases e : l[i]? with
  | none => rw [e] at h; cases h
  | some a => rw [e] at h; cases h; exact ⟨a, rfl, rfl⟩
/-! ### lines and carts: the data -/
def dO : Option Int → D | none => .non | some i => .int i
/-- a rule carried out at a line: what stays, what was seen, what was told, how often asked -/
structure LW where
  stays : Int
  seen : Option Int
  told : List Int
  times : Int
def lwF : List Str := ["stays", "seen", "told", "times"]
def lwM (C x t : Addr) (w : LW) : Ms := [(x, .ins C lwF [.int w.stays, dO w.seen, .hdl t, .int w.times]), (t, .lst (w.told.map D.int))]
def lwShow (a : Str) (w : LW) : LW := { stays := w.stays, seen := some w.stays, told := w.told ++ [w.stays], times := if a = "ask" then w.times + 1 else w.times }
def lwStep (now : Int) (w : LW) (a : Str) : LW :=
  if a = "take" then { w with stays := now }
  else if a = "least" then { w with stays := if now < w.stays then now else w.stays }
  else if a = "last" then (match w.seen with | none => w | some s => { w with stays := s })
  else if a = "show" ∨ w.seen ≠ some w.stays then lwShow a w else w
def lwRun (now : Int) (r : Rule) (w : LW) : LW := r.foldl (lwStep now) w
theorem lwStep_told (now : Int) (w : LW) (a : Str) : (lwStep now w a).told.length ≤ w.told.length + 1 := by
  unfold lwStep
  split
  · simp
  · split
    · simp
    · split
      · split <;> simp
      · split <;> simp [lwShow]
theorem lwRun_told (now : Int) : ∀ (r : Rule) (w : LW), (lwRun now r w).told.length ≤ w.told.length + r.length
  | [], w => by simp [lwRun]
  | a :: r, w => by
    have h1 := lwRun_told now r (lwStep now w a)
    have h2 := lwStep_told now w a
    have e : lwRun now (a :: r) w = lwRun now r (lwStep now w a) := rfl
    rw [e]
    simp only [List.length_cons]
    omega
theorem lwRun_succ (now : Int) {r : Rule} {i : Nat} {a : Str} (h : r[i]? = some a) (w : LW) : lwRun now (r.take (i + 1)) w = lwStep now (lwRun now (r.take i) w) a := by
  unfold lwRun
  rw [List.take_add_one, h, List.foldl_append]
  rfl
/-- a line of a cart -/
structure Ln where
  item : Str
  number : Int
  kept : Int
  shown : Option Int
  greatest : Option Int
def lnF : List Str := ["item", "number", "kept", "shown", "greatest"]
def lnMO (C : Addr) (l : Ln) : MO := .ins C lnF [.str l.item, .int l.number, .int l.kept, dO l.shown, dO l.greatest]
def gMax (g : Option Int) (a : Int) : Option Int := match g with
  | none => some a
  | some b => some (if a > b then a else b)
/-- a rule is carried out at a line -/
def lnWork (now : Int) (r : Rule) (l : Ln) : LW := lwRun now r ⟨l.kept, l.shown, [], 0⟩
def lnRun (now : Int) (r : Rule) (l : Ln) : Ln := { l with kept := (lnWork now r l).stays, shown := (lnWork now r l).seen, greatest := (lnWork now r l).told.foldl gMax l.greatest }
theorem gMax_succ {td : List Int} {i : Nat} {am : Int} (h : td[i]? = some am) (g : Option Int) : (td.take (i + 1)).foldl gMax g = gMax ((td.take i).foldl gMax g) am := by
  rw [List.take_add_one, h, List.foldl_append]
  rfl
theorem dO_raw (o : Option Int) : ∀ u, dO o ≠ .raw u := by cases o <;> intro u h <;> cases h
/-! ### items, deeds, carts: the data -/
structure OkI (s : Str) : Prop where
  lay : PyData.canLay0 (.str s) = true
  l1 : 1 ≤ s.length
  l8 : s.length ≤ 8
  ch : ∀ c ∈ s.cps.toList, 97 ≤ c ∧ c ≤ 122
inductive Dd where
  | price (i : Str) (a : Int) | put (i : Str) (n : Int) | alter (i : Str) (n : Int) | look | back | pay (b : Bool)
def dDd : Dd → D
  | .price i a => .tup [.str "price", .str i, .int a]
  | .put i n => .tup [.str "put", .str i, .int n]
  | .alter i n => .tup [.str "alter", .str i, .int n]
  | .look => .tup [.str "look"]
  | .back => .tup [.str "back"]
  | .pay b => .tup [.str "pay", .bl b]
def wordD : Dd → Str | .price _ _ => "price" | .put _ _ => "put" | .alter _ _ => "alter" | .look => "look" | .back => "back" | .pay _ => "pay"
def OkD : Dd → Prop
  | .price i a => OkI i ∧ 0 ≤ a ∧ a ≤ 1000000000000
  | .put i n => OkI i ∧ 1 ≤ n ∧ n ≤ 1000
  | .alter i n => OkI i ∧ 0 ≤ n ∧ n ≤ 1000
  | _ => True
abbrev Am := List (Str × Int)
def Am.ks (m : Am) : List Key := m.map fun p => .inr p.1
def Am.ds (m : Am) : List D := m.map fun p => .int p.2
def Am.get (m : Am) (i : Str) : Option Int := m.lookup i
def Am.put (m : Am) (i : Str) (a : Int) : Am := m.map fun p => if p.1 = i then (p.1, a) else p
theorem am_val (m : Am) (i : Str) : valK m.ks m.ds (.inr i) = (m.get i).map D.int := by
  induction m with
  | nil => rfl
  | cons p m ih =>
    obtain ⟨q, a⟩ := p
    have ih2 : valK (m.map fun p => (.inr p.1 : Key)) (m.map fun p => D.int p.2) (.inr i) = (m.lookup i).map D.int := ih
    simp only [Am.ks, Am.ds, Am.get, List.map_cons, valK, List.lookup]
    by_cases h : q = i
    · subst h; simp
    · have h2 : (i == q) = false := by simpa using fun e : i = q => h e.symm
      have h3 : ¬((.inr q : Key) = .inr i) := fun e => h (Sum.inr.inj e)
      rw [if_neg h3, h2, ih2]
theorem am_put (m : Am) (i : Str) (a : Int) : putDs m.ks m.ds (.inr i) (.int a) = (m.put i a).ds ∧ (m.put i a).ks = m.ks := by
  induction m with
  | nil => exact ⟨rfl, rfl⟩
  | cons p m ih =>
    obtain ⟨q, b⟩ := p
    obtain ⟨h1, h2⟩ := ih
    simp only [Am.ks, Am.ds, Am.put, List.map_cons, List.map_map, putDs] at h1 h2 ⊢
    rw [h1]
    by_cases h : q = i
    · subst h; simp [h2]
    · have h3 : ¬((.inr q : Key) = .inr i) := fun e => h (Sum.inr.inj e)
      simp [h, h2]
theorem am_mem {m : Am} {i : Str} {a : Int} (h : m.get i = some a) : (.inr i : Key) ∈ m.ks := by
  unfold Am.get at h
  induction m with
  | nil => cases h
  | cons p m ih =>
    obtain ⟨q, b⟩ := p
    simp only [List.lookup] at h
    by_cases e : i = q
    · subst e; simp [Am.ks]
    · have e2 : (i == q) = false := by simpa using e
      rw [e2] at h
      have := ih h
      simp only [Am.ks, List.map_cons, List.mem_cons] at this ⊢
      exact .inr this
theorem am_get_mem {m : Am} {i : Str} {a : Int} (h : m.get i = some a) : (i, a) ∈ m := by
  unfold Am.get at h
  induction m with
  | nil => cases h
  | cons p m ih =>
    obtain ⟨q, b⟩ := p
    simp only [List.lookup] at h
    by_cases e : i = q
    · subst e; simp at h; simp [h]
    · have e2 : (i == q) = false := by simpa using e
      rw [e2] at h
      exact List.mem_cons_of_mem _ (ih h)
theorem am_get_put (m : Am) (i j : Str) (a : Int) : (m.put i a).get j = if i = j then (m.get j).map fun _ => a else m.get j := by
  unfold Am.get Am.put
  induction m with
  | nil => simp
  | cons p m ih =>
    obtain ⟨q, b⟩ := p
    simp only [List.map_cons, List.lookup]
    by_cases e : q = i
    · subst e
      rw [if_pos rfl]
      by_cases f : q = j
      · subst f; simp
      · have f2 : (j == q) = false := by simpa using fun h : j = q => f h.symm
        simp only [f2, ih, if_neg f]
    · rw [if_neg e]
      by_cases f : q = j
      · subst f
        have e2 : ¬ i = q := fun h => e h.symm
        simp [e2]
      · have f2 : (j == q) = false := by simpa using fun h : j = q => f h.symm
        simp only [f2, ih]
structure Ct where
  am : Am
  failed : Bool
  spent : Int
  asked : Int
def ctF : List Str := ["design", "amounts", "rows", "is_failed", "spent", "times_asked"]
abbrev Rs := List (Addr × Ln)
def rowE (CI : Addr) (p : Addr × Ln) : Addr × MO := (p.1, lnMO CI p.2)
abbrev hd1 (p : Addr × Ln) : D := .hdl p.1
abbrev cartM (C CI x am rw : Addr) (g : D) (c : Ct) (rs : Rs) : Ms :=
  (x, .ins C ctF [g, .hdl am, .hdl rw, .bl c.failed, .int c.spent, .int c.asked]) :: (am, .dct c.am.ks c.am.ds) :: (rw, .lst (rs.map hd1)) :: rs.map (rowE CI)
theorem row_at {CI : Addr} {rs : Rs} {q : Nat} {p : Addr × Ln} (h : rs[q]? = some p) : (rs.map (rowE CI))[q]? = some (p.1, lnMO CI p.2) := by rw [List.getElem?_map, h]; rfl
theorem row_set {CI : Addr} {rs : Rs} {q : Nat} {p : Addr × Ln} {l : Ln} (h : rs[q]? = some p) : (rs.map (rowE CI)).set q (p.1, lnMO CI l) = (rs.set q (p.1, l)).map (rowE CI) ∧ (rs.set q (p.1, l)).map hd1 = rs.map hd1 := by
  refine ⟨by rw [List.map_set]; rfl, ?_⟩
  rw [List.map_set]
  refine List.ext_getElem? fun j => ?_
  rw [List.getElem?_set]
  split
  · rename_i e; subst e
    split
    · rw [List.getElem?_map, h]; rfl
    · rename_i e2; rw [List.getElem?_eq_none (by omega)]
  · rfl
def findR (i : Str) (rs : Rs) : Option Nat := rs.findIdx? fun p => decide (p.2.item = i)
def findL (i : Str) (ls : List Ln) : Option Nat := ls.findIdx? fun l => decide (l.item = i)
theorem findR_L (i : Str) (rs : Rs) : findR i rs = findL i (rs.map (·.2)) := by
  unfold findR findL
  rw [List.findIdx?_map]
  rfl
def rowD (i : Str) (rs : Rs) : D := match findR i rs with | some q => .hdl ((rs.map (·.1)).getD q 0) | none => .non
theorem findR_some {i : Str} {rs : Rs} {q : Nat} (h : findR i rs = some q) : ∃ p, rs[q]? = some p ∧ p.2.item = i := by
  unfold findR at h
  rw [List.findIdx?_eq_some_iff_getElem] at h
  obtain ⟨hl, h1, _⟩ := h
  exact ⟨rs[q], List.getElem?_eq_getElem hl, by simpa using h1⟩
theorem findR_first {i : Str} {rs : Rs} {q : Nat} {p : Addr × Ln} (h : rs[q]? = some p) (e : p.2.item = i) (n : ∀ z ∈ rs.take q, z.2.item ≠ i) : rowD i rs = .hdl p.1 := by
  have hl := (List.getElem?_eq_some_iff.mp h).1
  have : findR i rs = some q := by
    unfold findR
    rw [List.findIdx?_eq_some_iff_getElem]
    refine ⟨hl, ?_, fun j hj => ?_⟩
    · rw [(List.getElem?_eq_some_iff.mp h).2]; simpa using e
    · have := n rs[j] (List.mem_of_getElem? (i := j) (by rw [List.getElem?_take, if_pos hj]; exact List.getElem?_eq_getElem (by omega)))
      simpa using this
  unfold rowD
  rw [this]
  show D.hdl ((rs.map (·.1)).getD q 0) = _
  rw [List.getD_eq_getElem?_getD, List.getElem?_map, h]
  rfl
theorem findR_none {i : Str} {rs : Rs} (n : ∀ z ∈ rs, z.2.item ≠ i) : findR i rs = none := by
  unfold findR
  rw [List.findIdx?_eq_none_iff]
  intro x hx
  simpa using n x hx
theorem rowD_none {i : Str} {rs : Rs} (n : ∀ z ∈ rs, z.2.item ≠ i) : rowD i rs = .non := by unfold rowD; rw [findR_none n]
theorem rowD_some {i : Str} {rs : Rs} {q : Nat} (h : findR i rs = some q) {p : Addr × Ln} (hp : rs[q]? = some p) : rowD i rs = .hdl p.1 := by
  unfold rowD; rw [h]
  show D.hdl ((rs.map (·.1)).getD q 0) = _
  rw [List.getD_eq_getElem?_getD, List.getElem?_map, hp]
  rfl
/-- a deed begins, changes or removes a line; the places of the lines that go by a rule -/
def touchL (m : Am) (d : Dd) (ls : List Ln) : List Ln × List Nat := match d with
  | .put i n => match findL i ls with
    | none => (ls ++ [⟨i, n, (m.get i).getD 0, none, none⟩], [ls.length])
    | some q => (ls.modify q fun l => { l with number := l.number + n }, [q])
  | .alter i n => match findL i ls with
    | none => (ls, [])
    | some q => if n = 0 then (ls.filter fun l => !decide (l.item = i), []) else (ls.modify q fun l => { l with number := n }, [q])
  | _ => (ls, List.range ls.length)
def Play (m : Am) (ls : List Ln) : Dd → Prop
  | .price i _ => (m.get i).isSome = true
  | .put i _ => (m.get i).isSome = true
  | .alter i _ => (m.get i).isSome = true ∧ (findL i ls).isSome = true
  | _ => True
def ruleOf (s : Six) (w : Str) : Rule := s.getD (doors.idxOf w) []
def doorOf (d : Dd) (failed : Bool) : Str := match d with | .pay _ => if failed then "again" else "pay" | d => wordD d
def carryStep (m : Am) (r : Rule) (st : List Ln × List Str) (q : Nat) : List Ln × List Str := match st.1[q]? with
  | none => st
  | some l => (st.1.set q (lnRun ((m.get l.item).getD 0) r l), st.2 ++ List.replicate (lnWork ((m.get l.item).getD 0) r l).times.toNat l.item)
def carryL (m : Am) (r : Rule) (ls : List Ln) (js : List Nat) : List Ln × List Str := js.foldl (carryStep m r) (ls, [])
def isF (d : Dd) : Bool := match d with | .pay false => true | _ => false
def isT (d : Dd) : Bool := match d with | .pay true => true | _ => false
/-- a person's deed but for what is paid -/
def carryC (s : Six) (d : Dd) (c : Ct) (ls : List Ln) : Ct × List Ln × List Str :=
  let t := touchL c.am d ls
  let r := carryL c.am (ruleOf s (doorOf d c.failed)) t.1 t.2
  ({ c with failed := isF d, asked := c.asked + r.2.length }, r.1, r.2)
def tellD (l : Ln) : D := .tup [.str l.item, .int l.number, dO l.shown]
def boughtD (l : Ln) : D := .tup [.str l.item, .int l.number, .int l.kept]
def paidC (d : Dd) (c : Ct) (ls : List Ln) : Ct × List Ln := if isT d then ({ c with spent := c.spent + (ls.map fun l => l.number * l.kept).sum }, []) else (c, ls)
def paidD (d : Dd) (ls : List Ln) : D := if isT d then .lst (ls.map boughtD) else .non
theorem letter_in {c : Nat} (h : 97 ≤ c ∧ c ≤ 122) : (!(PySem.Builtin.Str.occurrences ("abcdefghijklmnopqrstuvwxyz" : Str) ⟨#[c]⟩ 0 ("abcdefghijklmnopqrstuvwxyz" : Str).length 1).isEmpty) = true := by
  have k : ∀ j < 26, (!(PySem.Builtin.Str.occurrences ("abcdefghijklmnopqrstuvwxyz" : Str) ⟨#[97 + j]⟩ 0 ("abcdefghijklmnopqrstuvwxyz" : Str).length 1).isEmpty) = true := by decide +kernel
  have := k (c - 97) (by omega)
  rwa [show 97 + (c - 97) = c by omega] at this
theorem all_reps (n : Nat) : (List.replicate n true).all id = true := by simp
def dPr (m : Am) : D := .tup (m.map fun p => .tup [.str p.1, .int p.2])
structure OkP (m : Am) : Prop where
  l1 : 1 ≤ m.length
  l6 : m.length ≤ 6
  it : ∀ p ∈ m, OkI p.1 ∧ 0 ≤ p.2 ∧ p.2 ≤ 1000000000000
  nd : (m.map (·.1)).Nodup
theorem am_new {m : Am} {i : Nat} {p : Str × Int} (nd : (m.map (·.1)).Nodup) (h : m[i]? = some p) : (.inr p.1 : Key) ∉ Am.ks (m.take i) := fun hm => by
  obtain ⟨z, hz, e⟩ := List.mem_map.mp hm
  have e2 : z.1 = p.1 := Sum.inr.inj e
  have hl := (List.getElem?_eq_some_iff.mp h).1
  have e3 : m = m.take i ++ p :: m.drop (i + 1) := by rw [← (List.getElem?_eq_some_iff.mp h).2, List.getElem_cons_drop_succ_eq_drop, List.take_append_drop]
  rw [e3, List.map_append, List.map_cons, List.nodup_append] at nd
  exact nd.2.2 z.1 (List.mem_map_of_mem hz) p.1 (by simp) e2
theorem am_take_ks {m : Am} {i : Nat} {p : Str × Int} (h : m[i]? = some p) : Am.ks (m.take i) ++ [.inr p.1] = Am.ks (m.take (i + 1)) := by rw [List.take_add_one, h]; simp [Am.ks]
theorem am_take_ds {m : Am} {i : Nat} {p : Str × Int} (h : m[i]? = some p) : Am.ds (m.take i) ++ [.int p.2] = Am.ds (m.take (i + 1)) := by rw [List.take_add_one, h]; simp [Am.ds]
def hdAt (rs : Rs) (j : Nat) : D := .hdl ((rs.map (·.1)).getD j 0)
theorem hdAt_at {rs : Rs} {j : Nat} {p : Addr × Ln} (h : rs[j]? = some p) : hdAt rs j = .hdl p.1 := by
  unfold hdAt
  rw [List.getD_eq_getElem?_getD, List.getElem?_map, h]
  rfl
theorem range_hd (rs : Rs) : rs.map hd1 = (List.range rs.length).map (hdAt rs) := by
  refine List.ext_getElem? fun j => ?_
  rw [List.getElem?_map, List.getElem?_map]
  by_cases h : j < rs.length
  · rw [List.getElem?_eq_getElem h, List.getElem?_range h]
    simp only [Option.map_some]
    rw [hdAt_at (List.getElem?_eq_getElem h)]
  · rw [List.getElem?_eq_none (by omega), List.getElem?_eq_none (by simpa using h)]
    rfl
theorem findR_none_iff {i : Str} {rs : Rs} : findR i rs = none ↔ ∀ z ∈ rs, z.2.item ≠ i := by
  unfold findR
  rw [List.findIdx?_eq_none_iff]
  simp
theorem map_set_modify {rs : Rs} {q : Nat} {p : Addr × Ln} (h : rs[q]? = some p) (f : Ln → Ln) : (rs.set q (p.1, f p.2)).map (·.2) = (rs.map (·.2)).modify q f := by
  refine List.ext_getElem? fun j => ?_
  rw [List.getElem?_map, List.getElem?_set, List.getElem?_modify, List.getElem?_map]
  by_cases e : q = j
  · subst e
    have hl := (List.getElem?_eq_some_iff.mp h).1
    have hz := (List.getElem?_eq_some_iff.mp h).2
    simp [hl, hz]
  · simp [e]
theorem take_filter_len (rs : Rs) (i : Nat) (f : Addr × Ln → Bool) : ((rs.take i).filter f).length ≤ rs.length :=
  Nat.le_trans (List.length_filter_le _ _) (by rw [List.length_take]; exact Nat.min_le_right _ _)
theorem take_filter_yes {rs : Rs} {i : Nat} {z : Addr × Ln} {f : Addr × Ln → Bool} (h : rs[i]? = some z) (y : f z = true) : (rs.take (i + 1)).filter f = (rs.take i).filter f ++ [z] := by
  rw [List.take_add_one, h, List.filter_append]
  simp [y]
theorem take_filter_no {rs : Rs} {i : Nat} {z : Addr × Ln} {f : Addr × Ln → Bool} (h : rs[i]? = some z) (y : f z = false) : (rs.take (i + 1)).filter f = (rs.take i).filter f := by
  rw [List.take_add_one, h, List.filter_append]
  simp [y]
theorem zero_perm (A B R : Addr × MO) (L : Ms) (W : Addr × MO) : (A :: B :: R :: L ++ [W]).Perm (A :: B :: W :: R :: L) :=
  .cons _ (.cons _ (List.perm_append_singleton W (R :: L)))
theorem zero_sub (A B W R : Addr × MO) (L L' : Ms) (h : L'.Sublist L) : (A :: B :: W :: L').Sublist (A :: B :: W :: R :: L) :=
  .cons₂ _ (.cons₂ _ (.cons₂ _ (.cons _ h)))
theorem filter_rows (CI : Addr) (rs : Rs) (f : Addr × Ln → Bool) : ((rs.filter f).map (rowE CI)).Sublist (rs.map (rowE CI)) := List.filter_sublist.map _
theorem filter_set_no {f : Addr × Ln → Bool} {p p' : Addr × Ln} : ∀ {rs : Rs} {q : Nat}, rs[q]? = some p → f p = false → f p' = false → (rs.set q p').filter f = rs.filter f
  | [], _, h, _, _ => by cases h
  | z :: rs, 0, h, h1, h2 => by cases h; simp [h1, h2]
  | z :: rs, q + 1, h, h1, h2 => by
    have := filter_set_no (rs := rs) (q := q) h h1 h2
    simp only [List.set_cons_succ, List.filter_cons, this]
section
variable {CC CI x am rw : Addr} {g : D} {c : Ct} {rs : Rs} {k : KD} {i : Str} {n : Int} {q : Nat} {p : Addr × Ln}
theorem touch_put_old (hq : findR i rs = some q) (hp : rs[q]? = some p) (hk : ∀ rw' rs', rs'.map (·.2) = (touchL c.am (.put i n) (rs.map (·.2))).1 → k (.lst ((touchL c.am (.put i n) (rs.map (·.2))).2.map (hdAt rs'))) (cartM CC CI x am rw' g c rs')) :
    k (.lst [.hdl p.1]) ((x, .ins CC ctF [g, .hdl am, .hdl rw, .bl c.failed, .int c.spent, .int c.asked]) :: (am, .dct c.am.ks c.am.ds) :: (rw, .lst (rs.map hd1)) :: (rs.map (rowE CI)).set q (p.1, lnMO CI { p.2 with number := p.2.number + n })) := by
  have e : touchL c.am (.put i n) (rs.map (·.2)) = ((rs.map (·.2)).modify q fun l => { l with number := l.number + n }, [q]) := by simp [touchL, ← findR_L, hq]
  obtain ⟨e1, e2⟩ := row_set (CI := CI) (l := { p.2 with number := p.2.number + n }) hp
  rw [e1, ← e2]
  refine k_eq (hk rw (rs.set q (p.1, { p.2 with number := p.2.number + n })) ?_) ?_ rfl
  · rw [e, map_set_modify hp (fun l => { l with number := l.number + n })]
  · rw [e]
    have hl := (List.getElem?_eq_some_iff.mp hp).1
    simp only [List.map_cons, List.map_nil]
    rw [hdAt_at (p := (p.1, { p.2 with number := p.2.number + n })) (by simp [hl])]
theorem touch_alter (hq : findR i rs = some q) (hp : rs[q]? = some p) (hn0 : ¬n = 0) (hk : ∀ rw' rs', rs'.map (·.2) = (touchL c.am (.alter i n) (rs.map (·.2))).1 → k (.lst ((touchL c.am (.alter i n) (rs.map (·.2))).2.map (hdAt rs'))) (cartM CC CI x am rw' g c rs')) :
    k (.lst [.hdl p.1]) ((x, .ins CC ctF [g, .hdl am, .hdl rw, .bl c.failed, .int c.spent, .int c.asked]) :: (am, .dct c.am.ks c.am.ds) :: (rw, .lst (rs.map hd1)) :: (rs.map (rowE CI)).set q (p.1, lnMO CI { p.2 with number := n })) := by
  have e : touchL c.am (.alter i n) (rs.map (·.2)) = ((rs.map (·.2)).modify q fun l => { l with number := n }, [q]) := by simp [touchL, ← findR_L, hq, hn0]
  obtain ⟨e1, e2⟩ := row_set (CI := CI) (l := { p.2 with number := n }) hp
  rw [e1, ← e2]
  refine k_eq (hk rw (rs.set q (p.1, { p.2 with number := n })) ?_) ?_ rfl
  · rw [e, map_set_modify hp (fun l => { l with number := n })]
  · rw [e]
    have hl := (List.getElem?_eq_some_iff.mp hp).1
    simp only [List.map_cons, List.map_nil]
    rw [hdAt_at (p := (p.1, { p.2 with number := n })) (by simp [hl])]
theorem touch_put_new {pr : Int} {xl : Addr} (hq : ∀ z ∈ rs, z.2.item ≠ i) (hg : c.am.get i = some pr) (hk : ∀ rw' rs', rs'.map (·.2) = (touchL c.am (.put i n) (rs.map (·.2))).1 → k (.lst ((touchL c.am (.put i n) (rs.map (·.2))).2.map (hdAt rs'))) (cartM CC CI x am rw' g c rs')) :
    k (.lst [.hdl xl]) ((x, .ins CC ctF [g, .hdl am, .hdl rw, .bl c.failed, .int c.spent, .int c.asked]) :: (am, .dct c.am.ks c.am.ds) :: (rw, .lst (rs.map hd1 ++ [.hdl xl])) :: (rs.map (rowE CI) ++ [(xl, lnMO CI ⟨i, n, pr, none, none⟩)])) := by
  have e : touchL c.am (.put i n) (rs.map (·.2)) = (rs.map (·.2) ++ [⟨i, n, pr, none, none⟩], [rs.length]) := by simp [touchL, ← findR_L, findR_none hq, hg]
  refine k_eq (hk rw (rs ++ [(xl, ⟨i, n, pr, none, none⟩)]) ?_) ?_ ?_
  · rw [e]; simp
  · rw [e]
    simp only [List.map_cons, List.map_nil]
    rw [hdAt_at (p := (xl, ⟨i, n, pr, none, none⟩)) (by simp)]
  · simp [rowE]
theorem touch_zero {rw2 : Addr} (hq : findR i rs = some q) (hp : rs[q]? = some p) (hpi : p.2.item = i) (hk : ∀ rw' rs', rs'.map (·.2) = (touchL c.am (.alter i 0) (rs.map (·.2))).1 → k (.lst ((touchL c.am (.alter i 0) (rs.map (·.2))).2.map (hdAt rs'))) (cartM CC CI x am rw' g c rs')) :
    k (.lst []) (cartM CC CI x am rw2 g c ((rs.set q (p.1, { p.2 with number := 0 })).filter fun p => !decide (p.2.item = i))) := by
  have e : touchL c.am (.alter i 0) (rs.map (·.2)) = ((rs.map (·.2)).filter fun l => !decide (l.item = i), []) := by simp [touchL, ← findR_L, hq]
  refine k_eq (hk rw2 _ ?_) (by rw [e]; rfl) rfl
  rw [e, filter_set_no hp (by simpa using hpi) (by simpa using hpi), List.filter_map]
  rfl
end
theorem hdAt_eq {rs rs' : Rs} {j : Nat} (h : rs.map (·.1) = rs'.map (·.1)) : hdAt rs j = hdAt rs' j := by unfold hdAt; rw [h]
theorem set_at {rs : Rs} {j : Nat} {p z : Addr × Ln} (h : rs[j]? = some p) : (rs.set j z)[j]? = some z := by
  have hl := (List.getElem?_eq_some_iff.mp h).1
  simp [hl]
theorem fst_set {rs : Rs} {j : Nat} {p : Addr × Ln} {l : Ln} (h : rs[j]? = some p) : (rs.set j (p.1, l)).map (·.1) = rs.map (·.1) := by
  refine List.ext_getElem? fun i => ?_
  rw [List.getElem?_map, List.getElem?_set, List.getElem?_map]
  by_cases e : j = i
  · subst e
    obtain ⟨hl, hz⟩ := List.getElem?_eq_some_iff.mp h
    simp [hl, hz]
  · simp [e]
theorem mul_lst1 {K : PySem.W.Frag} {M : Ms} {k : KD} {d : D} {j : Int} (h0 : 0 ≤ j) (h1 : j ≤ 1000) (hk : k (.lst (List.replicate j.toNat d)) M) : Bin K (rMulU K) (.lst [d]) (.int j) M k :=
  mul_lst (by omega) (by omega) (by simp; omega) (by rw [List.flatten_replicate_singleton]; exact hk)
theorem sm_dDd {d : Dd} (h : OkD d) : sm 1 (dDd d) = true := by
  cases d with
  | price i a => have := h.1.lay; simp [dDd, sm, sms, this]; decide +kernel
  | put i a => have := h.1.lay; simp [dDd, sm, sms, this]; decide +kernel
  | alter i a => have := h.1.lay; simp [dDd, sm, sms, this]; decide +kernel
  | look => decide +kernel
  | back => decide +kernel
  | pay b => cases b <;> decide +kernel
theorem eqv_payF (d : Dd) : PyData.eqv (py (dDd d)) (py (.tup [.str "pay", .bl false])) = isF d := by
  cases d with
  | pay b => cases b <;> simp [dDd, py, pys, PyData.eqv, PyData.eqvAll, isF]
  | _ => simp [dDd, py, pys, PyData.eqv, PyData.eqvAll, isF]
theorem eqv_payT (d : Dd) : PyData.eqv (py (dDd d)) (py (.tup [.str "pay", .bl true])) = isT d := by
  cases d with
  | pay b => cases b <;> simp [dDd, py, pys, PyData.eqv, PyData.eqvAll, isT]
  | _ => simp [dDd, py, pys, PyData.eqv, PyData.eqvAll, isT]
theorem door_mem {d : Dd} {f : Bool} (h : wordD d ≠ "price") : doorOf d f ∈ doors := by
  cases d with
  | price i a => exact absurd rfl h
  | pay b =>
    cases f
    · show ("pay" : Str) ∈ doors; decide +kernel
    · show ("again" : Str) ∈ doors; decide +kernel
  | put i n => show ("put" : Str) ∈ doors; decide +kernel
  | alter i n => show ("alter" : Str) ∈ doors; decide +kernel
  | look => show ("look" : Str) ∈ doors; decide +kernel
  | back => show ("back" : Str) ∈ doors; decide +kernel
theorem door_a {f : Bool} {b : Bool} {x1 x2 x4 x5 x6 : Option D} (h : f = true) : [x1, x2, some (.str "again"), x4, x5, x6] = [x1, x2, some (.str (doorOf (.pay b) f)), x4, x5, x6] := by rw [h]; rfl
theorem door_p {f : Bool} {b : Bool} {x1 x2 x4 x5 x6 : Option D} (h : f = false) : [x1, x2, some (.str "pay"), x4, x5, x6] = [x1, x2, some (.str (doorOf (.pay b) f)), x4, x5, x6] := by rw [h]; rfl
theorem rule_at {s : Six} {dn : Str} (h : OkS s) (hd : dn ∈ doors) : OkR (ruleOf s dn) ∧ (s.map dR)[doors.idxOf dn]? = some (dR (ruleOf s dn)) := by
  have h6 := (idx_doors hd).1
  have hl : doors.idxOf dn < s.length := by rw [h.len]; exact h6
  have e : ruleOf s dn = s[doors.idxOf dn] := by unfold ruleOf; rw [List.getD_eq_getElem?_getD, List.getElem?_eq_getElem hl]; rfl
  refine ⟨by rw [e]; exact h.ok _ (List.getElem_mem hl), ?_⟩
  rw [List.getElem?_map, List.getElem?_eq_getElem hl, e]
  rfl
def Has (m : Am) (ls : List Ln) : Prop := ∀ l ∈ ls, (m.get l.item).isSome = true
theorem touch_len {ls : Rs} (m : Am) (d : Dd) (h : ls.length ≤ 1000) : (touchL m d (ls.map (·.2))).2.length ≤ 1000 := by
  cases d <;> simp only [touchL]
  all_goals first | (split <;> (try split) <;> simp) | (simp; exact h)
theorem touch_lt {m : Am} {d : Dd} {ls : List Ln} {j : Nat} (h : j ∈ (touchL m d ls).2) : j < (touchL m d ls).1.length := by
  have at' : ∀ {i : Str} {q : Nat}, findL i ls = some q → q < ls.length := fun e => by
    unfold findL at e
    rw [List.findIdx?_eq_some_iff_getElem] at e
    exact e.1
  cases d <;> simp only [touchL] at h ⊢
  case put i n =>
    cases e : findL i ls with
    | none => rw [e] at h; simp at h ⊢; omega
    | some q => rw [e] at h; simp at h ⊢; rw [h]; exact at' e
  case alter i n =>
    cases e : findL i ls with
    | none => rw [e] at h; simp at h
    | some q =>
      rw [e] at h
      by_cases hn : n = 0
      · simp [hn] at h
      · simp [hn] at h ⊢; rw [h]; exact at' e
  all_goals simpa using h
theorem items_modify {ls : List Ln} {q : Nat} {f : Ln → Ln} (hf : ∀ l, (f l).item = l.item) : (ls.modify q f).map (·.item) = ls.map (·.item) := by
  refine List.ext_getElem? fun j => ?_
  rw [List.getElem?_map, List.getElem?_modify, List.getElem?_map]
  cases e : ls[j]? with
  | none => simp
  | some l => by_cases h : q = j <;> simp [h, hf]
theorem has_items {m : Am} {ls ls' : List Ln} (h : Has m ls) (e : ls'.map (·.item) = ls.map (·.item)) : Has m ls' := fun l hl => by
  have : l.item ∈ ls.map (·.item) := by rw [← e]; exact List.mem_map_of_mem hl
  obtain ⟨z, hz, q⟩ := List.mem_map.mp this
  rw [← q]; exact h z hz
theorem touch_has {m : Am} {d : Dd} {ls : List Ln} (h : Has m ls) (hp : Play m ls d) : Has m (touchL m d ls).1 := by
  cases d <;> simp only [touchL]
  case put i n =>
    cases e : findL i ls with
    | none =>
      intro l hl
      rcases List.mem_append.mp hl with q | q
      · exact h l q
      · rw [List.mem_singleton.mp q]; exact hp
    | some q => exact has_items h (items_modify fun l => rfl)
  case alter i n =>
    cases e : findL i ls with
    | none => exact h
    | some q =>
      by_cases hn : n = 0
      · simp only [hn, if_true]; intro l hl; exact h l (List.mem_filter.mp hl).1
      · simp only [hn, if_false]; exact has_items h (items_modify fun l => rfl)
  all_goals exact h
theorem step_items {m : Am} {r : Rule} {st : List Ln × List Str} {j : Nat} : (carryStep m r st j).1.map (·.item) = st.1.map (·.item) := by
  unfold carryStep
  cases e : st.1[j]? with
  | none => rfl
  | some l =>
    refine List.ext_getElem? fun i => ?_
    simp only [List.getElem?_map, List.getElem?_set]
    by_cases h : j = i
    · subst h
      obtain ⟨hl, hz⟩ := List.getElem?_eq_some_iff.mp e
      simp [hl, hz, lnRun]
    · simp [h]
theorem fold_items {m : Am} {r : Rule} : ∀ (js : List Nat) (st : List Ln × List Str), (js.foldl (carryStep m r) st).1.map (·.item) = st.1.map (·.item)
  | [], _ => rfl
  | j :: js, st => by rw [List.foldl_cons, fold_items js]; exact step_items
theorem work_times (now : Int) {r : Rule} (h : OkR r) (l : Ln) : 0 ≤ (lnWork now r l).times ∧ (lnWork now r l).times ≤ 6 := by
  have st : ∀ (w : LW) (a : Str), w.times ≤ (lwStep now w a).times ∧ (lwStep now w a).times ≤ w.times + 1 := fun w a => by
    unfold lwStep
    split
    · simp; omega
    · split
      · simp; omega
      · split
        · split <;> simp <;> omega
        · split
          · simp only [lwShow]; split <;> omega
          · omega
  have run : ∀ (r : Rule) (w : LW), w.times ≤ (lwRun now r w).times ∧ (lwRun now r w).times ≤ w.times + r.length := fun r => by
    induction r with
    | nil => intro w; simp [lwRun]
    | cons a r ih =>
      intro w
      obtain ⟨h1, h2⟩ := st w a
      obtain ⟨h3, h4⟩ := ih (lwStep now w a)
      have e : lwRun now (a :: r) w = lwRun now r (lwStep now w a) := rfl
      rw [e]
      simp only [List.length_cons]
      push_cast
      exact ⟨by omega, by omega⟩
  obtain ⟨h1, h2⟩ := run r ⟨l.kept, l.shown, [], 0⟩
  have := h.len
  simp only at h1 h2
  unfold lnWork
  exact ⟨h1, by omega⟩
theorem fold_len {m : Am} {r : Rule} (h : OkR r) : ∀ (js : List Nat) (st : List Ln × List Str), (js.foldl (carryStep m r) st).2.length ≤ st.2.length + 6 * js.length
  | [], st => by simp
  | j :: js, st => by
    rw [List.foldl_cons]
    have h1 := fold_len (m := m) h js (carryStep m r st j)
    have h2 : (carryStep m r st j).2.length ≤ st.2.length + 6 := by
      unfold carryStep
      cases e : st.1[j]? with
      | none => simp
      | some l =>
        obtain ⟨t0, t6⟩ := work_times ((m.get l.item).getD 0) h l
        simp only [List.length_append, List.length_replicate]
        omega
    simp only [List.length_cons]
    omega
section
variable {CC CI CB x am rw : Addr} {s2 : Six} {c : Ct} {rs rs1 rs2 : Rs} {k : KD} {d : Dd} {i j : Nat} {p : Addr × Ln} {r : Rule} {fd : List Str} {pr : Int}
theorem carry_row (hf : rs2.map (·.1) = rs1.map (·.1)) (hT : rs1.map (·.2) = (touchL c.am d (rs.map (·.2))).1) (hj : j ∈ (touchL c.am d (rs.map (·.2))).2) : ∃ p, rs2[j]? = some p := by
  have h1 := touch_lt hj
  rw [← hT, List.length_map] at h1
  have h2 := congrArg List.length hf
  simp only [List.length_map] at h2
  exact ⟨rs2[j], List.getElem?_eq_getElem (by omega)⟩
theorem carry_get (hh : Has c.am (rs.map (·.2))) (hp : Play c.am (rs.map (·.2)) d) (hf : (rs2.map (·.2), fd) = ((touchL c.am d (rs.map (·.2))).2.take i).foldl (carryStep c.am r) ((touchL c.am d (rs.map (·.2))).1, [])) (hj : rs2[j]? = some p) : ∃ pr, c.am.get p.2.item = some pr := by
  have e := fold_items (m := c.am) (r := r) ((touchL c.am d (rs.map (·.2))).2.take i) ((touchL c.am d (rs.map (·.2))).1, [])
  rw [← hf] at e
  exact Option.isSome_iff_exists.mp (has_items (touch_has hh hp) e p.2 (List.mem_map_of_mem (List.mem_of_getElem? hj)))
theorem carry_fd (hr : OkR r) (hf : (rs2.map (·.2), fd) = ((touchL c.am d (rs.map (·.2))).2.take i).foldl (carryStep c.am r) ((touchL c.am d (rs.map (·.2))).1, [])) : fd.length ≤ 6 * i := by
  have e := fold_len (m := c.am) hr ((touchL c.am d (rs.map (·.2))).2.take i) ((touchL c.am d (rs.map (·.2))).1, [])
  rw [← hf] at e
  simp only [List.length_nil, List.length_take] at e
  omega
theorem carry_next {T : List Ln × List Nat} (hf : (rs2.map (·.2), fd) = (T.2.take i).foldl (carryStep c.am r) (T.1, [])) (hj : T.2[i]? = some j) (hp : rs2[j]? = some p) (hg : c.am.get p.2.item = some pr) :
    ((rs2.set j (p.1, lnRun pr r p.2)).map (·.2), fd ++ List.replicate (lnWork pr r p.2).times.toNat p.2.item) = (T.2.take (i + 1)).foldl (carryStep c.am r) (T.1, []) := by
  rw [List.take_add_one, hj, List.foldl_append, ← hf]
  have e : (rs2.map (·.2))[j]? = some p.2 := by rw [List.getElem?_map, hp]; rfl
  simp only [Option.toList_some, List.foldl_cons, List.foldl_nil]
  unfold carryStep
  rw [e]
  simp only [hg, Option.getD_some]
  rw [List.map_set]
theorem carry_set {f : Addr} {L : MO} {g : D} {l : Ln} (hp : rs2[j]? = some p) : merge [j + 4] ((f, L) :: cartM CC CI x am rw g c rs2) [(p.1, lnMO CI l)] = (f, L) :: cartM CC CI x am rw g c (rs2.set j (p.1, l)) := by
  rw [merge_one]
  obtain ⟨e1, e2⟩ := row_set (CI := CI) (l := l) hp
  show _ :: _ :: _ :: _ :: ((rs2.map (rowE CI)).set j _) = _
  rw [e1]
  show (f, L) :: _ :: _ :: (rw, .lst (rs2.map hd1)) :: _ = (f, L) :: _ :: _ :: (rw, .lst ((rs2.set j (p.1, l)).map hd1)) :: _
  rw [e2]
theorem carry_end {f : Addr} (okd : OkD d) (hf : (rs2.map (·.2), fd) = (touchL c.am d (rs.map (·.2))).2.foldl (carryStep c.am (ruleOf s2 (doorOf d c.failed))) ((touchL c.am d (rs.map (·.2))).1, []))
    (hk : ∀ f rw' rs', rs'.map (·.2) = (carryC s2 d c (rs.map (·.2))).2.1 → k (.hdl f) ((f, .lst ((carryC s2 d c (rs.map (·.2))).2.2.map D.str)) :: cartM CC CI x am rw' (bk CB s2) (carryC s2 d c (rs.map (·.2))).1 rs')) :
    k (.hdl f) ((f, .lst (fd.map D.str)) :: (x, .ins CC ctF [bk CB s2, .hdl am, .hdl rw, .bl (PyData.eqv (py (dDd d)) (py (.tup [.str "pay", .bl false]))), .int c.spent, .int (c.asked + ((fd.map D.str).length : Nat))]) :: (am, .dct c.am.ks c.am.ds) :: (rw, .lst (rs2.map hd1)) :: rs2.map (rowE CI)) := by
  have e1 : (carryC s2 d c (rs.map (·.2))).2.1 = rs2.map (·.2) := congrArg Prod.fst hf.symm
  have e2 : (carryC s2 d c (rs.map (·.2))).2.2 = fd := congrArg Prod.snd hf.symm
  have e3 : (carryC s2 d c (rs.map (·.2))).1 = { c with failed := isF d, asked := c.asked + (carryC s2 d c (rs.map (·.2))).2.2.length } := rfl
  have h := hk f rw rs2 e1.symm
  rw [e3, e2] at h
  rw [eqv_payF, List.length_map]
  exact h
end
theorem get_map1 {α β : Type} {f : α → β} {l : List α} {i : Nat} {b : β} (h : (l.map f)[i]? = some b) : ∃ a, l[i]? = some a ∧ b = f a := by
  rw [List.getElem?_map] at h
  cases e : l[i]? with
  | none => rw [e] at h; cases h
  | some a => rw [e] at h; cases h; exact ⟨a, rfl, rfl⟩
theorem opt_get {α : Type} {o : Option α} (h : o ≠ none) : ∃ v, o = some v := by cases o with
  | none => exact absurd rfl h
  | some v => exact ⟨v, rfl⟩
def Nums (ls : List Ln) : Prop := ∀ l ∈ ls, 0 ≤ l.number ∧ l.number ≤ 1000000000000000 ∧ 0 ≤ l.kept ∧ l.kept ≤ 1000000000000
def ShG (ls : List Ln) : Prop := ∀ l ∈ ls, l.shown ≠ none → l.greatest ≠ none
def wrongL (n : Int) (l : Ln) : List (Str × Int × Str) := match l.shown with
  | none => [("unshown", n, l.item)]
  | some s => if l.kept = s then [] else ("other", n, l.item) :: (match l.greatest with | some b => if b < l.kept then [("dearer", n, l.item)] else [] | none => [])
def dW (w : Str × Int × Str) : D := .tup [.str w.1, .int w.2.1, .str w.2.2]
theorem sm_dO (o : Option Int) : sm 0 (dO o) = true := by cases o <;> rfl
theorem pay_sub (T A B W R : Addr × MO) (L : Ms) : (T :: A :: B :: W :: []).Sublist (T :: A :: B :: W :: R :: L) := .cons₂ _ (.cons₂ _ (.cons₂ _ (.cons₂ _ (List.nil_sublist _))))
section
variable {CC CI CB x am rw : Addr} {g nm : D} {c : Ct} {rs : Rs} {k : KD} {d : Dd}
theorem report_no {t : Addr} (hT : isT d = false) (hk : ∀ t rw' rs', rs'.map (·.2) = (paidC d c (rs.map (·.2))).2 → k (.tup [.hdl t, nm, paidD d (rs.map (·.2))]) ((t, .lst ((rs.map (·.2)).map tellD)) :: cartM CC CI x am rw' g (paidC d c (rs.map (·.2))).1 rs')) :
    k (.tup [.hdl t, nm, .non]) ((t, .lst ((rs.map (·.2)).map tellD)) :: cartM CC CI x am rw g c rs) := by
  have h := hk t rw rs (by simp [paidC, hT])
  simp only [paidC, paidD, hT, Bool.false_eq_true, if_false] at h
  exact h
theorem report_yes {t rw2 : Addr} (hT : isT d = true) (hk : ∀ t rw' rs', rs'.map (·.2) = (paidC d c (rs.map (·.2))).2 → k (.tup [.hdl t, nm, paidD d (rs.map (·.2))]) ((t, .lst ((rs.map (·.2)).map tellD)) :: cartM CC CI x am rw' g (paidC d c (rs.map (·.2))).1 rs')) :
    k (.tup [.hdl t, nm, .lst ((rs.map (·.2)).map boughtD)]) [(t, .lst ((rs.map (·.2)).map tellD)), (x, .ins CC ctF [g, .hdl am, .hdl rw2, .bl c.failed, .int (c.spent + ((rs.map (·.2)).map fun l => l.number * l.kept).sum), .int c.asked]), (am, .dct c.am.ks c.am.ds), (rw2, .lst [])] := by
  have h := hk t rw2 [] (by simp [paidC, hT])
  simp only [paidC, paidD, hT, if_true] at h
  exact h
theorem price_end {i : Str} {a : Int} (hk : k .non (cartM CC CI x am rw g { c with am := c.am.put i a } rs)) :
    k .non ((x, .ins CC ctF [g, .hdl am, .hdl rw, .bl c.failed, .int c.spent, .int c.asked]) :: (am, .dct c.am.ks (putDs c.am.ks c.am.ds (.inr i) (.int a))) :: (rw, .lst (rs.map hd1)) :: rs.map (rowE CI)) := by
  obtain ⟨e1, e2⟩ := am_put c.am i a
  rw [e1, ← e2]
  exact hk
end
theorem wr_len (n : Int) : ∀ ls : List Ln, ((ls.flatMap (wrongL n)).map dW).length ≤ 2 * ls.length
  | [] => by simp
  | l :: ls => by
    have h1 := wr_len n ls
    have h2 : (wrongL n l).length ≤ 2 := by
      unfold wrongL
      split
      · simp
      · split
        · simp
        · split
          · split <;> simp
          · simp
    simp only [List.flatMap_cons, List.map_append, List.length_append, List.length_map, List.length_cons] at h1 ⊢
    omega
theorem non_no {o : Option Int} (h : PD.isNon (dO o) = false) : ∃ v, o = some v := by cases o with
  | none => cases h
  | some v => exact ⟨v, rfl⟩
theorem non_yes {o : Option Int} (h : PD.isNon (dO o) = true) : o = none := by cases o with
  | none => rfl
  | some v => cases h
section
variable {rs : Rs} {i : Nat} {n : Int} {p : Addr × Ln} {f : Addr} {M0 : Ms}
theorem wr_take (hp : rs[i]? = some p) : ((rs.take (i + 1)).map (·.2)).flatMap (wrongL n) = ((rs.take i).map (·.2)).flatMap (wrongL n) ++ wrongL n p.2 := by
  rw [List.take_add_one, hp]
  simp
theorem wr_next {w : Str × Int × Str} (hp : rs[i]? = some p) (h : wrongL n p.2 = [w]) : ((f, MO.lst ((((rs.take i).map (·.2)).flatMap (wrongL n)).map dW ++ [dW w])) :: M0) = (f, .lst ((((rs.take (i + 1)).map (·.2)).flatMap (wrongL n)).map dW)) :: M0 := by
  rw [wr_take hp, h, List.map_append]; rfl
theorem wr_next2 {w w2 : Str × Int × Str} (hp : rs[i]? = some p) (h : wrongL n p.2 = [w, w2]) : ((f, MO.lst ((((rs.take i).map (·.2)).flatMap (wrongL n)).map dW ++ [dW w] ++ [dW w2])) :: M0) = (f, .lst ((((rs.take (i + 1)).map (·.2)).flatMap (wrongL n)).map dW)) :: M0 := by
  rw [wr_take hp, h, List.map_append, List.append_assoc]; rfl
theorem wr_next0 (hp : rs[i]? = some p) (h : wrongL n p.2 = []) : ((f, MO.lst ((((rs.take i).map (·.2)).flatMap (wrongL n)).map dW)) :: M0) = (f, .lst ((((rs.take (i + 1)).map (·.2)).flatMap (wrongL n)).map dW)) :: M0 := by
  rw [wr_take hp, h, List.append_nil]
end
section
variable {l : Ln} {n sv gv : Int}
theorem eqv_kept {s : Int} : PyData.eqv (py (.int l.kept)) (py (dO (some s))) = decide (l.kept = s) := by simp only [py, dO, PyData.eqv]; by_cases h : l.kept = s <;> simp [h]
theorem wr_un (h : PD.isNon (dO l.shown) = true) : wrongL n l = [(("unshown" : Str), n, l.item)] := by unfold wrongL; rw [non_yes h]
theorem wr_no (h : l.shown = some sv) (h2 : (!PyData.eqv (py (.int l.kept)) (py (dO l.shown))) = false) : wrongL n l = [] := by
  rw [h, eqv_kept] at h2
  unfold wrongL
  rw [h]
  simp at h2
  simp [h2]
theorem wr_ot (h : l.shown = some sv) (h2 : (!PyData.eqv (py (.int l.kept)) (py (dO l.shown))) = true) (hg : l.greatest = some gv) (h3 : decide (gv < l.kept) = false) : wrongL n l = [(("other" : Str), n, l.item)] := by
  rw [h, eqv_kept] at h2
  unfold wrongL
  rw [h, hg]
  simp at h2 h3
  simp [h2]
  omega
theorem wr_de (h : l.shown = some sv) (h2 : (!PyData.eqv (py (.int l.kept)) (py (dO l.shown))) = true) (hg : l.greatest = some gv) (h3 : decide (gv < l.kept) = true) : wrongL n l = [(("other" : Str), n, l.item), (("dearer" : Str), n, l.item)] := by
  rw [h, eqv_kept] at h2
  unfold wrongL
  rw [h, hg]
  simp at h2 h3
  simp [h2, h3]
end
def dMom (m : Am) : D := .dct m.ks m.ds
def seenL (ls : List Ln) : List Ln := ls.filter fun l => l.shown.isSome
/-- the shown prices have no moment in common -/
def mixedL (ms : List Am) (ls : List Ln) : Bool := !(seenL ls).isEmpty && ms.all fun m => !(seenL ls).all fun l => decide (m.get l.item = l.shown)
theorem mix_eq {z : Addr × Ln} {m : Am} {a : Int} (h : m.get z.2.item = some a) : PyData.eqv (py (.int a)) (py (dO z.2.shown)) = decide (m.get z.2.item = z.2.shown) := by
  rw [h]
  cases hs : z.2.shown with
  | none => simp [py, dO, PyData.eqv]
  | some v => simp only [py, dO, PyData.eqv]; by_cases e : a = v <;> simp [e]
section
variable {ms : List Am} {rs : Rs} {k : KD} {M0 : Ms}
theorem seen_rs : (rs.filter fun p => p.2.shown.isSome).map (·.2) = seenL (rs.map (·.2)) := by unfold seenL; rw [List.filter_map]; rfl
theorem seen_all {m : Am} : (seenL (rs.map (·.2))).all (fun l => decide (m.get l.item = l.shown)) = (rs.filter fun p => p.2.shown.isSome).all fun z => decide (m.get z.2.item = z.2.shown) := by rw [← seen_rs, List.all_map]; rfl
theorem mix_nil (h : ((rs.filter fun p => p.2.shown.isSome).map hd1).isEmpty = true) (hk : k (.bl (mixedL ms (rs.map (·.2)))) M0) : k (.bl false) M0 := by
  have e : (seenL (rs.map (·.2))).isEmpty = true := by rw [← seen_rs]; simpa using h
  have : mixedL ms (rs.map (·.2)) = false := by unfold mixedL; rw [e]; rfl
  rw [this] at hk
  exact hk
theorem mix_met {m : Am} {i : Nat} (hm : ms[i]? = some m) (h : (rs.filter fun p => p.2.shown.isSome).all (fun z => decide (m.get z.2.item = z.2.shown)) = true) (hk : k (.bl (mixedL ms (rs.map (·.2)))) M0) : k (.bl false) M0 := by
  have : mixedL ms (rs.map (·.2)) = false := by
    unfold mixedL
    rw [Bool.and_eq_false_iff]
    refine .inr ?_
    rw [List.all_eq_false]
    exact ⟨m, List.mem_of_getElem? hm, by rw [seen_all, h]; simp⟩
  rw [this] at hk
  exact hk
theorem mix_yes (h : ((rs.filter fun p => p.2.shown.isSome).map hd1).isEmpty = false) (hn : ∀ m ∈ ms, (rs.filter fun p => p.2.shown.isSome).all (fun z => decide (m.get z.2.item = z.2.shown)) = false) (hk : k (.bl (mixedL ms (rs.map (·.2)))) M0) : k (.bl true) M0 := by
  have e : (seenL (rs.map (·.2))).isEmpty = false := by rw [← seen_rs]; cases q : (rs.filter fun p => p.2.shown.isSome) <;> simp_all
  have : mixedL ms (rs.map (·.2)) = true := by
    unfold mixedL
    rw [e, Bool.not_false, Bool.true_and, List.all_eq_true]
    intro m hm
    rw [seen_all, hn m hm]
    rfl
  rw [this] at hk
  exact hk
end
def hyF : List Str := ["cart", "reports", "wrongs", "mixed", "moments"]
abbrev hyM (CH h x rp wr mx mo : Addr) (rd : List D) (wd : List (Str × Int × Str)) (md : List Int) (ms : List Am) : Ms :=
  [(h, .ins CH hyF [.hdl x, .hdl rp, .hdl wr, .hdl mx, .hdl mo]), (rp, .lst rd), (wr, .lst (wd.map dW)), (mx, .lst (md.map D.int)), (mo, .lst (ms.map dMom))]
def After (ms : List Am) (ls : List Ln) : Prop := ls.length ≤ 1000 ∧ (∀ m ∈ ms, Has m ls) ∧ ShG ls ∧ Nums ls
theorem word_ix {K : PySem.W.Frag} {M : Ms} {k : KD} {d : Dd} (hk : k (.str (wordD d)) M) : Bin K (rIx K) (dDd d) (.int 0) M k := by
  cases d <;> exact ix_tup' (j := 0) (by simp) rfl hk
section
variable {CC CI CB CH h x am rw rp wr mx mo : Addr} {s2 : Six} {c : Ct} {rs : Rs} {k : KD} {d : Dd} {n : Int} {rd : List D} {wd : List (Str × Int × Str)} {md : List Int} {ms : List Am}
theorem go_price {i : Str} {a : Int} (hk : k .non (hyM CH h x rp wr mx mo (rd ++ [.non]) wd md (ms ++ [c.am.put i a]) ++ cartM CC CI x am rw (bk CB s2) { c with am := c.am.put i a } rs)) :
    k .non ([(h, .ins CH hyF [.hdl x, .hdl rp, .hdl wr, .hdl mx, .hdl mo]), (rp, .lst (rd ++ [.non])), (wr, .lst (wd.map dW)), (mx, .lst (md.map D.int)), (mo, .lst (ms.map dMom ++ [dMom (c.am.put i a)]))] ++ cartM CC CI x am rw (bk CB s2) { c with am := c.am.put i a } rs) := by
  refine k_eq hk rfl ?_
  simp only [hyM, List.map_append]
  rfl
theorem go_end {fa ta rw2 : Addr} {rs1 rs3 : Rs} {wdD mdD : List D} (hT1 : rs1.map (·.2) = (carryC s2 d c (rs.map (·.2))).2.1) (hT3 : rs3.map (·.2) = (paidC d (carryC s2 d c (rs.map (·.2))).1 (rs1.map (·.2))).2)
    (ew : wdD = wd.map dW ++ if isT d = true then ((rs1.map (·.2)).flatMap (wrongL n)).map dW else []) (em : mdD = md.map D.int ++ if mixedL ms (rs1.map (·.2)) = true then [.int n] else [])
    (hk : ∀ fa ta rw' rs', rs'.map (·.2) = (paidC d (carryC s2 d c (rs.map (·.2))).1 (carryC s2 d c (rs.map (·.2))).2.1).2 → k .non (hyM CH h x rp wr mx mo (rd ++ [.tup [.hdl ta, .hdl fa, paidD d (carryC s2 d c (rs.map (·.2))).2.1]]) (wd ++ if isT d then (carryC s2 d c (rs.map (·.2))).2.1.flatMap (wrongL n) else []) (md ++ if mixedL ms (carryC s2 d c (rs.map (·.2))).2.1 then [n] else []) ms ++ ((fa, .lst ((carryC s2 d c (rs.map (·.2))).2.2.map D.str)) :: (ta, .lst ((carryC s2 d c (rs.map (·.2))).2.1.map tellD)) :: cartM CC CI x am rw' (bk CB s2) (paidC d (carryC s2 d c (rs.map (·.2))).1 (carryC s2 d c (rs.map (·.2))).2.1).1 rs'))) :
    k .non ((h, .ins CH hyF [.hdl x, .hdl rp, .hdl wr, .hdl mx, .hdl mo]) :: (rp, .lst (rd ++ [.tup [.hdl ta, .hdl fa, paidD d (rs1.map (·.2))]])) :: (wr, .lst wdD) :: (mx, .lst mdD) :: (mo, .lst (ms.map dMom)) :: (fa, .lst ((carryC s2 d c (rs.map (·.2))).2.2.map D.str)) :: (ta, .lst ((rs1.map (·.2)).map tellD)) :: cartM CC CI x am rw2 (bk CB s2) (paidC d (carryC s2 d c (rs.map (·.2))).1 (rs1.map (·.2))).1 rs3) := by
  rw [hT1] at hT3 ew em ⊢
  refine k_eq (hk fa ta rw2 rs3 hT3) rfl ?_
  have e1 : (wd ++ if isT d then (carryC s2 d c (rs.map (·.2))).2.1.flatMap (wrongL n) else []).map dW = wdD := by rw [ew, List.map_append]; cases isT d <;> rfl
  have e2 : (md ++ if mixedL ms (carryC s2 d c (rs.map (·.2))).2.1 then [n] else []).map D.int = mdD := by rw [em, List.map_append]; cases mixedL ms (carryC s2 d c (rs.map (·.2))).2.1 <;> rfl
  simp only [hyM, e1, e2]
  rfl
end
/-! ### histories -/
structure Rp where
  told : List Ln
  names : List Str
  paid : Bool
structure RpH where
  t : Addr
  f : Addr
  r : Rp
def dPaid (r : Rp) : D := if r.paid then .lst (r.told.map boughtD) else .non
def dH : Option RpH → D | none => .non | some q => .tup [.hdl q.t, .hdl q.f, dPaid q.r]
def eH : Option RpH → Ms | none => [] | some q => [(q.f, .lst (q.r.names.map D.str)), (q.t, .lst (q.r.told.map tellD))]
def fgt : Option RpH → Option Rp := Option.map (·.r)
structure Hs where
  c : Ct
  ls : List Ln
  rps : List (Option Rp)
  wr : List (Str × Int × Str)
  mx : List Int
  ms : List Am
def hPer (s : Six) (h : Hs) (n : Nat) (d : Dd) : Hs :=
  let q := carryC s d h.c h.ls
  let p := paidC d q.1 q.2.1
  { c := p.1, ls := p.2, rps := h.rps ++ [some ⟨q.2.1, q.2.2, isT d⟩], wr := h.wr ++ (if isT d then q.2.1.flatMap (wrongL n) else []), mx := h.mx ++ (if mixedL h.ms q.2.1 then [(n : Int)] else []), ms := h.ms }
def hStep (s : Six) (h : Hs) (n : Nat) (d : Dd) : Hs := match d with
  | .price i a => { h with c := { h.c with am := h.c.am.put i a }, rps := h.rps ++ [none], ms := h.ms ++ [h.c.am.put i a] }
  | d => hPer s h n d
def hGo (s : Six) : Hs → Nat → List Dd → Hs
  | h, _, [] => h
  | h, n, d :: ds => hGo s (hStep s h n d) (n + 1) ds
def hs0 (m : Am) : Hs := ⟨⟨m, false, 0, 0⟩, [], [], [], [], [m]⟩
def hAt (s : Six) (m : Am) (dl : List Dd) (i : Nat) : Hs := hGo s (hs0 m) 0 (dl.take i)
theorem hGo_app (s : Six) : ∀ (xs ys : List Dd) (h : Hs) (n : Nat), hGo s h n (xs ++ ys) = hGo s (hGo s h n xs) (n + xs.length) ys
  | [], ys, h, n => rfl
  | x :: xs, ys, h, n => by
    rw [List.cons_append, hGo, hGo_app s xs ys, hGo, List.length_cons]
    congr 1
    omega
theorem hAt_succ {s : Six} {m : Am} {dl : List Dd} {i : Nat} {d : Dd} (h : dl[i]? = some d) : hAt s m dl (i + 1) = hStep s (hAt s m dl i) i d := by
  have hl := (List.getElem?_eq_some_iff.mp h).1
  unfold hAt
  rw [List.take_add_one, h, hGo_app]
  simp only [Option.toList_some, hGo, List.length_take, Nat.zero_add]
  rw [Nat.min_eq_left (Nat.le_of_lt hl)]
theorem price_of {d : Dd} (h : wordD d = "price") : ∃ i a, d = .price i a := by
  cases d with
  | price i a => exact ⟨i, a, rfl⟩
  | put i n => exact absurd (show ("put" : Str) = "price" from h) (by decide)
  | alter i n => exact absurd (show ("alter" : Str) = "price" from h) (by decide)
  | look => exact absurd (show ("look" : Str) = "price" from h) (by decide)
  | back => exact absurd (show ("back" : Str) = "price" from h) (by decide)
  | pay b => exact absurd (show ("pay" : Str) = "price" from h) (by decide)
theorem hStep_per {s : Six} {h : Hs} {n : Nat} {d : Dd} (hn : wordD d ≠ "price") : hStep s h n d = hPer s h n d := by
  cases d with
  | price i a => exact absurd rfl hn
  | _ => rfl
/-! what stays true of a line -/
structure LnOk (n : Nat) (m : Am) (l : Ln) : Prop where
  has : (m.get l.item).isSome = true
  n0 : 0 ≤ l.number
  n1 : l.number ≤ 1000 * n
  k0 : 0 ≤ l.kept
  k1 : l.kept ≤ 1000000000000
  sh : ∀ v, l.shown = some v → 0 ≤ v ∧ v ≤ 1000000000000
  gr : l.shown ≠ none → l.greatest ≠ none
structure LwOk (l : Ln) (w : LW) : Prop where
  k0 : 0 ≤ w.stays
  k1 : w.stays ≤ 1000000000000
  sh : ∀ v, w.seen = some v → 0 ≤ v ∧ v ≤ 1000000000000
  gr : w.seen ≠ none → l.shown ≠ none ∨ w.told ≠ []
theorem lwStep_ok {l : Ln} {w : LW} {now : Int} {a : Str} (h : LwOk l w) (n0 : 0 ≤ now) (n1 : now ≤ 1000000000000) : LwOk l (lwStep now w a) := by
  obtain ⟨k0, k1, sh, gr⟩ := h
  unfold lwStep
  split
  · exact ⟨n0, n1, sh, gr⟩
  · split
    · refine ⟨?_, ?_, sh, gr⟩ <;> simp only <;> split <;> omega
    · split
      · cases e : w.seen with
        | none => exact ⟨k0, k1, by simpa using e ▸ sh, by simpa [e] using gr⟩
        | some v =>
          obtain ⟨v0, v1⟩ := sh v e
          exact ⟨v0, v1, by simpa [e] using sh, by simpa [e] using gr⟩
      · split
        · refine ⟨k0, k1, fun v hv => ?_, fun _ => .inr (by simp [lwShow])⟩
          have : w.stays = v := Option.some.inj hv
          rw [← this]; exact ⟨k0, k1⟩
        · exact ⟨k0, k1, sh, gr⟩
theorem lwRun_ok {l : Ln} {now : Int} (n0 : 0 ≤ now) (n1 : now ≤ 1000000000000) : ∀ (r : Rule) (w : LW), LwOk l w → LwOk l (lwRun now r w)
  | [], _, h => h
  | a :: r, w, h => lwRun_ok n0 n1 r (lwStep now w a) (lwStep_ok h n0 n1)
theorem gMax_some (g : Option Int) (a : Int) : gMax g a ≠ none := by cases g <;> simp [gMax]
theorem fold_gMax : ∀ (td : List Int) (g : Option Int), g ≠ none ∨ td ≠ [] → td.foldl gMax g ≠ none
  | [], g, h => h.elim (fun z => z) fun z => absurd rfl z
  | a :: td, g, _ => fold_gMax td (gMax g a) (.inl (gMax_some g a))
theorem lnRun_ok {n : Nat} {m : Am} {l : Ln} {now : Int} {r : Rule} (h : LnOk n m l) (n0 : 0 ≤ now) (n1 : now ≤ 1000000000000) : LnOk n m (lnRun now r l) := by
  have w := lwRun_ok (l := l) n0 n1 r ⟨l.kept, l.shown, [], 0⟩ ⟨h.k0, h.k1, h.sh, .inl⟩
  refine ⟨h.has, h.n0, h.n1, w.k0, w.k1, w.sh, fun q => ?_⟩
  exact fold_gMax _ _ ((w.gr q).imp (fun z => h.gr z) fun z => z)
theorem LnOk.mono {n k : Nat} {m : Am} {l : Ln} (h : LnOk n m l) (e : n ≤ k) : LnOk k m l := ⟨h.has, h.n0, by have := h.n1; omega, h.k0, h.k1, h.sh, h.gr⟩
def AmOk (m : Am) : Prop := ∀ p ∈ m, 0 ≤ p.2 ∧ p.2 ≤ 1000000000000
theorem am_rng {m : Am} {i : Str} {a : Int} (h : AmOk m) (e : m.get i = some a) : 0 ≤ a ∧ a ≤ 1000000000000 := h _ (am_get_mem e)
theorem modify_ok {P Q : Ln → Prop} {ls : List Ln} {q : Nat} {f : Ln → Ln} (h : ∀ l ∈ ls, P l) (pq : ∀ l, P l → Q l) (hf : ∀ l, P l → Q (f l)) : ∀ l ∈ ls.modify q f, Q l := fun l hl => by
  obtain ⟨j, hj⟩ := List.getElem?_of_mem hl
  rw [List.getElem?_modify] at hj
  cases e : ls[j]? with
  | none => rw [e] at hj; simp at hj
  | some z =>
    rw [e] at hj
    have hz := h z (List.mem_of_getElem? e)
    by_cases k : q = j
    · simp [k] at hj; rw [← hj]; exact hf z hz
    · simp [k] at hj; rw [← hj]; exact pq z hz
theorem touch_ok {n : Nat} {m : Am} {ls : List Ln} {d : Dd} (hm : AmOk m) (h : ∀ l ∈ ls, LnOk n m l) (od : OkD d) (hp : Play m ls d) : ∀ l ∈ (touchL m d ls).1, LnOk (n + 1) m l := by
  have up : ∀ l, LnOk n m l → LnOk (n + 1) m l := fun l q => q.mono (Nat.le_succ n)
  cases d <;> simp only [touchL]
  case put i k =>
    obtain ⟨_, o1, o2⟩ := od
    obtain ⟨a, ha⟩ := Option.isSome_iff_exists.mp hp
    obtain ⟨a0, a1⟩ := am_rng hm ha
    cases e : findL i ls with
    | none =>
      intro l hl
      rcases List.mem_append.mp hl with q | q
      · exact up l (h l q)
      · rw [List.mem_singleton.mp q]
        refine ⟨hp, ?_, ?_, ?_, ?_, ?_, ?_⟩
        · show 0 ≤ k; omega
        · show k ≤ _; push_cast; omega
        · show 0 ≤ (m.get i).getD 0; rw [ha]; exact a0
        · show (m.get i).getD 0 ≤ _; rw [ha]; exact a1
        · intro v hv; cases hv
        · intro hv; exact absurd rfl hv
    | some q => exact modify_ok h up fun l z => ⟨z.has, by have := z.n0; show 0 ≤ l.number + k; omega, by have := z.n1; show l.number + k ≤ _; push_cast; omega, z.k0, z.k1, z.sh, z.gr⟩
  case alter i k =>
    obtain ⟨_, o1, o2⟩ := od
    cases e : findL i ls with
    | none => intro l hl; exact up l (h l hl)
    | some q =>
      by_cases hn : k = 0
      · simp only [hn, if_true]; intro l hl; exact up l (h l (List.mem_filter.mp hl).1)
      · simp only [hn, if_false]
        exact modify_ok h up fun l z => ⟨z.has, by show 0 ≤ k; omega, by show k ≤ _; push_cast; omega, z.k0, z.k1, z.sh, z.gr⟩
  all_goals intro l hl; exact up l (h l hl)
theorem carry_ok {n : Nat} {m : Am} {r : Rule} (hm : AmOk m) : ∀ (js : List Nat) (st : List Ln × List Str), (∀ l ∈ st.1, LnOk n m l) → ∀ l ∈ (js.foldl (carryStep m r) st).1, LnOk n m l
  | [], _, h => h
  | j :: js, st, h => by
    refine carry_ok hm js (carryStep m r st j) ?_
    unfold carryStep
    cases e : st.1[j]? with
    | none => exact h
    | some l =>
      intro z hz
      rcases List.mem_or_eq_of_mem_set hz with q | q
      · exact h z q
      · have hl := h l (List.mem_of_getElem? e)
        obtain ⟨a, ha⟩ := Option.isSome_iff_exists.mp hl.has
        obtain ⟨a0, a1⟩ := am_rng hm ha
        rw [q]
        refine lnRun_ok hl ?_ ?_ <;> rw [ha] <;> assumption
theorem touch_size (m : Am) (d : Dd) (ls : List Ln) : (touchL m d ls).1.length ≤ ls.length + 1 := by
  cases d <;> simp only [touchL]
  case put i k => cases findL i ls <;> simp
  case alter i k =>
    cases findL i ls with
    | none => simp
    | some q =>
      by_cases hn : k = 0
      · simp only [hn, if_true]; have := List.length_filter_le (fun l : Ln => !decide (l.item = i)) ls; omega
      · simp [hn]
  all_goals simp
theorem carry_size {m : Am} {r : Rule} : ∀ (js : List Nat) (st : List Ln × List Str), (js.foldl (carryStep m r) st).1.length = st.1.length
  | [], _ => rfl
  | j :: js, st => by
    rw [List.foldl_cons, carry_size js]
    unfold carryStep
    cases st.1[j]? <;> simp
structure HInv (n : Nat) (h : Hs) : Prop where
  ln : ∀ l ∈ h.ls, LnOk n h.c.am l
  len : h.ls.length ≤ n
  am : AmOk h.c.am
  aml : h.c.am.length ≤ 1000
  mom : ∀ m ∈ h.ms, ∀ i, (h.c.am.get i).isSome = true → (m.get i).isSome = true
  rl : h.rps.length = n
  wl : h.wr.length ≤ 2000 * n
  xl : h.mx.length ≤ n
  ml : h.ms.length ≤ n + 1
theorem am_put_ok {m : Am} {i : Str} {a : Int} (h : AmOk m) (a0 : 0 ≤ a) (a1 : a ≤ 1000000000000) : AmOk (m.put i a) := fun p hp => by
  obtain ⟨q, hq, e⟩ := List.mem_map.mp hp
  by_cases k : q.1 = i
  · simp only [k, if_true] at e; rw [← e]; exact ⟨a0, a1⟩
  · simp only [k, if_false] at e; rw [← e]; exact h q hq
theorem am_put_get {m : Am} {i j : Str} {a : Int} : ((m.put i a).get j).isSome = (m.get j).isSome := by
  rw [am_get_put]
  split
  · cases m.get j <;> rfl
  · rfl
theorem after_of {n : Nat} {m : Am} {ms : List Am} {ls : List Ln} (h : ∀ l ∈ ls, LnOk n m l) (hl : ls.length ≤ n) (hn : n ≤ 1000) (hm : ∀ m' ∈ ms, ∀ i, (m.get i).isSome = true → (m'.get i).isSome = true) : After ms ls :=
  ⟨by omega, fun m' h' l hl => hm m' h' _ (h l hl).has, fun l hl => (h l hl).gr, fun l hl => by
    have q := h l hl
    exact ⟨q.n0, by have := q.n1; omega, q.k0, q.k1⟩⟩
theorem carry_all {s : Six} {n : Nat} {h : Hs} {d : Dd} (v : HInv n h) (od : OkD d) (hp : Play h.c.am h.ls d) : (∀ l ∈ (carryC s d h.c h.ls).2.1, LnOk (n + 1) h.c.am l) ∧ (carryC s d h.c h.ls).2.1.length ≤ n + 1 := by
  refine ⟨carry_ok v.am _ _ (touch_ok v.am v.ln od hp), ?_⟩
  show (carryL h.c.am (ruleOf s (doorOf d h.c.failed)) (touchL h.c.am d h.ls).1 (touchL h.c.am d h.ls).2).1.length ≤ _
  unfold carryL
  rw [carry_size]
  have := touch_size h.c.am d h.ls
  have := v.len
  simp only
  omega
theorem inv_step {s : Six} {n : Nat} {h : Hs} {d : Dd} (v : HInv n h) (od : OkD d) (hp : Play h.c.am h.ls d) (hn : n ≤ 900) : HInv (n + 1) (hStep s h n d) := by
  by_cases hw : wordD d = "price"
  · obtain ⟨i, a, rfl⟩ : ∃ i a, d = .price i a := price_of hw
    obtain ⟨_, a0, a1⟩ := od
    refine ⟨fun l hl => ?_, Nat.le_succ_of_le v.len, am_put_ok v.am a0 a1, by show (h.c.am.put i a).length ≤ 1000; unfold Am.put; rw [List.length_map]; exact v.aml, fun m hm j hj => ?_, ?_, ?_, Nat.le_succ_of_le v.xl, ?_⟩
    · have q := (v.ln l hl).mono (Nat.le_succ n)
      exact ⟨by show ((h.c.am.put i a).get l.item).isSome = true; rw [am_put_get]; exact q.has, q.n0, q.n1, q.k0, q.k1, q.sh, q.gr⟩
    · have hj2 : (h.c.am.get j).isSome = true := by rw [← am_put_get (i := i) (a := a)]; exact hj
      rcases List.mem_append.mp hm with q | q
      · exact v.mom m q j hj2
      · rw [List.mem_singleton.mp q]; exact hj
    · show (h.rps ++ [none]).length = n + 1; simp [v.rl]
    · have := v.wl; show h.wr.length ≤ _; omega
    · have := v.ml; show (h.ms ++ [_]).length ≤ _; simp; omega
  · rw [hStep_per hw]
    obtain ⟨c1, c2⟩ := carry_all (s := s) v od hp
    have eam : (paidC d (carryC s d h.c h.ls).1 (carryC s d h.c h.ls).2.1).1.am = h.c.am := by unfold paidC; split <;> rfl
    have els : ∀ l ∈ (paidC d (carryC s d h.c h.ls).1 (carryC s d h.c h.ls).2.1).2, l ∈ (carryC s d h.c h.ls).2.1 := fun l hl => by
      unfold paidC at hl
      split at hl
      · cases hl
      · exact hl
    have ell : (paidC d (carryC s d h.c h.ls).1 (carryC s d h.c h.ls).2.1).2.length ≤ n + 1 := by
      unfold paidC
      split
      · simp
      · exact c2
    refine ⟨fun l hl => ?_, ell, ?_, ?_, fun m hm i hi => ?_, ?_, ?_, ?_, Nat.le_succ_of_le v.ml⟩
    · show LnOk (n + 1) (paidC d (carryC s d h.c h.ls).1 (carryC s d h.c h.ls).2.1).1.am l
      rw [eam]
      exact c1 l (els l hl)
    · show AmOk (paidC d (carryC s d h.c h.ls).1 (carryC s d h.c h.ls).2.1).1.am
      rw [eam]; exact v.am
    · show (paidC d (carryC s d h.c h.ls).1 (carryC s d h.c h.ls).2.1).1.am.length ≤ 1000
      rw [eam]; exact v.aml
    · refine v.mom m hm i ?_
      rw [← eam]; exact hi
    · show (h.rps ++ [_]).length = n + 1
      simp [v.rl]
    · show (h.wr ++ _).length ≤ _
      have h1 := wr_len n (carryC s d h.c h.ls).2.1
      rw [List.length_map] at h1
      have h2 := v.wl
      rw [List.length_append]
      split
      · omega
      · simp; omega
    · show (h.mx ++ _).length ≤ _
      have h2 := v.xl
      rw [List.length_append]
      split
      · simp; omega
      · simp; omega
theorem inv_zero {m : Am} (om : OkP m) : HInv 0 (hs0 m) :=
  ⟨fun l hl => (nomatch hl), by simp [hs0], fun p hp => (om.it p hp).2, Nat.le_trans om.l6 (by decide), fun m' hm i hi => by rw [List.mem_singleton.mp hm]; exact hi, rfl, by simp [hs0], by simp [hs0], by simp [hs0]⟩
def Plays (s : Six) (m : Am) (dl : List Dd) : Prop := ∀ i d, dl[i]? = some d → Play (hAt s m dl i).c.am (hAt s m dl i).ls d
theorem hinv {s : Six} {m : Am} {dl : List Dd} (om : OkP m) (od : ∀ d ∈ dl, OkD d) (hp : Plays s m dl) : ∀ {i : Nat}, i ≤ dl.length → dl.length ≤ 900 → HInv i (hAt s m dl i)
  | 0, _, _ => by unfold hAt; exact inv_zero om
  | i + 1, hi, hl => by
    have hd : dl[i]? = some dl[i] := List.getElem?_eq_getElem (by omega)
    rw [hAt_succ hd]
    exact inv_step (hinv om od hp (by omega) hl) (od _ (List.getElem_mem _)) (hp i _ hd) (by omega)
section
variable {CC CI CB CH h x am rw rp wr mx mo : Addr} {s2 : Six} {rs : Rs} {d : Dd} {n : Nat} {H : Hs} {RH : List (Option RpH)} {Q : Ms → Prop}
theorem go_case (v : HInv n H) (od : OkD d) (hp : Play H.c.am (rs.map (·.2)) d) (hR : RH.map fgt = H.rps) (hl : rs.map (·.2) = H.ls) (hn : n ≤ 900)
    (hq : ∀ (r : Option RpH) (rw' : Addr) (rs' : Rs), (RH ++ [r]).map fgt = (hStep s2 H n d).rps → rs'.map (·.2) = (hStep s2 H n d).ls → Q (hyM CH h x rp wr mx mo ((RH ++ [r]).map dH) (hStep s2 H n d).wr (hStep s2 H n d).mx (hStep s2 H n d).ms ++ (eH r ++ cartM CC CI x am rw' (bk CB s2) (hStep s2 H n d).c rs'))) :
    (∃ i a, d = .price i a ∧ Q (hyM CH h x rp wr mx mo (RH.map dH ++ [.non]) H.wr H.mx (H.ms ++ [H.c.am.put i a]) ++ cartM CC CI x am rw (bk CB s2) { H.c with am := H.c.am.put i a } rs)) ∨
   (wordD d ≠ "price" ∧ After H.ms (carryC s2 d H.c (rs.map (·.2))).2.1 ∧ ∀ fa ta rw' rs', rs'.map (·.2) = (paidC d (carryC s2 d H.c (rs.map (·.2))).1 (carryC s2 d H.c (rs.map (·.2))).2.1).2 → Q (hyM CH h x rp wr mx mo (RH.map dH ++ [.tup [.hdl ta, .hdl fa, paidD d (carryC s2 d H.c (rs.map (·.2))).2.1]]) (H.wr ++ if isT d then (carryC s2 d H.c (rs.map (·.2))).2.1.flatMap (wrongL n) else []) (H.mx ++ if mixedL H.ms (carryC s2 d H.c (rs.map (·.2))).2.1 then [(n : Int)] else []) H.ms ++ ((fa, .lst ((carryC s2 d H.c (rs.map (·.2))).2.2.map D.str)) :: (ta, .lst ((carryC s2 d H.c (rs.map (·.2))).2.1.map tellD)) :: cartM CC CI x am rw' (bk CB s2) (paidC d (carryC s2 d H.c (rs.map (·.2))).1 (carryC s2 d H.c (rs.map (·.2))).2.1).1 rs'))) := by
  rw [hl] at hp ⊢
  by_cases hw : wordD d = "price"
  · obtain ⟨i, a, rfl⟩ : ∃ i a, d = .price i a := price_of hw
    refine .inl ⟨i, a, rfl, ?_⟩
    have z := hq none rw rs (by rw [List.map_append, hR]; rfl) hl
    rw [List.map_append] at z
    exact z
  · obtain ⟨c1, c2⟩ := carry_all (s := s2) v od hp
    refine .inr ⟨hw, after_of c1 c2 (by omega) v.mom, fun fa ta rw' rs' hr => ?_⟩
    have z := hq (some ⟨ta, fa, ⟨(carryC s2 d H.c H.ls).2.1, (carryC s2 d H.c H.ls).2.2, isT d⟩⟩) rw' rs'
    rw [hStep_per hw] at z
    have z2 := z (by rw [List.map_append, hR]; rfl) hr
    rw [List.map_append] at z2
    exact z2
end
theorem go_perm1 (H T C : Ms) : (H ++ T ++ C).Perm (T ++ (H ++ C)) := by
  rw [← List.append_assoc]
  exact List.perm_append_comm.append_right C
theorem go_perm2 (H T E C : Ms) : (T ++ (H ++ (E ++ C))).Perm (H ++ (T ++ E) ++ C) := by
  have e1 : T ++ (H ++ (E ++ C)) = (T ++ H) ++ (E ++ C) := by simp
  have e2 : H ++ (T ++ E) ++ C = (H ++ T) ++ (E ++ C) := by simp
  rw [e1, e2]
  exact List.perm_append_comm.append_right _
theorem his_perm (h x am rw rp wr mx mo : Addr × MO) : [h, x, am, rw, rp, wr, mx, mo].Perm [h, rp, wr, mx, mo, x, am, rw] :=
  .cons h (List.perm_append_comm (l₁ := [x, am, rw]) (l₂ := [rp, wr, mx, mo]))
theorem mid_at {H T C : Ms} {p : Addr × MO} (e : C[0]? = some p) : (H ++ T ++ C)[H.length + T.length]? = some p := by
  rw [List.getElem?_append_right (by simp), List.length_append, Nat.sub_self, e]
theorem HInv.len2 {n : Nat} {H : Hs} {rs : Rs} (v : HInv n H) (h : rs.map (·.2) = H.ls) (hn : n ≤ 900) : rs.length ≤ 1000 := by
  have := v.len
  rw [← h, List.length_map] at this
  omega
theorem HInv.has2 {n : Nat} {H : Hs} {rs : Rs} (v : HInv n H) (h : rs.map (·.2) = H.ls) : Has H.c.am (rs.map (·.2)) := fun l hl => (v.ln l (by rw [← h]; exact hl)).has
theorem HInv.sizes {n : Nat} {H : Hs} {RH : List (Option RpH)} (v : HInv n H) (h : RH.map fgt = H.rps) (hn : n ≤ 900) : (RH.map dH).length ≤ 1000 ∧ H.wr.length ≤ 10000000 ∧ H.mx.length ≤ 1000 ∧ H.ms.length ≤ 1000 := by
  have h1 := v.rl
  rw [← h, List.length_map] at h1
  have h2 := v.wl
  have h3 := v.xl
  have h4 := v.ml
  rw [List.length_map]
  exact ⟨by omega, by omega, by omega, by omega⟩
/-! ### the laws' own defs -/
theorem amount_in {a b c e : Int} {d : D} (h : d ∈ List.replicate (3 : Int).toNat (D.int e) ++ [D.int a, .int (10 ^ (12 : Int).toNat - b), .int c]) (a0 : 0 ≤ a) (a1 : a ≤ 1000000000000) (b0 : 0 ≤ b) (b1 : b < 3) (c0 : 0 ≤ c) (c1 : c < 100) (e0 : 0 ≤ e) (e1 : e < 4) :
    ∃ v : Int, d = .int v ∧ 0 ≤ v ∧ v ≤ 1000000000000 := by
  have p : (10 : Int) ^ (12 : Int).toNat = 1000000000000 := by decide
  rw [p] at h
  rcases List.mem_append.mp h with q | q
  · exact ⟨e, List.eq_of_mem_replicate q, e0, by omega⟩
  · simp only [List.mem_cons, List.not_mem_nil, or_false] at q
    rcases q with q | q | q
    · exact ⟨_, q, a0, a1⟩
    · exact ⟨_, q, by omega, by omega⟩
    · exact ⟨_, q, c0, by omega⟩
def Lk (M : Ms) : Nat → D → D → Prop
  | _, t, .non => t = .non
  | _, t, .int i => t = .int i
  | _, t, .str s => t = .str s
  | n + 1, t, .tup ds => ∃ ts, t = .tup ts ∧ ts.length = ds.length ∧ ds.length ≤ 10000 ∧ ∀ (i : Nat) (a b : D), ts[i]? = some a → ds[i]? = some b → Lk M n a b
  | n + 1, t, .lst ds => ∃ ts, (t = .lst ts ∨ ∃ (p : Nat) (h : Addr), t = .hdl h ∧ M[p]? = some (h, MO.lst ts)) ∧ ts.length = ds.length ∧ ds.length ≤ 10000 ∧ ∀ (i : Nat) (a b : D), ts[i]? = some a → ds[i]? = some b → Lk M n a b
  | _, _, _ => False
theorem acts_cases {a : Str} (h : a ∈ acts) : a = "take" ∨ a = "least" ∨ a = "last" ∨ a = "show" ∨ a = "ask" := by
  simpa [acts] using h
theorem lw_take (now : Int) (w : LW) : lwStep now w "take" = { w with stays := now } := by simp [lwStep]
theorem lw_least (now : Int) (w : LW) : lwStep now w "least" = { w with stays := if now < w.stays then now else w.stays } := by
  unfold lwStep
  rw [if_neg (by decide), if_pos rfl]
theorem lw_lastN (now st : Int) (td : List Int) (tm : Int) : lwStep now ⟨st, none, td, tm⟩ "last" = ⟨st, none, td, tm⟩ := by
  unfold lwStep
  rw [if_neg (by decide), if_neg (by decide), if_pos rfl]
theorem lw_lastS (now st s1 : Int) (td : List Int) (tm : Int) : lwStep now ⟨st, some s1, td, tm⟩ "last" = ⟨s1, some s1, td, tm⟩ := by
  unfold lwStep
  rw [if_neg (by decide), if_neg (by decide), if_pos rfl]
theorem lw_show (now : Int) (w : LW) : lwStep now w "show" = ⟨w.stays, some w.stays, w.told ++ [w.stays], w.times⟩ := by
  unfold lwStep
  rw [if_neg (by decide), if_neg (by decide), if_neg (by decide), if_pos (.inl rfl), lwShow, if_neg (by decide)]
theorem lw_askN (now st : Int) (td : List Int) (tm : Int) : lwStep now ⟨st, none, td, tm⟩ "ask" = ⟨st, some st, td ++ [st], tm + 1⟩ := by
  unfold lwStep
  rw [if_neg (by decide), if_neg (by decide), if_neg (by decide), if_pos (.inr (by simp)), lwShow, if_pos rfl]
theorem lw_askS (now st s1 : Int) (td : List Int) (tm : Int) (h : (!decide (s1 = st)) = true) : lwStep now ⟨st, some s1, td, tm⟩ "ask" = ⟨st, some st, td ++ [st], tm + 1⟩ := by
  have h2 : ¬ s1 = st := by simpa using h
  unfold lwStep
  rw [if_neg (by decide), if_neg (by decide), if_neg (by decide), if_pos (.inr (by simp [h2])), lwShow, if_pos rfl]
theorem lw_askE (now st s1 : Int) (td : List Int) (tm : Int) (h : (!decide (s1 = st)) = false) : lwStep now ⟨st, some s1, td, tm⟩ "ask" = ⟨st, some st, td, tm⟩ := by
  have h2 : s1 = st := by simpa using h
  subst h2
  unfold lwStep
  rw [if_neg (by decide), if_neg (by decide), if_neg (by decide), if_neg (by simp; decide)]
def PlaysFrom (s : Six) : Hs → Nat → List Dd → Prop
  | _, _, [] => True
  | h, n, d :: ds => Play h.c.am h.ls d ∧ PlaysFrom s (hStep s h n d) (n + 1) ds
theorem playsFrom_get {s : Six} : ∀ {dl : List Dd} {h : Hs} {n i : Nat} {d : Dd}, PlaysFrom s h n dl → dl[i]? = some d → Play (hGo s h n (dl.take i)).c.am (hGo s h n (dl.take i)).ls d
  | [], _, _, _, _, _, e => by cases e
  | x :: dl, h, n, 0, d, p, e => by cases e; exact p.1
  | x :: dl, h, n, i + 1, d, p, e => playsFrom_get (dl := dl) p.2 e
theorem plays_of {s : Six} {m : Am} {dl : List Dd} (h : PlaysFrom s (hs0 m) 0 dl) : Plays s m dl := fun _ _ e => playsFrom_get h e
/-- plain data of so many levels -/
def pl : Nat → D → Bool
  | _, .non => true
  | _, .int _ => true
  | _, .str _ => true
  | n + 1, .tup ds => decide (ds.length ≤ 10000) && ds.all (pl n)
  | n + 1, .lst ds => decide (ds.length ≤ 10000) && ds.all (pl n)
  | _, _ => false
theorem lk_same {M : Ms} : ∀ {n : Nat} {d : D}, pl n d = true → Lk M n d d
  | n, .non, _ => by cases n <;> rfl
  | n, .int i, _ => by cases n <;> rfl
  | n, .str s, _ => by cases n <;> rfl
  | n + 1, .tup ds, h => by
    simp only [pl, Bool.and_eq_true, decide_eq_true_eq, List.all_eq_true] at h
    exact ⟨ds, rfl, rfl, h.1, fun i a b ha hb => by rw [ha] at hb; cases hb; exact lk_same (h.2 a (List.mem_of_getElem? ha))⟩
  | n + 1, .lst ds, h => by
    simp only [pl, Bool.and_eq_true, decide_eq_true_eq, List.all_eq_true] at h
    exact ⟨ds, .inl rfl, rfl, h.1, fun i a b ha hb => by rw [ha] at hb; cases hb; exact lk_same (h.2 a (List.mem_of_getElem? ha))⟩
  | n, .bl b, h => by cases n <;> simp [pl] at h
  | n, .seq ds, h => by cases n <;> simp [pl] at h
  | n, .dct ks ds, h => by cases n <;> simp [pl] at h
  | n, .ins C fs ds, h => by cases n <;> simp [pl] at h
  | n, .hdl a, h => by cases n <;> simp [pl] at h
  | n, .raw v, h => by cases n <;> simp [pl] at h
  | 0, .tup ds, h => by simp [pl] at h
  | 0, .lst ds, h => by simp [pl] at h
theorem lk_hdl {M : Ms} {n p : Nat} {h : Addr} {ds : List D} (hm : M[p]? = some (h, MO.lst ds)) (hp : pl (n + 1) (.lst ds) = true) : Lk M (n + 1) (.hdl h) (.lst ds) := by
  simp only [pl, Bool.and_eq_true, decide_eq_true_eq, List.all_eq_true] at hp
  exact ⟨ds, .inr ⟨p, h, rfl, hm⟩, rfl, hp.1, fun i a b ha hb => by rw [ha] at hb; cases hb; exact lk_same (hp.2 a (List.mem_of_getElem? ha))⟩
theorem lk_tup3 {M : Ms} {n : Nat} {a b c a' b' c' : D} (h1 : Lk M n a a') (h2 : Lk M n b b') (h3 : Lk M n c c') : Lk M (n + 1) (.tup [a, b, c]) (.tup [a', b', c']) :=
  ⟨_, rfl, rfl, by simp, fun i x y hx hy => by
    match i, hx, hy with
    | 0, hx, hy => cases hx; cases hy; exact h1
    | 1, hx, hy => cases hx; cases hy; exact h2
    | 2, hx, hy => cases hx; cases hy; exact h3⟩
theorem lk_lst3 {M : Ms} {n : Nat} {a b c a' b' c' : D} (h1 : Lk M n a a') (h2 : Lk M n b b') (h3 : Lk M n c c') : Lk M (n + 1) (.lst [a, b, c]) (.lst [a', b', c']) :=
  ⟨_, .inl rfl, rfl, by simp, fun i x y hx hy => by
    match i, hx, hy with
    | 0, hx, hy => cases hx; cases hy; exact h1
    | 1, hx, hy => cases hx; cases hy; exact h2
    | 2, hx, hy => cases hx; cases hy; exact h3⟩
theorem pl_dO (o : Option Int) : ∀ n, pl n (dO o) = true := fun n => by cases o <;> cases n <;> rfl
theorem pl_reps {n : Nat} (k : Nat) (s : Str) (h : k ≤ 10000) : pl (n + 1) (.lst (List.replicate k (.str s))) = true := by
  simp only [pl, Bool.and_eq_true, decide_eq_true_eq, List.all_eq_true, List.length_replicate]
  exact ⟨h, fun d hd => by rw [List.eq_of_mem_replicate hd]; cases n <;> rfl⟩
/-! ### drawn items -/
def sg (c : Nat) : Str := ⟨#[c]⟩
def letters : Str := "abcdefghijklmnopqrstuvwxyz"
theorem okI_of {s : Str} (l1 : 1 ≤ s.length) (l8 : s.length ≤ 8) (ch : ∀ c ∈ s.cps.toList, 97 ≤ c ∧ c ≤ 122) : OkI s := by
  refine ⟨?_, l1, l8, ch⟩
  show PyData.canLay0 (.str s) = true
  simp only [PyData.canLay0, PyData.strOk]
  rw [Array.all_eq_true']
  intro c hc
  have := ch c (Array.mem_toList_iff.mpr hc)
  simp only [decide_eq_true_eq]
  omega
theorem join_sg : ∀ cs : List Nat, (Str.join Str.empty (cs.map sg)).cps.toList = cs
  | [] => rfl
  | [c] => rfl
  | c :: d :: r => by
    have ih := join_sg (d :: r)
    show ((sg c ++ Str.empty ++ Str.join Str.empty ((d :: r).map sg)) : Str).cps.toList = _
    show ((#[c] ++ #[] ++ (Str.join Str.empty ((d :: r).map sg)).cps : Array Nat)).toList = _
    rw [List.map_cons] at ih
    simp [ih]
theorem join_ok {cs : List Nat} (h1 : 1 ≤ cs.length) (h8 : cs.length ≤ 8) (hc : ∀ c ∈ cs, 97 ≤ c ∧ c ≤ 122) : OkI (Txt.join "" (cs.map sg)) := by
  rw [show ("" : Str) = Str.empty from by decide +kernel]
  rw [show Txt.join Str.empty (cs.map sg) = Str.join Str.empty (cs.map sg) from PySem.StrLaws.glued_eq_join _ _]
  have e := join_sg cs
  have l : (Str.join Str.empty (cs.map sg)).length = cs.length := by rw [← congrArg List.length e]; simp [PySem.Str.length]
  exact okI_of (by omega) (by omega) (by rw [e]; exact hc)
theorem cut7_ok {s : Str} {c : Nat} (h : OkI s) (hc : 97 ≤ c ∧ c ≤ 122) : (cutS s none (some 7)).length ≤ 7 ∧ OkI (cutS s none (some 7) ++ sg c) := by
  have e : (cutS s none (some 7)).cps.toList = (s.cps.toList.drop (HT.sIx s.length 0 none)).take (HT.sIx s.length s.length (some 7) - HT.sIx s.length 0 none) := by simp [cutS]
  have b : HT.sIx s.length s.length (some 7) - HT.sIx s.length 0 none ≤ 7 := by
    have h1 : HT.sIx s.length s.length (some 7) ≤ 7 := by simp [HT.sIx]; omega
    omega
  have l : (cutS s none (some 7)).length ≤ 7 := by
    rw [show (cutS s none (some 7)).length = (cutS s none (some 7)).cps.toList.length from by simp [PySem.Str.length], e, List.length_take]
    omega
  refine ⟨l, okI_of ?_ ?_ fun q hq => ?_⟩
  · rw [PySem.Str.length_append]; show 1 ≤ _ + 1; omega
  · rw [PySem.Str.length_append]; show _ + 1 ≤ 8; omega
  · have e2 : (cutS s none (some 7) ++ sg c).cps.toList = (cutS s none (some 7)).cps.toList ++ [c] := by
      show ((cutS s none (some 7)).cps ++ #[c]).toList = _
      simp
    rw [e2, e] at hq
    rcases List.mem_append.mp hq with z | z
    · exact h.ch q (List.mem_of_mem_drop (List.mem_of_mem_take z))
    · rw [List.mem_singleton.mp z]; exact hc
def qs (i : Nat) : Str := ⟨(List.replicate ((0 + (i : Int)) + 1).toNat ("q" : Str).cps).foldl (· ++ ·) #[]⟩
theorem qs_ok : ∀ i < 8, OkI (qs i) := by
  intro i hi
  have l : ∀ j < 8, 1 ≤ (qs j).length ∧ (qs j).length ≤ 8 ∧ ∀ c ∈ (qs j).cps.toList, 97 ≤ c ∧ c ≤ 122 := by decide +kernel
  obtain ⟨a, b, c⟩ := l i hi
  exact okI_of a b c
theorem qs_nd : ((List.range 8).map qs).Nodup := by decide +kernel
theorem few_miss : ∀ {l m : List Str}, l.Nodup → (∀ x ∈ l, x ∈ m) → l.length ≤ m.length
  | [], _, _, _ => by simp
  | x :: l, m, nd, h => by
    have hx := h x (by simp)
    have nd2 := List.nodup_cons.mp nd
    have := few_miss (l := l) (m := m.erase x) nd2.2 fun y hy => by
      have hy2 := h y (by simp [hy])
      have ne : y ≠ x := fun e => nd2.1 (e ▸ hy)
      exact (List.mem_erase_of_ne ne).mpr hy2
    rw [List.length_erase_of_mem hx] at this
    have : 0 < m.length := List.length_pos_of_mem hx
    simp only [List.length_cons]
    omega
theorem spare_in {its : List Str} (h : its.length ≤ 7) : ∃ sp rest, ((List.range 8).map qs).filter (fun s => !decide (s ∈ its)) = sp :: rest ∧ sp ∉ its ∧ OkI sp := by
  cases e : ((List.range 8).map qs).filter (fun s => !decide (s ∈ its)) with
  | nil =>
    exfalso
    have := few_miss (l := (List.range 8).map qs) (m := its) qs_nd fun x hx => by
      have := List.filter_eq_nil_iff.mp e x hx
      simpa using this
    simp at this
    omega
  | cons sp rest =>
    have hm : sp ∈ ((List.range 8).map qs).filter (fun s => !decide (s ∈ its)) := by rw [e]; simp
    obtain ⟨h1, h2⟩ := List.mem_filter.mp hm
    obtain ⟨i, hi, rfl⟩ := List.mem_map.mp h1
    exact ⟨_, rest, rfl, by simpa using h2, qs_ok i (List.mem_range.mp hi)⟩
theorem letter_at : ∀ j < 26, letters.cps[j]? = some (97 + j) := by decide +kernel
theorem letter_ix {K : PySem.W.Frag} {M : Ms} {k : KD} {r : Int} (h0 : 0 ≤ r) (h1 : r < 26) (hk : k (.str (sg (97 + r.toNat))) M) : Bin K (rIx K) (.str letters) (.int r) M k :=
  ix_str' (j := r.toNat) (c := 97 + r.toNat) (.inl ⟨h0, by omega, by have : letters.length = 26 := by decide +kernel
                                                                     omega⟩) (letter_at _ (by omega)) (by decide +kernel) hk
theorem strs_sm {its : List Str} (h : ∀ s ∈ its, OkI s) : sm 1 (.lst (its.map D.str)) = true := by
  simp only [sm]
  rw [sms_iff]
  intro d hd
  obtain ⟨s, hs, rfl⟩ := List.mem_map.mp hd
  exact (h s hs).lay
theorem strs_D (its : List Str) : strsD (its.map D.str) = true := by
  simp [strsD, isStrD]
theorem gb_envE {X : Cx} {Γ Γ' : En} {M : Ms} {sts : List Stmt} {E : ED} (e : Γ = Γ') (h : GB X Γ' M sts E) : GB X Γ M sts E := e ▸ h
theorem take_all8 : (((List.range 8).map qs).take (((List.range 8).map qs).length)) = (List.range 8).map qs := List.take_length
theorem snoc_nd {its : List Str} {x : Str} (h : its.Nodup) (n : x ∉ its) : (its ++ [x]).Nodup := by
  rw [List.nodup_append]
  exact ⟨h, by simp, fun a ha b hb e => n (by rw [List.mem_singleton.mp hb] at e; rw [← e]; exact ha)⟩
theorem nin_of {its : List Str} {x : Str} (h : (its.map D.str).any (isS x) = false) : x ∉ its := by rw [any_strs] at h; simpa using h
theorem nmem_of {its : List Str} {x : Str} (h : (!(its.map D.str).any (isS x)) = true) : x ∉ its := nin_of (by simpa using h)
theorem mem_of {its : List Str} {x : Str} (h : (!(its.map D.str).any (isS x)) = false) : x ∈ its := by rw [any_strs] at h; simpa using h
theorem sg_sum (cs : List Nat) : ((cs.map sg).map (·.length)).sum = cs.length := by
  induction cs with
  | nil => rfl
  | cons c cs ih => simp only [List.map_cons, List.sum_cons, ih, List.length_cons]; show 1 + _ = _; omega
theorem last_of {its : List Str} (h : (!PyData.eqv (py (.lst (its.map D.str))) (py (.lst []))) = true) : ∃ s, its[its.length - 1]? = some s := by
  cases its with
  | nil => simp [py, pys, PyData.eqv, PyData.eqvAll] at h
  | cons a l => exact ⟨(a :: l)[(a :: l).length - 1], List.getElem?_eq_getElem (by simp)⟩
def dRp : Option Rp → D | none => .non | some r => .tup [.lst (r.told.map tellD), .lst (r.names.map D.str), dPaid r]
theorem lnRun_nil (now : Int) (l : Ln) : lnRun now [] l = l := rfl
theorem carry_nil (m : Am) (ls : List Ln) : ∀ js : List Nat, carryL m [] ls js = (ls, []) := by
  have st : ∀ (st : List Ln × List Str) (j : Nat), carryStep m [] st j = st := fun st j => by
    unfold carryStep
    cases e : st.1[j]? with
    | none => rfl
    | some l =>
      obtain ⟨hl, hz⟩ := List.getElem?_eq_some_iff.mp e
      simp only [lnRun_nil]
      rw [show st.1.set j l = st.1 from by rw [← hz]; exact List.set_getElem_self hl]
      simp [lnWork, lwRun]
  intro js
  unfold carryL
  induction js with
  | nil => rfl
  | cons j js ih => rw [List.foldl_cons, st]; exact ih
def runAt (m : Am) (r : Rule) (l : Ln) : Ln := lnRun ((m.get l.item).getD 0) r l
def namesAt (m : Am) (r : Rule) (l : Ln) : List Str := List.replicate (lnWork ((m.get l.item).getD 0) r l).times.toNat l.item
theorem carry_all_map (m : Am) (r : Rule) (ls : List Ln) : carryL m r ls (List.range ls.length) = (ls.map (runAt m r), ls.flatMap (namesAt m r)) := by
  have h : ∀ k, k ≤ ls.length → (List.range k).foldl (carryStep m r) (ls, []) = ((ls.take k).map (runAt m r) ++ ls.drop k, (ls.take k).flatMap (namesAt m r)) := by
    intro k
    induction k with
    | zero => intro _; simp
    | succ k ih =>
      intro hk
      have hl : k < ls.length := by omega
      rw [List.range_succ, List.foldl_append, ih (by omega)]
      simp only [List.foldl_cons, List.foldl_nil]
      have ix : ((ls.take k).map (runAt m r) ++ ls.drop k)[k]? = some ls[k] := by
        rw [List.getElem?_append_right (by simp; omega)]
        simp only [List.length_map, List.length_take, Nat.min_eq_left (Nat.le_of_lt hl), Nat.sub_self]
        rw [List.getElem?_drop]; simp [hl]
      have tk : ls.take (k + 1) = ls.take k ++ [ls[k]] := by rw [List.take_add_one, List.getElem?_eq_getElem hl]; rfl
      unfold carryStep
      simp only [ix]
      have st : ((ls.take k).map (runAt m r) ++ ls.drop k).set k (lnRun ((m.get (ls[k]).item).getD 0) r ls[k]) = (ls.take (k + 1)).map (runAt m r) ++ ls.drop (k + 1) := by
        rw [List.set_append_right _ _ (by simp; omega)]
        simp only [List.length_map, List.length_take, Nat.min_eq_left (Nat.le_of_lt hl), Nat.sub_self]
        rw [List.drop_eq_getElem_cons hl, List.set_cons_zero, tk, List.map_append, List.append_assoc]
        rfl
      rw [st, tk, List.flatMap_append]
      simp only [List.flatMap_cons, List.flatMap_nil, List.append_nil]
      rfl
  have := h ls.length (Nat.le_refl _)
  unfold carryL
  rw [this]
  simp
theorem pl_tell (ls : List Ln) (n : Nat) (h : ls.length ≤ 10000) : pl (n + 2) (.lst (ls.map tellD)) = true := by
  simp only [pl, Bool.and_eq_true, decide_eq_true_eq, List.all_eq_true, List.length_map]
  refine ⟨h, fun d hd => ?_⟩
  obtain ⟨l, _, rfl⟩ := List.mem_map.mp hd
  simp only [tellD, pl, Bool.and_eq_true, decide_eq_true_eq, List.all_eq_true]
  refine ⟨by simp, fun e he => ?_⟩
  simp only [List.mem_cons, List.not_mem_nil, or_false] at he
  rcases he with rfl | rfl | rfl
  · cases n <;> rfl
  · cases n <;> rfl
  · exact pl_dO _ _
theorem pl_paid (r : Rp) (n : Nat) (h : r.told.length ≤ 10000) : pl (n + 2) (dPaid r) = true := by
  unfold dPaid
  split
  · simp only [pl, Bool.and_eq_true, decide_eq_true_eq, List.all_eq_true, List.length_map]
    refine ⟨h, fun d hd => ?_⟩
    obtain ⟨l, _, rfl⟩ := List.mem_map.mp hd
    simp only [boughtD, pl, Bool.and_eq_true, decide_eq_true_eq, List.all_eq_true]
    refine ⟨by simp, fun e he => ?_⟩
    simp only [List.mem_cons, List.not_mem_nil, or_false] at he
    rcases he with rfl | rfl | rfl <;> cases n <;> rfl
  · rfl
theorem pl_names (ys : List Str) (n : Nat) (h : ys.length ≤ 10000) : pl (n + 1) (.lst (ys.map D.str)) = true := by
  simp only [pl, Bool.and_eq_true, decide_eq_true_eq, List.all_eq_true, List.length_map]
  refine ⟨h, fun d hd => ?_⟩
  obtain ⟨l, _, rfl⟩ := List.mem_map.mp hd
  cases n <;> rfl
/-- what was told by a play is alike what is due -/
theorem lk_play {M : Ms} {rp : Addr} {RH : List (Option RpH)} {rps : List (Option Rp)} (hR : RH.map fgt = rps) (hs : ∀ r ∈ rps, ∀ q, r = some q → q.told.length ≤ 10000 ∧ q.names.length ≤ 10000) (hl : rps.length ≤ 10000)
    (h0 : (rp, MO.lst (RH.map dH)) ∈ M) (h1 : ∀ e ∈ RH.flatMap eH, e ∈ M) : Lk M 5 (.hdl rp) (.lst (rps.map dRp)) := by
  subst hR
  obtain ⟨p, hp⟩ := List.getElem?_of_mem h0
  refine ⟨RH.map dH, .inr ⟨p, rp, rfl, hp⟩, by simp, by simpa using hl, fun i a b ha hb => ?_⟩
  obtain ⟨r, hr, rfl⟩ := get_map1 ha
  rw [List.map_map, List.getElem?_map, hr] at hb
  cases hb
  have hm := List.mem_of_getElem? hr
  cases r with
  | none => rfl
  | some q =>
    obtain ⟨s1, s2⟩ := hs (some q.r) (List.mem_map.mpr ⟨some q, hm, rfl⟩) q.r rfl
    have e1 : (q.f, MO.lst (q.r.names.map D.str)) ∈ M := h1 _ (List.mem_flatMap.mpr ⟨some q, hm, by simp [eH]⟩)
    have e2 : (q.t, MO.lst (q.r.told.map tellD)) ∈ M := h1 _ (List.mem_flatMap.mpr ⟨some q, hm, by simp [eH]⟩)
    obtain ⟨p1, hp1⟩ := List.getElem?_of_mem e1
    obtain ⟨p2, hp2⟩ := List.getElem?_of_mem e2
    exact lk_tup3 (lk_hdl hp2 (pl_tell _ 1 s1)) (lk_hdl hp1 (pl_names _ 2 s2)) (lk_same (pl_paid _ 1 s1))
/-- the person's last deed was a payment that failed -/
def failedP (l : List Dd) : Bool := match (l.filter fun d => !decide (wordD d = "price")).getLast? with | some d => isF d | none => false
theorem failed_at (s : Six) (m : Am) (dl : List Dd) : ∀ i, i ≤ dl.length → (hAt s m dl i).c.failed = failedP (dl.take i)
  | 0, _ => rfl
  | i + 1, hi => by
    have hd : dl[i]? = some dl[i] := List.getElem?_eq_getElem (by omega)
    have ih := failed_at s m dl i (by omega)
    rw [hAt_succ hd, List.take_add_one, hd]
    unfold failedP at ih ⊢
    rw [List.filter_append]
    by_cases hw : wordD dl[i] = "price"
    · obtain ⟨it, a, e⟩ := price_of hw
      rw [e] at hw ⊢
      have : (hStep s (hAt s m dl i) i (.price it a)).c.failed = (hAt s m dl i).c.failed := rfl
      rw [this, ih]
      simp [hw]
    · rw [hStep_per hw]
      have : (hPer s (hAt s m dl i) i dl[i]).c.failed = isF dl[i] := by
        unfold hPer paidC
        simp only
        split <;> rfl
      rw [this]
      simp [hw]
theorem sm_deeds {dl : List Dd} (h : ∀ d ∈ dl, OkD d) : sm 2 (.lst (dl.map dDd)) = true := by
  simp only [sm]
  rw [sms_iff]
  intro d hd
  obtain ⟨e, he, rfl⟩ := List.mem_map.mp hd
  exact sm_dDd (h e he)
theorem eqv_empty (ds : List D) : PyData.eqv (py (.lst ds)) (py (.lst [])) = ds.isEmpty := by
  cases ds <;> simp [py, pys, PyData.eqv, PyData.eqvAll]
theorem cut_take {l : List D} {i : Nat} (h : i ≤ l.length) : cutD l none (some (i : Int)) = l.take i := by
  unfold cutD
  rw [HT.sIx_none, HT.sIx_nat, Nat.min_eq_left h, List.drop_zero, Nat.sub_zero]
/-! ### histories: what every law over plays needs -/
def l4D (l : Ln) : D := .tup [.str l.item, .int l.number, .int l.kept, dO l.shown]
theorem find_none {i : Str} {ls : List Ln} (h : i ∉ ls.map (·.item)) : findL i ls = none := by
  unfold findL
  rw [List.findIdx?_eq_none_iff]
  intro l hl
  simpa using fun e : l.item = i => h (e ▸ List.mem_map_of_mem hl)
theorem am_step {s : Six} {H : Hs} {n : Nat} {d : Dd} {i : Str} (h : (H.c.am.get i).isSome = true) : ((hStep s H n d).c.am.get i).isSome = true := by
  by_cases hw : wordD d = "price"
  · obtain ⟨j, a, rfl⟩ := price_of hw
    show ((H.c.am.put j a).get i).isSome = true
    rw [am_put_get]; exact h
  · rw [hStep_per hw]
    have : (hPer s H n d).c.am = H.c.am := by unfold hPer paidC; simp only; split <;> rfl
    rw [this]; exact h
theorem am_at {s : Six} {m : Am} {dl : List Dd} {i : Str} (h : (m.get i).isSome = true) : ∀ k, k ≤ dl.length → ((hAt s m dl k).c.am.get i).isSome = true
  | 0, _ => h
  | k + 1, hk => by
    have hd : dl[k]? = some dl[k] := List.getElem?_eq_getElem (by omega)
    rw [hAt_succ hd]
    exact am_step (am_at h k (by omega))
theorem get_key {m : Am} {i : Str} (h : i ∈ m.map (·.1)) : (m.get i).isSome = true := by
  induction m with
  | nil => simp at h
  | cons p m ih =>
    obtain ⟨q, b⟩ := p
    unfold Am.get at ih ⊢
    simp only [List.lookup]
    by_cases e : i = q
    · subst e; simp
    · have e2 : (i == q) = false := by simpa using e
      rw [e2]
      refine ih ?_
      rcases List.mem_cons.mp h with z | z
      · exact absurd z e
      · exact z
theorem rps_small {s : Six} {m : Am} {dl : List Dd} (om : OkP m) (od : ∀ d ∈ dl, OkD d) (os : OkS s) (hp : Plays s m dl) (hl : dl.length ≤ 900) : ∀ i, i ≤ dl.length → ∀ r ∈ (hAt s m dl i).rps, ∀ q, r = some q → q.told.length ≤ 10000 ∧ q.names.length ≤ 10000
  | 0, _ => by intro r hr; simp [hAt, hGo, hs0] at hr
  | i + 1, hi => by
    have hd : dl[i]? = some dl[i] := List.getElem?_eq_getElem (by omega)
    have ih := rps_small om od os hp hl i (by omega)
    have v := hinv om od hp (i := i) (by omega) hl
    have okd := od _ (List.getElem_mem (by omega) : dl[i] ∈ dl)
    have hpl := hp i _ hd
    rw [hAt_succ hd]
    generalize hAt s m dl i = H at ih v hpl
    intro r hr q hq
    by_cases hw : wordD dl[i] = "price"
    · obtain ⟨j, a, e⟩ := price_of hw
      rw [e] at hr
      rcases List.mem_append.mp hr with z | z
      · exact ih r z q hq
      · rw [List.mem_singleton.mp z] at hq; cases hq
    · rw [hStep_per hw] at hr
      rcases List.mem_append.mp hr with z | z
      · exact ih r z q hq
      · have e := List.mem_singleton.mp z
        rw [hq] at e
        cases e
        obtain ⟨c1, c2⟩ := carry_all (s := s) v okd hpl
        refine ⟨by show (carryC s dl[i] H.c H.ls).2.1.length ≤ 10000; omega, ?_⟩
        show (carryL H.c.am (ruleOf s (doorOf dl[i] H.c.failed)) (touchL H.c.am dl[i] H.ls).1 (touchL H.c.am dl[i] H.ls).2).2.length ≤ 10000
        have h1 := fold_len (m := H.c.am) (rule_at os (door_mem hw (f := H.c.failed))).1 (touchL H.c.am dl[i] H.ls).2 ((touchL H.c.am dl[i] H.ls).1, [])
        have h2 : (touchL H.c.am dl[i] H.ls).2.length ≤ 1000 := by
          have := touch_len (ls := H.ls.map fun l => (0, l)) H.c.am dl[i] (by rw [List.length_map]; have := v.len; omega)
          simpa [List.map_map, Function.comp_def] using this
        unfold carryL
        simp only [List.length_nil] at h1
        omega
theorem get_deed {dl : List Dd} {i : Nat} {d : Dd} (h : dl[i]? = some d) : (dl.map dDd)[i]? = some (dDd d) := by rw [List.getElem?_map, h]; rfl
theorem okp_of {m : Am} {its : List Str} (hm : m.map (·.1) = its) (ha : AmOk m) (nd : its.Nodup) (ok : ∀ s ∈ its, OkI s) (l1 : 1 ≤ its.length) (l6 : its.length ≤ 6) : OkP m := by
  have l : m.length = its.length := by rw [← hm, List.length_map]
  exact ⟨by omega, by omega, fun p hp => ⟨ok _ (by rw [← hm]; exact List.mem_map_of_mem hp), ha p hp⟩, by rw [hm]; exact nd⟩
theorem rps_len {s : Six} {m : Am} {dl : List Dd} (om : OkP m) (od : ∀ d ∈ dl, OkD d) (hp : Plays s m dl) (hl : dl.length ≤ 900) : (hAt s m dl dl.length).rps.length ≤ 10000 := by
  have := (hinv om od hp (Nat.le_refl _) hl).rl
  omega

/-- the items that have lines, behind a deed -/
def thStep (t : List Str) : Dd → List Str
  | .put i _ => if i ∈ t then t else t ++ [i]
  | .alter i n => if n = 0 then t.filter (fun x => !decide (x = i)) else t
  | .pay true => []
  | _ => t
def thOf (dl : List Dd) : List Str := dl.foldl thStep []
/-- a deed that can be played where these items have lines -/
def GoodD (its t : List Str) : Dd → Prop | .price i _ => i ∈ its | .put i _ => i ∈ its | .alter i _ => i ∈ its ∧ i ∈ t | _ => True
def GoodT (its : List Str) (dl : List Dd) : Prop := ∀ (i : Nat) (d : Dd), dl[i]? = some d → OkD d ∧ GoodD its (thOf (dl.take i)) d
theorem thOf_succ {dl : List Dd} {i : Nat} {d : Dd} (h : dl[i]? = some d) : thOf (dl.take (i + 1)) = thStep (thOf (dl.take i)) d := by
  unfold thOf
  rw [List.take_add_one, h, List.foldl_append]; rfl
theorem thOf_snoc (dl : List Dd) (d : Dd) : thOf (dl ++ [d]) = thStep (thOf dl) d := by unfold thOf; rw [List.foldl_append]; rfl
theorem thStep_nd {t : List Str} (h : t.Nodup) (d : Dd) : (thStep t d).Nodup := by
  cases d with
  | put i n =>
    show (if i ∈ t then t else t ++ [i]).Nodup
    by_cases q : i ∈ t
    · rw [if_pos q]; exact h
    · rw [if_neg q]; exact snoc_nd h q
  | alter i n =>
    show (if n = 0 then t.filter (fun x => !decide (x = i)) else t).Nodup
    by_cases q : n = 0
    · rw [if_pos q]; exact h.sublist List.filter_sublist
    · rw [if_neg q]; exact h
  | pay b => cases b <;> simp [thStep, h]
  | price i a => exact h
  | look => exact h
  | back => exact h
theorem GoodT.nil {its : List Str} : GoodT its [] := fun i d h => by simp at h
theorem GoodT.snoc {its : List Str} {dl : List Dd} {d : Dd} (h : GoodT its dl) (o : OkD d) (g : GoodD its (thOf dl) d) : GoodT its (dl ++ [d]) := fun i e he => by
  by_cases q : i < dl.length
  · rw [List.getElem?_append_left q] at he
    rw [List.take_append_of_le_length (by omega)]
    exact h i e he
  · rw [List.getElem?_append_right (by omega)] at he
    have z : i - dl.length = 0 := by
      cases w : i - dl.length with
      | zero => rfl
      | succ n => rw [w] at he; simp at he
    rw [z] at he
    have e2 : i = dl.length := by omega
    subst e2
    cases he
    rw [List.take_append_of_le_length (by omega), List.take_length]
    exact ⟨o, g⟩
theorem GoodT.ok {its : List Str} {dl : List Dd} (h : GoodT its dl) : ∀ d ∈ dl, OkD d := fun d hd => by
  obtain ⟨i, hi⟩ := List.getElem?_of_mem hd
  exact (h i d hi).1
theorem GoodT.take {its : List Str} {dl : List Dd} (h : GoodT its dl) (n : Nat) : GoodT its (dl.take n) := fun i d hi => by
  rw [List.getElem?_take] at hi
  split at hi
  · have := h i d hi
    rw [List.take_take, Nat.min_eq_left (by omega)]
    exact this
  · cases hi
theorem find_none_iff {i : Str} {ls : List Ln} : findL i ls = none ↔ i ∉ ls.map (·.item) := by
  refine ⟨fun h m => ?_, find_none⟩
  obtain ⟨l, hl, e⟩ := List.mem_map.mp m
  unfold findL at h
  rw [List.findIdx?_eq_none_iff] at h
  have := h l hl
  simp [e] at this
theorem items_filter {i : Str} (ls : List Ln) : (ls.filter fun l => !decide (l.item = i)).map (·.item) = (ls.map (·.item)).filter fun x => !decide (x = i) := by
  rw [List.filter_map]; rfl
theorem touch_items {m : Am} {d : Dd} {ls : List Ln} : (touchL m d ls).1.map (·.item) = if isT d = true then ls.map (·.item) else thStep (ls.map (·.item)) d := by
  cases d with
  | put i n =>
    simp only [touchL, isT, thStep, Bool.false_eq_true, if_false]
    cases e : findL i ls with
    | none => rw [if_neg (find_none_iff.mp e)]; simp
    | some q =>
      have : i ∈ ls.map (·.item) := by
        refine Classical.byContradiction fun c => ?_
        rw [find_none c] at e; cases e
      rw [if_pos this]; exact items_modify fun l => rfl
  | alter i n =>
    simp only [touchL, isT, thStep, Bool.false_eq_true, if_false]
    cases e : findL i ls with
    | none =>
      have z := find_none_iff.mp e
      by_cases hn : n = 0
      · show ls.map (·.item) = if n = 0 then (ls.map (·.item)).filter (fun x => !decide (x = i)) else ls.map (·.item)
        rw [if_pos hn]
        refine (List.filter_eq_self.mpr fun a ha => ?_).symm
        simpa using fun q : a = i => z (q ▸ ha)
      · show ls.map (·.item) = if n = 0 then (ls.map (·.item)).filter (fun x => !decide (x = i)) else ls.map (·.item)
        rw [if_neg hn]
    | some q =>
      by_cases hn : n = 0
      · simp only [hn, if_true]; exact items_filter ls
      · simp only [hn, if_false]; exact items_modify fun l => rfl
  | pay b => cases b <;> simp [touchL, isT, thStep]
  | price i a => simp [touchL, isT, thStep]
  | look => simp [touchL, isT, thStep]
  | back => simp [touchL, isT, thStep]
theorem step_th {s : Six} {H : Hs} {n : Nat} {d : Dd} : (hStep s H n d).ls.map (·.item) = thStep (H.ls.map (·.item)) d := by
  by_cases hw : wordD d = "price"
  · obtain ⟨j, a, rfl⟩ := price_of hw; rfl
  · rw [hStep_per hw]
    have e1 : (carryC s d H.c H.ls).2.1.map (·.item) = (touchL H.c.am d H.ls).1.map (·.item) := fold_items _ _
    unfold hPer paidC
    simp only
    by_cases ht : isT d = true
    · rw [if_pos ht]
      cases d with
      | pay b => cases b <;> first | (cases ht; done) | rfl | simp [thStep]
      | _ => cases ht
    · rw [if_neg ht, e1, touch_items, if_neg ht]
theorem at_th {s : Six} {m : Am} {dl : List Dd} : ∀ i, i ≤ dl.length → (hAt s m dl i).ls.map (·.item) = thOf (dl.take i)
  | 0, _ => by simp [hAt, hGo, hs0, thOf]
  | i + 1, hi => by
    have hd : dl[i]? = some dl[i] := List.getElem?_eq_getElem (by omega)
    rw [hAt_succ hd, step_th, at_th i (by omega), thOf_succ hd]
theorem thOf_nd : ∀ dl : List Dd, (thOf dl).Nodup := fun dl => by
  unfold thOf
  have : ∀ (dl : List Dd) (t : List Str), t.Nodup → (dl.foldl thStep t).Nodup := fun dl => by
    induction dl with
    | nil => intro t h; exact h
    | cons d dl ih => intro t h; exact ih _ (thStep_nd h d)
  exact this dl [] List.nodup_nil
theorem at_nd {s : Six} {m : Am} {dl : List Dd} {i : Nat} (hi : i ≤ dl.length) : ((hAt s m dl i).ls.map (·.item)).Nodup := by rw [at_th i hi]; exact thOf_nd _
theorem goodT_plays {s : Six} {m : Am} {dl : List Dd} (g : GoodT (m.map (·.1)) dl) : Plays s m dl := fun i d hd => by
  have hi := (List.getElem?_eq_some_iff.mp hd).1
  have gd := (g i d hd).2
  cases d with
  | price j a => exact am_at (get_key gd) i (by omega)
  | put j a => exact am_at (get_key gd) i (by omega)
  | alter j a =>
    refine ⟨am_at (get_key gd.1) i (by omega), ?_⟩
    cases e : findL j (hAt s m dl i).ls with
    | some q => rfl
    | none =>
      have := find_none_iff.mp e
      rw [at_th i (by omega)] at this
      exact absurd gd.2 this
  | _ => trivial
/-! one line goes by a rule -/
def onF (now : Int) (r : Rule) (i : Str) (g : Int → Int) (l : Ln) : Ln := if l.item = i then lnRun now r { l with number := g l.number } else l
def askF (now : Int) (r : Rule) (i : Str) (ls : List Ln) : Int := ls.foldl (fun a l => if l.item = i then (lnWork now r l).times else a) 0
def begun (i : Str) (now : Int) (ls : List Ln) : List Ln := if i ∈ ls.map (·.item) then ls else ls ++ [⟨i, 0, now, none, none⟩]
theorem onF_ne {now : Int} {r : Rule} {i : Str} {g : Int → Int} {ls : List Ln} (h : i ∉ ls.map (·.item)) : ls.map (onF now r i g) = ls := by
  conv => rhs; rw [← List.map_id ls]
  refine List.map_congr_left fun l hl => ?_
  have : ¬ l.item = i := fun e => h (e ▸ List.mem_map_of_mem hl)
  unfold onF
  simp [this]
theorem askF_ne {now : Int} {r : Rule} {i : Str} : ∀ {ls : List Ln} {a : Int}, i ∉ ls.map (·.item) → ls.foldl (fun a l => if l.item = i then (lnWork now r l).times else a) a = a
  | [], _, _ => rfl
  | l :: ls, a, h => by
    have h1 : ¬ l.item = i := fun e => h (by simp [e])
    rw [List.foldl_cons, if_neg h1]
    exact askF_ne fun m => h (by simp [m])
theorem part_at {i : Str} : ∀ {ls : List Ln}, i ∈ ls.map (·.item) → (ls.map (·.item)).Nodup → ∃ A l B, ls = A ++ l :: B ∧ l.item = i ∧ i ∉ A.map (·.item) ∧ i ∉ B.map (·.item)
  | [], h, _ => by simp at h
  | l :: ls, h, nd => by
    simp only [List.map_cons, List.nodup_cons] at nd
    by_cases e : l.item = i
    · exact ⟨[], l, ls, rfl, e, by simp, by rw [← e]; exact nd.1⟩
    · have h2 : i ∈ ls.map (·.item) := (List.mem_cons.mp h).elim (fun q => absurd q.symm e) id
      obtain ⟨A, z, B, e1, e2, e3, e4⟩ := part_at h2 nd.2
      exact ⟨l :: A, z, B, by rw [e1]; rfl, e2, by simp; exact ⟨fun q => e q.symm, by simpa using e3⟩, e4⟩
theorem find_part {i : Str} {A B : List Ln} {l : Ln} (e : l.item = i) (h : i ∉ A.map (·.item)) : findL i (A ++ l :: B) = some A.length := by
  unfold findL
  rw [List.findIdx?_eq_some_iff_getElem]
  refine ⟨by simp, by simp [e], fun j hj => ?_⟩
  rw [List.getElem_append_left hj]
  simpa using fun q : A[j].item = i => h (q ▸ List.mem_map_of_mem (List.getElem_mem hj))
theorem modify_part {A B : List Ln} {l : Ln} (f : Ln → Ln) : (A ++ l :: B).modify A.length f = A ++ f l :: B := by
  induction A with
  | nil => rfl
  | cons a A ih => simp [ih]
theorem one_carry {m : Am} {r : Rule} {i : Str} {p : Int} {A B : List Ln} {l : Ln} (e : l.item = i) (hg : m.get i = some p) : carryL m r (A ++ l :: B) [A.length] = (A ++ lnRun p r l :: B, List.replicate (lnWork p r l).times.toNat i) := by
  unfold carryL carryStep
  simp only [List.foldl_cons, List.foldl_nil]
  rw [List.getElem?_append_right (Nat.le_refl _)]
  simp [e, hg]
theorem work_number (now : Int) (r : Rule) (l : Ln) (v : Int) : lnWork now r { l with number := v } = lnWork now r l := rfl
section
variable {m : Am} {r : Rule} {i : Str} {p v : Int} {ls : List Ln}
theorem carry_put (nd : (ls.map (·.item)).Nodup) (hg : m.get i = some p) : carryL m r (touchL m (.put i v) ls).1 (touchL m (.put i v) ls).2 = ((begun i p ls).map (onF p r i (· + v)), List.replicate (askF p r i (begun i p ls)).toNat i) := by
  by_cases h : i ∈ ls.map (·.item)
  · obtain ⟨A, l, B, rfl, e, hA, hB⟩ := part_at h nd
    have hf := find_part (B := B) e hA
    simp only [touchL, hf]
    have em : (A ++ l :: B).modify A.length (fun l => { l with number := l.number + v }) = A ++ { l with number := l.number + v } :: B := modify_part _
    rw [em, one_carry (by exact e) hg]
    unfold begun
    rw [if_pos h, List.map_append, List.map_cons, onF_ne hA, onF_ne hB]
    have : askF p r i (A ++ l :: B) = (lnWork p r l).times := by
      unfold askF
      rw [List.foldl_append, List.foldl_cons, if_pos e, askF_ne hB]
    rw [this]
    unfold onF
    rw [if_pos e]
    rfl
  · simp only [touchL, find_none h, hg, Option.getD_some]
    have := one_carry (m := m) (r := r) (A := ls) (B := []) (l := ⟨i, v, p, none, none⟩) rfl hg
    rw [this]
    unfold begun
    rw [if_neg h, List.map_append, onF_ne h]
    have e2 : askF p r i (ls ++ [⟨i, 0, p, none, none⟩]) = (lnWork p r ⟨i, 0, p, none, none⟩).times := by
      unfold askF
      rw [List.foldl_append, askF_ne h]
      simp
    rw [e2]
    simp [onF]
    rfl
theorem carry_alter (nd : (ls.map (·.item)).Nodup) (h : i ∈ ls.map (·.item)) (hg : m.get i = some p) (hv : ¬ v = 0) : carryL m r (touchL m (.alter i v) ls).1 (touchL m (.alter i v) ls).2 = (ls.map (onF p r i fun _ => v), List.replicate (askF p r i ls).toNat i) := by
  obtain ⟨A, l, B, rfl, e, hA, hB⟩ := part_at h nd
  have hf := find_part (B := B) e hA
  simp only [touchL, hf, if_neg hv]
  have em : (A ++ l :: B).modify A.length (fun l => { l with number := v }) = A ++ { l with number := v } :: B := modify_part _
  rw [em, one_carry (by exact e) hg, List.map_append, List.map_cons, onF_ne hA, onF_ne hB]
  have : askF p r i (A ++ l :: B) = (lnWork p r l).times := by
    unfold askF
    rw [List.foldl_append, List.foldl_cons, if_pos e, askF_ne hB]
  rw [this]
  unfold onF
  rw [if_pos e]
  rfl
theorem carry_gone : carryL m r (touchL m (.alter i 0) ls).1 (touchL m (.alter i 0) ls).2 = (ls.filter fun l => !decide (l.item = i), []) := by
  cases e : findL i ls with
  | none =>
    simp only [touchL, e, carryL, List.foldl_nil]
    rw [List.filter_eq_self.mpr]
    intro l hl
    simpa using fun q : l.item = i => find_none_iff.mp e (q ▸ List.mem_map_of_mem hl)
  | some q => simp only [touchL, e, if_true, carryL, List.foldl_nil]
end
/-! what a deed makes of a history -/
section
variable {s : Six} {H : Hs} {n : Nat} {i : Str} {v p : Int}
theorem hs_put (nd : (H.ls.map (·.item)).Nodup) (hg : H.c.am.get i = some p) : (hStep s H n (.put i v)).c.am = H.c.am ∧ (hStep s H n (.put i v)).ls = (begun i p H.ls).map (onF p (ruleOf s "put") i (· + v)) ∧
    (hStep s H n (.put i v)).rps = H.rps ++ [some ⟨(begun i p H.ls).map (onF p (ruleOf s "put") i (· + v)), List.replicate (askF p (ruleOf s "put") i (begun i p H.ls)).toNat i, false⟩] ∧ (hStep s H n (.put i v)).c.failed = false := by
  have e := carry_put (r := ruleOf s "put") (v := v) nd hg
  rw [hStep_per (by show ("put" : Str) ≠ "price"; decide)]
  unfold hPer carryC
  simp only [doorOf, wordD]
  rw [e]
  exact ⟨rfl, rfl, rfl, rfl⟩
theorem hs_alter (nd : (H.ls.map (·.item)).Nodup) (hi : i ∈ H.ls.map (·.item)) (hg : H.c.am.get i = some p) (hv : ¬ v = 0) : (hStep s H n (.alter i v)).c.am = H.c.am ∧ (hStep s H n (.alter i v)).ls = H.ls.map (onF p (ruleOf s "alter") i fun _ => v) ∧
    (hStep s H n (.alter i v)).rps = H.rps ++ [some ⟨H.ls.map (onF p (ruleOf s "alter") i fun _ => v), List.replicate (askF p (ruleOf s "alter") i H.ls).toNat i, false⟩] ∧ (hStep s H n (.alter i v)).c.failed = false := by
  have e := carry_alter (r := ruleOf s "alter") nd hi hg hv
  rw [hStep_per (by show ("alter" : Str) ≠ "price"; decide)]
  unfold hPer carryC
  simp only [doorOf, wordD]
  rw [e]
  exact ⟨rfl, rfl, rfl, rfl⟩
theorem hs_gone : (hStep s H n (.alter i 0)).c.am = H.c.am ∧ (hStep s H n (.alter i 0)).ls = (H.ls.filter fun l => !decide (l.item = i)) ∧
    (hStep s H n (.alter i 0)).rps = H.rps ++ [some ⟨H.ls.filter fun l => !decide (l.item = i), [], false⟩] ∧ (hStep s H n (.alter i 0)).c.failed = false := by
  have e := carry_gone (m := H.c.am) (r := ruleOf s "alter") (i := i) (ls := H.ls)
  rw [hStep_per (by show ("alter" : Str) ≠ "price"; decide)]
  unfold hPer carryC
  simp only [doorOf, wordD]
  rw [e]
  exact ⟨rfl, rfl, rfl, rfl⟩
/-- a deed at all lines -/
theorem hs_all {d : Dd} (h : d = .look ∨ d = .back ∨ ∃ b, d = .pay b) : (hStep s H n d).c.am = H.c.am ∧ (hStep s H n d).ls = (if isT d = true then [] else H.ls.map (runAt H.c.am (ruleOf s (doorOf d H.c.failed)))) ∧
    (hStep s H n d).rps = H.rps ++ [some ⟨H.ls.map (runAt H.c.am (ruleOf s (doorOf d H.c.failed))), H.ls.flatMap (namesAt H.c.am (ruleOf s (doorOf d H.c.failed))), isT d⟩] ∧ (hStep s H n d).c.failed = isF d := by
  rcases h with rfl | rfl | ⟨b, rfl⟩
  · rw [hStep_per (by show ("look" : Str) ≠ "price"; decide)]
    unfold hPer carryC
    simp only [touchL]
    rw [carry_all_map]
    exact ⟨rfl, rfl, rfl, rfl⟩
  · rw [hStep_per (by show ("back" : Str) ≠ "price"; decide)]
    unfold hPer carryC
    simp only [touchL]
    rw [carry_all_map]
    exact ⟨rfl, rfl, rfl, rfl⟩
  · rw [hStep_per (by show ("pay" : Str) ≠ "price"; decide)]
    unfold hPer carryC
    simp only [touchL]
    rw [carry_all_map]
    cases b <;> exact ⟨rfl, rfl, rfl, rfl⟩
theorem hs_price {a : Int} : (hStep s H n (.price i a)).c.am = H.c.am.put i a ∧ (hStep s H n (.price i a)).ls = H.ls ∧ (hStep s H n (.price i a)).rps = H.rps ++ [none] ∧ (hStep s H n (.price i a)).c.failed = H.c.failed := ⟨rfl, rfl, rfl, rfl⟩
end
theorem hAt_snoc {s : Six} {m : Am} {dl : List Dd} {d : Dd} : hAt s m (dl ++ [d]) (dl.length + 1) = hStep s (hAt s m dl dl.length) dl.length d := by
  have h : (dl ++ [d])[dl.length]? = some d := by simp
  rw [hAt_succ h]
  unfold hAt
  rw [List.take_append_of_le_length (Nat.le_refl _)]
/-! turns -/
theorem turns_lt2 {i n : Nat} {r most : Int} {b : Int} (hi : i < (if r > (if (n : Int) - b < 60 then (n : Int) - b else 60) then r else (if (n : Int) - b < 60 then (n : Int) - b else 60)).toNat) (h : r ≤ most) (h6 : 60 ≤ most) : (i : Int) < most := by
  split at hi <;> (try split at hi) <;> omega
theorem maxmin_le {n : Nat} {r most b : Int} (h : r ≤ most) (h6 : 60 ≤ most) : (if r > (if (n : Int) - b < 60 then (n : Int) - b else 60) then r else (if (n : Int) - b < 60 then (n : Int) - b else 60)) ≤ most := by
  split <;> (try split) <;> omega
theorem th_sub {its : List Str} : ∀ {dl : List Dd}, GoodT its dl → ∀ x ∈ thOf dl, x ∈ its := fun {dl} g => by
  have key : ∀ i, i ≤ dl.length → ∀ x ∈ thOf (dl.take i), x ∈ its := by
    intro i
    induction i with
    | zero => intro _ x hx; simp [thOf] at hx
    | succ i ih =>
      intro hi x hx
      have hd : dl[i]? = some dl[i] := List.getElem?_eq_getElem (by omega)
      rw [thOf_succ hd] at hx
      have ih := ih (by omega)
      have gd := (g i _ hd).2
      generalize dl[i] = d at hx gd
      cases d with
      | put j a =>
        have hx2 : x ∈ (if j ∈ thOf (dl.take i) then thOf (dl.take i) else thOf (dl.take i) ++ [j]) := hx
        split at hx2
        · exact ih x hx2
        · rcases List.mem_append.mp hx2 with q | q
          · exact ih x q
          · rw [List.mem_singleton.mp q]; exact gd
      | alter j a =>
        have hx2 : x ∈ (if a = 0 then (thOf (dl.take i)).filter (fun y => !decide (y = j)) else thOf (dl.take i)) := hx
        split at hx2
        · exact ih x (List.mem_filter.mp hx2).1
        · exact ih x hx2
      | pay b => cases b with
        | true => exact absurd hx (by simp [thStep])
        | false => exact ih x hx
      | price j a => exact ih x hx
      | look => exact ih x hx
      | back => exact ih x hx
  have := key dl.length (Nat.le_refl _)
  rwa [List.take_length] at this
theorem th_len {its : List Str} {dl : List Dd} (g : GoodT its dl) (h : its.length ≤ 6) : (thOf dl).length ≤ 6 := Nat.le_trans (few_miss (thOf_nd dl) (th_sub g)) h
theorem strs_item (ls : List Ln) : strsD (ls.map fun l => D.str l.item) = true := by simp [strsD, isStrD]
theorem any_item (ls : List Ln) (s : Str) : (ls.map fun l => D.str l.item).any (isS s) = decide (s ∈ ls.map (·.item)) := by
  rw [show (ls.map fun l => D.str l.item) = (ls.map (·.item)).map D.str from by rw [List.map_map]; rfl]; exact any_strs _ _
theorem begun_len (i : Str) (p : Int) (ls : List Ln) : (begun i p ls).length ≤ ls.length + 1 := by unfold begun; split <;> simp
theorem onF_yes {now : Int} {r : Rule} {i : Str} {g : Int → Int} {l : Ln} (h : l.item = i) : onF now r i g l = lnRun now r { l with number := g l.number } := if_pos h
theorem onF_no {now : Int} {r : Rule} {i : Str} {g : Int → Int} {l : Ln} (h : ¬ l.item = i) : onF now r i g l = l := if_neg h
theorem askF_succ {now : Int} {r : Rule} {i : Str} {ls : List Ln} {k : Nat} {l : Ln} (h : ls[k]? = some l) : askF now r i (ls.take (k + 1)) = if l.item = i then (lnWork now r l).times else askF now r i (ls.take k) := by
  unfold askF
  rw [List.take_add_one, h, List.foldl_append]; rfl
theorem map_succ {α β : Type} {f : α → β} {xs : List α} {k : Nat} {a : α} (h : xs[k]? = some a) : (xs.take (k + 1)).map f = (xs.take k).map f ++ [f a] := by
  rw [List.take_add_one, h, List.map_append]; rfl
theorem plays_len {s : Six} {m : Am} {dl : List Dd} (om : OkP m) (od : ∀ d ∈ dl, OkD d) (hp : Plays s m dl) (hl : dl.length ≤ 900) {i : Nat} (hi : i ≤ dl.length) : (hAt s m dl i).ls.length ≤ 1000 ∧ (hAt s m dl i).rps.length = i := by
  have h := hinv om od hp hi hl
  exact ⟨by have := h.len; omega, h.rl⟩
theorem askF_rng {now : Int} {r : Rule} (h : OkR r) (i : Str) (ls : List Ln) : 0 ≤ askF now r i ls ∧ askF now r i ls ≤ 6 := by
  unfold askF
  have : ∀ (ls : List Ln) (a : Int), 0 ≤ a ∧ a ≤ 6 → 0 ≤ ls.foldl (fun a l => if l.item = i then (lnWork now r l).times else a) a ∧ ls.foldl (fun a l => if l.item = i then (lnWork now r l).times else a) a ≤ 6 := fun ls => by
    induction ls with
    | nil => intro a h; exact h
    | cons l ls ih =>
      intro a ha
      rw [List.foldl_cons]
      refine ih _ ?_
      split
      · exact work_times now h l
      · exact ha
  exact this ls 0 (by omega)
theorem flat1 {d : D} (n : Nat) : (List.replicate n [d]).flatten = List.replicate n d := List.flatten_replicate_singleton
theorem reps_str (n : Nat) (s : Str) : List.replicate n (D.str s) = (List.replicate n s).map D.str := by rw [List.map_replicate]
theorem dRp_some (ls : List Ln) (ns : List Str) : D.tup [.lst (ls.map tellD), .lst (ns.map D.str), .non] = dRp (some ⟨ls, ns, false⟩) := rfl
theorem rps_snoc {rs : List (Option Rp)} {r : Option Rp} {d : D} (e : d = dRp r) : rs.map dRp ++ [d] = (rs ++ [r]).map dRp := by rw [List.map_append, e]; rfl
theorem am_hd {m : Am} {i : Str} {p : Int} (h : m.get i = some p) : valK m.ks m.ds (.inr i) = some (.int p) := by rw [am_val, h]; rfl
theorem runAt_nil (m : Am) (ls : List Ln) : ls.map (runAt m []) = ls := by
  conv => rhs; rw [← List.map_id ls]
  rfl
theorem namesAt_nil (m : Am) (ls : List Ln) : ls.flatMap (namesAt m []) = [] := by
  induction ls with
  | nil => rfl
  | cons l ls ih => rw [List.flatMap_cons, ih]; rfl
theorem am_len {m : Am} (h : m.length ≤ 1000) : m.ks.length < 16777216 := by unfold Am.ks; rw [List.length_map]; omega
theorem deeds_snoc (dl : List Dd) (d : Dd) : dl.map dDd ++ [dDd d] = (dl ++ [d]).map dDd := by rw [List.map_append]; rfl
theorem am_take_len {m : Am} (q : Nat) (h : m.length ≤ 1000) : (Am.ks (m.take q)).length < 16777216 := by
  have h1 : (m.take q).length ≤ m.length := by rw [List.length_take]; exact Nat.min_le_right _ _
  unfold Am.ks
  rw [List.length_map]
  omega
/-! a dict of lines -/
def lnV (l : Ln) : D := .tup [.int l.number, .int l.kept, dO l.shown]
def lnK (ls : List Ln) : List Key := ls.map fun l => .inr l.item
theorem lnK_mem {ls : List Ln} {i : Str} : (.inr i : Key) ∈ lnK ls ↔ i ∈ ls.map (·.item) := by
  unfold lnK
  constructor
  · intro h; obtain ⟨l, hl, e⟩ := List.mem_map.mp h; rw [← Sum.inr.inj e]; exact List.mem_map_of_mem hl
  · intro h; obtain ⟨l, hl, e⟩ := List.mem_map.mp h; rw [← e]; exact List.mem_map_of_mem (f := fun l : Ln => (.inr l.item : Key)) hl
theorem val_part {f : Ln → D} {i : Str} : ∀ {A B : List Ln} {l : Ln}, l.item = i → i ∉ A.map (·.item) → valK (lnK (A ++ l :: B)) ((A ++ l :: B).map f) (.inr i) = some (f l)
  | [], B, l, e, _ => by simp only [List.nil_append, lnK, List.map_cons, valK]; rw [if_pos (by rw [e])]
  | a :: A, B, l, e, h => by
    have h1 : ¬ a.item = i := fun q => h (by simp [q])
    have ih := val_part (f := f) (A := A) (B := B) e fun m => h (by simp [m])
    simp only [List.cons_append, lnK, List.map_cons, valK] at ih ⊢
    rw [if_neg (fun q => h1 (Sum.inr.inj q))]
    exact ih
theorem val_at {f : Ln → D} {ls : List Ln} {l : Ln} (nd : (ls.map (·.item)).Nodup) (h : l ∈ ls) : valK (lnK ls) (ls.map f) (.inr l.item) = some (f l) := by
  obtain ⟨A, z, B, rfl, e, hA, hB⟩ := part_at (List.mem_map_of_mem h) nd
  have : z = l := by
    rcases List.mem_append.mp h with q | q
    · exact absurd (List.mem_map_of_mem q) hA
    · rcases List.mem_cons.mp q with q | q
      · exact q.symm
      · exact absurd (List.mem_map_of_mem q) hB
  subst this
  exact val_part rfl hA
theorem putDs_ne {f : Ln → D} {i : Str} {d : D} : ∀ {ls : List Ln}, i ∉ ls.map (·.item) → putDs (lnK ls) (ls.map f) (.inr i) d = ls.map f
  | [], _ => rfl
  | a :: A, h => by
    have h1 : ¬ a.item = i := fun q => h (by simp [q])
    have ih := putDs_ne (f := f) (i := i) (d := d) (ls := A) fun m => h (List.mem_cons_of_mem _ m)
    simp only [lnK, List.map_cons, putDs] at ih ⊢
    rw [if_neg (fun q => h1 (Sum.inr.inj q)), ih]
theorem putDs_part {f : Ln → D} {i : Str} {d : D} : ∀ {A B : List Ln} {l : Ln}, l.item = i → i ∉ A.map (·.item) → i ∉ B.map (·.item) → putDs (lnK (A ++ l :: B)) ((A ++ l :: B).map f) (.inr i) d = A.map f ++ d :: B.map f
  | [], B, l, e, _, hB => by
    simp only [List.nil_append, lnK, List.map_cons, putDs, List.map_nil]
    rw [if_pos (by rw [e])]
    have := putDs_ne (f := f) (d := d) hB
    unfold lnK at this
    rw [this]
  | a :: A, B, l, e, h, hB => by
    have h1 : ¬ a.item = i := fun q => h (by simp [q])
    have ih := putDs_part (f := f) (d := d) (A := A) (B := B) e (fun m => h (by simp [m])) hB
    simp only [List.cons_append, lnK, List.map_cons, putDs] at ih ⊢
    rw [if_neg (fun q => h1 (Sum.inr.inj q)), ih]
/-- the line of an item is replaced -/
theorem putDs_on {f : Ln → D} {ls : List Ln} {l : Ln} {now : Int} {r : Rule} {g : Int → Int} (nd : (ls.map (·.item)).Nodup) (h : l ∈ ls) : putDs (lnK ls) (ls.map f) (.inr l.item) (f (lnRun now r { l with number := g l.number })) = (ls.map (onF now r l.item g)).map f := by
  obtain ⟨A, z, B, rfl, e, hA, hB⟩ := part_at (List.mem_map_of_mem h) nd
  have : z = l := by
    rcases List.mem_append.mp h with q | q
    · exact absurd (List.mem_map_of_mem q) hA
    · rcases List.mem_cons.mp q with q | q
      · exact q.symm
      · exact absurd (List.mem_map_of_mem q) hB
  subst this
  rw [putDs_part rfl hA hB, List.map_append, List.map_cons, onF_ne hA, onF_ne hB, List.map_append, List.map_cons, onF_yes rfl]
theorem onF_item {now : Int} {r : Rule} {i : Str} {g : Int → Int} {l : Ln} : (onF now r i g l).item = l.item := by unfold onF; split <;> rfl
theorem onF_items {now : Int} {r : Rule} {i : Str} {g : Int → Int} {ls : List Ln} : (ls.map (onF now r i g)).map (·.item) = ls.map (·.item) := by
  rw [List.map_map]; exact List.map_congr_left fun l _ => onF_item
theorem onF_keys {now : Int} {r : Rule} {i : Str} {g : Int → Int} {ls : List Ln} : lnK (ls.map (onF now r i g)) = lnK ls := by
  unfold lnK; rw [List.map_map]; exact List.map_congr_left fun l _ => by show (Sum.inr (onF now r i g l).item : Key) = _; rw [onF_item]
theorem begun_mem {i : Str} {p : Int} {ls : List Ln} : ∃ l ∈ begun i p ls, l.item = i := by
  unfold begun
  by_cases h : i ∈ ls.map (·.item)
  · rw [if_pos h]; obtain ⟨l, hl, e⟩ := List.mem_map.mp h; exact ⟨l, hl, e⟩
  · rw [if_neg h]; exact ⟨_, List.mem_append_right _ List.mem_cons_self, rfl⟩
theorem begun_items {i : Str} {p : Int} {ls : List Ln} : (begun i p ls).map (·.item) = if i ∈ ls.map (·.item) then ls.map (·.item) else ls.map (·.item) ++ [i] := by
  unfold begun; split <;> simp
theorem begun_nd {i : Str} {p : Int} {ls : List Ln} (nd : (ls.map (·.item)).Nodup) : ((begun i p ls).map (·.item)).Nodup := by
  rw [begun_items]
  by_cases h : i ∈ ls.map (·.item)
  · rw [if_pos h]; exact nd
  · rw [if_neg h]; exact snoc_nd nd h
theorem askF_at {now : Int} {r : Rule} {ls : List Ln} {l : Ln} (nd : (ls.map (·.item)).Nodup) (h : l ∈ ls) : askF now r l.item ls = (lnWork now r l).times := by
  obtain ⟨A, z, B, rfl, e, hA, hB⟩ := part_at (List.mem_map_of_mem h) nd
  have : z = l := by
    rcases List.mem_append.mp h with q | q
    · exact absurd (List.mem_map_of_mem q) hA
    · rcases List.mem_cons.mp q with q | q
      · exact q.symm
      · exact absurd (List.mem_map_of_mem q) hB
  subst this
  unfold askF
  rw [List.foldl_append, List.foldl_cons, if_pos rfl, askF_ne hB]
theorem eqv_self : ∀ d : D, sizeOf d < sizeOf d + 1 → PyData.eqv (py d) (py d) = true := fun d _ => by
  have key : ∀ n : Nat, (∀ d, sizeOf d < n → PyData.eqv (py d) (py d) = true) ∧ ∀ ds : List D, sizeOf ds < n → PyData.eqvAll (pys ds) (pys ds) = true := by
    intro n
    induction n with
    | zero => exact ⟨fun _ h => absurd h (Nat.not_lt_zero _), fun _ h => absurd h (Nat.not_lt_zero _)⟩
    | succ n ih =>
      refine ⟨fun d hd => ?_, fun ds hd => ?_⟩
      · cases d with
        | tup ds => simp only [py, PyData.eqv]; exact ih.2 ds (by simp at hd; omega)
        | lst ds => simp only [py, PyData.eqv]; exact ih.2 ds (by simp at hd; omega)
        | seq ds => simp only [py, PyData.eqv]; exact ih.2 ds (by simp at hd; omega)
        | _ => simp [py, PyData.eqv]
      · cases ds with
        | nil => rfl
        | cons d r =>
          simp only [pys, PyData.eqvAll, Bool.and_eq_true]
          exact ⟨ih.1 d (by simp at hd; omega), ih.2 r (by simp at hd; omega)⟩
  exact (key (sizeOf d + 1)).1 d (by omega)
/-! ### a law's drawn deeds -/
theorem eqv_pay2 (d : Dd) (b : Bool) : PyData.eqv (py (dDd d)) (py (.tup [.str "pay", .bl b])) = (match d with | .pay c => decide (c = b) | _ => false) := by
  cases d with
  | pay c => cases b <;> cases c <;> simp [dDd, py, pys, PyData.eqv, PyData.eqvAll]
  | _ => simp [dDd, py, pys, PyData.eqv, PyData.eqvAll, show ¬ ("price" : Str) = "pay" from by decide, show ¬ ("put" : Str) = "pay" from by decide, show ¬ ("alter" : Str) = "pay" from by decide]
theorem sm_pay (b : Bool) : sm 1 (.tup [.str "pay", .bl b]) = true := by cases b <;> exact sm_dDd (d := .pay _) trivial
theorem th_noput {dl : List Dd} {d : Dd} (h : thStep (thOf dl) d = thOf dl) : thOf (dl ++ [d]) = thOf dl := by rw [thOf_snoc, h]
def tA (t : List Str) (d : Dd) : List Str := match d with | .put i _ => if i ∈ t then t else t ++ [i] | _ => t
def tB (t : List Str) (d : Dd) : List Str := match d with | .put i _ => if i ∈ t then t else t ++ [i] | .pay true => [] | _ => t
theorem isT_pay {d : Dd} (h : isT d = true) : d = .pay true := by
  cases d with
  | pay c => cases c <;> first | rfl | cases h
  | _ => cases h
theorem cEq_deed {d : Dd} {ts : List D} {M : Ms} {k : KB} (h : cEqG (dDd d) (.tup ts) M k) : cEq (dDd d) (.tup ts) M k := by cases d <;> exact h
/-! ### k30: mixtures by stretches -/
/-- what a rule's amounts are taken from -/
theorem lw_in {Q : Int → Prop} {now : Int} (hn : Q now) : ∀ (r : Rule) (w : LW), Q w.stays → (∀ a, w.seen = some a → Q a) → Q (lwRun now r w).stays ∧ ∀ a, (lwRun now r w).seen = some a → Q a
  | [], w, h1, h2 => ⟨h1, h2⟩
  | a :: r, w, h1, h2 => by
    have e : lwRun now (a :: r) w = lwRun now r (lwStep now w a) := rfl
    rw [e]
    have st : Q (lwStep now w a).stays ∧ ∀ a', (lwStep now w a).seen = some a' → Q a' := by
      unfold lwStep
      split
      · exact ⟨hn, h2⟩
      · split
        · refine ⟨?_, h2⟩
          show Q (if now < w.stays then now else w.stays)
          split
          · exact hn
          · exact h1
        · split
          · split
            · exact ⟨h1, h2⟩
            · rename_i s hs
              exact ⟨h2 s hs, h2⟩
          · split
            · refine ⟨h1, fun a' h => ?_⟩
              cases h
              exact h1
            · exact ⟨h1, h2⟩
    exact lw_in hn r _ st.1 st.2
/-- a line's amounts -/
def Gl (Q : Str → Int → Prop) (l : Ln) : Prop := Q l.item l.kept ∧ ∀ a, l.shown = some a → Q l.item a
theorem gl_run {Q : Str → Int → Prop} {now : Int} {r : Rule} {l : Ln} (hn : Q l.item now) (h : Gl Q l) : Gl Q (lnRun now r l) := lw_in (Q := Q l.item) hn r _ h.1 h.2
theorem gl_carry {Q : Str → Int → Prop} {m : Am} {r : Rule} (hm : ∀ i a, m.get i = some a → Q i a) : ∀ (js : List Nat) (st : List Ln × List Str), (∀ l ∈ st.1, (m.get l.item).isSome = true ∧ Gl Q l) → ∀ l ∈ (js.foldl (carryStep m r) st).1, Gl Q l
  | [], st, h, l, hl => (h l hl).2
  | j :: js, st, h, l, hl => by
    refine gl_carry hm js (carryStep m r st j) (fun z hz => ?_) l hl
    unfold carryStep at hz
    cases e : st.1[j]? with
    | none => rw [e] at hz; exact h z hz
    | some x =>
      rw [e] at hz
      rcases List.mem_or_eq_of_mem_set hz with q | q
      · exact h z q
      · obtain ⟨hs, hg⟩ := h x (List.mem_of_getElem? e)
        obtain ⟨a, ha⟩ := Option.isSome_iff_exists.mp hs
        rw [q]
        refine ⟨hs, gl_run ?_ hg⟩
        rw [ha]
        exact hm _ _ ha
theorem gl_touch {Q : Str → Int → Prop} {m : Am} {ls : List Ln} {d : Dd} (hm : ∀ i a, m.get i = some a → Q i a) (hp : Play m ls d) (h : ∀ l ∈ ls, (m.get l.item).isSome = true ∧ Gl Q l) : ∀ l ∈ (touchL m d ls).1, (m.get l.item).isSome = true ∧ Gl Q l := by
  have md : ∀ (q : Nat) (f : Ln → Ln), (∀ l, (f l).item = l.item ∧ (f l).kept = l.kept ∧ (f l).shown = l.shown) → ∀ l ∈ ls.modify q f, (m.get l.item).isSome = true ∧ Gl Q l := fun q f hf l hl => by
    obtain ⟨j, hj⟩ := List.getElem?_of_mem hl
    rw [List.getElem?_modify] at hj
    obtain ⟨z, hz, e⟩ := Option.map_eq_some_iff.mp hj
    have := h z (List.mem_of_getElem? hz)
    rw [← e]
    split
    · obtain ⟨e1, e2, e3⟩ := hf z
      unfold Gl
      rw [e1, e2, e3]
      exact this
    · exact this
  cases d with
  | put i n =>
    simp only [touchL]
    cases e : findL i ls with
    | none =>
      intro l hl
      rcases List.mem_append.mp hl with q | q
      · exact h l q
      · rw [List.mem_singleton.mp q]
        have hs : (m.get i).isSome = true := hp
        obtain ⟨a, ha⟩ := Option.isSome_iff_exists.mp hs
        refine ⟨hs, ?_, fun a h => nomatch h⟩
        show Q i ((m.get i).getD 0)
        rw [ha]
        exact hm _ _ ha
    | some q => exact md q _ fun l => ⟨rfl, rfl, rfl⟩
  | alter i n =>
    simp only [touchL]
    cases e : findL i ls with
    | none => exact h
    | some q =>
      by_cases hn : n = 0
      · simp only [hn, if_true]
        exact fun l hl => h l (List.mem_filter.mp hl).1
      · simp only [hn, if_false]
        exact md q _ fun l => ⟨rfl, rfl, rfl⟩
  | _ => exact h
/-- the amounts that an item had so far, each with the moment of its begin -/
def rowN (i : Str) (a0 : Int) (dl : List Dd) : Nat → List (Int × Nat)
  | 0 => [(a0, 0)]
  | q + 1 => rowN i a0 dl q ++ match dl[q]? with | some (.price j v) => if j = i then [(v, q + 1)] else [] | _ => []
theorem rowN_succ {i : Str} {a0 : Int} {dl : List Dd} {q : Nat} : rowN i a0 dl (q + 1) = rowN i a0 dl q ++ match dl[q]? with | some (.price j v) => if j = i then [(v, q + 1)] else [] | _ => [] := rfl
theorem rowN_pos (i : Str) (a0 : Int) (dl : List Dd) : ∀ q, ∃ t, rowN i a0 dl q = (a0, 0) :: t
  | 0 => ⟨[], rfl⟩
  | q + 1 => by
    obtain ⟨t, e⟩ := rowN_pos i a0 dl q
    rw [rowN_succ]
    rw [e]
    exact ⟨_, rfl⟩
/-- prices whose rest by two hundred is their place -/
def Unl (m : Am) (dl : List Dd) : Prop := (∀ p ∈ m, p.2 % 200 = 0) ∧ ∀ (q : Nat) (j : Str) (v : Int), dl[q]? = some (.price j v) → v % 200 = q + 1
theorem rowN_le {i : Str} {a0 : Int} {dl : List Dd} : ∀ q, ∀ p ∈ rowN i a0 dl q, p.2 ≤ q
  | 0, p, h => by rw [List.mem_singleton.mp h]; exact Nat.le_refl _
  | q + 1, p, h => by
    rw [rowN_succ] at h
    rcases List.mem_append.mp h with h | h
    · have := rowN_le q p h; omega
    · split at h
      · split at h
        · rw [List.mem_singleton.mp h]; exact Nat.le_refl _
        · cases h
      · cases h
theorem rowN_res {i : Str} {a0 : Int} {dl : List Dd} (h0 : a0 % 200 = 0) (hu : ∀ (q : Nat) (j : Str) (v : Int), dl[q]? = some (.price j v) → v % 200 = q + 1) : ∀ q, ∀ p ∈ rowN i a0 dl q, p.1 % 200 = (p.2 : Int)
  | 0, p, h => by rw [List.mem_singleton.mp h]; exact h0
  | q + 1, p, h => by
    rw [rowN_succ] at h
    rcases List.mem_append.mp h with h | h
    · exact rowN_res h0 hu q p h
    · split at h
      · rename_i j v e
        split at h
        · rw [List.mem_singleton.mp h]
          have := hu q j v e
          simp only
          omega
        · cases h
      · cases h
theorem rowN_inc {i : Str} {a0 : Int} {dl : List Dd} : ∀ q, (rowN i a0 dl q).Pairwise fun x y => x.2 < y.2
  | 0 => List.pairwise_singleton _ _
  | q + 1 => by
    rw [rowN_succ]
    rw [List.pairwise_append]
    refine ⟨rowN_inc q, ?_, fun x hx y hy => ?_⟩
    · split
      · split
        · exact List.pairwise_singleton _ _
        · exact List.Pairwise.nil
      · exact List.Pairwise.nil
    · have := rowN_le q x hx
      split at hy
      · split at hy
        · rw [List.mem_singleton.mp hy]; simp only; omega
        · cases hy
      · cases hy
/-- what is told at moment q is the last one of the row; what comes behind begins later -/
theorem rowN_app {i : Str} {a0 : Int} {dl : List Dd} {q : Nat} : ∀ k, ∃ t, rowN i a0 dl (q + k) = rowN i a0 dl q ++ t ∧ ∀ p ∈ t, q < p.2
  | 0 => ⟨[], by simp, by simp⟩
  | k + 1 => by
    obtain ⟨t, e, h⟩ := rowN_app (i := i) (a0 := a0) (dl := dl) (q := q) k
    rw [← Nat.add_assoc, rowN_succ, e]
    refine ⟨_, List.append_assoc _ _ _, fun p hp => ?_⟩
    rcases List.mem_append.mp hp with hp | hp
    · exact h p hp
    · split at hp
      · split at hp
        · rw [List.mem_singleton.mp hp]; simp only; omega
        · cases hp
      · cases hp
/-- the shop's price at a moment -/
theorem rowN_last {s : Six} {m : Am} {dl : List Dd} {i : Str} {a0 : Int} (h0 : m.get i = some a0) : ∀ q, q ≤ dl.length → ∃ L a b, rowN i a0 dl q = L ++ [(a, b)] ∧ (hAt s m dl q).c.am.get i = some a
  | 0, _ => ⟨[], a0, 0, rfl, h0⟩
  | q + 1, hq => by
    obtain ⟨L, a, b, e, h⟩ := rowN_last (s := s) (dl := dl) h0 q (by omega)
    obtain ⟨d, hd⟩ : ∃ d, dl[q]? = some d := ⟨dl[q]'(by omega), List.getElem?_eq_getElem (by omega)⟩
    rw [hAt_succ hd]
    rw [rowN_succ]
    rw [hd]
    by_cases hw : wordD d = "price"
    · obtain ⟨j, v, ej⟩ := price_of hw
      rw [ej]
      show ∃ L a b, rowN i a0 dl q ++ (if j = i then [(v, q + 1)] else []) = L ++ [(a, b)] ∧ ((hAt s m dl q).c.am.put j v).get i = some a
      rw [am_get_put]
      by_cases hj : j = i
      · rw [if_pos hj, if_pos hj, h]
        exact ⟨_, v, q + 1, rfl, rfl⟩
      · rw [if_neg hj, if_neg hj, List.append_nil]
        exact ⟨L, a, b, e, h⟩
    · have e1 : (hStep s (hAt s m dl q) q d).c.am = (hAt s m dl q).c.am := by
        rw [hStep_per hw]; unfold hPer paidC; simp only; split <;> rfl
      rw [e1]
      refine ⟨L, a, b, ?_, h⟩
      have : (match (some d : Option Dd) with | some (.price j v) => if j = i then [(v, q + 1)] else [] | _ => []) = ([] : List (Int × Nat)) := by
        cases e2 : d with
        | price j v => rw [e2] at hw; exact absurd rfl hw
        | _ => rfl
      rw [this, List.append_nil]
      exact e
def endsL (N : Nat) (row : List (Int × Nat)) : List Nat := (row.drop 1).map (·.2) ++ [N + 1]
/-- the stretches of an item -/
def strL (N : Nat) (row : List (Int × Nat)) : List (Int × Nat × Nat) := (row.zip (endsL N row)).map fun p => (p.1.1, p.1.2, p.2)
theorem strL_cons {N : Nat} {x y : Int × Nat} {r : List (Int × Nat)} : strL N (x :: y :: r) = (x.1, x.2, y.2) :: strL N (y :: r) := rfl
theorem strL_one {N : Nat} {x : Int × Nat} : strL N [x] = [(x.1, x.2, N + 1)] := rfl
theorem strL_fst {N : Nat} : ∀ row : List (Int × Nat), (strL N row).map (fun t => (t.1, t.2.1)) = row
  | [] => rfl
  | [x] => rfl
  | x :: y :: r => by rw [strL_cons, List.map_cons, strL_fst (y :: r)]
/-- the stretch of an amount holds just the moments at which it was the price -/
theorem strL_span {N q : Nat} {a : Int} {b : Nat} : ∀ (L : List (Int × Nat)) (t : List (Int × Nat)), (L ++ (a, b) :: t).Pairwise (fun x y => x.2 < y.2) → (∀ p ∈ L ++ (a, b) :: t, p.1 % 200 = (p.2 : Int)) → (∀ p ∈ t, q < p.2) → b ≤ q → q ≤ N → ∀ z ∈ strL N (L ++ (a, b) :: t), (z.1 = a ↔ z.2.1 ≤ q ∧ q < z.2.2)
  | [], [], _, _, _, h1, h2, z, hz => by
    rw [List.nil_append, strL_one, List.mem_singleton] at hz
    subst hz
    simp only [true_iff]
    omega
  | [], y :: t, hi, hr, ht, h1, h2, z, hz => by
    have hy := ht y (by simp)
    rw [List.nil_append, strL_cons] at hz
    rcases List.mem_cons.mp hz with e | e
    · subst e
      simp only [true_iff]
      omega
    · have e2 : (z.1, z.2.1) ∈ y :: t := by rw [← strL_fst (N := N) (y :: t)]; exact List.mem_map_of_mem e
      have h3 := ht _ e2
      have r1 := hr (z.1, z.2.1) (by simp only [List.nil_append]; exact List.mem_cons_of_mem _ e2)
      have r2 := hr (a, b) (by simp)
      simp only at h3 r1 r2
      constructor
      · intro q1
        subst q1
        omega
      · omega
  | [x], t, hi, hr, ht, h1, h2, z, hz => by
    have ih := strL_span (N := N) [] t (List.pairwise_cons.mp hi).2 (fun p hp => hr p (by simp at hp ⊢; exact .inr hp)) ht h1 h2
    have hxb := (List.pairwise_cons.mp hi).1 (a, b) (by simp)
    rw [List.singleton_append, strL_cons] at hz
    rcases List.mem_cons.mp hz with e | e
    · subst e
      have r1 := hr x (by simp)
      have r2 := hr (a, b) (by simp)
      simp only at r1 r2 hxb ⊢
      constructor
      · intro q1
        rw [q1] at r1
        omega
      · omega
    · exact ih z e
  | x :: y :: L, t, hi, hr, ht, h1, h2, z, hz => by
    have ih := strL_span (N := N) (y :: L) t (List.pairwise_cons.mp hi).2 (fun p hp => hr p (List.mem_cons_of_mem _ hp)) ht h1 h2
    have hxb := (List.pairwise_cons.mp hi).1 (a, b) (by simp)
    have hyb : y.2 ≤ b := by
      have := (List.pairwise_cons.mp (List.pairwise_cons.mp hi).2).1 (a, b) (by simp)
      simp only at this
      omega
    rw [List.cons_append, List.cons_append, strL_cons] at hz
    rcases List.mem_cons.mp hz with e | e
    · subst e
      have r1 := hr x (by simp)
      have r2 := hr (a, b) (by simp)
      simp only at r1 r2 hxb ⊢
      constructor
      · intro q1
        rw [q1] at r1
        omega
      · omega
    · exact ih z e
theorem strL_uniq {N : Nat} {row : List (Int × Nat)} (hi : row.Pairwise fun x y => x.2 < y.2) (hr : ∀ p ∈ row, p.1 % 200 = (p.2 : Int)) {z : Int × Nat × Nat} (hz : z ∈ strL N row) : (strL N row).filter (fun t => decide (t.1 = z.1)) = [z] := by
  have nd : ((strL N row).map (·.1)).Nodup := by
    have e : (strL N row).map (·.1) = row.map (·.1) := by
      conv => rhs; rw [← strL_fst (N := N) row, List.map_map]
      rfl
    rw [e]
    refine List.Pairwise.map _ (fun x y h => ?_) (List.Pairwise.imp_of_mem (fun {x y} hx hy h => ?_) hi : row.Pairwise fun x y => x.1 % 200 < y.1 % 200)
    · intro q
      rw [q] at h
      omega
    · have := hr x hx
      have := hr y hy
      omega
  obtain ⟨A, B, e⟩ := List.append_of_mem hz
  rw [e] at nd ⊢
  rw [List.map_append, List.map_cons, List.nodup_append] at nd
  obtain ⟨_, n2, n3⟩ := nd
  rw [List.filter_append, List.filter_cons_of_pos (by simp)]
  rw [List.filter_eq_nil_iff.mpr fun x hx => by simpa using fun q : x.1 = z.1 => n3 x.1 (List.mem_map_of_mem hx) z.1 (by simp) q]
  rw [List.filter_eq_nil_iff.mpr fun x hx => by simpa using fun q : x.1 = z.1 => (List.nodup_cons.mp n2).1 (q ▸ List.mem_map_of_mem hx)]
  rfl
/-! the stretches and the moments -/
def QA (m : Am) (dl : List Dd) (i : Nat) (it : Str) (a : Int) : Prop := ∃ a0 b, m.get it = some a0 ∧ (a, b) ∈ rowN it a0 dl i
def rowsOf (m : Am) (dl : List Dd) (it : Str) : List (Int × Nat × Nat) := match m.get it with | some a0 => strL dl.length (rowN it a0 dl dl.length) | none => []
def spans (rows : Str → List (Int × Nat × Nat)) (ls : List Ln) : List (Nat × Nat) := ls.flatMap fun l => match l.shown with | none => [] | some a => ((rows l.item).filter fun t => decide (t.1 = a)).map (·.2)
def mixS (sp : List (Nat × Nat)) : Bool := !sp.isEmpty && sp.any fun p => sp.any fun q => decide (q.2 ≤ p.1)
theorem QA.up {m : Am} {dl : List Dd} {i : Nat} {it : Str} {a : Int} (h : QA m dl i it a) (k : Nat) : QA m dl (i + k) it a := by
  obtain ⟨a0, b, h1, h2⟩ := h
  obtain ⟨t, e, _⟩ := rowN_app (i := it) (a0 := a0) (dl := dl) (q := i) k
  exact ⟨a0, b, h1, by rw [e]; exact List.mem_append_left _ h2⟩
theorem Gl.up {m : Am} {dl : List Dd} {i : Nat} {l : Ln} (h : Gl (QA m dl i) l) (k : Nat) : Gl (QA m dl (i + k)) l := ⟨h.1.up k, fun a e => (h.2 a e).up k⟩
theorem row_facts {m : Am} {dl : List Dd} {it : Str} {a0 : Int} (u : Unl m dl) (h : m.get it = some a0) (q : Nat) : (rowN it a0 dl q).Pairwise (fun x y => x.2 < y.2) ∧ ∀ p ∈ rowN it a0 dl q, p.1 % 200 = (p.2 : Int) :=
  ⟨rowN_inc q, rowN_res (u.1 _ (am_get_mem h)) u.2 q⟩
/-- an amount that an item had has a stretch, and holds just the moments at which it was the price -/
theorem QA.row {s : Six} {m : Am} {dl : List Dd} {i : Nat} {it : Str} {a : Int} (u : Unl m dl) (hi : i ≤ dl.length) (h : QA m dl i it a) : ∃ b e, (a, b, e) ∈ rowsOf m dl it ∧ b ≤ i ∧ (rowsOf m dl it).filter (fun t => decide (t.1 = a)) = [(a, b, e)] ∧ ∀ t, t ≤ dl.length → ((hAt s m dl t).c.am.get it = some a ↔ b ≤ t ∧ t < e) := by
  obtain ⟨a0, b, h1, h2⟩ := h
  obtain ⟨t, e, _⟩ := rowN_app (i := it) (a0 := a0) (dl := dl) (q := i) (dl.length - i)
  rw [show i + (dl.length - i) = dl.length from by omega] at e
  have h3 : (a, b) ∈ rowN it a0 dl dl.length := by rw [e]; exact List.mem_append_left _ h2
  have er : rowsOf m dl it = strL dl.length (rowN it a0 dl dl.length) := by unfold rowsOf; rw [h1]
  rw [er]
  have h4 := h3
  rw [← strL_fst (N := dl.length) (rowN it a0 dl dl.length)] at h4
  obtain ⟨z, hz, ez⟩ := List.mem_map.mp h4
  obtain ⟨z1, z2, z3⟩ := z
  cases ez
  obtain ⟨f1, f2⟩ := row_facts u h1 dl.length
  refine ⟨_, z3, hz, rowN_le i _ h2, strL_uniq f1 f2 hz, fun t ht => ?_⟩
  obtain ⟨L, a', b', e1, e2⟩ := rowN_last (s := s) (dl := dl) h1 t ht
  obtain ⟨t2, e3, h5⟩ := rowN_app (i := it) (a0 := a0) (dl := dl) (q := t) (dl.length - t)
  rw [show t + (dl.length - t) = dl.length from by omega, e1, List.append_assoc, List.singleton_append] at e3
  have hb : b' ≤ t := rowN_le t (a', b') (by rw [e1]; simp)
  rw [e3] at f1 f2 hz
  have := strL_span (N := dl.length) L t2 f1 f2 h5 hb ht _ hz
  rw [e2]
  simp only at this
  rw [← this]
  constructor
  · intro q; exact (Option.some.inj q).symm
  · intro q; rw [q]
theorem exists_max {sp : List (Nat × Nat)} (h : sp ≠ []) : ∃ p ∈ sp, ∀ q ∈ sp, q.1 ≤ p.1 := by
  induction sp with
  | nil => exact absurd rfl h
  | cons x sp ih =>
    by_cases e : sp = []
    · subst e; exact ⟨x, by simp, by simp⟩
    · obtain ⟨p, hp, hm⟩ := ih e
      by_cases q : x.1 ≤ p.1
      · exact ⟨p, List.mem_cons_of_mem _ hp, fun y hy => (List.mem_cons.mp hy).elim (fun z => z ▸ q) (hm y)⟩
      · exact ⟨x, by simp, fun y hy => (List.mem_cons.mp hy).elim (fun z => z ▸ Nat.le_refl _) fun z => by have := hm y z; omega⟩
theorem mix_rows {s : Six} {m : Am} {dl : List Dd} {i : Nat} {ls : List Ln} {ms : List Am} (u : Unl m dl) (hi : i ≤ dl.length) (hg : ∀ l ∈ ls, Gl (QA m dl i) l)
    (h1 : ∀ mm ∈ ms, ∃ t, t ≤ i ∧ mm = (hAt s m dl t).c.am) (h2 : ∀ t, t ≤ i → (hAt s m dl t).c.am ∈ ms) : mixedL ms ls = mixS (spans (rowsOf m dl) ls) := by
  -- the lines that were shown and their stretches
  have sp_of : ∀ p ∈ spans (rowsOf m dl) ls, ∃ l ∈ seenL ls, p.1 ≤ i ∧ ∀ t, t ≤ dl.length → ((hAt s m dl t).c.am.get l.item = l.shown ↔ p.1 ≤ t ∧ t < p.2) := by
    intro p hp
    obtain ⟨l, hl, hp⟩ := List.mem_flatMap.mp hp
    cases e : l.shown with
    | none => rw [e] at hp; cases hp
    | some a =>
      rw [e] at hp
      obtain ⟨b, en, r1, r2, r3, r4⟩ := QA.row (s := s) u hi ((hg l hl).2 a e)
      simp only [r3, List.map_cons, List.map_nil, List.mem_singleton] at hp
      subst hp
      exact ⟨l, List.mem_filter.mpr ⟨hl, by rw [e]; rfl⟩, r2, by rw [e]; exact r4⟩
  have of_sp : ∀ l ∈ seenL ls, ∃ p ∈ spans (rowsOf m dl) ls, ∀ t, t ≤ dl.length → ((hAt s m dl t).c.am.get l.item = l.shown ↔ p.1 ≤ t ∧ t < p.2) := by
    intro l hl
    obtain ⟨hl, hs⟩ := List.mem_filter.mp hl
    obtain ⟨a, e⟩ := Option.isSome_iff_exists.mp hs
    obtain ⟨b, en, r1, r2, r3, r4⟩ := QA.row (s := s) u hi ((hg l hl).2 a e)
    refine ⟨(b, en), List.mem_flatMap.mpr ⟨l, hl, ?_⟩, by rw [e]; exact r4⟩
    rw [e]
    simp only [r3, List.map_cons, List.map_nil, List.mem_singleton]
  rw [Bool.eq_iff_iff]
  unfold mixedL mixS
  simp only [Bool.and_eq_true, Bool.not_eq_true', List.isEmpty_eq_false_iff, List.all_eq_true, List.any_eq_true, List.all_eq_false, decide_eq_true_eq]
  constructor
  · rintro ⟨hne, hall⟩
    obtain ⟨l, hl⟩ := List.exists_mem_of_ne_nil _ hne
    obtain ⟨p0, hp0, _⟩ := of_sp l hl
    have hsp : spans (rowsOf m dl) ls ≠ [] := List.ne_nil_of_mem hp0
    obtain ⟨p, hp, hmax⟩ := exists_max hsp
    obtain ⟨_, _, hpi, _⟩ := sp_of p hp
    obtain ⟨l', hl', hbad⟩ := hall _ (h2 p.1 hpi)
    obtain ⟨q, hq, hqs⟩ := of_sp l' hl'
    have hb := hmax q hq
    refine ⟨hsp, p, hp, q, hq, ?_⟩
    have : ¬(q.1 ≤ p.1 ∧ p.1 < q.2) := fun z => hbad ((hqs p.1 (by omega)).mpr z)
    omega
  · rintro ⟨hsp, p, hp, q, hq, hle⟩
    obtain ⟨lp, hlp, _, ep⟩ := sp_of p hp
    obtain ⟨lq, hlq, _, eq⟩ := sp_of q hq
    refine ⟨List.ne_nil_of_mem hlp, fun mm hmm => ?_⟩
    obtain ⟨t, ht, rfl⟩ := h1 mm hmm
    by_cases c : p.1 ≤ t
    · exact ⟨lq, hlq, by rw [eq t (by omega)]; omega⟩
    · exact ⟨lp, hlp, by rw [ep t (by omega)]; omega⟩
/-- the deeds of the person with mixed prices -/
def dueN (f : List Ln → Bool) (rps : List (Option Rp)) : Nat → List Nat
  | 0 => []
  | q + 1 => dueN f rps q ++ match rps[q]? with | some (some r) => if f r.told then [q] else [] | _ => []
theorem dueN_app {f : List Ln → Bool} {rps t : List (Option Rp)} : ∀ q, q ≤ rps.length → dueN f (rps ++ t) q = dueN f rps q
  | 0, _ => rfl
  | q + 1, h => by
    unfold dueN
    rw [dueN_app q (by omega), List.getElem?_append_left (by omega)]
structure I30 (m : Am) (dl : List Dd) (s : Six) (i : Nat) : Prop where
  ls : ∀ l ∈ (hAt s m dl i).ls, Gl (QA m dl i) l
  m1 : ∀ mm ∈ (hAt s m dl i).ms, ∃ t, t ≤ i ∧ mm = (hAt s m dl t).c.am
  m2 : ∀ t, t ≤ i → (hAt s m dl t).c.am ∈ (hAt s m dl i).ms
  rp : ∀ r ∈ (hAt s m dl i).rps, ∀ q, r = some q → ∀ l ∈ q.told, Gl (QA m dl i) l
  mx : (hAt s m dl i).mx = (dueN (fun ls => mixS (spans (rowsOf m dl) ls)) (hAt s m dl i).rps i).map Int.ofNat
theorem am_back {s : Six} {m : Am} {dl : List Dd} {it : Str} : ∀ k, k ≤ dl.length → ((hAt s m dl k).c.am.get it).isSome = true → (m.get it).isSome = true
  | 0, _, h => h
  | k + 1, hk, h => by
    obtain ⟨d, hd⟩ : ∃ d, dl[k]? = some d := ⟨dl[k]'(by omega), List.getElem?_eq_getElem (by omega)⟩
    rw [hAt_succ hd] at h
    refine am_back (s := s) (dl := dl) k (by omega) ?_
    by_cases hw : wordD d = "price"
    · obtain ⟨j, v, rfl⟩ := price_of hw
      have h2 : (((hAt s m dl k).c.am.put j v).get it).isSome = true := h
      rwa [am_put_get] at h2
    · have e1 : (hStep s (hAt s m dl k) k d).c.am = (hAt s m dl k).c.am := by
        rw [hStep_per hw]; unfold hPer paidC; simp only; split <;> rfl
      rw [e1] at h
      exact h
theorem am_QA {s : Six} {m : Am} {dl : List Dd} {k : Nat} (hk : k ≤ dl.length) {it : Str} {a : Int} (h : (hAt s m dl k).c.am.get it = some a) : QA m dl k it a := by
  have := am_back (s := s) (dl := dl) k hk (by rw [h]; rfl : ((hAt s m dl k).c.am.get it).isSome = true)
  obtain ⟨a0, h0⟩ := Option.isSome_iff_exists.mp this
  obtain ⟨L, a', b, e1, e2⟩ := rowN_last (s := s) (dl := dl) h0 k hk
  rw [h] at e2
  cases e2
  exact ⟨a0, b, h0, by rw [e1]; simp⟩
theorem i30 {s : Six} {m : Am} {dl : List Dd} (om : OkP m) (od : ∀ d ∈ dl, OkD d) (hp : Plays s m dl) (hl : dl.length ≤ 900) (u : Unl m dl) : ∀ i, i ≤ dl.length → I30 m dl s i
  | 0, _ => ⟨fun l hl => (nomatch hl), fun mm h => ⟨0, Nat.le_refl _, List.mem_singleton.mp h⟩, fun t ht => by
      rw [Nat.le_zero.mp ht]; exact List.mem_singleton.mpr rfl, fun r hr => (nomatch hr), rfl⟩
  | i + 1, hi => by
    obtain ⟨d, hd⟩ : ∃ d, dl[i]? = some d := ⟨dl[i]'(by omega), List.getElem?_eq_getElem (by omega)⟩
    have ih := i30 om od hp hl u i (by omega)
    have v := hinv om od hp (i := i) (by omega) hl
    have hpl := hp i d hd
    have hrl := v.rl
    have hQ : ∀ it a, (hAt s m dl i).c.am.get it = some a → QA m dl i it a := fun it a h => am_QA (by omega) h
    have es := hAt_succ (s := s) (m := m) hd
    by_cases hw : wordD d = "price"
    · obtain ⟨j, a, rfl⟩ := price_of hw
      have e1 : (hAt s m dl (i + 1)).ls = (hAt s m dl i).ls := by rw [es]; rfl
      have e2 : (hAt s m dl (i + 1)).ms = (hAt s m dl i).ms ++ [(hAt s m dl (i + 1)).c.am] := by rw [es]; rfl
      have e3 : (hAt s m dl (i + 1)).rps = (hAt s m dl i).rps ++ [none] := by rw [es]; rfl
      have e4 : (hAt s m dl (i + 1)).mx = (hAt s m dl i).mx := by rw [es]; rfl
      refine ⟨?_, ?_, ?_, ?_, ?_⟩
      · rw [e1]; exact fun l hl => (ih.ls l hl).up 1
      · rw [e2]
        intro mm h
        rcases List.mem_append.mp h with h | h
        · obtain ⟨t, ht, e⟩ := ih.m1 mm h
          exact ⟨t, by omega, e⟩
        · exact ⟨i + 1, Nat.le_refl _, List.mem_singleton.mp h⟩
      · rw [e2]
        intro t ht
        by_cases c : t ≤ i
        · exact List.mem_append_left _ (ih.m2 t c)
        · rw [show t = i + 1 from by omega]; exact List.mem_append_right _ (List.mem_singleton.mpr rfl)
      · rw [e3]
        intro r hr q e l hl
        rcases List.mem_append.mp hr with h | h
        · exact (ih.rp r h q e l hl).up 1
        · rw [List.mem_singleton.mp h] at e; cases e
      · rw [e3, e4, ih.mx, dueN, dueN_app _ (by omega), List.getElem?_append_right (by omega), hrl, Nat.sub_self]
        simp
    · rw [hStep_per hw] at es
      have e0 : (hAt s m dl (i + 1)).c.am = (hAt s m dl i).c.am := by rw [es]; unfold hPer paidC; simp only; split <;> rfl
      have e1 : ∀ l ∈ (hAt s m dl (i + 1)).ls, l ∈ (carryC s d (hAt s m dl i).c (hAt s m dl i).ls).2.1 := by
        rw [es]; unfold hPer paidC; simp only
        split
        · intro l hl; cases hl
        · exact fun l hl => hl
      have e2 : (hAt s m dl (i + 1)).ms = (hAt s m dl i).ms := by rw [es]; rfl
      have e3 : (hAt s m dl (i + 1)).rps = (hAt s m dl i).rps ++ [some ⟨(carryC s d (hAt s m dl i).c (hAt s m dl i).ls).2.1, (carryC s d (hAt s m dl i).c (hAt s m dl i).ls).2.2, isT d⟩] := by rw [es]; rfl
      have e4 : (hAt s m dl (i + 1)).mx = (hAt s m dl i).mx ++ (if mixedL (hAt s m dl i).ms (carryC s d (hAt s m dl i).c (hAt s m dl i).ls).2.1 then [(i : Int)] else []) := by rw [es]; rfl
      have tl : ∀ l ∈ (carryC s d (hAt s m dl i).c (hAt s m dl i).ls).2.1, Gl (QA m dl i) l :=
        gl_carry hQ _ _ (gl_touch hQ hpl fun l hl => ⟨(v.ln l hl).has, ih.ls l hl⟩)
      refine ⟨fun l hl => (tl l (e1 l hl)).up 1, ?_, ?_, ?_, ?_⟩
      · rw [e2]
        intro mm h
        obtain ⟨t, ht, e⟩ := ih.m1 mm h
        exact ⟨t, by omega, e⟩
      · rw [e2]
        intro t ht
        by_cases c : t ≤ i
        · exact ih.m2 t c
        · rw [show t = i + 1 from by omega, e0]; exact ih.m2 i (Nat.le_refl _)
      · rw [e3]
        intro r hr q e l hl
        rcases List.mem_append.mp hr with h | h
        · exact (ih.rp r h q e l hl).up 1
        · rw [List.mem_singleton.mp h] at e
          cases e
          exact (tl l hl).up 1
      · rw [e3, e4, ih.mx, dueN, dueN_app _ (by omega), List.getElem?_append_right (by omega), hrl, Nat.sub_self, mix_rows (s := s) u (by omega) tl ih.m1 ih.m2]
        simp only [List.getElem?_cons_zero, List.map_append]
        split <;> rfl
/-! the law's own prices -/
theorem am_get_mem2 {m : Am} {p : Str × Int} (nd : (m.map (·.1)).Nodup) (h : p ∈ m) : m.get p.1 = some p.2 := by
  unfold Am.get
  induction m with
  | nil => simp at h
  | cons a m ih =>
    obtain ⟨x, b⟩ := a
    obtain ⟨n1, n2⟩ := List.nodup_cons.mp nd
    rcases List.mem_cons.mp h with e | h
    · subst e; simp [List.lookup]
    · have e : ¬ p.1 = x := fun z => n1 (List.mem_map.mpr ⟨p, h, z⟩)
      have e2 : (p.1 == x) = false := by simpa using e
      rw [List.lookup, e2]
      exact ih n2 h
theorem spans_len {m : Am} {dl : List Dd} {ls : List Ln} (u : Unl m dl) (hg : ∀ l ∈ ls, Gl (QA m dl dl.length) l) : (spans (rowsOf m dl) ls).length ≤ ls.length := by
  induction ls with
  | nil => exact Nat.le_refl _
  | cons l ls ih =>
    have := ih fun x hx => hg x (List.mem_cons_of_mem _ hx)
    unfold spans at this ⊢
    rw [List.flatMap_cons, List.length_append, List.length_cons]
    cases e : l.shown with
    | none => simp only [List.length_nil]; omega
    | some a =>
      obtain ⟨b, en, r1, r2, r3, r4⟩ := QA.row (s := []) u (Nat.le_refl _) ((hg l (by simp)).2 a e)
      simp only [r3, List.map_cons, List.map_nil, List.length_cons, List.length_nil]
      omega
def unlD (q : Nat) : Dd → Dd | .price i a => .price i (a % 1000000000 * 200 + q + 1) | d => d
def unlN (dl : List Dd) : Nat → List Dd
  | 0 => []
  | q + 1 => unlN dl q ++ (dl[q]?.map (unlD q)).toList
def unlM (m : Am) : Am := m.map fun p => (p.1, p.2 % 1000000000 * 200)
def dSt (t : Int × Nat × Nat) : D := .tup [.int t.1, .int t.2.1, .int t.2.2]
theorem unlN_succ {dl : List Dd} {q : Nat} {d : Dd} (h : dl[q]? = some d) : unlN dl (q + 1) = unlN dl q ++ [unlD q d] := by unfold unlN; rw [h]; cases q <;> rfl
theorem unlN_len {dl : List Dd} : ∀ q, q ≤ dl.length → (unlN dl q).length = q
  | 0, _ => rfl
  | q + 1, h => by
    rw [unlN_succ (List.getElem?_eq_getElem (by omega)), List.length_append, unlN_len q (by omega)]; rfl
theorem unlN_at {dl : List Dd} : ∀ n, n ≤ dl.length → ∀ q, q < n → (unlN dl n)[q]? = dl[q]?.map (unlD q)
  | n + 1, h, q, hq => by
    obtain ⟨d, hd⟩ : ∃ d, dl[n]? = some d := ⟨dl[n]'(by omega), List.getElem?_eq_getElem (by omega)⟩
    rw [unlN_succ hd]
    by_cases e : q < n
    · rw [List.getElem?_append_left (by rw [unlN_len n (by omega)]; exact e), unlN_at n (by omega) q e]
    · have : q = n := by omega
      subst this
      rw [List.getElem?_append_right (by rw [unlN_len q (by omega)]; exact Nat.le_refl _), unlN_len q (by omega), Nat.sub_self, hd]; rfl
theorem unl_th (t : List Str) (q : Nat) (d : Dd) : thStep t (unlD q d) = thStep t d := by cases d <;> rfl
theorem unlN_th {dl : List Dd} : ∀ q, q ≤ dl.length → thOf (unlN dl q) = thOf (dl.take q)
  | 0, _ => rfl
  | q + 1, h => by
    obtain ⟨d, hd⟩ : ∃ d, dl[q]? = some d := ⟨dl[q]'(by omega), List.getElem?_eq_getElem (by omega)⟩
    rw [unlN_succ hd, thOf_snoc, unlN_th q (by omega), unl_th, thOf_succ hd]
theorem unl_rest {x : Int} {q : Nat} (hq : q < 60) : (x % 1000000000 * 200 + q + 1) % 200 = q + 1 := by omega
theorem unlD_ok {d : Dd} {q : Nat} (hq : q < 60) (h : OkD d) : OkD (unlD q d) := by
  cases d with
  | price i a =>
    have h2 : OkI i := h.1
    exact ⟨h2, by omega, by omega⟩
  | _ => exact h
theorem unlN_good {its : List Str} {dl : List Dd} (h60 : dl.length ≤ 60) (g : GoodT its dl) : ∀ q, q ≤ dl.length → GoodT its (unlN dl q)
  | 0, _ => GoodT.nil
  | q + 1, h => by
    obtain ⟨d, hd⟩ : ∃ d, dl[q]? = some d := ⟨dl[q]'(by omega), List.getElem?_eq_getElem (by omega)⟩
    obtain ⟨g1, g2⟩ := g q d hd
    rw [unlN_succ hd]
    refine (unlN_good h60 g q (by omega)).snoc (unlD_ok (by omega) g1) ?_
    rw [unlN_th q (by omega)]
    cases d <;> exact g2
theorem unl_unl {m : Am} {dl : List Dd} (h60 : dl.length ≤ 60) : Unl (unlM m) (unlN dl dl.length) := by
  refine ⟨fun p hp => ?_, fun q j v hv => ?_⟩
  · obtain ⟨z, _, rfl⟩ := List.mem_map.mp hp
    simp only
    omega
  · have hq : q < dl.length := by
      have := (List.getElem?_eq_some_iff.mp hv).1
      rwa [unlN_len _ (Nat.le_refl _)] at this
    rw [unlN_at _ (Nat.le_refl _) q hq] at hv
    obtain ⟨d, hd, e⟩ := Option.map_eq_some_iff.mp hv
    cases d with
    | price i a =>
      have e2 : a % 1000000000 * 200 + q + 1 = v := by injection e
      rw [← e2]
      exact unl_rest (by omega)
    | _ => cases e
theorem unlM_keys (m : Am) : (unlM m).map (·.1) = m.map (·.1) := by unfold unlM; rw [List.map_map]; rfl
theorem unlM_ok {m : Am} (om : OkP m) : OkP (unlM m) := by
  refine ⟨by unfold unlM; rw [List.length_map]; exact om.l1, by unfold unlM; rw [List.length_map]; exact om.l6, fun p hp => ?_, by rw [unlM_keys]; exact om.nd⟩
  obtain ⟨z, hz, rfl⟩ := List.mem_map.mp hp
  exact ⟨(om.it z hz).1, by simp only; omega, by simp only; omega⟩
theorem rowN_len {i : Str} {a0 : Int} {dl : List Dd} : ∀ q, (rowN i a0 dl q).length ≤ q + 1
  | 0 => Nat.le_refl _
  | q + 1 => by
    rw [rowN_succ, List.length_append]
    have := rowN_len (i := i) (a0 := a0) (dl := dl) q
    split
    · split
      · simp only [List.length_singleton]; omega
      · simp only [List.length_nil]; omega
    · simp only [List.length_nil]; omega
theorem endsL_len {N : Nat} {row : List (Int × Nat)} (h : 1 ≤ row.length) : (endsL N row).length = row.length := by unfold endsL; simp; omega
/-- the stretches as they are made: by places -/
theorem strL_range {N : Nat} {row : List (Int × Nat)} (h : 1 ≤ row.length) : strL N row = (List.range row.length).map fun k => ((row.getD k (0, 0)).1, (row.getD k (0, 0)).2, (endsL N row).getD k 0) := by
  refine List.ext_getElem? fun k => ?_
  unfold strL
  rw [List.getElem?_map, List.getElem?_map]
  by_cases hk : k < row.length
  · have hk2 : k < (endsL N row).length := by rw [endsL_len h]; exact hk
    rw [List.getElem?_range hk, show (row.zip (endsL N row))[k]? = some (row[k], (endsL N row)[k]) from List.getElem?_zip_eq_some.mpr ⟨List.getElem?_eq_getElem hk, List.getElem?_eq_getElem hk2⟩]
    simp [List.getD_eq_getElem?_getD, List.getElem?_eq_getElem hk, List.getElem?_eq_getElem hk2]
  · rw [List.getElem?_eq_none (by rw [List.length_zip, endsL_len h]; omega), List.getElem?_eq_none (by simpa using hk)]
    rfl
theorem endsL_range {N : Nat} {row : List (Int × Nat)} : (endsL N row).map (fun n : Nat => D.int (n : Int)) = (List.range (row.length - 1)).map (fun k => D.int (((row.getD (k + 1) (0, 0)).2 : Nat) : Int)) ++ [.int ((N : Int) + 1)] := by
  unfold endsL
  rw [List.map_append]
  congr 1
  refine List.ext_getElem? fun k => ?_
  rw [List.getElem?_map, List.getElem?_map, List.getElem?_map, List.getElem?_drop]
  by_cases hk : k < row.length - 1
  · rw [List.getElem?_range hk, Nat.add_comm 1 k, List.getElem?_eq_getElem (by omega)]
    simp [List.getD_eq_getElem?_getD, List.getElem?_eq_getElem (show k + 1 < row.length by omega)]
  · rw [List.getElem?_eq_none (by omega), List.getElem?_eq_none (by simpa using hk)]
    rfl
theorem am_val2 {f : Str → D} {m : Am} {i : Str} {a : Int} (h : m.get i = some a) : valK m.ks (m.map fun p => f p.1) (.inr i) = some (f i) := by
  induction m with
  | nil => cases h
  | cons p m ih =>
    obtain ⟨q, b⟩ := p
    unfold Am.get at h ih
    simp only [Am.ks, List.map_cons, valK, List.lookup] at h ih ⊢
    by_cases e : q = i
    · subst e; simp
    · have e2 : (i == q) = false := by simpa using fun z : i = q => e z.symm
      rw [e2] at h
      rw [if_neg fun z => e (Sum.inr.inj z)]
      exact ih h
theorem spans_succ {rows : Str → List (Int × Nat × Nat)} {ls : List Ln} {k : Nat} {l : Ln} (h : ls[k]? = some l) : spans rows (ls.take (k + 1)) = spans rows (ls.take k) ++ spans rows [l] := by
  unfold spans
  rw [List.take_add_one, h, List.flatMap_append]; rfl
theorem spans_one {rows : Str → List (Int × Nat × Nat)} {l : Ln} : spans rows [l] = match l.shown with | none => [] | some a => ((rows l.item).filter fun t => decide (t.1 = a)).map (·.2) := by
  unfold spans; simp
theorem mixS_max {sp : List (Nat × Nat)} {b e : Int} (hb : b ∈ sp.map fun p => ((p.1 : Nat) : Int)) (hb2 : ∀ y ∈ sp.map (fun p => ((p.1 : Nat) : Int)), y ≤ b) (he : e ∈ sp.map fun p => ((p.2 : Nat) : Int)) (he2 : ∀ y ∈ sp.map (fun p => ((p.2 : Nat) : Int)), e ≤ y) : decide (e ≤ b) = mixS sp := by
  obtain ⟨p, hp, rfl⟩ := List.mem_map.mp hb
  obtain ⟨q, hq, rfl⟩ := List.mem_map.mp he
  rw [Bool.eq_iff_iff]
  unfold mixS
  simp only [decide_eq_true_eq, Bool.and_eq_true, Bool.not_eq_true', List.isEmpty_eq_false_iff, List.any_eq_true]
  constructor
  · intro h
    exact ⟨List.ne_nil_of_mem hp, p, hp, q, hq, by omega⟩
  · rintro ⟨_, p2, hp2, q2, hq2, h⟩
    have h1 := hb2 _ (List.mem_map_of_mem hp2)
    have h2 := he2 _ (List.mem_map_of_mem hq2)
    omega
theorem strL_len {N : Nat} {row : List (Int × Nat)} : (strL N row).length = row.length := by conv => rhs; rw [← strL_fst (N := N) row, List.length_map]
theorem rows_len {m : Am} {dl : List Dd} {it : Str} (h : dl.length ≤ 60) : (rowsOf m dl it).length ≤ 61 := by
  unfold rowsOf
  split
  · rename_i a0 _
    rw [strL_len]
    have := rowN_len (i := it) (a0 := a0) (dl := dl) dl.length
    omega
  · simp
theorem sm_ints (sh : List Int) : sm 1 (.lst (sh.map D.int)) = true := by
  simp only [sm]
  rw [sms_iff]
  intro d hd
  obtain ⟨e, he, rfl⟩ := List.mem_map.mp hd
  rfl
theorem ints_1 (sp : List (Nat × Nat)) : sp.map (fun p => D.int ((p.1 : Nat) : Int)) = (sp.map fun p => ((p.1 : Nat) : Int)).map D.int := by rw [List.map_map]; rfl
theorem ints_2 (sp : List (Nat × Nat)) : sp.map (fun p => D.int ((p.2 : Nat) : Int)) = (sp.map fun p => ((p.2 : Nat) : Int)).map D.int := by rw [List.map_map]; rfl
theorem dueN_len {f : List Ln → Bool} {rps : List (Option Rp)} : ∀ q, (dueN f rps q).length ≤ q
  | 0 => Nat.le_refl _
  | q + 1 => by
    unfold dueN
    rw [List.length_append]
    have := dueN_len (f := f) (rps := rps) q
    split
    · split
      · simp only [List.length_singleton]; omega
      · simp only [List.length_nil]; omega
    · simp only [List.length_nil]; omega
theorem dueN_succ {f : List Ln → Bool} {rps : List (Option Rp)} {q : Nat} : dueN f rps (q + 1) = dueN f rps q ++ match rps[q]? with | some (some r) => if f r.told then [q] else [] | _ => [] := rfl
def top (i : Nat) : Stmt := PySem.Challenge.pw_lastshown_k30_mixtures_by_stretches.main.body.getD i (.Pass ⟨0, 0, 0, 0⟩)
abbrev s__wall : Stmt := top 0
abbrev s_is_whole : Stmt := top 17
abbrev s_is_item : Stmt := top 18
abbrev s_is_amount : Stmt := top 19
abbrev s_is_number : Stmt := top 20
abbrev s_is_price : Stmt := top 21
abbrev s_are_prices : Stmt := top 22
abbrev s_is_deed : Stmt := top 23
abbrev s_wrongs_of : Stmt := top 27
abbrev s_are_mixed : Stmt := top 28
abbrev s_check_history : Stmt := top 29
abbrev s_play : Stmt := top 31
abbrev s_mixtures : Stmt := top 32
abbrev s_is_door : Stmt := top 37
abbrev s_is_rule : Stmt := top 38
abbrev s__law_well : Stmt := top 41
abbrev s__law_draw : Stmt := top 42
abbrev s__law_items : Stmt := top 43
abbrev s__law_amount : Stmt := top 44
abbrev s__law_start : Stmt := top 45
abbrev s__law_rule : Stmt := top 46
abbrev s__law_rules : Stmt := top 47
abbrev s__law_work : Stmt := top 48
abbrev s__law_act : Stmt := top 49
abbrev s__law_acts : Stmt := top 50
abbrev s__law_unlike : Stmt := top 51
abbrev s__law_stretches : Stmt := top 52
abbrev s__law_mixed : Stmt := top 53
abbrev s__law_due : Stmt := top 54
abbrev s_law : Stmt := top 55
abbrev s_NoRule_init : Stmt := inClass (top 4) 0
abbrev s_NoDoor_init : Stmt := inClass (top 5) 0
abbrev s_NoDeed_init : Stmt := inClass (top 6) 0
abbrev s_NoItem_init : Stmt := inClass (top 7) 0
abbrev s_NoLine_init : Stmt := inClass (top 8) 0
abbrev s_LineWork_init : Stmt := inClass (top 10) 0
abbrev s_LineWork_carry_out : Stmt := inClass (top 10) 1
abbrev s_CartLine_init : Stmt := inClass (top 25) 0
abbrev s_CartLine_carry_out : Stmt := inClass (top 25) 1
abbrev s_CartLine_twin : Stmt := inClass (top 25) 2
abbrev s_Cart_init : Stmt := inClass (top 26) 0
abbrev s_Cart_twin : Stmt := inClass (top 26) 1
abbrev s_Cart_row_of : Stmt := inClass (top 26) 2
abbrev s_Cart_check : Stmt := inClass (top 26) 3
abbrev s_Cart_touched : Stmt := inClass (top 26) 4
abbrev s_Cart_carry_out : Stmt := inClass (top 26) 5
abbrev s_Cart_report : Stmt := inClass (top 26) 6
abbrev s_Cart_play_deed : Stmt := inClass (top 26) 7
abbrev s_History_init : Stmt := inClass (top 30) 0
abbrev s_History_go_on : Stmt := inClass (top 30) 1
abbrev s_Book_init : Stmt := inClass (top 39) 0
abbrev s_Book_eq : Stmt := inClass (top 39) 1
abbrev s_Book_rule : Stmt := inClass (top 39) 2
abbrev s_Book_rules : Stmt := inClass (top 39) 3
abbrev s_Book_with_rule : Stmt := inClass (top 39) 4
abbrev s_Book_asking : Stmt := inClass (top 39) 5
/-- what the top has left of names -/
structure Txt (K : PySem.W.Frag) (mg : Str → Option Value) : Prop where
  z_abs : mg "abs" = none
  z_all : mg "all" = none
  z_bool : mg "bool" = none
  z_dict : mg "dict" = none
  z_enumerate : mg "enumerate" = none
  z_int : mg "int" = none
  z_isinstance : mg "isinstance" = none
  z_len : mg "len" = none
  z_list : mg "list" = none
  z_max : mg "max" = none
  z_min : mg "min" = none
  z_range : mg "range" = none
  z_set : mg "set" = none
  z_str : mg "str" = none
  z_sum : mg "sum" = none
  z_tuple : mg "tuple" = none
  z_zip : mg "zip" = none
  g_MOST_ACTIONS : Glob K mg "MOST_ACTIONS" (.int 6)
  g_LONGEST_ITEM : Glob K mg "LONGEST_ITEM" (.int 8)
  g_MOST_AMOUNT : Glob K mg "MOST_AMOUNT" (.int 1000000000000)
  g_MOST_NUMBER : Glob K mg "MOST_NUMBER" (.int 1000)
  g_MOST_ITEMS : Glob K mg "MOST_ITEMS" (.int 6)
  g_LETTERS : Glob K mg "LETTERS" (.str "abcdefghijklmnopqrstuvwxyz")
  r_DOORS : GlobR K mg "DOORS" doors
  r_ACTIONS : GlobR K mg "ACTIONS" acts
section
def R_is_door : RSp := fun ds M k _ => ∃ d, ds = [d] ∧ M = [] ∧ kn d = true ∧ k (.bl (isDoor d)) []
def R_is_rule : RSp := fun ds M k _ => ∃ d, ds = [d] ∧ M = [] ∧ knR d = true ∧ k (.bl (isRule d)) []
def R_Book_init (C CR : Addr) : RSp := fun ds M k kx => ∃ (a : Addr) (six : List D), ds = .hdl a :: six ∧ M = [(a, .ins C [] [])] ∧ six.length = 6 ∧ (∀ d ∈ six, knR d = true) ∧
  ((six.all isRule = true ∧ k .non [(a, .ins C ["row"] [.tup six])]) ∨ (∃ (i : Nat) (e : D), six[i]? = some e ∧ isRule e = false ∧ (∀ d ∈ six.take i, isRule d = true) ∧ kx (.ref CR) [("door", .str (doors.getD i ""))] [(a, .ins C [] [])]))
def R_Book_rule (C CD : Addr) : RSp := fun ds M k kx => ∃ (w : D) (six : List D) (d : D), ds = [w, d] ∧ ObjD M w C ["row"] [.tup six] ∧ kn d = true ∧
  ((∃ (s : Str) (x : D), d = .str s ∧ s ∈ doors ∧ six[doors.idxOf s]? = some x ∧ k x M) ∨ (isDoor d = false ∧ kx (.ref CD) [("door", d)] M))
def R_LineWork_carry_out (CL : Addr) : RSp := fun ds M k _ => ∃ (x t : Addr) (w : LW) (a : Str) (now : Int), ds = [.hdl x, .str a, .int now] ∧ M = lwM CL x t w ∧ a ∈ acts ∧ w.told.length ≤ 1000 ∧ k .non (lwM CL x t (lwStep now w a))
def R_LineWork_init (CL : Addr) : RSp := fun ds M k _ => ∃ (x : Addr) (r : Rule) (kept : Int) (shown : Option Int) (now : Int), ds = [.hdl x, dR r, .int kept, dO shown, .int now] ∧ M = [(x, .ins CL [] [])] ∧ OkR r ∧ ∀ t, k .non (lwM CL x t (lwRun now r ⟨kept, shown, [], 0⟩))
def R_CartLine_init (CI : Addr) : RSp := fun ds M k _ => ∃ (x : Addr) (item : Str) (number kept : Int), ds = [.hdl x, .str item, .int number, .int kept] ∧ M = [(x, .ins CI [] [])] ∧ k .non [(x, lnMO CI ⟨item, number, kept, none, none⟩)]
def R_CartLine_carry_out (CI : Addr) : RSp := fun ds M k _ => ∃ (x : Addr) (r : Rule) (now : Int) (l : Ln), ds = [.hdl x, dR r, .int now] ∧ M = [(x, lnMO CI l)] ∧ OkR r ∧ k (.int (lnWork now r l).times) [(x, lnMO CI (lnRun now r l))]
def R_is_whole : RSp := fun ds M k _ => ∃ d : D, ds = [d] ∧ M = [] ∧ kn d = true ∧ k (.bl (isIntD d && !isBlD d)) []
def R_is_item : RSp := fun ds M k _ => ∃ i : Str, ds = [.str i] ∧ M = [] ∧ OkI i ∧ k (.bl true) []
def R_is_amount : RSp := fun ds M k _ => ∃ a : Int, ds = [.int a] ∧ M = [] ∧ 0 ≤ a ∧ a ≤ 1000000000000 ∧ k (.bl true) []
def R_is_number : RSp := fun ds M k _ => ∃ n t : Int, ds = [.int n, .int t] ∧ M = [] ∧ t ≤ n ∧ n ≤ 1000 ∧ k (.bl true) []
def R_is_price : RSp := fun ds M k _ => ∃ (i : Str) (a : Int), ds = [.tup [.str i, .int a]] ∧ M = [] ∧ OkI i ∧ 0 ≤ a ∧ a ≤ 1000000000000 ∧ k (.bl true) []
def R_are_prices : RSp := fun ds M k _ => ∃ m : Am, ds = [dPr m] ∧ M = [] ∧ OkP m ∧ k (.bl true) []
def R_is_deed : RSp := fun ds M k _ => ∃ d : Dd, ds = [dDd d] ∧ M = [] ∧ OkD d ∧ k (.bl true) []
def R_check_history : RSp := fun ds M k _ => ∃ (m : Am) (dl : List Dd), ds = [dPr m, .lst (dl.map dDd)] ∧ M = [] ∧ OkP m ∧ (∀ d ∈ dl, OkD d) ∧ k .non []
def R_Cart_init (CC CI : Addr) : RSp := fun ds M k _ => ∃ (x : Addr) (g : D) (m : Am), ds = [.hdl x, g, dPr m] ∧ M = [(x, .ins CC [] [])] ∧ (m.map (·.1)).Nodup ∧ m.length ≤ 1000 ∧ ∀ am rw, k .non (cartM CC CI x am rw g ⟨m, false, 0, 0⟩ [])
def R_Cart_row_of (CC CI : Addr) : RSp := fun ds M k _ => ∃ (x am rw : Addr) (g : D) (c : Ct) (rs : Rs) (it : Str), ds = [.hdl x, .str it] ∧ M = cartM CC CI x am rw g c rs ∧ k (rowD it rs) M
def R_Cart_check (CC CI : Addr) : RSp := fun ds M k _ => ∃ (x am rw : Addr) (g : D) (c : Ct) (rs : Rs) (d : Dd) (n : Int), ds = [.hdl x, dDd d, .int n] ∧ M = cartM CC CI x am rw g c rs ∧ OkD d ∧ Play c.am (rs.map (·.2)) d ∧ k .non M
def R_Cart_touched (CC CI : Addr) : RSp := fun ds M k _ => ∃ (x am rw : Addr) (g : D) (c : Ct) (rs : Rs) (d : Dd), ds = [.hdl x, dDd d] ∧ M = cartM CC CI x am rw g c rs ∧ OkD d ∧ Play c.am (rs.map (·.2)) d ∧ wordD d ≠ "price" ∧ rs.length ≤ 1000 ∧
  ∀ rw' rs', rs'.map (·.2) = (touchL c.am d (rs.map (·.2))).1 → k (.lst ((touchL c.am d (rs.map (·.2))).2.map (hdAt rs'))) (cartM CC CI x am rw' g c rs')
def R_Cart_carry_out (CC CI CB : Addr) : RSp := fun ds M k _ => ∃ (x am rw : Addr) (s2 : Six) (c : Ct) (rs : Rs) (d : Dd), ds = [.hdl x, dDd d] ∧ M = cartM CC CI x am rw (bk CB s2) c rs ∧ OkS s2 ∧ OkD d ∧ Play c.am (rs.map (·.2)) d ∧ wordD d ≠ "price" ∧ rs.length ≤ 1000 ∧ Has c.am (rs.map (·.2)) ∧
  ∀ f rw' rs', rs'.map (·.2) = (carryC s2 d c (rs.map (·.2))).2.1 → k (.hdl f) ((f, .lst ((carryC s2 d c (rs.map (·.2))).2.2.map D.str)) :: cartM CC CI x am rw' (bk CB s2) (carryC s2 d c (rs.map (·.2))).1 rs')
def R_Cart_report (CC CI : Addr) : RSp := fun ds M k _ => ∃ (x am rw : Addr) (g : D) (c : Ct) (rs : Rs) (d : Dd) (nm : D), ds = [.hdl x, dDd d, nm] ∧ M = cartM CC CI x am rw g c rs ∧ OkD d ∧ rs.length ≤ 1000 ∧ Nums (rs.map (·.2)) ∧
  ∀ t rw' rs', rs'.map (·.2) = (paidC d c (rs.map (·.2))).2 → k (.tup [.hdl t, nm, paidD d (rs.map (·.2))]) ((t, .lst ((rs.map (·.2)).map tellD)) :: cartM CC CI x am rw' g (paidC d c (rs.map (·.2))).1 rs')
def R_Cart_play_deed (CC CI : Addr) : RSp := fun ds M k _ => ∃ (x am rw : Addr) (g : D) (c : Ct) (rs : Rs) (i : Str) (a : Int), ds = [.hdl x, dDd (.price i a)] ∧ M = cartM CC CI x am rw g c rs ∧ (c.am.get i).isSome = true ∧ c.am.length ≤ 1000 ∧ k .non (cartM CC CI x am rw g { c with am := c.am.put i a } rs)
def R_wrongs_of (CI : Addr) : RSp := fun ds M k _ => ∃ (rw : Addr) (n : Int) (rs : Rs) (M0 : Ms) (qr q0 : Nat), ds = [.hdl rw, .int n] ∧ M0 = M ∧ M0[qr]? = some (rw, .lst (rs.map hd1)) ∧ (∀ j z, rs[j]? = some z → M0[j + q0]? = some (z.1, lnMO CI z.2)) ∧ rs.length ≤ 1000 ∧ ShG (rs.map (·.2)) ∧
  k (.lst (((rs.map (·.2)).flatMap (wrongL n)).map dW)) M0
def R_are_mixed (CI : Addr) : RSp := fun ds M k _ => ∃ (rw mo : Addr) (rs : Rs) (ms : List Am) (M0 : Ms) (qr q0 qm : Nat), ds = [.hdl rw, .hdl mo] ∧ M0 = M ∧ M0[qr]? = some (rw, .lst (rs.map hd1)) ∧ (∀ j z, rs[j]? = some z → M0[j + q0]? = some (z.1, lnMO CI z.2)) ∧ M0[qm]? = some (mo, .lst (ms.map dMom)) ∧ rs.length ≤ 1000 ∧ (∀ m ∈ ms, Has m (rs.map (·.2))) ∧
  k (.bl (mixedL ms (rs.map (·.2)))) M0
def R_History_go_on (CC CI CB CH : Addr) : RSp := fun ds M k _ => ∃ (h x am rw rp wr mx mo : Addr) (s2 : Six) (c : Ct) (rs : Rs) (d : Dd) (n : Int) (rd : List D) (wd : List (Str × Int × Str)) (md : List Int) (ms : List Am), ds = [.hdl h, dDd d, .int n] ∧ M = hyM CH h x rp wr mx mo rd wd md ms ++ cartM CC CI x am rw (bk CB s2) c rs ∧
  OkS s2 ∧ OkD d ∧ Play c.am (rs.map (·.2)) d ∧ rs.length ≤ 1000 ∧ c.am.length ≤ 1000 ∧ Has c.am (rs.map (·.2)) ∧ (rd.length ≤ 1000 ∧ wd.length ≤ 10000000 ∧ md.length ≤ 1000 ∧ ms.length ≤ 1000) ∧
  ((∃ i a, d = .price i a ∧ k .non (hyM CH h x rp wr mx mo (rd ++ [.non]) wd md (ms ++ [c.am.put i a]) ++ cartM CC CI x am rw (bk CB s2) { c with am := c.am.put i a } rs)) ∨
   (wordD d ≠ "price" ∧ After ms (carryC s2 d c (rs.map (·.2))).2.1 ∧ ∀ fa ta rw' rs', rs'.map (·.2) = (paidC d (carryC s2 d c (rs.map (·.2))).1 (carryC s2 d c (rs.map (·.2))).2.1).2 → k .non (hyM CH h x rp wr mx mo (rd ++ [.tup [.hdl ta, .hdl fa, paidD d (carryC s2 d c (rs.map (·.2))).2.1]]) (wd ++ if isT d then (carryC s2 d c (rs.map (·.2))).2.1.flatMap (wrongL n) else []) (md ++ if mixedL ms (carryC s2 d c (rs.map (·.2))).2.1 then [n] else []) ms ++ ((fa, .lst ((carryC s2 d c (rs.map (·.2))).2.2.map D.str)) :: (ta, .lst ((carryC s2 d c (rs.map (·.2))).2.1.map tellD)) :: cartM CC CI x am rw' (bk CB s2) (paidC d (carryC s2 d c (rs.map (·.2))).1 (carryC s2 d c (rs.map (·.2))).2.1).1 rs'))))
def R_History_init (CC CI CB CH : Addr) : RSp := fun ds M k kx => ∃ (h : Addr) (s2 : Six) (m : Am) (dl : List Dd), ds = [.hdl h, bk CB s2, dPr m, .lst (dl.map dDd)] ∧ M = [(h, .ins CH [] [])] ∧ OkS s2 ∧ OkP m ∧ (∀ d ∈ dl, OkD d) ∧ dl.length ≤ 900 ∧ Plays s2 m dl ∧
  ∀ x am rw rp wr mx mo (RH : List (Option RpH)) (rs : Rs), RH.map fgt = (hAt s2 m dl dl.length).rps → rs.map (·.2) = (hAt s2 m dl dl.length).ls → k .non (hyM CH h x rp wr mx mo (RH.map dH) (hAt s2 m dl dl.length).wr (hAt s2 m dl dl.length).mx (hAt s2 m dl dl.length).ms ++ RH.flatMap eH ++ cartM CC CI x am rw (bk CB s2) (hAt s2 m dl dl.length).c rs)
def R_play (CC CI CB CH : Addr) : RSp := fun ds M k kx => ∃ (s2 : Six) (m : Am) (dl : List Dd), ds = [bk CB s2, dPr m, .lst (dl.map dDd)] ∧ M = [] ∧ OkS s2 ∧ OkP m ∧ (∀ d ∈ dl, OkD d) ∧ dl.length ≤ 900 ∧ Plays s2 m dl ∧ ∀ (rp : Addr) (RH : List (Option RpH)), RH.map fgt = (hAt s2 m dl dl.length).rps → k (.hdl rp) ((rp, .lst (RH.map dH)) :: RH.flatMap eH)
def R_mixtures (CC CI CB CH : Addr) : RSp := fun ds M k kx => ∃ (s2 : Six) (m : Am) (dl : List Dd), ds = [bk CB s2, dPr m, .lst (dl.map dDd)] ∧ M = [] ∧ OkS s2 ∧ OkP m ∧ (∀ d ∈ dl, OkD d) ∧ dl.length ≤ 900 ∧ Plays s2 m dl ∧ ∀ mx : Addr, k (.hdl mx) [(mx, .lst ((hAt s2 m dl dl.length).mx.map D.int))]
def R__law_well : RSp := fun ds M k _ => ∃ (ns : List Int) (i : Int), ds = [.seq (ns.map D.int), .int i] ∧ M = [] ∧ 0 ≤ i ∧ i ≤ 1000 ∧
  ∀ (p : Addr) (j : Jar), j.Ok 0 → k (.hdl p) [(p, j.mo)]
def R__law_draw : RSp := fun ds M k _ => ∃ (h : Addr) (j : Jar) (m n : Int), ds = [.hdl h, .int m] ∧ M = [(h, j.mo)] ∧ j.Ok n ∧ n ≤ 1000000 ∧ 0 < m ∧ m ≤ 100000000000000000000000000000000000000000000000000 ∧
  ∀ (r : Int) (j' : Jar), 0 ≤ r → r < m → j'.Ok (n + 1) → k (.int r) [(h, j'.mo)]
def R__law_amount : RSp := fun ds M k _ => ∃ (h : Addr) (j : Jar) (n : Int), ds = [.hdl h] ∧ M = [(h, j.mo)] ∧ j.Ok n ∧ n ≤ 900000 ∧
  ∀ (r : Int) (j' : Jar), 0 ≤ r → r ≤ 1000000000000 → j'.Ok (n + 5) → k (.int r) [(h, j'.mo)]
def R__law_rule : RSp := fun ds M k _ => ∃ (h : Addr) (j : Jar) (m n : Int), ds = [.hdl h, .int m] ∧ M = [(h, j.mo)] ∧ j.Ok n ∧ n ≤ 900000 ∧ 0 ≤ m ∧ m ≤ 6 ∧
  ∀ (r : Rule) (j' : Jar), OkR r → j'.Ok (n + 8) → k (dR r) [(h, j'.mo)]
def R__law_items : RSp := fun ds M k _ => ∃ (h : Addr) (j : Jar) (m n : Int), ds = [.hdl h, .int m] ∧ M = [(h, j.mo)] ∧ j.Ok n ∧ 0 ≤ n ∧ n ≤ 500000 ∧ 0 ≤ m ∧ m ≤ 6 ∧
  ∀ (its : List Str) (j' : Jar), its.length = m.toNat → its.Nodup → (∀ s ∈ its, OkI s) → j'.Ok (n + 200) → k (.lst (its.map D.str)) [(h, j'.mo)]
def R__law_start : RSp := fun ds M k _ => ∃ (h : Addr) (j : Jar) (n : Int) (its : List Str), ds = [.hdl h, .lst (its.map D.str)] ∧ M = [(h, j.mo)] ∧ j.Ok n ∧ 0 ≤ n ∧ n ≤ 800000 ∧ its.length ≤ 6 ∧
  ∀ (m : Am) (j' : Jar), m.map (·.1) = its → AmOk m → j'.Ok (n + 40) → k (dPr m) [(h, j'.mo)]
def R__law_rules : RSp := fun ds M k _ => ∃ (h : Addr) (j : Jar) (n m : Int), ds = [.hdl h, .int m] ∧ M = [(h, j.mo)] ∧ j.Ok n ∧ 0 ≤ n ∧ n ≤ 500000 ∧ 0 ≤ m ∧ m ≤ 6 ∧ ∀ (s : Six) (j' : Jar), OkS s → j'.Ok (n + 60) → k (.lst (s.map dR)) [(h, j'.mo)]
def R__law_work (CB : Addr) : RSp := fun ds M k _ => ∃ s : Six, ds = [.lst (s.map dR)] ∧ M = [] ∧ OkS s ∧ k (bk CB s) []
def R__law_act : RSp := fun ds M k _ => ∃ (h : Addr) (j : Jar) (n : Int) (its th : List Str), ds = [.hdl h, .lst (its.map D.str), .lst (th.map D.str)] ∧ M = [(h, j.mo)] ∧ j.Ok n ∧ 0 ≤ n ∧ n ≤ 600000 ∧ 1 ≤ its.length ∧ its.length ≤ 6 ∧ (∀ s ∈ its, OkI s) ∧ (∀ s ∈ th, s ∈ its) ∧ th.length ≤ 6 ∧
  ∀ (d : Dd) (j' : Jar), OkD d → GoodD its th d → j'.Ok (n + 12) → k (dDd d) [(h, j'.mo)]
def R__law_acts : RSp := fun ds M k _ => ∃ (ns : List Int) (h : Addr) (j : Jar) (n b m : Int) (its : List Str), ds = [.seq (ns.map D.int), .int b, .hdl h, .lst (its.map D.str), .int m] ∧ M = [(h, j.mo)] ∧ j.Ok n ∧ 0 ≤ n ∧ n ≤ 500000 ∧ ns.length ≤ 63 ∧ 0 ≤ b ∧ b ≤ 10 ∧ 0 ≤ m ∧ m ≤ 300 ∧ 1 ≤ its.length ∧ its.length ≤ 6 ∧ (∀ s ∈ its, OkI s) ∧
  ∀ (dl : List Dd) (j' : Jar), GoodT its dl → (dl.length ≤ 60 ∨ (dl.length : Int) ≤ m) → j'.Ok (n + 10000) → k (.lst (dl.map dDd)) [(h, j'.mo)]
def R__law_unlike : RSp := fun ds M k _ => ∃ (m : Am) (dl : List Dd), ds = [.lst (dl.map dDd), dPr m] ∧ M = [] ∧ OkP m ∧ (∀ d ∈ dl, OkD d) ∧ dl.length ≤ 60 ∧ k (.tup [.lst ((unlN dl dl.length).map dDd), dPr (unlM m)]) []
def R__law_stretches : RSp := fun ds M k _ => ∃ (m : Am) (dl : List Dd), ds = [dPr m, .lst (dl.map dDd)] ∧ M = [] ∧ OkP m ∧ dl.length ≤ 60 ∧ k (.dct m.ks (m.map fun p => D.lst ((rowsOf m dl p.1).map dSt))) []
def R__law_mixed : RSp := fun ds M k _ => ∃ (m : Am) (dl : List Dd) (ls : List Ln), ds = [.dct m.ks (m.map fun p => D.lst ((rowsOf m dl p.1).map dSt)), .lst (ls.map tellD)] ∧ M = [] ∧ OkP m ∧ dl.length ≤ 60 ∧ Unl m dl ∧ ls.length ≤ 10000 ∧ (∀ l ∈ ls, Gl (QA m dl dl.length) l) ∧ k (.bl (mixS (spans (rowsOf m dl) ls))) []
def R__law_due : RSp := fun ds M k _ => ∃ (m : Am) (dl : List Dd) (rps : List (Option Rp)), ds = [.dct m.ks (m.map fun p => D.lst ((rowsOf m dl p.1).map dSt)), .lst (rps.map dRp)] ∧ M = [] ∧ OkP m ∧ dl.length ≤ 60 ∧ Unl m dl ∧ rps.length ≤ 900 ∧ (∀ r ∈ rps, ∀ q, r = some q → q.told.length ≤ 10000 ∧ ∀ l ∈ q.told, Gl (QA m dl dl.length) l) ∧
  k (.lst (((dueN (fun ls => mixS (spans (rowsOf m dl) ls)) rps rps.length).map Int.ofNat).map D.int)) []
def R_law (CB : Addr) : RSp := fun ds M k _ => ∃ (ns : List Int), ds = [.seq (ns.map D.int)] ∧ M = [] ∧ ns.length ≤ 63 ∧ ∀ M', k (.bl true) M'
def w__law_rules : WpS :=
  (wSeq (wIf (wC cEq (wCall R__law_draw [] (wCons (wVar 0) (wCons (wLit (.int 2)) wNil))) (wLit (.int 0)))
  (wSeq (wRet (wLc (iR1 (wLit (.int 6))) (gName 3) none (wCall R__law_rule [] (wCons (wVar 0) (wCons (wVar 1) wNil))) [3]))
  wEnd)
  wEnd)
  (wSeq (wSet 2 (wLst (wCons (wTup (wCons (wLit (.str "show")) wNil)) (wCons (wTup (wCons (wLit (.str "take")) (wCons (wLit (.str "show")) wNil))) (wCons (wTup wNil) (wCons (wTup (wCons (wLit (.str "last")) wNil)) (wCons (wTup (wCons (wLit (.str "ask")) wNil)) (wCons (wTup (wCons (wLit (.str "least")) (wCons (wLit (.str "ask")) wNil))) (wCons (wTup (wCons (wLit (.str "take")) wNil)) (wCons (wTup (wCons (wLit (.str "take")) (wCons (wLit (.str "ask")) wNil))) wNil))))))))))
  (wSeq (wRet (wLc (iR1 (wLit (.int 6))) (gName 3) none (w2 opIx (wVar 2) (wCall R__law_draw [] (wCons (wVar 0) (wCons (wLit (.int 8)) wNil)))) [3]))
  wEnd)))
def w__law_work (CB CR : Addr) : WpS :=
  (wSeq (wRet (wGv (wMake (R_Book_init CB CR) CB [] (wCons (w2 opIx (wVar 0) (wLit (.int 0))) (wCons (w2 opIx (wVar 0) (wLit (.int 1))) (wCons (w2 opIx (wVar 0) (wLit (.int 2))) (wCons (w2 opIx (wVar 0) (wLit (.int 3))) (wCons (w2 opIx (wVar 0) (wLit (.int 4))) (wCons (w2 opIx (wVar 0) (wLit (.int 5))) wNil)))))))))
  wEnd)
def w__law_act : WpS :=
  (wSeq (wPar 3 4 (wCons (w2 opIx (wVar 1) (wCall R__law_draw [] (wCons (wVar 0) (wCons (w1 oLen (wVar 1)) wNil)))) (wCons (wCall R__law_draw [] (wCons (wVar 0) (wCons (wLit (.int 14)) wNil))) wNil)))
  (wSeq (wSet 5 (w2 opIx (wLst (wCons (wLit (.int 1)) (wCons (w2 opAdd (wLit (.int 1)) (wCall R__law_draw [] (wCons (wVar 0) (wCons (wLit (.int 1000)) wNil)))) wNil))) (wCall R__law_draw [] (wCons (wVar 0) (wCons (wLit (.int 2)) wNil)))))
  (wSeq (wIf (wC cLt (wVar 4) (wLit (.int 5)))
  (wSeq (wRet (wTup (wCons (wLit (.str "price")) (wCons (wVar 3) (wCons (wCall R__law_amount [] (wCons (wVar 0) wNil)) wNil)))))
  wEnd)
  wEnd)
  (wSeq (wIf (wAnd (wC cGt (wVar 4) (wLit (.int 10))) (wC cNe (wVar 2) (wLst wNil)))
  (wSeq (wRet (wTup (wCons (wLit (.str "alter")) (wCons (w2 opIx (wVar 2) (wCall R__law_draw [] (wCons (wVar 0) (wCons (w1 oLen (wVar 2)) wNil)))) (wCons (w2 opIx (wLst (wCons (wVar 5) (wCons (wVar 5) (wCons (wLit (.int 0)) wNil)))) (wCall R__law_draw [] (wCons (wVar 0) (wCons (wLit (.int 3)) wNil)))) wNil)))))
  wEnd)
  wEnd)
  (wSeq (wIf (wOr (wC cLt (wVar 4) (wLit (.int 7))) (wC cGt (wVar 4) (wLit (.int 10))))
  (wSeq (wRet (wTup (wCons (wLit (.str "put")) (wCons (wVar 3) (wCons (wVar 5) wNil)))))
  wEnd)
  wEnd)
  (wSeq (wRet (w2 opIx (wLst (wCons (wTup (wCons (wLit (.str "look")) wNil)) (wCons (wTup (wCons (wLit (.str "back")) wNil)) (wCons (wTup (wCons (wLit (.str "pay")) (wCons (wLit (.bl false)) wNil))) (wCons (wTup (wCons (wLit (.str "pay")) (wCons (wV (wC cEq (wCall R__law_draw [] (wCons (wVar 0) (wCons (wLit (.int 3)) wNil))) (wLit (.int 1)))) wNil))) wNil))))) (w2 opSub (wVar 4) (wLit (.int 7)))))
  wEnd))))))
def w__law_acts : WpS :=
  (wSeq (wPar 5 6 (wCons (wLstM wNil) (wCons (wLst wNil) wNil)))
  (wSeq (wFor (iR1 (w2 oMax2 (w2 oMin2 (wLit (.int 60)) (w2 opSub (w1 oLen (wVar 0)) (wVar 1))) (wCall R__law_draw [] (wCons (wVar 2) (wCons (w2 opAdd (wVar 4) (wLit (.int 1))) wNil))))) (gName 7)
  (wSeq (wSet 8 (wVar 2))
  (wCut (wIf (wC cLt (w2 opAdd (wVar 1) (wVar 7)) (w1 oLen (wVar 0)))
  (wSeq (wSet 8 (wCall R__law_well [] (wCons (wVar 0) (wCons (w2 opAdd (wVar 1) (wVar 7)) wNil))))
  wEnd)
  wEnd)
  (wSeq (wSet 9 (wCall R__law_act [] (wCons (wVar 8) (wCons (wVar 3) (wCons (wVar 6) wNil)))))
  (wCut (wIf (wAnd (wC cEq (w2 opIx (wVar 9) (wLit (.int 0))) (wLit (.str "put"))) (wC cNotIn (w2 opIx (wVar 9) (wLit (.int 1))) (wVar 6)))
  (wSeq (wSet 6 (w2 opAdd (wVar 6) (wLst (wCons (w2 opIx (wVar 9) (wLit (.int 1))) wNil))))
  wEnd)
  wEnd)
  (wCut (wIf (wC cEq (wVar 9) (wTup (wCons (wLit (.str "pay")) (wCons (wLit (.bl true)) wNil))))
  (wSeq (wSet 6 (wLst wNil))
  wEnd)
  wEnd)
  (wCut (wIf (wAnd (wC cEq (w2 opIx (wVar 9) (wLit (.int 0))) (wLit (.str "alter"))) (wC cEq (w2 opIx (wVar 9) (wLit (.int 2))) (wLit (.int 0))))
  (wSeq (wSet 6 (wLc (iL (wVar 6)) (gName 10) (some (wC cNe (wVar 10) (w2 opIx (wVar 9) (wLit (.int 1))))) (wVar 10) [10]))
  wEnd)
  wEnd)
  (wGh (wSeq (wExpr (wApp (wVar 5) (wVar 9)))
  wEnd)))))))))
  (wSeq (wRet (wGv (wVar 5)))
  wEnd)))
def w__law_unlike : WpS :=
  (wSeq (wSet 2 (wLstM wNil))
  (wSeq (wFor (iR1 (w1 oLen (wVar 0))) (gName 3)
  (wSeq (wSet 4 (w2 opIx (wVar 0) (wVar 3)))
  (wCut (wIf (wC cEq (w2 opIx (wVar 4) (wLit (.int 0))) (wLit (.str "price")))
  (wSeq (wSet 4 (wTup (wCons (wLit (.str "price")) (wCons (w2 opIx (wVar 4) (wLit (.int 1))) (wCons (w2 opAdd (w2 opAdd (w2 opMul (w2 opMod (w1 oInt (w2 opIx (wVar 4) (wLit (.int 2)))) (w2 opPow (wLit (.int 10)) (wLit (.int 9)))) (wLit (.int 200))) (wVar 3)) (wLit (.int 1))) wNil)))))
  wEnd)
  wEnd)
  (wSeq (wExpr (wApp (wVar 2) (wVar 4)))
  wEnd))))
  (wGh (wSeq (wRet (wTup (wCons (wVar 2) (wCons (w1 oTup (wLc (iT (wVar 1)) (gTup 2 (gCons (gName 5) (gCons (gName 6) gNil))) none (wTup (wCons (wVar 5) (wCons (w2 opMul (w2 opMod (w1 oInt (wVar 6)) (w2 opPow (wLit (.int 10)) (wLit (.int 9)))) (wLit (.int 200))) wNil))) [5, 6])) wNil))))
  wEnd))))
def w__law_stretches : WpS :=
  (wSeq (wSet 2 wDnew)
  (wSeq (wFor (iT (wVar 0)) (gTup 2 (gCons (gName 3) (gCons (gName 4) gNil)))
  (wGh (wSeq (wSet 5 (wLstM (wCons (wTup (wCons (wVar 4) (wCons (wLit (.int 0)) wNil))) wNil)))
  (wSeq (wFor (iR1 (w1 oLen (wVar 1))) (gName 6)
  (wSeq (wIf (wAnd (wC cEq (w2 opIx (w2 opIx (wVar 1) (wVar 6)) (wLit (.int 0))) (wLit (.str "price"))) (wC cEq (w2 opIx (w2 opIx (wVar 1) (wVar 6)) (wLit (.int 1))) (wVar 3)))
  (wSeq (wExpr (wApp (wVar 5) (wTup (wCons (w2 opIx (w2 opIx (wVar 1) (wVar 6)) (wLit (.int 2))) (wCons (w2 opAdd (wVar 6) (wLit (.int 1))) wNil)))))
  wEnd)
  wEnd)
  wEnd))
  (wSeq (wSet 7 (w2 opAdd (wLc (iR1 (w2 opSub (w1 oLen (wVar 5)) (wLit (.int 1)))) (gName 8) none (w2 opIx (w2 opIx (wVar 5) (w2 opAdd (wVar 8) (wLit (.int 1)))) (wLit (.int 1))) [8]) (wLst (wCons (w2 opAdd (w1 oLen (wVar 1)) (wLit (.int 1))) wNil))))
  (wSeq (wDput (wLc (iR1 (w1 oLen (wVar 5))) (gName 8) none (wTup (wCons (w2 opIx (w2 opIx (wVar 5) (wVar 8)) (wLit (.int 0))) (wCons (w2 opIx (w2 opIx (wVar 5) (wVar 8)) (wLit (.int 1))) (wCons (w2 opIx (wVar 7) (wVar 8)) wNil)))) [8]) (wVar 2) (wVar 3))
  wEnd))))))
  (wSeq (wRet (wGv (wVar 2)))
  wEnd)))
def w__law_mixed : WpS :=
  (wSeq (wPar 2 3 (wCons (wLstM wNil) (wCons (wLstM wNil) wNil)))
  (wSeq (wFor (iL (wVar 1)) (gName 4)
  (wSeq (wIf (wOr (wNot (wB (w1 (oIsi isTupD "tuple") (wVar 4)))) (wOr (wC cNe (w1 oLen (wVar 4)) (wLit (.int 3))) (wC cDnotIn (w2 opIx (wVar 4) (wLit (.int 0))) (wVar 0))))
  (wSeq (wRet (wLit .non))
  wEnd)
  wEnd)
  (wSeq (wIf (wC cIsNot (w2 opIx (wVar 4) (wLit (.int 2))) (wLit .non))
  (wSeq (wSet 5 (wLc (iL (w2 opDget (wVar 0) (w2 opIx (wVar 4) (wLit (.int 0))))) (gTup 3 (gCons (gName 6) (gCons (gName 7) (gCons (gName 8) gNil)))) (some (wC cEq (wVar 6) (w2 opIx (wVar 4) (wLit (.int 2))))) (wTup (wCons (wVar 7) (wCons (wVar 8) wNil))) [6, 7, 8]))
  (wSeq (wIf (wC cNe (w1 oLen (wVar 5)) (wLit (.int 1)))
  (wSeq (wRet (wLit .non))
  wEnd)
  wEnd)
  (wSeq (wExpr (wApp (wVar 2) (w2 opIx (w2 opIx (wVar 5) (wLit (.int 0))) (wLit (.int 0)))))
  (wSeq (wExpr (wApp (wVar 3) (w2 opIx (w2 opIx (wVar 5) (wLit (.int 0))) (wLit (.int 1)))))
  wEnd))))
  wEnd)
  wEnd)))
  (wGh (wSeq (wRet (vAnd (wV (wC cNe (wVar 2) (wLst wNil))) (wV (wC cGe (w1 oMaxL (wVar 2)) (w1 oMinL (wVar 3))))))
  wEnd))))
def w__law_due : WpS :=
  (wSeq (wIf (wNot (wB (w1 (oIsi isLstD "list") (wVar 1))))
  (wSeq (wRet (wLit .non))
  wEnd)
  wEnd)
  (wSeq (wSet 2 (wLst wNil))
  (wSeq (wFor (iR1 (w1 oLen (wVar 1))) (gName 3)
  (wSeq (wIf (wC cIsNot (w2 opIx (wVar 1) (wVar 3)) (wLit .non))
  (wSeq (wIf (wOr (wNot (wB (w1 (oIsi isTupD "tuple") (w2 opIx (wVar 1) (wVar 3))))) (wOr (wC cNe (w1 oLen (w2 opIx (wVar 1) (wVar 3))) (wLit (.int 3))) (wNot (wB (w1 (oIsi isLstD "list") (w2 opIx (w2 opIx (wVar 1) (wVar 3)) (wLit (.int 0))))))))
  (wSeq (wRet (wLit .non))
  wEnd)
  wEnd)
  (wSeq (wSet 4 (wCall R__law_mixed [] (wCons (wVar 0) (wCons (w2 opIx (w2 opIx (wVar 1) (wVar 3)) (wLit (.int 0))) wNil))))
  (wSeq (wIf (wC cIs (wVar 4) (wLit .non))
  (wSeq (wRet (wLit .non))
  wEnd)
  wEnd)
  (wSeq (wSet 2 (w2 opAdd (wVar 2) (w2 opMul (wLst (wCons (wVar 3) wNil)) (w1 oInt (wVar 4)))))
  wEnd))))
  wEnd)
  wEnd))
  (wSeq (wRet (wVar 2))
  wEnd))))
def w_law (CB CC CI CH CR : Addr) : WpS :=
  (wSeq (wSet 1 (wCall R__law_well [] (wCons (wVar 0) (wCons (wLit (.int 0)) wNil))))
  (wSeq (wSet 2 (wCall R__law_items [] (wCons (wVar 1) (wCons (w2 opAdd (wLit (.int 1)) (wCall R__law_draw [] (wCons (wVar 1) (wCons (wLit (.int 6)) wNil)))) wNil))))
  (wSeq (wPar 3 4 (wCons (wCall R__law_start [] (wCons (wVar 1) (wCons (wVar 2) wNil))) (wCons (wCall R__law_rules [] (wCons (wVar 1) (wCons (wLit (.int 6)) wNil))) wNil)))
  (wSeq (wAsg (gTup 2 (gCons (gName 5) (gCons (gName 6) gNil))) (wCall R__law_unlike [] (wCons (wCall R__law_acts [] (wCons (wVar 0) (wCons (wLit (.int 1)) (wCons (wVar 1) (wCons (wVar 2) (wCons (wLit (.int 30)) wNil)))))) (wCons (wVar 3) wNil))))
  (wGh (wSeq (wSet 7 (wCall (R__law_work CB) [] (wCons (wVar 4) wNil)))
  (wSeq (wSet 8 (wCall R__law_due [] (wCons (wCall R__law_stretches [] (wCons (wVar 6) (wCons (wVar 5) wNil))) (wCons (wGv (wCall (R_play CC CI CB CH) [] (wCons (wVar 7) (wCons (wVar 6) (wCons (w1 oLst (wVar 5)) wNil))))) wNil))))
  (wSeq (wSet 9 (wGv (wCall (R_mixtures CC CI CB CH) [] (wCons (wVar 7) (wCons (wVar 6) (wCons (w1 oLst (wVar 5)) wNil))))))
  (wSeq (wIf (wOr (wC cIs (wVar 8) (wLit .non)) (wOr (wNot (wB (w1 (oIsi isLstD "list") (wVar 9)))) (wC cNe (wVar 9) (wVar 8))))
  (wSeq (wRet (wLit (.bl false)))
  wEnd)
  wEnd)
  (wSeq (wRet (w1 oAll (wLc (iL (wVar 9)) (gName 10) none (vAnd (w1 (oIsi isIntD "int") (wVar 10)) (wV (wNot (wB (w1 (oIsi isBlD "bool") (wVar 10)))))) [10])))
  wEnd))))))))))
end
/-! ### calls of the laws' shared defs; q: where the jar stands -/
section
variable {k : KD} {kx : KX} {h : Addr} {j : Jar} {n m : Int} {B M : Ms}
theorem hp1 {R : RSp} {ds : List D} {o : Addr × MO} (q : Nat) (hm : M[q]? = some o) (hk : R ds [o] (fun d N => ∃ o', N = [o'] ∧ setM M q o' fun M' => k d M') (fun c f N => False)) (mo : ∀ {A : Ms} {k k' : KD} {kx kx' : KX}, R ds A k kx → (∀ d N, k d N → k' d N) → (∀ c f N, kx c f N → kx' c f N) → R ds A k' kx') : HandP R ds M k kx := by
  have hl := (List.getElem?_eq_some_iff.mp hm).1
  have e : M.drop q = o :: M.drop (q + 1) := by rw [List.drop_eq_getElem_cons hl, (List.getElem?_eq_some_iff.mp hm).2]
  refine HandP.seg q 1 ?_
  rw [e]
  simp only [List.take_succ_cons, List.take_zero, List.drop_succ_cons, List.drop_zero]
  refine mo hk (fun d N ⟨o', e1, e2⟩ => ?_) fun _ _ _ z => z.elim
  subst e1
  refine ⟨M.set q o', ?_, setM_eq.mp e2⟩
  rw [List.append_assoc]
  have e3 : M.set q o' = M.take q ++ ([o'] ++ M.drop (q + 1)) := by
    rw [List.set_eq_take_append_cons_drop, if_pos hl]; rfl
  rw [e3]
  exact List.Perm.append_left _ List.perm_append_comm
theorem use_well {ns : List Int} {i : Int} {M : Ms} (h0 : 0 ≤ i) (h1 : i ≤ 1000) (hk : ∀ p j, Jar.Ok j 0 → ∃ M', ((p, j.mo) :: M).Perm M' ∧ k (.hdl p) M') : HandP R__law_well [.seq (ns.map D.int), .int i] M k kx :=
  .none ⟨ns, i, rfl, rfl, h0, h1, fun p j jo => by
    obtain ⟨M', h1, h2⟩ := hk p j jo
    exact ⟨M', (List.perm_append_singleton _ _).trans h1, h2⟩⟩
theorem use_draw (q : Nat) (jo : j.Ok n) (hn : n ≤ 1000000) (h0 : 0 < m) (h1 : m ≤ 100000000000000000000000000000000000000000000000000) (hk : ∀ r j', 0 ≤ r → r < m → Jar.Ok j' (n + 1) → setM M q (h, j'.mo) fun M' => k (.int r) M') (hm : M[q]? = some (h, j.mo) := by rfl) : HandP R__law_draw [.hdl h, .int m] M k kx :=
  hp1 q hm ⟨h, j, m, n, rfl, rfl, jo, hn, h0, h1, fun r j' a b c => ⟨_, rfl, hk r j' a b c⟩⟩ fun ⟨h, j, m, n, e1, e2, jo, hn, h0, h1, hk⟩ h2 _ => ⟨h, j, m, n, e1, e2, jo, hn, h0, h1, fun r j' a b c => h2 _ _ (hk r j' a b c)⟩
theorem use_items (q : Nat) (jo : j.Ok n) (hn0 : 0 ≤ n) (hn : n ≤ 500000) (h0 : 0 ≤ m) (h1 : m ≤ 6) (hk : ∀ (its : List Str) (j' : Jar), its.length = m.toNat → its.Nodup → (∀ s ∈ its, OkI s) → j'.Ok (n + 200) → setM M q (h, j'.mo) fun M' => k (.lst (its.map D.str)) M') (hm : M[q]? = some (h, j.mo) := by rfl) : HandP R__law_items [.hdl h, .int m] M k kx :=
  hp1 q hm ⟨h, j, m, n, rfl, rfl, jo, hn0, hn, h0, h1, fun its j' a b c d => ⟨_, rfl, hk its j' a b c d⟩⟩ fun ⟨h, j, m, n, e1, e2, jo, hn0, hn, h0, h1, hk⟩ h2 _ => ⟨h, j, m, n, e1, e2, jo, hn0, hn, h0, h1, fun r j' a b c d => h2 _ _ (hk r j' a b c d)⟩
theorem use_start {its : List Str} (q : Nat) (jo : j.Ok n) (hn0 : 0 ≤ n) (hn : n ≤ 800000) (hl : its.length ≤ 6) (hk : ∀ (m : Am) (j' : Jar), m.map (·.1) = its → AmOk m → j'.Ok (n + 40) → setM M q (h, j'.mo) fun M' => k (dPr m) M') (hm : M[q]? = some (h, j.mo) := by rfl) : HandP R__law_start [.hdl h, .lst (its.map D.str)] M k kx :=
  hp1 q hm ⟨h, j, n, its, rfl, rfl, jo, hn0, hn, hl, fun r j' a b c => ⟨_, rfl, hk r j' a b c⟩⟩ fun ⟨h, j, n, its, e1, e2, jo, hn0, hn, h0, hk⟩ h2 _ => ⟨h, j, n, its, e1, e2, jo, hn0, hn, h0, fun r j' a b c => h2 _ _ (hk r j' a b c)⟩
theorem use_amount (q : Nat) (jo : j.Ok n) (hn : n ≤ 900000) (hk : ∀ (v : Int) (j' : Jar), 0 ≤ v → v ≤ 1000000000000 → j'.Ok (n + 5) → setM M q (h, j'.mo) fun M' => k (.int v) M') (hm : M[q]? = some (h, j.mo) := by rfl) : HandP R__law_amount [.hdl h] M k kx :=
  hp1 q hm ⟨h, j, n, rfl, rfl, jo, hn, fun v j' a b c => ⟨_, rfl, hk v j' a b c⟩⟩ fun ⟨h, j, n, e1, e2, jo, hn, hk⟩ h2 _ => ⟨h, j, n, e1, e2, jo, hn, fun r j' a b c => h2 _ _ (hk r j' a b c)⟩
theorem use_rule (q : Nat) (jo : j.Ok n) (hn : n ≤ 900000) (h0 : 0 ≤ m) (h1 : m ≤ 6) (hk : ∀ (r : Rule) (j' : Jar), OkR r → j'.Ok (n + 8) → setM M q (h, j'.mo) fun M' => k (dR r) M') (hm : M[q]? = some (h, j.mo) := by rfl) : HandP R__law_rule [.hdl h, .int m] M k kx :=
  hp1 q hm ⟨h, j, m, n, rfl, rfl, jo, hn, h0, h1, fun r j' a b => ⟨_, rfl, hk r j' a b⟩⟩ fun ⟨h, j, m, n, e1, e2, jo, hn, h0, h1, hk⟩ h2 _ => ⟨h, j, m, n, e1, e2, jo, hn, h0, h1, fun r j' a b => h2 _ _ (hk r j' a b)⟩
end
theorem use_play {CC CI CB CH : Addr} {s2 : Six} {m : Am} {dl : List Dd} {M : Ms} {k : KD} {kx : KX} (oks : OkS s2) (om : OkP m) (od : ∀ d ∈ dl, OkD d) (hl : dl.length ≤ 900) (hp : Plays s2 m dl)
    (hk : ∀ (rp : Addr) (RH : List (Option RpH)), RH.map fgt = (hAt s2 m dl dl.length).rps → k (.hdl rp) ((rp, .lst (RH.map dH)) :: (RH.flatMap eH ++ M))) : HandP (R_play CC CI CB CH) [bk CB s2, dPr m, .lst (dl.map dDd)] M k kx :=
  .none ⟨s2, m, dl, rfl, rfl, oks, om, od, hl, hp, fun rp RH h => ⟨_, List.perm_append_comm, hk rp RH h⟩⟩
theorem use_bookK {CB CR : Addr} {s : Six} {M : Ms} {k : KD} {kx : KX} (os : OkS s) (hk : k (bk CB s) M) : ∃ kk, ∀ x, CallOk (R_Book_init CB CR) (kk ++ [M.length]) (.hdl x :: s.map dR) (M ++ [(x, .ins CB [] [])]) (fun d M3 => d = .non ∧ GhR (.hdl x) M3 k) kx :=
  ⟨[], fun x => ⟨by simp, by simp, by
    have e : pick [M.length] (M ++ [(x, MO.ins CB [] [])]) = [(x, .ins CB [] [])] := pick_one (by simp)
    show R_Book_init CB CR _ (pick ([] ++ [M.length]) _) _ _
    rw [List.nil_append, e]
    refine ⟨x, s.map dR, rfl, rfl, by rw [List.length_map, os.len], all_knR (s := s), .inl ⟨all_rules (s := s) os.ok, rfl, rfl, ?_⟩⟩
    rw [merge_one]
    have e2 : (M ++ [(x, MO.ins CB [] [])]).set M.length (x, .ins CB ["row"] [.tup (s.map dR)]) = M ++ [(x, .ins CB ["row"] [.tup (s.map dR)])] := by
      rw [List.set_append_right _ _ (Nat.le_refl _)]; simp
    rw [e2]
    refine .mk _ _ (GhV.frzI (a := x) (C := CB) (fs := ["row"]) (ds := [.tup (s.map dR)]) M.length (by simp)) ?_
    have e3 : (M ++ [(x, MO.ins CB ["row"] [.tup (s.map dR)])]).eraseIdx M.length = M := by rw [List.eraseIdx_append_of_length_le (Nat.le_refl _)]; simp
    rw [e3]
    exact hk⟩⟩
theorem use_bookP {CB CR : Addr} {s : Six} {M : Ms} {k : KD} {kx : KX} {x : Addr} (os : OkS s) (hk : k (bk CB s) M) : Hand (R_Book_init CB CR) (.hdl x :: s.map dR) ((x, .ins CB [] []) :: M) (fun d M2 => d = .non ∧ ∃ M3, M2.Perm M3 ∧ GhR (.hdl x) M3 k) kx :=
  ⟨[(x, .ins CB [] [])], M, (List.perm_append_singleton _ _).symm, x, s.map dR, rfl, rfl, by rw [List.length_map, os.len], all_knR (s := s), .inl ⟨all_rules (s := s) os.ok, rfl, (x, .ins CB ["row"] [.tup (s.map dR)]) :: M, List.perm_append_singleton _ _, .mk _ _ (GhV.frzI 0 rfl) hk⟩⟩
theorem use_mixtures {CC CI CB CH : Addr} {s2 : Six} {m : Am} {dl : List Dd} {M : Ms} {k : KD} {kx : KX} (oks : OkS s2) (om : OkP m) (od : ∀ d ∈ dl, OkD d) (hl : dl.length ≤ 900) (hp : Plays s2 m dl)
    (hk : ∀ mx : Addr, k (.hdl mx) ((mx, .lst ((hAt s2 m dl dl.length).mx.map D.int)) :: M)) : HandP (R_mixtures CC CI CB CH) [bk CB s2, dPr m, .lst (dl.map dDd)] M k kx :=
  .none ⟨s2, m, dl, rfl, rfl, oks, om, od, hl, hp, fun mx => ⟨_, List.perm_append_comm, hk mx⟩⟩
/-- what play tells, as plain data -/
theorem deep_in {K : PySem.W.Frag} {rp : Addr} {M0 : Ms} : ∀ (RH : List (Option RpH)) (P : List D) (S : Sg), OkM K S ((rp, .lst (P ++ RH.map dH)) :: (RH.flatMap eH ++ M0)) →
    ∃ S', S'.H = S.H ∧ OkM K S' ((rp, .lst (P ++ (RH.map fgt).map dRp)) :: M0) ∧ Grow S S'
  | [], P, S, h => ⟨S, rfl, h, Grow.refl _⟩
  | none :: RH, P, S, h => by
    have h2 : OkM K S ((rp, .lst ((P ++ [.non]) ++ RH.map dH)) :: (RH.flatMap eH ++ M0)) := by rw [List.append_assoc]; exact h
    obtain ⟨S', q, h3, g⟩ := deep_in RH (P ++ [.non]) S h2
    rw [List.append_assoc] at h3
    exact ⟨S', q, h3, g⟩
  | some q :: RH, P, S, h => by
    obtain ⟨S1, q1, h1, g1, xs, hz, hr⟩ := frz_at (j := 2) (a := q.t) (ds := q.r.told.map tellD) h rfl
    obtain ⟨S2, q2, h2, g2, ys, hy, hs⟩ := frz_at (j := 1) (a := q.f) (ds := q.r.names.map D.str) h1 rfl
    have z1 : S2.Z q.t = some (.lst xs) := g2.zz _ _ hz
    have r1 := hr.grow g2
    have h3 : OkM K S2 ((rp, .lst (P ++ dRp (some q.r) :: RH.map dH)) :: (RH.flatMap eH ++ M0)) := OkM.cont h2 fun zs r => by
      refine RepL.updAt (fun v => tup_upd (fun us ru => ?_) v) r
      obtain ⟨x, r0, rfl, a1, a2⟩ := ru
      obtain ⟨y, r3, rfl, b1, b2⟩ := a2
      exact .cons (hdl_upd z1 r1 x a1) (.cons (hdl_upd hy hs y b1) b2)
    have h4 : OkM K S2 ((rp, .lst ((P ++ [dRp (some q.r)]) ++ RH.map dH)) :: (RH.flatMap eH ++ M0)) := by rw [List.append_assoc]; exact h3
    obtain ⟨S3, q3, h5, g3⟩ := deep_in RH (P ++ [dRp (some q.r)]) S2 h4
    rw [List.append_assoc] at h5
    exact ⟨S3, by rw [q3, q2, q1], h5, (g1.trans g2).trans g3⟩
theorem GhV.play {rp : Addr} {RH : List (Option RpH)} {M0 : Ms} : GhV (.hdl rp) ((rp, .lst (RH.map dH)) :: (RH.flatMap eH ++ M0)) (.lst ((RH.map fgt).map dRp)) M0 := fun K S v h e => by
  obtain ⟨S1, q1, h1, g1⟩ := deep_in RH [] S h
  obtain ⟨S2, q2, h2, g2, r⟩ := GhV.frz (M := (rp, .lst ((RH.map fgt).map dRp)) :: M0) 0 rfl K S1 v h1 (e.grow g1)
  exact ⟨S2, by rw [q2, q1], h2, g1.trans g2, r⟩
section
variable {P : Program} {w : World} {K : PySem.W.Frag} {mg : Str → Option Value} {base : Heap}
theorem sc_is_door : FnScope ["thing"] ["thing"] (defScope s_is_door) := ⟨rfl, rfl, rfl, by decide +kernel, rfl, by decide +kernel, by decide +kernel⟩
theorem ok_is_door {f : Addr} {fd : FuncData}  (F : Fun K "is_door" "is_door" s_is_door f fd) (T : Txt K mg) : FnOk P w K mg base (L2.CX P w) 1 f fd ["thing"] (spD K R_is_door) := by
  have nd := sc_is_door.nd
  refine fn_ok F sc_is_door (fun ds M k kx H0 => by obtain ⟨d, rfl, rfl, hkn, hk⟩ := H0; rfl) fun cdv A outer s H E ds M k kx hr H0 => ?_
  obtain ⟨d, rfl, rfl, hkn, hk⟩ := H0
  have hu := hr.units
  have hu5 := units65 hr
  refine gb_one (gs_ret ?_)
  refine ge_and ?_
  refine ge_callB call_isi T.z_isinstance PyProof.Rows.boot_isinstance ((av_cons (ev_var 0) (av_cons (ev_ty T.z_str b_str) av_nil)).ga (isi_str hkn ⟨_, rfl, fun hs => ?_, fun hs => ?_⟩))
  · cases d <;> simp [isStrD] at hs
    refine ge_one (ge_cmp (op_inU hu5) rfl ((ev_var 0).ge ((ev_glob T.r_DOORS.glob).ge (in_strs rfl ?_))))
    rw [isDoor_any]
    exact hk
  · have : isDoor d = false := by cases d <;> simp_all [isStrD, isDoor]
    rw [this] at hk
    exact hk
theorem sc_is_rule : FnScope ["thing", "action"] ["thing"] (defScope s_is_rule) := ⟨rfl, rfl, rfl, by decide +kernel, rfl, by decide +kernel, by decide +kernel⟩
theorem ok_is_rule {f : Addr} {fd : FuncData}  (F : Fun K "is_rule" "is_rule" s_is_rule f fd) (T : Txt K mg) : FnOk P w K mg base (L2.CX P w) 1 f fd ["thing"] (spD K R_is_rule) := by
  have nd := sc_is_rule.nd
  refine fn_ok F sc_is_rule (fun ds M k kx H0 => by obtain ⟨d, rfl, rfl, hkn, hk⟩ := H0; rfl) fun cdv A outer s H E ds M k kx hr H0 => ?_
  obtain ⟨d, rfl, rfl, hkn, hk⟩ := H0
  have hu := hr.units
  have hu5 := units65 hr
  have hk0 : kn d = true := by simp only [knR, Bool.and_eq_true] at hkn; exact hkn.1
  refine gb_cons (gs_if (gt_bool (gp_or (gt_not (gt_val (ge_callB call_isi T.z_isinstance PyProof.Rows.boot_isinstance ((av_cons (ev_var 0) (av_cons (ev_ty T.z_tuple b_tuple) av_nil)).ga (isi_tup hk0 ⟨_, rfl, fun hs => ?_, fun hs => ?_⟩))))))))
  · cases d <;> simp [isTupD] at hs
    rename_i ds
    have hkn2 : ∀ d ∈ ds, kn d = true := by simp only [knR, Bool.and_eq_true, List.all_eq_true] at hkn; exact hkn.2
    refine gp_or1 ((tv_cmp op_gt (nomark _) (ev_callB call_len T.z_len PySem.boot_len (av_cons (ev_var 0) av_nil) (len_tup ⟨rfl, rfl⟩)) (ev_glob T.g_MOST_ACTIONS) (gt_int ⟨rfl, rfl⟩)).gt ⟨fun hb => ?_, fun hb => ?_⟩)
    · refine gb_one (gs_ret (ev_bl.ge ?_))
      have : isRule (.tup ds) = false := by simp at hb; simp [isRule]; intro h; omega
      rw [this] at hk
      exact hk
    · refine gb_nil ?_
      have h6 : ds.length ≤ 6 := by simp at hb; omega
      refine gb_one (gs_ret (ge_callB (cr_all rfl) T.z_all b_all (ga_cons ?_)))
      refine ge_lc [("action", 1)] rfl nd (blkOk_by (by show blkC ["thing", "action"] (defScope s_is_rule) _ _ = true; decide +kernel)) ?_
      refine gi_tup ((ev_var 0).ge ⟨_, rfl, ?_⟩)
      refine ⟨fun i acc M => acc = (ds.take i).map (fun d => .bl (isAct d)) ∧ M = [], ⟨rfl, rfl⟩, fun _ _ _ _ _ => trivial, fun i d acc M hi hit hP => ?_, fun acc M hP => ?_⟩
      · obtain ⟨rfl, rfl⟩ := hP
        have hd : d ∈ ds := List.mem_of_getElem? hit
        intro _ _ _ _ _
        refine cg_name 1 ?_ nd
        intro _ _ _ _ _
        refine gts_nil ⟨fun _ => ?_, fun z => nomatch z⟩
        intro _ _ _ _ _
        have fin : ∀ b, b = isAct d → ((ds.take i).map (fun d => D.bl (isAct d))).length < 16777216 ∧ (ds.take i).map (fun d => D.bl (isAct d)) ++ [D.bl b] = (ds.take (i + 1)).map (fun d => .bl (isAct d)) ∧ ([] : Ms) = [] := fun b hb => by
          refine ⟨by simp; omega, ?_, rfl⟩
          rw [List.take_add_one, hit, hb]
          simp
        refine ge_and ?_
        refine ge_callB call_isi T.z_isinstance PyProof.Rows.boot_isinstance ((av_cons (ev_var 1) (av_cons (ev_ty T.z_str b_str) av_nil)).ga (isi_str (hkn2 d hd) ⟨_, rfl, fun hs => ?_, fun hs => ?_⟩))
        · cases d <;> simp [isStrD] at hs
          refine ge_one (ge_cmp (op_inU hu5) rfl ((ev_var 1).ge ((ev_glob T.r_ACTIONS.glob).ge (in_strs rfl ?_))))
          rw [isAct_str]
          exact fin _ rfl
        · exact fin _ (by cases d <;> simp_all [isStrD, isAct])
      · obtain ⟨rfl, rfl⟩ := hP
        refine ga_nil (all_lst (bs := ds.map isAct) (by simp) ?_)
        have : isRule (.tup ds) = (ds.map isAct).all id := by
          simp only [isRule, List.all_map]
          simp [h6]
        rw [this] at hk
        exact hk
  · refine ⟨fun _ => ?_, fun z => nomatch z⟩
    refine gb_one (gs_ret (ev_bl.ge ?_))
    have : isRule d = false := by cases d <;> simp_all [isTupD, isRule]
    rw [this] at hk
    exact hk
theorem sc_Book_init : FnScope ["self", "put", "look", "alter", "back", "pay", "again", "row", "door", "rule"] ["self", "put", "look", "alter", "back", "pay", "again"] (defScope s_Book_init) := ⟨rfl, rfl, rfl, by decide +kernel, rfl, by decide +kernel, by decide +kernel⟩
theorem ok_Book_init {f : Addr} {fd : FuncData} {C CR : Addr} {dvs : List V} {kws : List (Str × V)} (F : FunD K "__init__" "Book.__init__" (defArgs s_Book_init) (defBody s_Book_init) (defScope s_Book_init) dvs kws f fd) (T : Txt K mg) (F_is_rule : FnD P w K mg base 1 "is_rule" [] R_is_rule) (clB : Cls K C) (na_row : NoAttr K C "row") (F_NoRule : ExD P w K mg base "NoRule" CR "door") : FnOk P w K mg base (L2.CX P w) 3 f fd ["self", "put", "look", "alter", "back", "pay", "again"] (spD K (R_Book_init C CR)) := by
  have nd := sc_Book_init.nd
  refine fn_okD F sc_Book_init (fun ds M k kx H0 => by obtain ⟨a, six, rfl, rfl, hl, hkn, hk⟩ := H0; simp [hl]) fun cdv A outer s H E ds M k kx hr H0 => ?_
  obtain ⟨a, six, rfl, rfl, hl, hkn, hk⟩ := H0
  obtain ⟨d0, d1, d2, d3, d4, d5, rfl⟩ := six_getD hl
  have hu := hr.units
  have hu5 := units65 hr
  refine gb_cons (gs_set 7 ?_ nd)
  refine ((ev_tup (av_cons (ev_var 1) (av_cons (ev_var 2) (av_cons (ev_var 3) (av_cons (ev_var 4) (av_cons (ev_var 5) (av_cons (ev_var 6) av_nil)))))))).ge ?_
  refine gb_cons (gs_for (passes_of rfl) rfl ?_)
  refine gi_zipT T.z_zip ?_
  refine ((av_cons (ev_glob T.r_DOORS.glob) (av_cons (ev_var 7) av_nil))).ga ?_
  refine ⟨_, _, rfl, ?_⟩
  refine ⟨fun i Γ M => ∃ (x y : Option D), Γ = [some (.hdl a), some d0, some d1, some d2, some d3, some d4, some d5, some (.tup [d0, d1, d2, d3, d4, d5]), x, y] ∧ (∀ d ∈ [d0, d1, d2, d3, d4, d5].take i, isRule d = true) ∧ M = [(a, .ins C [] [])], ⟨none, none, rfl, by simp, rfl⟩, fun _ _ _ _ _ => trivial, fun i d Γ M hi hit hP => ?_, fun Γ M hP => ?_⟩
  · obtain ⟨x, y, rfl, hall, rfl⟩ := hP
    obtain ⟨e1, e2, h1, h2, rfl⟩ := hit
    refine gg_tup rfl ?_ rfl
    refine ggs_cons ?_
    refine gg_name 8 ?_ nd
    refine ggs_cons ?_
    refine gg_name 9 ?_ nd
    refine ggs_nil ?_
    refine gb_cons (gs_if ?_)
    refine gt_not ?_
    refine gt_val ?_
    refine ge_call F_is_rule hr (by decide) ?_
    refine ((av_cons (ev_var 9) av_nil)).ga ?_
    refine ⟨[], by simp, by simp, e2, rfl, rfl, hkn e2 (List.mem_of_getElem? h2), ⟨rfl, ?_⟩⟩
    refine ⟨_, rfl, ?_⟩
    refine ⟨fun hb1 => ?_, fun hb1 => ?_⟩
    · have hb1 := hb1
      refine gb_one (gs_raise1 F_NoRule rfl hr (by decide) ?_)
      refine ((ev_var 8)).ge ?_
      have hb2 : isRule e2 = false := by simpa using hb1
      rcases hk with ⟨hk, _⟩ | ⟨i2, e, q1, q2, q3, hk⟩
      · exact absurd (List.all_eq_true.mp hk e2 (List.mem_of_getElem? h2)) (by rw [hb2]; simp)
      · obtain rfl : i = i2 := first_eq h2 hb2 hall q1 q2 q3
        rw [List.getElem?_map] at h1
        cases hh : doors[i]? with
        | none => rw [hh] at h1; cases h1
        | some z =>
          rw [hh] at h1
          cases h1
          rw [List.getD_eq_getElem?_getD, hh] at hk
          exact hk
    · have hb1 := hb1
      refine gb_nil ?_
      refine gb_nil ?_
      exact ⟨_, _, rfl, fun d hd => (mem_take_succ h2 hd).elim (hall d) fun q => by rw [q]; simpa using hb1, rfl⟩
  · obtain ⟨x, y, rfl, hall, rfl⟩ := hP
    refine gb_cons (gs_fld ?_)
    refine ((ev_var 7)).ge ?_
    refine ((ev_var 0)).ge ?_
    refine ⟨0, _, _, _, _, _, _, rfl, rfl, clB, na_row, by decide, .new (by simp), ?_⟩
    refine gb_nil ?_
    rcases hk with ⟨_, hk⟩ | ⟨i, e, h1, h2, _⟩
    · exact hk
    · exact absurd (hall e (List.mem_of_getElem? (i := i) (by have q6 := (List.getElem?_eq_some_iff.mp h1).1; simp at q6; rw [List.getElem?_take, if_pos (by simp [doors]; omega)]; exact h1))) (by rw [h2]; simp)
theorem sc_Book_rule : FnScope ["self", "door"] ["self", "door"] (defScope s_Book_rule) := ⟨rfl, rfl, rfl, by decide +kernel, rfl, by decide +kernel, by decide +kernel⟩
theorem ok_Book_rule {f : Addr} {fd : FuncData} {C CD : Addr} (F : Fun K "rule" "Book.rule" s_Book_rule f fd) (T : Txt K mg) (F_is_door : FnD P w K mg base 1 "is_door" [] R_is_door) (clB : Cls K C) (na_row : NoAttr K C "row") (F_NoDoor : ExD P w K mg base "NoDoor" CD "door") : FnOk P w K mg base (L2.CX P w) 3 f fd ["self", "door"] (spD K (R_Book_rule C CD)) := by
  have nd := sc_Book_rule.nd
  refine fn_ok F sc_Book_rule (fun ds M k kx H0 => by obtain ⟨w, six, d, rfl, ob, hkn, hk⟩ := H0; rfl) fun cdv A outer s H E ds M k kx hr H0 => ?_
  obtain ⟨w, six, d, rfl, ob, hkn, hk⟩ := H0
  have hu := hr.units
  have hu5 := units65 hr
  refine gb_cons (gs_if (gt_not (gt_val (ge_call F_is_door hr (by decide) ((av_cons (ev_var 1) av_nil).ga ⟨[], by simp, by simp, d, rfl, rfl, hkn, rfl, ⟨_, rfl, ?_⟩⟩)))))
  refine ⟨fun hb => ?_, fun hb => ?_⟩ <;> rw [merge_nil]
  · refine gb_one (gs_raise1 F_NoDoor rfl hr (by decide) ((ev_var 1).ge ?_))
    rcases hk with ⟨s, x, rfl, hs, _⟩ | ⟨_, hk⟩
    · rw [isDoor_str hs] at hb; exact absurd hb (by simp)
    · exact hk
  · refine gb_nil ?_
    rcases hk with ⟨s, x, rfl, hs, hx, hk⟩ | ⟨h, _⟩
    · obtain ⟨h6, h1, h2⟩ := idx_doors hs
      have hl := (List.getElem?_eq_some_iff.mp hx).1
      exact gb_one (gs_ret (ge_ix ix_seq (fun _ _ => rfl) (ge_fld 0 ((ev_var 0).ge ⟨C, _, _, _, clB, na_row, ob, by simp, rfl, rfl, ge_gindex T.r_DOORS ((ev_var 1).ge ⟨s, doors.idxOf s, rfl, h1, h2, ix_tup' (j := doors.idxOf s) (.inl ⟨by omega, rfl, hl⟩) hx hk⟩)⟩))))
    · rw [h] at hb; exact absurd hb (by simp)
theorem sc_LineWork_carry_out : FnScope ["self", "action", "now"] ["self", "action", "now"] (defScope s_LineWork_carry_out) := ⟨rfl, rfl, rfl, by decide +kernel, rfl, by decide +kernel, by decide +kernel⟩
theorem ok_LineWork_carry_out {f : Addr} {fd : FuncData} {CL : Addr} (F : Fun K "carry_out" "LineWork.carry_out" s_LineWork_carry_out f fd) (T : Txt K mg) (clL : Cls K CL) (na_stays : NoAttr K CL "stays") (na_seen : NoAttr K CL "seen") (na_told : NoAttr K CL "told") (na_times : NoAttr K CL "times") : FnOk P w K mg base (L2.CX P w) 1 f fd ["self", "action", "now"] (spD K (R_LineWork_carry_out CL)) := by
  have nd := sc_LineWork_carry_out.nd
  refine fn_ok F sc_LineWork_carry_out (fun ds M k kx H0 => by obtain ⟨x, t, ⟨st, sn, td, tm⟩, a, now, rfl, rfl, ha, htd, hk⟩ := H0; rfl) fun cdv A outer s H E ds M k kx hr H0 => ?_
  obtain ⟨x, t, ⟨st, sn, td, tm⟩, a, now, rfl, rfl, ha, htd, hk⟩ := H0
  have hu := hr.units
  have hu5 := units65 hr
  cases sn with
  | some s1 =>
    have fin : ∀ w, lwStep now ⟨st, some s1, td, tm⟩ a = w → k .non (lwM CL x t w) := fun w e => by rw [← e]; exact hk
    have fin2 : ∀ n, lwStep now ⟨st, some s1, td, tm⟩ a = ⟨st, some st, td ++ [st], n⟩ → k .non [(x, .ins CL lwF [.int st, .int st, .hdl t, .int n]), (t, .lst (td.map D.int ++ [.int st]))] := fun n e => by have h := fin _ e; simp only [lwM, List.map_append, dO] at h; exact h
    refine gb_cons (gs_if ?_)
    refine ((tv_cmp (op_eqU hu) (nomark _) (ev_var 1) ev_str (eq_str ⟨rfl, rfl⟩))).gt ?_
    refine ⟨fun hb1 => ?_, fun hb1 => ?_⟩
    · have hb1 := hb1
      refine gb_cons (gs_fld ?_)
      refine ((ev_var 2)).ge ?_
      refine ((ev_var 0)).ge ?_
      refine ⟨0, _, _, _, _, _, _, rfl, rfl, clL, na_stays, by decide, .old 0 (by decide) rfl, ?_⟩
      refine gb_nil ?_
      refine gb_nil ?_
      exact fin ⟨now, some s1, td, tm⟩ (by simp_all [lwStep, lwShow, acts])
    · have hb1 := hb1
      refine gb_cons (gs_if ?_)
      refine ((tv_cmp (op_eqU hu) (nomark _) (ev_var 1) ev_str (eq_str ⟨rfl, rfl⟩))).gt ?_
      refine ⟨fun hb2 => ?_, fun hb2 => ?_⟩
      · have hb2 := hb2
        refine gb_cons (gs_fld ?_)
        refine ge_callB (call_min2 rfl) T.z_min PyProof.Rows.boot_min ?_
        refine ga_cons ?_
        refine ge_fld 0 ?_
        refine ((ev_var 0)).ge ?_
        refine ⟨CL, _, _, _, clL, na_stays, .inr ⟨0, _, rfl, rfl⟩, by decide, rfl, rfl, ?_⟩
        refine ga_cons ?_
        refine ((ev_var 2)).ge ?_
        refine ga_nil ?_
        refine (min2_int ?_)
        refine ((ev_var 0)).ge ?_
        refine ⟨0, _, _, _, _, _, _, rfl, rfl, clL, na_stays, by decide, .old 0 (by decide) rfl, ?_⟩
        refine gb_nil ?_
        refine gb_nil ?_
        refine gb_nil ?_
        exact fin ⟨if now < st then now else st, some s1, td, tm⟩ (by simp_all [lwStep, lwShow, acts])
      · have hb2 := hb2
        refine gb_cons (gs_if ?_)
        refine ((tv_cmp (op_eqU hu) (nomark _) (ev_var 1) ev_str (eq_str ⟨rfl, rfl⟩))).gt ?_
        refine ⟨fun hb3 => ?_, fun hb3 => ?_⟩
        · have hb3 := hb3
          refine gb_cons (gs_if ?_)
          refine gt_cmp op_notN (nomark _) ?_
          refine ge_fld 1 ?_
          refine ((ev_var 0)).ge ?_
          refine ⟨CL, _, _, _, clL, na_seen, .inr ⟨0, _, rfl, rfl⟩, by decide, rfl, rfl, ?_⟩
          refine (ev_non).ge ?_
          refine (not_non ⟨_, rfl, ?_⟩)
          refine ⟨fun hb4 => ?_, fun hb4 => ?_⟩
          · have hb4 := hb4
            refine gb_cons (gs_fld ?_)
            refine ge_fld 1 ?_
            refine ((ev_var 0)).ge ?_
            refine ⟨CL, _, _, _, clL, na_seen, .inr ⟨0, _, rfl, rfl⟩, by decide, rfl, rfl, ?_⟩
            refine ((ev_var 0)).ge ?_
            refine ⟨0, _, _, _, _, _, _, rfl, rfl, clL, na_stays, by decide, .old 0 (by decide) rfl, ?_⟩
            refine gb_nil ?_
            refine gb_nil ?_
            refine gb_nil ?_
            refine gb_nil ?_
            refine gb_nil ?_
            exact fin ⟨s1, some s1, td, tm⟩ (by simp_all [lwStep, lwShow, acts])
          · have hb4 := hb4
            refine gb_nil ?_
            refine gb_nil ?_
            refine gb_nil ?_
            refine gb_nil ?_
            refine gb_nil ?_
            exfalso; simp_all [PD.isNon, acts, dO]
        · have hb3 := hb3
          refine gb_cons (gs_if ?_)
          refine gt_bool ?_
          refine gp_or ?_
          refine ((tv_cmp (op_eqU hu) (nomark _) (ev_var 1) ev_str (eq_str ⟨rfl, rfl⟩))).gt ?_
          refine ⟨fun hp1 => ?_, fun hp1 => ?_⟩
          · have hp1 := hp1
            refine gp_or ?_
            refine gt_cmp op_isN (nomark _) ?_
            refine ge_fld 1 ?_
            refine ((ev_var 0)).ge ?_
            refine ⟨CL, _, _, _, clL, na_seen, .inr ⟨0, _, rfl, rfl⟩, by decide, rfl, rfl, ?_⟩
            refine (ev_non).ge ?_
            refine (is_non ⟨_, rfl, ?_⟩)
            refine ⟨fun hp2 => ?_, fun hp2 => ?_⟩
            · have hp2 := hp2
              refine gp_or1 ?_
              refine gt_cmp (op_neU hu) (nomark _) ?_
              refine ge_fld 1 ?_
              refine ((ev_var 0)).ge ?_
              refine ⟨CL, _, _, _, clL, na_seen, .inr ⟨0, _, rfl, rfl⟩, by decide, rfl, rfl, ?_⟩
              refine ge_fld 0 ?_
              refine ((ev_var 0)).ge ?_
              refine ⟨CL, _, _, _, clL, na_stays, .inr ⟨0, _, rfl, rfl⟩, by decide, rfl, rfl, ?_⟩
              refine (ne_int ⟨_, rfl, ?_⟩)
              refine ⟨fun hb5 => ?_, fun hb5 => ?_⟩
              · have hb5 := hb5
                refine gb_cons (gs_if ?_)
                refine ((tv_cmp (op_eqU hu) (nomark _) (ev_var 1) ev_str (eq_str ⟨rfl, rfl⟩))).gt ?_
                refine ⟨fun hb6 => ?_, fun hb6 => ?_⟩
                · have hb6 := hb6
                  refine gb_cons (gs_fldaug in_addU ?_)
                  refine ((ev_var 0)).ge ?_
                  refine ⟨CL, _, _, 3, _, .inr ⟨0, _, rfl, rfl⟩, clL, na_times, by decide, rfl, rfl, ?_⟩
                  refine (ev_int).ge ?_
                  refine aug_add ⟨0, _, _, _, _, _, rfl, rfl, by decide, .old 3 (by decide) rfl, ?_⟩
                  refine gb_nil ?_
                  refine gb_cons (gs_fld ?_)
                  refine ge_fld 0 ?_
                  refine ((ev_var 0)).ge ?_
                  refine ⟨CL, _, _, _, clL, na_stays, .inr ⟨0, _, rfl, rfl⟩, by decide, rfl, rfl, ?_⟩
                  refine ((ev_var 0)).ge ?_
                  refine ⟨0, _, _, _, _, _, _, rfl, rfl, clL, na_seen, by decide, .old 1 (by decide) rfl, ?_⟩
                  refine gb_cons (gs_expr ?_)
                  refine ge_append ?_
                  refine ge_fld 2 ?_
                  refine ((ev_var 0)).ge ?_
                  refine ⟨CL, _, _, _, clL, na_told, .inr ⟨0, _, rfl, rfl⟩, by decide, rfl, rfl, ?_⟩
                  refine ⟨⟨1, _, _, rfl, rfl⟩, ?_⟩
                  refine ge_fld 0 ?_
                  refine ((ev_var 0)).ge ?_
                  refine ⟨CL, _, _, _, clL, na_stays, .inr ⟨0, _, rfl, rfl⟩, by decide, rfl, rfl, ?_⟩
                  refine ⟨1, _, _, rfl, rfl, by walk_at "sd", ?_⟩
                  refine gb_nil ?_
                  refine gb_nil ?_
                  refine gb_nil ?_
                  refine gb_nil ?_
                  refine gb_nil ?_
                  exact fin2 (tm + 1) (by simp_all [lwStep, lwShow, acts])
                · have hb6 := hb6
                  refine gb_nil ?_
                  refine gb_cons (gs_fld ?_)
                  refine ge_fld 0 ?_
                  refine ((ev_var 0)).ge ?_
                  refine ⟨CL, _, _, _, clL, na_stays, .inr ⟨0, _, rfl, rfl⟩, by decide, rfl, rfl, ?_⟩
                  refine ((ev_var 0)).ge ?_
                  refine ⟨0, _, _, _, _, _, _, rfl, rfl, clL, na_seen, by decide, .old 1 (by decide) rfl, ?_⟩
                  refine gb_cons (gs_expr ?_)
                  refine ge_append ?_
                  refine ge_fld 2 ?_
                  refine ((ev_var 0)).ge ?_
                  refine ⟨CL, _, _, _, clL, na_told, .inr ⟨0, _, rfl, rfl⟩, by decide, rfl, rfl, ?_⟩
                  refine ⟨⟨1, _, _, rfl, rfl⟩, ?_⟩
                  refine ge_fld 0 ?_
                  refine ((ev_var 0)).ge ?_
                  refine ⟨CL, _, _, _, clL, na_stays, .inr ⟨0, _, rfl, rfl⟩, by decide, rfl, rfl, ?_⟩
                  refine ⟨1, _, _, rfl, rfl, by walk_at "sd", ?_⟩
                  refine gb_nil ?_
                  refine gb_nil ?_
                  refine gb_nil ?_
                  refine gb_nil ?_
                  refine gb_nil ?_
                  exfalso; simp_all [PD.isNon, acts, dO]
              · have hb5 := hb5
                refine gb_nil ?_
                refine gb_nil ?_
                refine gb_nil ?_
                refine gb_nil ?_
                refine gb_nil ?_
                exact fin ⟨st, some s1, td, tm⟩ (by simp_all [lwStep, lwShow, acts])
            · have hp2 := hp2
              refine ⟨fun _ => ?_, by walk_at "no"⟩
              refine gb_cons (gs_if ?_)
              refine ((tv_cmp (op_eqU hu) (nomark _) (ev_var 1) ev_str (eq_str ⟨rfl, rfl⟩))).gt ?_
              refine ⟨fun hb7 => ?_, fun hb7 => ?_⟩
              · have hb7 := hb7
                refine gb_cons (gs_fldaug in_addU ?_)
                refine ((ev_var 0)).ge ?_
                refine ⟨CL, _, _, 3, _, .inr ⟨0, _, rfl, rfl⟩, clL, na_times, by decide, rfl, rfl, ?_⟩
                refine (ev_int).ge ?_
                refine aug_add ⟨0, _, _, _, _, _, rfl, rfl, by decide, .old 3 (by decide) rfl, ?_⟩
                refine gb_nil ?_
                refine gb_cons (gs_fld ?_)
                refine ge_fld 0 ?_
                refine ((ev_var 0)).ge ?_
                refine ⟨CL, _, _, _, clL, na_stays, .inr ⟨0, _, rfl, rfl⟩, by decide, rfl, rfl, ?_⟩
                refine ((ev_var 0)).ge ?_
                refine ⟨0, _, _, _, _, _, _, rfl, rfl, clL, na_seen, by decide, .old 1 (by decide) rfl, ?_⟩
                refine gb_cons (gs_expr ?_)
                refine ge_append ?_
                refine ge_fld 2 ?_
                refine ((ev_var 0)).ge ?_
                refine ⟨CL, _, _, _, clL, na_told, .inr ⟨0, _, rfl, rfl⟩, by decide, rfl, rfl, ?_⟩
                refine ⟨⟨1, _, _, rfl, rfl⟩, ?_⟩
                refine ge_fld 0 ?_
                refine ((ev_var 0)).ge ?_
                refine ⟨CL, _, _, _, clL, na_stays, .inr ⟨0, _, rfl, rfl⟩, by decide, rfl, rfl, ?_⟩
                refine ⟨1, _, _, rfl, rfl, by walk_at "sd", ?_⟩
                refine gb_nil ?_
                refine gb_nil ?_
                refine gb_nil ?_
                refine gb_nil ?_
                refine gb_nil ?_
                exfalso; simp_all [PD.isNon, acts, dO]
              · have hb7 := hb7
                refine gb_nil ?_
                refine gb_cons (gs_fld ?_)
                refine ge_fld 0 ?_
                refine ((ev_var 0)).ge ?_
                refine ⟨CL, _, _, _, clL, na_stays, .inr ⟨0, _, rfl, rfl⟩, by decide, rfl, rfl, ?_⟩
                refine ((ev_var 0)).ge ?_
                refine ⟨0, _, _, _, _, _, _, rfl, rfl, clL, na_seen, by decide, .old 1 (by decide) rfl, ?_⟩
                refine gb_cons (gs_expr ?_)
                refine ge_append ?_
                refine ge_fld 2 ?_
                refine ((ev_var 0)).ge ?_
                refine ⟨CL, _, _, _, clL, na_told, .inr ⟨0, _, rfl, rfl⟩, by decide, rfl, rfl, ?_⟩
                refine ⟨⟨1, _, _, rfl, rfl⟩, ?_⟩
                refine ge_fld 0 ?_
                refine ((ev_var 0)).ge ?_
                refine ⟨CL, _, _, _, clL, na_stays, .inr ⟨0, _, rfl, rfl⟩, by decide, rfl, rfl, ?_⟩
                refine ⟨1, _, _, rfl, rfl, by walk_at "sd", ?_⟩
                refine gb_nil ?_
                refine gb_nil ?_
                refine gb_nil ?_
                refine gb_nil ?_
                refine gb_nil ?_
                exfalso; simp_all [PD.isNon, acts, dO]
          · have hp1 := hp1
            refine ⟨fun _ => ?_, by walk_at "no"⟩
            refine gb_cons (gs_if ?_)
            refine ((tv_cmp (op_eqU hu) (nomark _) (ev_var 1) ev_str (eq_str ⟨rfl, rfl⟩))).gt ?_
            refine ⟨fun hb8 => ?_, fun hb8 => ?_⟩
            · have hb8 := hb8
              refine gb_cons (gs_fldaug in_addU ?_)
              refine ((ev_var 0)).ge ?_
              refine ⟨CL, _, _, 3, _, .inr ⟨0, _, rfl, rfl⟩, clL, na_times, by decide, rfl, rfl, ?_⟩
              refine (ev_int).ge ?_
              refine aug_add ⟨0, _, _, _, _, _, rfl, rfl, by decide, .old 3 (by decide) rfl, ?_⟩
              refine gb_nil ?_
              refine gb_cons (gs_fld ?_)
              refine ge_fld 0 ?_
              refine ((ev_var 0)).ge ?_
              refine ⟨CL, _, _, _, clL, na_stays, .inr ⟨0, _, rfl, rfl⟩, by decide, rfl, rfl, ?_⟩
              refine ((ev_var 0)).ge ?_
              refine ⟨0, _, _, _, _, _, _, rfl, rfl, clL, na_seen, by decide, .old 1 (by decide) rfl, ?_⟩
              refine gb_cons (gs_expr ?_)
              refine ge_append ?_
              refine ge_fld 2 ?_
              refine ((ev_var 0)).ge ?_
              refine ⟨CL, _, _, _, clL, na_told, .inr ⟨0, _, rfl, rfl⟩, by decide, rfl, rfl, ?_⟩
              refine ⟨⟨1, _, _, rfl, rfl⟩, ?_⟩
              refine ge_fld 0 ?_
              refine ((ev_var 0)).ge ?_
              refine ⟨CL, _, _, _, clL, na_stays, .inr ⟨0, _, rfl, rfl⟩, by decide, rfl, rfl, ?_⟩
              refine ⟨1, _, _, rfl, rfl, by walk_at "sd", ?_⟩
              refine gb_nil ?_
              refine gb_nil ?_
              refine gb_nil ?_
              refine gb_nil ?_
              refine gb_nil ?_
              simp only [decide_eq_true_eq] at hp1 hb8; rw [hp1] at hb8; exact absurd hb8 (by decide)
            · have hb8 := hb8
              refine gb_nil ?_
              refine gb_cons (gs_fld ?_)
              refine ge_fld 0 ?_
              refine ((ev_var 0)).ge ?_
              refine ⟨CL, _, _, _, clL, na_stays, .inr ⟨0, _, rfl, rfl⟩, by decide, rfl, rfl, ?_⟩
              refine ((ev_var 0)).ge ?_
              refine ⟨0, _, _, _, _, _, _, rfl, rfl, clL, na_seen, by decide, .old 1 (by decide) rfl, ?_⟩
              refine gb_cons (gs_expr ?_)
              refine ge_append ?_
              refine ge_fld 2 ?_
              refine ((ev_var 0)).ge ?_
              refine ⟨CL, _, _, _, clL, na_told, .inr ⟨0, _, rfl, rfl⟩, by decide, rfl, rfl, ?_⟩
              refine ⟨⟨1, _, _, rfl, rfl⟩, ?_⟩
              refine ge_fld 0 ?_
              refine ((ev_var 0)).ge ?_
              refine ⟨CL, _, _, _, clL, na_stays, .inr ⟨0, _, rfl, rfl⟩, by decide, rfl, rfl, ?_⟩
              refine ⟨1, _, _, rfl, rfl, by walk_at "sd", ?_⟩
              refine gb_nil ?_
              refine gb_nil ?_
              refine gb_nil ?_
              refine gb_nil ?_
              refine gb_nil ?_
              exact fin2 tm (by simp_all [lwStep, lwShow, acts])
  | none =>
    have fin : ∀ w, lwStep now ⟨st, none, td, tm⟩ a = w → k .non (lwM CL x t w) := fun w e => by rw [← e]; exact hk
    have fin2 : ∀ n, lwStep now ⟨st, none, td, tm⟩ a = ⟨st, some st, td ++ [st], n⟩ → k .non [(x, .ins CL lwF [.int st, .int st, .hdl t, .int n]), (t, .lst (td.map D.int ++ [.int st]))] := fun n e => by have h := fin _ e; simp only [lwM, List.map_append, dO] at h; exact h
    refine gb_cons (gs_if ?_)
    refine ((tv_cmp (op_eqU hu) (nomark _) (ev_var 1) ev_str (eq_str ⟨rfl, rfl⟩))).gt ?_
    refine ⟨fun hb1 => ?_, fun hb1 => ?_⟩
    · have hb1 := hb1
      refine gb_cons (gs_fld ?_)
      refine ((ev_var 2)).ge ?_
      refine ((ev_var 0)).ge ?_
      refine ⟨0, _, _, _, _, _, _, rfl, rfl, clL, na_stays, by decide, .old 0 (by decide) rfl, ?_⟩
      refine gb_nil ?_
      refine gb_nil ?_
      exact fin ⟨now, none, td, tm⟩ (by simp_all [lwStep, lwShow, acts])
    · have hb1 := hb1
      refine gb_cons (gs_if ?_)
      refine ((tv_cmp (op_eqU hu) (nomark _) (ev_var 1) ev_str (eq_str ⟨rfl, rfl⟩))).gt ?_
      refine ⟨fun hb2 => ?_, fun hb2 => ?_⟩
      · have hb2 := hb2
        refine gb_cons (gs_fld ?_)
        refine ge_callB (call_min2 rfl) T.z_min PyProof.Rows.boot_min ?_
        refine ga_cons ?_
        refine ge_fld 0 ?_
        refine ((ev_var 0)).ge ?_
        refine ⟨CL, _, _, _, clL, na_stays, .inr ⟨0, _, rfl, rfl⟩, by decide, rfl, rfl, ?_⟩
        refine ga_cons ?_
        refine ((ev_var 2)).ge ?_
        refine ga_nil ?_
        refine (min2_int ?_)
        refine ((ev_var 0)).ge ?_
        refine ⟨0, _, _, _, _, _, _, rfl, rfl, clL, na_stays, by decide, .old 0 (by decide) rfl, ?_⟩
        refine gb_nil ?_
        refine gb_nil ?_
        refine gb_nil ?_
        exact fin ⟨if now < st then now else st, none, td, tm⟩ (by simp_all [lwStep, lwShow, acts])
      · have hb2 := hb2
        refine gb_cons (gs_if ?_)
        refine ((tv_cmp (op_eqU hu) (nomark _) (ev_var 1) ev_str (eq_str ⟨rfl, rfl⟩))).gt ?_
        refine ⟨fun hb3 => ?_, fun hb3 => ?_⟩
        · have hb3 := hb3
          refine gb_cons (gs_if ?_)
          refine gt_cmp op_notN (nomark _) ?_
          refine ge_fld 1 ?_
          refine ((ev_var 0)).ge ?_
          refine ⟨CL, _, _, _, clL, na_seen, .inr ⟨0, _, rfl, rfl⟩, by decide, rfl, rfl, ?_⟩
          refine (ev_non).ge ?_
          refine (not_non ⟨_, rfl, ?_⟩)
          refine ⟨fun hb4 => ?_, fun hb4 => ?_⟩
          · have hb4 := hb4
            refine gb_cons (gs_fld ?_)
            refine ge_fld 1 ?_
            refine ((ev_var 0)).ge ?_
            refine ⟨CL, _, _, _, clL, na_seen, .inr ⟨0, _, rfl, rfl⟩, by decide, rfl, rfl, ?_⟩
            refine ((ev_var 0)).ge ?_
            refine ⟨0, _, _, _, _, _, _, rfl, rfl, clL, na_stays, by decide, .old 0 (by decide) rfl, ?_⟩
            refine gb_nil ?_
            refine gb_nil ?_
            refine gb_nil ?_
            refine gb_nil ?_
            refine gb_nil ?_
            exfalso; simp_all [PD.isNon, acts, dO]
          · have hb4 := hb4
            refine gb_nil ?_
            refine gb_nil ?_
            refine gb_nil ?_
            refine gb_nil ?_
            refine gb_nil ?_
            exact fin ⟨st, none, td, tm⟩ (by simp_all [lwStep, lwShow, acts])
        · have hb3 := hb3
          refine gb_cons (gs_if ?_)
          refine gt_bool ?_
          refine gp_or ?_
          refine ((tv_cmp (op_eqU hu) (nomark _) (ev_var 1) ev_str (eq_str ⟨rfl, rfl⟩))).gt ?_
          refine ⟨fun hp1 => ?_, fun hp1 => ?_⟩
          · have hp1 := hp1
            refine gp_or ?_
            refine gt_cmp op_isN (nomark _) ?_
            refine ge_fld 1 ?_
            refine ((ev_var 0)).ge ?_
            refine ⟨CL, _, _, _, clL, na_seen, .inr ⟨0, _, rfl, rfl⟩, by decide, rfl, rfl, ?_⟩
            refine (ev_non).ge ?_
            refine (is_non ⟨_, rfl, ?_⟩)
            refine ⟨fun hp2 => ?_, fun hp2 => ?_⟩
            · have hp2 := hp2
              refine gp_or1 ?_
              refine gt_cmp (op_neU hu) (nomark _) ?_
              refine ge_fld 1 ?_
              refine ((ev_var 0)).ge ?_
              refine ⟨CL, _, _, _, clL, na_seen, .inr ⟨0, _, rfl, rfl⟩, by decide, rfl, rfl, ?_⟩
              refine ge_fld 0 ?_
              refine ((ev_var 0)).ge ?_
              refine ⟨CL, _, _, _, clL, na_stays, .inr ⟨0, _, rfl, rfl⟩, by decide, rfl, rfl, ?_⟩
              refine (ne_dat (n := 0) (m := 0) rfl rfl ⟨_, rfl, ?_⟩)
              refine ⟨fun hb5 => ?_, fun hb5 => ?_⟩
              · have hb5 := hb5
                refine gb_cons (gs_if ?_)
                refine ((tv_cmp (op_eqU hu) (nomark _) (ev_var 1) ev_str (eq_str ⟨rfl, rfl⟩))).gt ?_
                refine ⟨fun hb6 => ?_, fun hb6 => ?_⟩
                · have hb6 := hb6
                  refine gb_cons (gs_fldaug in_addU ?_)
                  refine ((ev_var 0)).ge ?_
                  refine ⟨CL, _, _, 3, _, .inr ⟨0, _, rfl, rfl⟩, clL, na_times, by decide, rfl, rfl, ?_⟩
                  refine (ev_int).ge ?_
                  refine aug_add ⟨0, _, _, _, _, _, rfl, rfl, by decide, .old 3 (by decide) rfl, ?_⟩
                  refine gb_nil ?_
                  refine gb_cons (gs_fld ?_)
                  refine ge_fld 0 ?_
                  refine ((ev_var 0)).ge ?_
                  refine ⟨CL, _, _, _, clL, na_stays, .inr ⟨0, _, rfl, rfl⟩, by decide, rfl, rfl, ?_⟩
                  refine ((ev_var 0)).ge ?_
                  refine ⟨0, _, _, _, _, _, _, rfl, rfl, clL, na_seen, by decide, .old 1 (by decide) rfl, ?_⟩
                  refine gb_cons (gs_expr ?_)
                  refine ge_append ?_
                  refine ge_fld 2 ?_
                  refine ((ev_var 0)).ge ?_
                  refine ⟨CL, _, _, _, clL, na_told, .inr ⟨0, _, rfl, rfl⟩, by decide, rfl, rfl, ?_⟩
                  refine ⟨⟨1, _, _, rfl, rfl⟩, ?_⟩
                  refine ge_fld 0 ?_
                  refine ((ev_var 0)).ge ?_
                  refine ⟨CL, _, _, _, clL, na_stays, .inr ⟨0, _, rfl, rfl⟩, by decide, rfl, rfl, ?_⟩
                  refine ⟨1, _, _, rfl, rfl, by walk_at "sd", ?_⟩
                  refine gb_nil ?_
                  refine gb_nil ?_
                  refine gb_nil ?_
                  refine gb_nil ?_
                  refine gb_nil ?_
                  exfalso; simp_all [PD.isNon, acts, dO]
                · have hb6 := hb6
                  refine gb_nil ?_
                  refine gb_cons (gs_fld ?_)
                  refine ge_fld 0 ?_
                  refine ((ev_var 0)).ge ?_
                  refine ⟨CL, _, _, _, clL, na_stays, .inr ⟨0, _, rfl, rfl⟩, by decide, rfl, rfl, ?_⟩
                  refine ((ev_var 0)).ge ?_
                  refine ⟨0, _, _, _, _, _, _, rfl, rfl, clL, na_seen, by decide, .old 1 (by decide) rfl, ?_⟩
                  refine gb_cons (gs_expr ?_)
                  refine ge_append ?_
                  refine ge_fld 2 ?_
                  refine ((ev_var 0)).ge ?_
                  refine ⟨CL, _, _, _, clL, na_told, .inr ⟨0, _, rfl, rfl⟩, by decide, rfl, rfl, ?_⟩
                  refine ⟨⟨1, _, _, rfl, rfl⟩, ?_⟩
                  refine ge_fld 0 ?_
                  refine ((ev_var 0)).ge ?_
                  refine ⟨CL, _, _, _, clL, na_stays, .inr ⟨0, _, rfl, rfl⟩, by decide, rfl, rfl, ?_⟩
                  refine ⟨1, _, _, rfl, rfl, by walk_at "sd", ?_⟩
                  refine gb_nil ?_
                  refine gb_nil ?_
                  refine gb_nil ?_
                  refine gb_nil ?_
                  refine gb_nil ?_
                  exfalso; simp_all [PD.isNon, acts, dO]
              · have hb5 := hb5
                refine gb_nil ?_
                refine gb_nil ?_
                refine gb_nil ?_
                refine gb_nil ?_
                refine gb_nil ?_
                exfalso; simp_all [PD.isNon, acts, dO]
            · have hp2 := hp2
              refine ⟨fun _ => ?_, by walk_at "no"⟩
              refine gb_cons (gs_if ?_)
              refine ((tv_cmp (op_eqU hu) (nomark _) (ev_var 1) ev_str (eq_str ⟨rfl, rfl⟩))).gt ?_
              refine ⟨fun hb7 => ?_, fun hb7 => ?_⟩
              · have hb7 := hb7
                refine gb_cons (gs_fldaug in_addU ?_)
                refine ((ev_var 0)).ge ?_
                refine ⟨CL, _, _, 3, _, .inr ⟨0, _, rfl, rfl⟩, clL, na_times, by decide, rfl, rfl, ?_⟩
                refine (ev_int).ge ?_
                refine aug_add ⟨0, _, _, _, _, _, rfl, rfl, by decide, .old 3 (by decide) rfl, ?_⟩
                refine gb_nil ?_
                refine gb_cons (gs_fld ?_)
                refine ge_fld 0 ?_
                refine ((ev_var 0)).ge ?_
                refine ⟨CL, _, _, _, clL, na_stays, .inr ⟨0, _, rfl, rfl⟩, by decide, rfl, rfl, ?_⟩
                refine ((ev_var 0)).ge ?_
                refine ⟨0, _, _, _, _, _, _, rfl, rfl, clL, na_seen, by decide, .old 1 (by decide) rfl, ?_⟩
                refine gb_cons (gs_expr ?_)
                refine ge_append ?_
                refine ge_fld 2 ?_
                refine ((ev_var 0)).ge ?_
                refine ⟨CL, _, _, _, clL, na_told, .inr ⟨0, _, rfl, rfl⟩, by decide, rfl, rfl, ?_⟩
                refine ⟨⟨1, _, _, rfl, rfl⟩, ?_⟩
                refine ge_fld 0 ?_
                refine ((ev_var 0)).ge ?_
                refine ⟨CL, _, _, _, clL, na_stays, .inr ⟨0, _, rfl, rfl⟩, by decide, rfl, rfl, ?_⟩
                refine ⟨1, _, _, rfl, rfl, by walk_at "sd", ?_⟩
                refine gb_nil ?_
                refine gb_nil ?_
                refine gb_nil ?_
                refine gb_nil ?_
                refine gb_nil ?_
                exact fin2 (tm + 1) (by simp_all [lwStep, lwShow, acts])
              · have hb7 := hb7
                refine gb_nil ?_
                refine gb_cons (gs_fld ?_)
                refine ge_fld 0 ?_
                refine ((ev_var 0)).ge ?_
                refine ⟨CL, _, _, _, clL, na_stays, .inr ⟨0, _, rfl, rfl⟩, by decide, rfl, rfl, ?_⟩
                refine ((ev_var 0)).ge ?_
                refine ⟨0, _, _, _, _, _, _, rfl, rfl, clL, na_seen, by decide, .old 1 (by decide) rfl, ?_⟩
                refine gb_cons (gs_expr ?_)
                refine ge_append ?_
                refine ge_fld 2 ?_
                refine ((ev_var 0)).ge ?_
                refine ⟨CL, _, _, _, clL, na_told, .inr ⟨0, _, rfl, rfl⟩, by decide, rfl, rfl, ?_⟩
                refine ⟨⟨1, _, _, rfl, rfl⟩, ?_⟩
                refine ge_fld 0 ?_
                refine ((ev_var 0)).ge ?_
                refine ⟨CL, _, _, _, clL, na_stays, .inr ⟨0, _, rfl, rfl⟩, by decide, rfl, rfl, ?_⟩
                refine ⟨1, _, _, rfl, rfl, by walk_at "sd", ?_⟩
                refine gb_nil ?_
                refine gb_nil ?_
                refine gb_nil ?_
                refine gb_nil ?_
                refine gb_nil ?_
                exfalso; simp_all [PD.isNon, acts, dO]
          · have hp1 := hp1
            refine ⟨fun _ => ?_, by walk_at "no"⟩
            refine gb_cons (gs_if ?_)
            refine ((tv_cmp (op_eqU hu) (nomark _) (ev_var 1) ev_str (eq_str ⟨rfl, rfl⟩))).gt ?_
            refine ⟨fun hb8 => ?_, fun hb8 => ?_⟩
            · have hb8 := hb8
              refine gb_cons (gs_fldaug in_addU ?_)
              refine ((ev_var 0)).ge ?_
              refine ⟨CL, _, _, 3, _, .inr ⟨0, _, rfl, rfl⟩, clL, na_times, by decide, rfl, rfl, ?_⟩
              refine (ev_int).ge ?_
              refine aug_add ⟨0, _, _, _, _, _, rfl, rfl, by decide, .old 3 (by decide) rfl, ?_⟩
              refine gb_nil ?_
              refine gb_cons (gs_fld ?_)
              refine ge_fld 0 ?_
              refine ((ev_var 0)).ge ?_
              refine ⟨CL, _, _, _, clL, na_stays, .inr ⟨0, _, rfl, rfl⟩, by decide, rfl, rfl, ?_⟩
              refine ((ev_var 0)).ge ?_
              refine ⟨0, _, _, _, _, _, _, rfl, rfl, clL, na_seen, by decide, .old 1 (by decide) rfl, ?_⟩
              refine gb_cons (gs_expr ?_)
              refine ge_append ?_
              refine ge_fld 2 ?_
              refine ((ev_var 0)).ge ?_
              refine ⟨CL, _, _, _, clL, na_told, .inr ⟨0, _, rfl, rfl⟩, by decide, rfl, rfl, ?_⟩
              refine ⟨⟨1, _, _, rfl, rfl⟩, ?_⟩
              refine ge_fld 0 ?_
              refine ((ev_var 0)).ge ?_
              refine ⟨CL, _, _, _, clL, na_stays, .inr ⟨0, _, rfl, rfl⟩, by decide, rfl, rfl, ?_⟩
              refine ⟨1, _, _, rfl, rfl, by walk_at "sd", ?_⟩
              refine gb_nil ?_
              refine gb_nil ?_
              refine gb_nil ?_
              refine gb_nil ?_
              refine gb_nil ?_
              simp only [decide_eq_true_eq] at hp1 hb8; rw [hp1] at hb8; exact absurd hb8 (by decide)
            · have hb8 := hb8
              refine gb_nil ?_
              refine gb_cons (gs_fld ?_)
              refine ge_fld 0 ?_
              refine ((ev_var 0)).ge ?_
              refine ⟨CL, _, _, _, clL, na_stays, .inr ⟨0, _, rfl, rfl⟩, by decide, rfl, rfl, ?_⟩
              refine ((ev_var 0)).ge ?_
              refine ⟨0, _, _, _, _, _, _, rfl, rfl, clL, na_seen, by decide, .old 1 (by decide) rfl, ?_⟩
              refine gb_cons (gs_expr ?_)
              refine ge_append ?_
              refine ge_fld 2 ?_
              refine ((ev_var 0)).ge ?_
              refine ⟨CL, _, _, _, clL, na_told, .inr ⟨0, _, rfl, rfl⟩, by decide, rfl, rfl, ?_⟩
              refine ⟨⟨1, _, _, rfl, rfl⟩, ?_⟩
              refine ge_fld 0 ?_
              refine ((ev_var 0)).ge ?_
              refine ⟨CL, _, _, _, clL, na_stays, .inr ⟨0, _, rfl, rfl⟩, by decide, rfl, rfl, ?_⟩
              refine ⟨1, _, _, rfl, rfl, by walk_at "sd", ?_⟩
              refine gb_nil ?_
              refine gb_nil ?_
              refine gb_nil ?_
              refine gb_nil ?_
              refine gb_nil ?_
              exact fin2 tm (by simp_all [lwStep, lwShow, acts])
theorem sc_LineWork_init : FnScope ["self", "rule", "kept", "shown", "now", "action"] ["self", "rule", "kept", "shown", "now"] (defScope s_LineWork_init) := ⟨rfl, rfl, rfl, by decide +kernel, rfl, by decide +kernel, by decide +kernel⟩
theorem ok_LineWork_init {f : Addr} {fd : FuncData} {CL : Addr} (F : Fun K "__init__" "LineWork.__init__" s_LineWork_init f fd) (T : Txt K mg) (F_LineWork_carry_out : MtD P w K mg base 1 CL "carry_out" [] (R_LineWork_carry_out CL)) (clL : Cls K CL) (na_stays : NoAttr K CL "stays") (na_seen : NoAttr K CL "seen") (na_told : NoAttr K CL "told") (na_times : NoAttr K CL "times") : FnOk P w K mg base (L2.CX P w) 2 f fd ["self", "rule", "kept", "shown", "now"] (spD K (R_LineWork_init CL)) := by
  have nd := sc_LineWork_init.nd
  refine fn_ok F sc_LineWork_init (fun ds M k kx H0 => by obtain ⟨x, r, kept, shown, now, rfl, rfl, okr, hk⟩ := H0; rfl) fun cdv A outer s H E ds M k kx hr H0 => ?_
  obtain ⟨x, r, kept, shown, now, rfl, rfl, okr, hk⟩ := H0
  have hu := hr.units
  have hu5 := units65 hr
  refine gb_cons (gs_fld ?_)
  refine ((ev_var 2)).ge ?_
  refine ((ev_var 0)).ge ?_
  refine ⟨0, _, _, _, _, _, _, rfl, rfl, clL, na_stays, by decide, .new (by decide), ?_⟩
  refine gb_cons (gs_fld ?_)
  refine ((ev_var 3)).ge ?_
  refine ((ev_var 0)).ge ?_
  refine ⟨0, _, _, _, _, _, _, rfl, rfl, clL, na_seen, by decide, .new (by decide), ?_⟩
  refine gb_cons (gs_fld ?_)
  refine ge_lstM ?_
  refine (av_nil).ga ?_
  refine ⟨by walk_at "sd", fun q_told => ?_⟩
  refine ((ev_var 0)).ge ?_
  refine ⟨0, _, _, _, _, _, _, rfl, rfl, clL, na_told, by decide, .new (by decide), ?_⟩
  refine gb_cons (gs_fld ?_)
  refine (ev_int).ge ?_
  refine ((ev_var 0)).ge ?_
  refine ⟨0, _, _, _, _, _, _, rfl, rfl, clL, na_times, by decide, .new (by decide), ?_⟩
  refine gb_cons (gs_for (passes_of rfl) rfl ?_)
  refine gi_tup ?_
  refine ((ev_var 1)).ge ?_
  refine ⟨_, rfl, ?_⟩
  refine ⟨fun i Γ M => ∃ (y : Option D), Γ = [some (.hdl x), some (dR r), some (.int kept), some (dO shown), some (.int now), y] ∧ M = lwM CL x q_told (lwRun now (r.take i) ⟨kept, shown, [], 0⟩), ⟨none, rfl, rfl⟩, fun _ _ _ _ _ => trivial, fun i d Γ M hi hit hP => ?_, fun Γ M hP => ?_⟩
  · obtain ⟨y, rfl, rfl⟩ := hP
    obtain ⟨a, ha, rfl⟩ := get_map hit
    have ham := List.mem_of_getElem? ha
    refine gg_name 5 ?_ nd
    refine gb_cons (gs_expr ?_)
    refine ge_meth F_LineWork_carry_out hr (by decide) ?_
    refine ((ev_var 0)).ge ?_
    refine ⟨lwF, _, .inr ⟨0, x, rfl, rfl⟩, by decide, ?_⟩
    refine ((av_cons (ev_var 5) (av_cons (ev_var 4) av_nil))).ga ?_
    refine ⟨[0, 1], by decide, by simp [lwM], x, q_told, _, a, now, rfl, rfl, okr.mem a ham, by have h1 := lwRun_told now (r.take i) ⟨kept, shown, [], 0⟩; have h2 := okr.len; have h3 : (r.take i).length ≤ r.length := (by rw [List.length_take]; exact Nat.min_le_right _ _); simp only [List.length_nil] at h1; omega, ⟨rfl, ?_⟩⟩
    refine gb_nil ?_
    exact ⟨_, rfl, by rw [lwRun_succ now ha]; rfl⟩
  · obtain ⟨y, rfl, rfl⟩ := hP
    rw [List.length_map, List.take_length]
    refine gb_nil ?_
    exact hk _
theorem sc_CartLine_init : FnScope ["self", "item", "number", "kept"] ["self", "item", "number", "kept"] (defScope s_CartLine_init) := ⟨rfl, rfl, rfl, by decide +kernel, rfl, by decide +kernel, by decide +kernel⟩
theorem ok_CartLine_init {f : Addr} {fd : FuncData} {CI : Addr} (F : Fun K "__init__" "CartLine.__init__" s_CartLine_init f fd) (T : Txt K mg) (clI : Cls K CI) (ni_item : NoAttr K CI "item") (ni_number : NoAttr K CI "number") (ni_kept : NoAttr K CI "kept") (ni_shown : NoAttr K CI "shown") (ni_greatest : NoAttr K CI "greatest") : FnOk P w K mg base (L2.CX P w) 1 f fd ["self", "item", "number", "kept"] (spD K (R_CartLine_init CI)) := by
  have nd := sc_CartLine_init.nd
  refine fn_ok F sc_CartLine_init (fun ds M k kx H0 => by obtain ⟨x, item, number, kept, rfl, rfl, hk⟩ := H0; rfl) fun cdv A outer s H E ds M k kx hr H0 => ?_
  obtain ⟨x, item, number, kept, rfl, rfl, hk⟩ := H0
  have hu := hr.units
  have hu5 := units65 hr
  refine gb_cons (gs_fld ?_)
  refine ((ev_var 1)).ge ?_
  refine ((ev_var 0)).ge ?_
  refine ⟨0, _, _, _, _, _, _, rfl, rfl, clI, ni_item, by decide, .new (by decide), ?_⟩
  refine gb_cons (gs_fld ?_)
  refine ((ev_var 2)).ge ?_
  refine ((ev_var 0)).ge ?_
  refine ⟨0, _, _, _, _, _, _, rfl, rfl, clI, ni_number, by decide, .new (by decide), ?_⟩
  refine gb_cons (gs_fld ?_)
  refine ((ev_var 3)).ge ?_
  refine ((ev_var 0)).ge ?_
  refine ⟨0, _, _, _, _, _, _, rfl, rfl, clI, ni_kept, by decide, .new (by decide), ?_⟩
  refine gb_cons (gs_fld ?_)
  refine (ev_non).ge ?_
  refine ((ev_var 0)).ge ?_
  refine ⟨0, _, _, _, _, _, _, rfl, rfl, clI, ni_shown, by decide, .new (by decide), ?_⟩
  refine gb_cons (gs_fld ?_)
  refine (ev_non).ge ?_
  refine ((ev_var 0)).ge ?_
  refine ⟨0, _, _, _, _, _, _, rfl, rfl, clI, ni_greatest, by decide, .new (by decide), ?_⟩
  refine gb_nil ?_
  exact hk
theorem sc_CartLine_carry_out : FnScope ["self", "rule", "now", "work", "amount"] ["self", "rule", "now"] (defScope s_CartLine_carry_out) := ⟨rfl, rfl, rfl, by decide +kernel, rfl, by decide +kernel, by decide +kernel⟩
theorem ok_CartLine_carry_out {f : Addr} {fd : FuncData} {CI CL : Addr} (F : Fun K "carry_out" "CartLine.carry_out" s_CartLine_carry_out f fd) (T : Txt K mg) (F_LineWork_init : MkD P w K mg base 2 CL "LineWork" [] (R_LineWork_init CL)) (clI : Cls K CI) (ni_item : NoAttr K CI "item") (ni_number : NoAttr K CI "number") (ni_kept : NoAttr K CI "kept") (ni_shown : NoAttr K CI "shown") (ni_greatest : NoAttr K CI "greatest") (clL : Cls K CL) (na_stays : NoAttr K CL "stays") (na_seen : NoAttr K CL "seen") (na_told : NoAttr K CL "told") (na_times : NoAttr K CL "times") : FnOk P w K mg base (L2.CX P w) 4 f fd ["self", "rule", "now"] (spD K (R_CartLine_carry_out CI)) := by
  have nd := sc_CartLine_carry_out.nd
  refine fn_ok F sc_CartLine_carry_out (fun ds M k kx H0 => by obtain ⟨x, r, now, l, rfl, rfl, okr, hk⟩ := H0; rfl) fun cdv A outer s H E ds M k kx hr H0 => ?_
  obtain ⟨x, r, now, l, rfl, rfl, okr, hk⟩ := H0
  have hu := hr.units
  have hu5 := units65 hr
  refine gb_cons (gs_set 3 ?_ nd)
  refine ge_make F_LineWork_init hr (by decide) ?_
  refine ga_cons ?_
  refine ((ev_var 1)).ge ?_
  refine ga_cons ?_
  refine ge_fld 2 ?_
  refine ((ev_var 0)).ge ?_
  refine ⟨CI, _, _, _, clI, ni_kept, .inr ⟨0, _, rfl, rfl⟩, by decide, rfl, rfl, ?_⟩
  refine ga_cons ?_
  refine ge_fld 3 ?_
  refine ((ev_var 0)).ge ?_
  refine ⟨CI, _, _, _, clI, ni_shown, .inr ⟨0, _, rfl, rfl⟩, by decide, rfl, rfl, ?_⟩
  refine ga_cons ?_
  refine ((ev_var 2)).ge ?_
  refine ga_nil ?_
  refine ⟨[], fun xw => ⟨by simp, by simp, xw, r, l.kept, l.shown, now, rfl, rfl, okr, fun t => ⟨rfl, rfl, ?_⟩⟩⟩
  refine gb_eq (M' := [(x, lnMO CI l), (xw, .ins CL lwF [.int (lnWork now r l).stays, dO (lnWork now r l).seen, .hdl t, .int (lnWork now r l).times]), (t, .lst ((lnWork now r l).told.map D.int))]) rfl ?_
  refine gb_cons (gs_fld2 rfl ?_)
  refine ge_tup ?_
  refine ga_cons ?_
  refine ge_fld 0 ?_
  refine ((ev_var 3)).ge ?_
  refine ⟨CL, _, _, _, clL, na_stays, .inr ⟨1, _, rfl, rfl⟩, by decide, rfl, rfl, ?_⟩
  refine ga_cons ?_
  refine ge_fld 1 ?_
  refine ((ev_var 3)).ge ?_
  refine ⟨CL, _, _, _, clL, na_seen, .inr ⟨1, _, rfl, rfl⟩, by decide, rfl, rfl, ?_⟩
  refine ga_nil ?_
  refine ⟨by walk_at "sd", ?_⟩
  refine ⟨_, _, rfl, ?_⟩
  refine ((ev_var 0)).ge ?_
  refine ⟨0, _, _, _, _, _, _, rfl, rfl, clI, ni_kept, by decide, .old 2 (by decide) rfl, ?_⟩
  refine ((ev_var 0)).ge ?_
  refine ⟨0, _, _, _, _, _, _, rfl, rfl, clI, ni_shown, by decide, .old 3 (by decide) rfl, ?_⟩
  refine gb_cons (gs_for (passes_of rfl) rfl ?_)
  refine gi_hdl ?_
  refine ge_fld 2 ?_
  refine ((ev_var 3)).ge ?_
  refine ⟨CL, _, _, _, clL, na_told, .inr ⟨1, _, rfl, rfl⟩, by decide, rfl, rfl, ?_⟩
  refine ⟨2, _, _, rfl, rfl, ?_⟩
  refine ⟨fun i Γ M => ∃ (y : Option D), Γ = [some (.hdl x), some (dR r), some (.int now), some (.hdl xw), y] ∧ M = [(x, lnMO CI { l with kept := (lnWork now r l).stays, shown := (lnWork now r l).seen, greatest := ((lnWork now r l).told.take i).foldl gMax l.greatest }), (xw, .ins CL lwF [.int (lnWork now r l).stays, dO (lnWork now r l).seen, .hdl t, .int (lnWork now r l).times]), (t, .lst ((lnWork now r l).told.map D.int))], ⟨none, rfl, rfl⟩, fun i Γ M hi hP => by obtain ⟨_, _, rfl⟩ := hP; exact ⟨2, rfl⟩, fun i d Γ M hi hit hP => ?_, fun Γ M hP => ?_⟩
  · obtain ⟨y, rfl, rfl⟩ := hP
    obtain ⟨am, ham, rfl⟩ := get_map hit
    generalize hg : ((lnWork now r l).told.take i).foldl gMax l.greatest = g
    refine gg_name 4 ?_ nd
    refine gb_cons (gs_fld ?_)
    refine ge_ife ?_
    refine gt_cmp op_isN (nomark _) ?_
    refine ge_fld 4 ?_
    refine ((ev_var 0)).ge ?_
    refine ⟨CI, _, _, _, clI, ni_greatest, .inr ⟨0, _, rfl, rfl⟩, by decide, rfl, rfl, ?_⟩
    refine (ev_non).ge ?_
    refine (is_non ⟨_, rfl, ?_⟩ (dO_raw _))
    refine ⟨fun hb1 => ?_, fun hb1 => ?_⟩
    · rcases g with _ | b
      rotate_left
      · exact absurd hb1 (by simp [PD.isNon, dO])
      refine ((ev_var 4)).ge ?_
      refine ((ev_var 0)).ge ?_
      refine ⟨0, _, _, _, _, _, _, rfl, rfl, clI, ni_greatest, by decide, .old 4 (by decide) rfl, ?_⟩
      refine gb_nil ?_
      exact ⟨_, rfl, by rw [gMax_succ ham, hg]; rfl⟩
    · rcases g with _ | b
      · exact absurd hb1 (by simp [PD.isNon, dO])
      refine ge_callB (call_max2 rfl) T.z_max PyProof.Rows.boot_max ?_
      refine ga_cons ?_
      refine ge_fld 4 ?_
      refine ((ev_var 0)).ge ?_
      refine ⟨CI, _, _, _, clI, ni_greatest, .inr ⟨0, _, rfl, rfl⟩, by decide, rfl, rfl, ?_⟩
      refine ga_cons ?_
      refine ((ev_var 4)).ge ?_
      refine ga_nil ?_
      refine (max2_int ?_)
      refine ((ev_var 0)).ge ?_
      refine ⟨0, _, _, _, _, _, _, rfl, rfl, clI, ni_greatest, by decide, .old 4 (by decide) rfl, ?_⟩
      refine gb_nil ?_
      exact ⟨_, rfl, by rw [gMax_succ ham, hg]; rfl⟩
  · obtain ⟨y, rfl, rfl⟩ := hP
    rw [List.length_map, List.take_length]
    refine gb_one (gs_ret ?_)
    refine ge_drop (ge_fld 3 ((ev_var 3).ge ⟨CL, _, _, _, clL, na_times, .inr ⟨1, _, rfl, rfl⟩, by decide, rfl, rfl, ⟨[_], List.Sublist.cons₂ _ (List.nil_sublist _), ?_⟩⟩))
    exact hk
theorem sc_is_whole : FnScope ["thing"] ["thing"] (defScope s_is_whole) := ⟨rfl, rfl, rfl, by decide +kernel, rfl, by decide +kernel, by decide +kernel⟩
theorem ok_is_whole {f : Addr} {fd : FuncData}  (F : Fun K "is_whole" "is_whole" s_is_whole f fd) (T : Txt K mg) : FnOk P w K mg base (L2.CX P w) 1 f fd ["thing"] (spD K R_is_whole) := by
  have nd := sc_is_whole.nd
  refine fn_ok F sc_is_whole (fun ds M k kx H0 => by obtain ⟨d, rfl, rfl, hkn, hk⟩ := H0; rfl) fun cdv A outer s H E ds M k kx hr H0 => ?_
  obtain ⟨d, rfl, rfl, hkn, hk⟩ := H0
  have hu := hr.units
  have hu5 := units65 hr
  refine gb_one (gs_ret (ge_and ?_))
  refine ge_callB call_isi T.z_isinstance PyProof.Rows.boot_isinstance ((av_cons (ev_var 0) (av_cons (ev_ty T.z_int b_int) av_nil)).ga (isi_int hkn ⟨_, rfl, fun h => ?_, fun h => ?_⟩))
  · refine ge_one (ge_not ?_)
    refine ge_callB call_isi T.z_isinstance PyProof.Rows.boot_isinstance ((av_cons (ev_var 0) (av_cons (ev_ty T.z_bool b_bool) av_nil)).ga (isi_bool hkn ⟨_, rfl, ?_⟩))
    rw [h] at hk
    exact hk
  · rw [h] at hk
    exact hk
theorem sc_is_item : FnScope ["thing", "letter"] ["thing"] (defScope s_is_item) := ⟨rfl, rfl, rfl, by decide +kernel, rfl, by decide +kernel, by decide +kernel⟩
theorem ok_is_item {f : Addr} {fd : FuncData}  (F : Fun K "is_item" "is_item" s_is_item f fd) (T : Txt K mg) : FnOk P w K mg base (L2.CX P w) 1 f fd ["thing"] (spD K R_is_item) := by
  have nd := sc_is_item.nd
  refine fn_ok F sc_is_item (fun ds M k kx H0 => by obtain ⟨i, rfl, rfl, oi, hk⟩ := H0; rfl) fun cdv A outer s H E ds M k kx hr H0 => ?_
  obtain ⟨i, rfl, rfl, oi, hk⟩ := H0
  have hu := hr.units
  have hu5 := units65 hr
  have q1 := oi.l1
  have q8 := oi.l8
  refine gb_cons (gs_if (gt_bool (gp_or (gt_not (gt_val (ge_callB call_isi T.z_isinstance PyProof.Rows.boot_isinstance ((av_cons (ev_var 0) (av_cons (ev_ty T.z_str b_str) av_nil)).ga (isi_str rfl ⟨_, rfl, fun _ => ?_, fun z => absurd z (by simp [isStrD])⟩))))))))
  refine gp_or1 (gt_not (gt_chain op_le op_le ?_))
  refine ev_int.ge ((ev_callB call_len T.z_len PySem.boot_len (av_cons (ev_var 0) av_nil) (len_str (by omega) ⟨rfl, rfl⟩)).ge (le_int ⟨_, rfl, fun _ => ?_, fun z => absurd z (by simp; omega)⟩))
  refine (ev_glob T.g_LONGEST_ITEM).ge (le_int ⟨_, rfl, fun z => absurd z (by simp; omega), fun _ => ?_⟩)
  refine gb_nil ?_
  refine gb_one (gs_ret (ge_callB (cr_all rfl) T.z_all b_all (ga_cons ?_)))
  refine ge_lc [("letter", 1)] rfl nd (blkOk_by (by show blkC ["thing", "letter"] (defScope s_is_item) _ _ = true; decide +kernel)) ?_
  refine gi_str ((ev_var 0).ge ⟨_, rfl, ?_⟩)
  refine ⟨fun q acc M => acc = (List.replicate q true).map D.bl ∧ M = [], ⟨rfl, rfl⟩, fun _ _ _ _ _ => trivial, fun q d acc M hi hit hP => ?_, fun acc M hP => ?_⟩
  · obtain ⟨rfl, rfl⟩ := hP
    obtain ⟨c, hc, rfl⟩ := hit
    have hi2 : q < i.length := hi
    intro _ _ _ _ _
    refine cg_name 1 ?_ nd
    intro _ _ _ _ _
    refine gts_nil ⟨fun _ => ?_, by walk_at "no"⟩
    intro _ _ _ _ _
    refine ge_cmp (op_inU hu5) rfl ((ev_var 1).ge ((ev_glob T.g_LETTERS).ge (in_signs ?_)))
    rw [letter_in (oi.ch c (List.mem_of_getElem? (i := q) (by rw [Array.getElem?_toList]; exact hc)))]
    exact ⟨by simp; omega, by rw [List.replicate_succ', List.map_append]; rfl, rfl⟩
  · obtain ⟨rfl, rfl⟩ := hP
    refine ga_nil (all_lst rfl ?_)
    rw [all_reps]
    exact hk
theorem sc_is_amount : FnScope ["thing"] ["thing"] (defScope s_is_amount) := ⟨rfl, rfl, rfl, by decide +kernel, rfl, by decide +kernel, by decide +kernel⟩
theorem ok_is_amount {f : Addr} {fd : FuncData}  (F : Fun K "is_amount" "is_amount" s_is_amount f fd) (T : Txt K mg) (F_is_whole : FnD P w K mg base 1 "is_whole" [] R_is_whole) : FnOk P w K mg base (L2.CX P w) 2 f fd ["thing"] (spD K R_is_amount) := by
  have nd := sc_is_amount.nd
  refine fn_ok F sc_is_amount (fun ds M k kx H0 => by obtain ⟨a, rfl, rfl, h0, h1, hk⟩ := H0; rfl) fun cdv A outer s H E ds M k kx hr H0 => ?_
  obtain ⟨a, rfl, rfl, h0, h1, hk⟩ := H0
  have hu := hr.units
  have hu5 := units65 hr
  refine gb_one (gs_ret (ge_and ?_))
  refine ge_call F_is_whole hr (by decide) ((av_cons (ev_var 0) av_nil).ga ⟨[], by simp, by simp, _, rfl, rfl, rfl, ⟨rfl, _, rfl, fun _ => ?_, fun z => absurd z (by simp [isIntD, isBlD])⟩⟩)
  refine ge_one (ge_chain op_le op_le (ev_int.ge ((ev_var 0).ge (le_int ⟨_, rfl, fun _ => ?_, fun z => absurd z (by simp; omega)⟩))))
  refine (ev_glob T.g_MOST_AMOUNT).ge (le_int ?_)
  rw [decide_eq_true (by omega)]
  exact hk
theorem sc_is_number : FnScope ["thing", "least"] ["thing", "least"] (defScope s_is_number) := ⟨rfl, rfl, rfl, by decide +kernel, rfl, by decide +kernel, by decide +kernel⟩
theorem ok_is_number {f : Addr} {fd : FuncData}  {dvs : List V} {kws : List (Str × V)} (F : FunD K "is_number" "is_number" (defArgs s_is_number) (defBody s_is_number) (defScope s_is_number) dvs kws f fd) (T : Txt K mg) (F_is_whole : FnD P w K mg base 1 "is_whole" [] R_is_whole) : FnOk P w K mg base (L2.CX P w) 2 f fd ["thing", "least"] (spD K R_is_number) := by
  have nd := sc_is_number.nd
  refine fn_okD F sc_is_number (fun ds M k kx H0 => by obtain ⟨n, t, rfl, rfl, h0, h1, hk⟩ := H0; rfl) fun cdv A outer s H E ds M k kx hr H0 => ?_
  obtain ⟨n, t, rfl, rfl, h0, h1, hk⟩ := H0
  have hu := hr.units
  have hu5 := units65 hr
  refine gb_one (gs_ret (ge_and ?_))
  refine ge_call F_is_whole hr (by decide) ((av_cons (ev_var 0) av_nil).ga ⟨[], by simp, by simp, _, rfl, rfl, rfl, ⟨rfl, _, rfl, fun _ => ?_, fun z => absurd z (by simp [isIntD, isBlD])⟩⟩)
  refine ge_one (ge_chain op_le op_le ((ev_var 1).ge ((ev_var 0).ge (le_int ⟨_, rfl, fun _ => ?_, fun z => absurd z (by simp; omega)⟩))))
  refine (ev_glob T.g_MOST_NUMBER).ge (le_int ?_)
  rw [decide_eq_true (by omega)]
  exact hk
theorem sc_is_price : FnScope ["thing"] ["thing"] (defScope s_is_price) := ⟨rfl, rfl, rfl, by decide +kernel, rfl, by decide +kernel, by decide +kernel⟩
theorem ok_is_price {f : Addr} {fd : FuncData}  (F : Fun K "is_price" "is_price" s_is_price f fd) (T : Txt K mg) (F_is_item : FnD P w K mg base 1 "is_item" [] R_is_item) (F_is_amount : FnD P w K mg base 2 "is_amount" [] R_is_amount) : FnOk P w K mg base (L2.CX P w) 3 f fd ["thing"] (spD K R_is_price) := by
  have nd := sc_is_price.nd
  refine fn_ok F sc_is_price (fun ds M k kx H0 => by obtain ⟨i, a, rfl, rfl, oi, h0, h1, hk⟩ := H0; rfl) fun cdv A outer s H E ds M k kx hr H0 => ?_
  obtain ⟨i, a, rfl, rfl, oi, h0, h1, hk⟩ := H0
  have hu := hr.units
  have hu5 := units65 hr
  refine gb_one (gs_ret (ge_and ?_))
  refine (ge_callB call_isi T.z_isinstance PyProof.Rows.boot_isinstance ((av_cons (ev_var 0) (av_cons (ev_ty T.z_tuple b_tuple) av_nil)).ga (isi_tup rfl ⟨_, rfl, fun _ => ?_, fun z => absurd z (by simp [isTupD])⟩)))
  refine ge_and ((ev_cmp (op_eqU hu) (nomark _) (ev_callB call_len T.z_len PySem.boot_len (av_cons (ev_var 0) av_nil) (len_tup ⟨rfl, rfl⟩)) ev_int (eq_int ⟨rfl, rfl⟩)).ge ⟨_, rfl, fun _ => ?_, fun z => absurd z (by simp)⟩)
  refine ge_and ?_
  refine ge_call F_is_item hr (by decide) ((av_cons (ev_ix ix_seq (fun _ _ => rfl) (ev_var 0) ev_int (ix_tup' (j := 0) (by simp) rfl ⟨rfl, rfl⟩)) av_nil).ga ⟨[], by simp, by simp, i, rfl, rfl, oi, ⟨rfl, _, rfl, fun _ => ?_, by walk_at "no"⟩⟩)
  refine ge_one ?_
  refine ge_call F_is_amount hr (by decide) ((av_cons (ev_ix ix_seq (fun _ _ => rfl) (ev_var 0) ev_int (ix_tup' (j := 1) (by simp) rfl ⟨rfl, rfl⟩)) av_nil).ga ⟨[], by simp, by simp, a, rfl, rfl, h0, h1, ⟨rfl, ?_⟩⟩)
  exact hk
theorem sc_are_prices : FnScope ["thing", "pair"] ["thing"] (defScope s_are_prices) := ⟨rfl, rfl, rfl, by decide +kernel, rfl, by decide +kernel, by decide +kernel⟩
theorem ok_are_prices {f : Addr} {fd : FuncData}  (F : Fun K "are_prices" "are_prices" s_are_prices f fd) (T : Txt K mg) (F_is_price : FnD P w K mg base 3 "is_price" [] R_is_price) : FnOk P w K mg base (L2.CX P w) 4 f fd ["thing"] (spD K R_are_prices) := by
  have nd := sc_are_prices.nd
  refine fn_ok F sc_are_prices (fun ds M k kx H0 => by obtain ⟨m, rfl, rfl, om, hk⟩ := H0; rfl) fun cdv A outer s H E ds M k kx hr H0 => ?_
  obtain ⟨m, rfl, rfl, om, hk⟩ := H0
  have hu := hr.units
  have hu5 := units65 hr
  have q1 := om.l1
  have q6 := om.l6
  refine gb_cons (gs_if (gt_bool (gp_or (gt_not (gt_val (ge_callB call_isi T.z_isinstance PyProof.Rows.boot_isinstance ((av_cons (ev_var 0) (av_cons (ev_ty T.z_tuple b_tuple) av_nil)).ga (isi_tup rfl ⟨_, rfl, fun _ => ?_, by walk_at "no"⟩))))))))
  refine gp_or1 (gt_not (gt_chain op_le op_le ?_))
  refine ev_int.ge ((ev_callB call_len T.z_len PySem.boot_len (av_cons (ev_var 0) av_nil) (len_tup ⟨rfl, rfl⟩)).ge (le_int ⟨_, rfl, fun _ => ?_, fun z => absurd z (by simp; omega)⟩))
  refine (ev_glob T.g_MOST_ITEMS).ge (le_int ⟨_, rfl, fun z => absurd z (by simp; omega), fun _ => ?_⟩)
  refine gb_nil ?_
  refine gb_cons (gs_if (gt_not (gt_val (ge_callB (cr_all rfl) T.z_all b_all (ga_cons ?_)))))
  refine ge_lc [("pair", 1)] rfl nd (blkOk_by (by show blkC ["thing", "pair"] (defScope s_are_prices) _ _ = true; decide +kernel)) ?_
  refine gi_tup ((ev_var 0).ge ⟨_, rfl, ?_⟩)
  refine ⟨fun q acc M => acc = (List.replicate q true).map D.bl ∧ M = [], ⟨rfl, rfl⟩, fun _ _ _ _ _ => trivial, fun q d acc M hi hit hP => ?_, fun acc M hP => ?_⟩
  · obtain ⟨rfl, rfl⟩ := hP
    obtain ⟨p, hp, rfl⟩ := get_map hit
    obtain ⟨o1, o2, o3⟩ := om.it p (List.mem_of_getElem? hp)
    have hi2 : q < m.length := by simpa using hi
    intro _ _ _ _ _
    refine cg_name 1 ?_ nd
    intro _ _ _ _ _
    refine gts_nil ⟨fun _ => ?_, by walk_at "no"⟩
    intro _ _ _ _ _
    refine ge_call F_is_price hr (by decide) ((av_cons (ev_var 1) av_nil).ga ⟨[], by simp, by simp, p.1, p.2, rfl, rfl, o1, o2, o3, ⟨rfl, ?_⟩⟩)
    exact ⟨by simp; omega, by rw [List.replicate_succ', List.map_append]; rfl, rfl⟩
  · obtain ⟨rfl, rfl⟩ := hP
    refine ga_nil (all_lst rfl ?_)
    rw [all_reps]
    refine ⟨_, rfl, by walk_at "no", fun _ => ?_⟩
    refine gb_nil ?_
    refine gb_one (gs_ret (ge_cmp (op_eqU hu) (nomark _) ?_))
    refine ge_lensetN T.z_len T.z_set rfl ?_
    refine ge_lc [("pair", 1)] rfl nd (blkOk_by (by show blkC ["thing", "pair"] (defScope s_are_prices) _ _ = true; decide +kernel)) ?_
    refine gi_tup ((ev_var 0).ge ⟨_, rfl, ?_⟩)
    refine ⟨fun q acc M => acc = ((m.take q).map (·.1)).map D.str ∧ M = [], ⟨rfl, rfl⟩, fun _ _ _ _ _ => trivial, fun q d acc M hi hit hP => ?_, fun acc M hP => ?_⟩
    · obtain ⟨rfl, rfl⟩ := hP
      obtain ⟨p, hp, rfl⟩ := get_map hit
      have hi2 : q < m.length := by simpa using hi
      intro _ _ _ _ _
      refine cg_name 1 ?_ nd
      intro _ _ _ _ _
      refine gts_nil ⟨fun _ => ?_, by walk_at "no"⟩
      intro _ _ _ _ _
      refine (ev_ix ix_seq (fun _ _ => rfl) (ev_var 1) ev_int (ix_tup' (j := 0) (d := .str p.1) (by simp) rfl ⟨rfl, rfl⟩)).ge ?_
      exact ⟨by simp; omega, by rw [List.take_add_one, hp]; simp, rfl⟩
    · obtain ⟨rfl, rfl⟩ := hP
      refine ⟨m.map (·.1), by rw [List.length_map, List.take_length], om.nd, by simp; omega, ?_⟩
      refine (ev_callB call_len T.z_len PySem.boot_len (av_cons (ev_var 0) av_nil) (len_tup ⟨rfl, rfl⟩)).ge (eq_int ?_)
      rw [decide_eq_true (by simp)]
      exact hk
theorem sc_is_deed : FnScope ["thing", "word", "rest"] ["thing"] (defScope s_is_deed) := ⟨rfl, rfl, rfl, by decide +kernel, rfl, by decide +kernel, by decide +kernel⟩
theorem ok_is_deed {f : Addr} {fd : FuncData}  (F : Fun K "is_deed" "is_deed" s_is_deed f fd) (T : Txt K mg) (F_is_item : FnD P w K mg base 1 "is_item" [] R_is_item) (F_is_amount : FnD P w K mg base 2 "is_amount" [] R_is_amount) (F_is_number1 : FnD P w K mg base 2 "is_number" [.int 1] R_is_number) (F_is_number2 : FnD P w K mg base 2 "is_number" [] R_is_number) : FnOk P w K mg base (L2.CX P w) 3 f fd ["thing"] (spD K R_is_deed) := by
  have nd := sc_is_deed.nd
  refine fn_ok F sc_is_deed (fun ds M k kx H0 => by obtain ⟨d, rfl, rfl, okd, hk⟩ := H0; rfl) fun cdv A outer s H E ds M k kx hr H0 => ?_
  obtain ⟨d, rfl, rfl, okd, hk⟩ := H0
  have hu := hr.units
  have hu5 := units65 hr
  cases d with
  | price i a =>
    obtain ⟨oi, a0, a1⟩ := okd
    refine gb_cons (gs_if ?_)
    refine ((tv_bool (pv_or (tv_not (tv_val (ev_callB call_isi T.z_isinstance PyProof.Rows.boot_isinstance (av_cons (ev_var 0) (av_cons (ev_ty T.z_tuple b_tuple) av_nil)) (isi_tup rfl ⟨rfl, rfl⟩)))) (fun hb2 => (pv_or (tv_cmp (op_eqU hu) (nomark _) (ev_callB call_len T.z_len PySem.boot_len (av_cons (ev_var 0) av_nil) (len_tup ⟨rfl, rfl⟩)) ev_int (eq_int ⟨rfl, rfl⟩)) (fun hb1 => (pv_or1 (tv_not (tv_val (ev_callB call_isi T.z_isinstance PyProof.Rows.boot_isinstance (av_cons (ev_ix ix_seq (fun _ _ => rfl) (ev_var 0) ev_int (ix_tup' (j := 0) (by walk_at "sd") (by walk_at "sd") ⟨rfl, rfl⟩)) (av_cons (ev_ty T.z_str b_str) av_nil)) (isi_str rfl ⟨rfl, rfl⟩))))))))))).gt ?_
    refine ⟨by walk_at "no", fun _ => ?_⟩
    refine gb_nil ?_
    refine gb_cons (gs_par 1 2 rfl ?_ nd)
    refine ga_cons ?_
    refine ((ev_ix ix_seq (fun _ _ => rfl) (ev_var 0) ev_int (ix_tup' (j := 0) (by walk_at "sd") (by walk_at "sd") ⟨rfl, rfl⟩))).ge ?_
    refine ga_cons ?_
    refine ge_slice sl_tupA ?_
    refine ((ev_var 0)).ge ?_
    refine go_some ?_
    refine (ev_int).ge ?_
    refine ⟨_, rfl, ?_⟩
    refine go_none ?_
    refine (sl_tupD ?_)
    refine ga_nil ?_
    refine ⟨_, _, rfl, ?_⟩
    rw [show cutD [.str "price", .str i, .int a] (some 1) none = [.str i, .int a] from rfl]
    refine gb_cons (gs_if ?_)
    refine ((tv_cmp (op_inU hu5) rfl (ev_var 1) (ev_tup (av_cons ev_str (av_cons ev_str av_nil))) (in_strs rfl ⟨rfl, rfl⟩))).gt ?_
    refine ⟨by walk_at "no", fun _ => ?_⟩
    refine gb_nil ?_
    refine gb_cons (gs_if ?_)
    refine ((tv_cmp (op_eqU hu) (nomark _) (ev_var 1) ev_str (eq_str ⟨rfl, rfl⟩))).gt ?_
    refine ⟨by walk_at "no", fun _ => ?_⟩
    refine gb_nil ?_
    refine gb_cons (gs_if ?_)
    refine gt_bool ?_
    refine gp_or ?_
    refine ((tv_cmp (op_neU hu) (nomark _) (ev_callB call_len T.z_len PySem.boot_len (av_cons (ev_var 2) av_nil) (len_tup ⟨rfl, rfl⟩)) ev_int (ne_int ⟨rfl, rfl⟩))).gt ?_
    refine ⟨fun _ => ?_, by walk_at "no"⟩
    refine gp_or1 ?_
    refine gt_not ?_
    refine gt_val ?_
    refine ge_call F_is_item hr (by decide) ?_
    refine ((av_cons (ev_ix ix_seq (fun _ _ => rfl) (ev_var 2) ev_int (ix_tup' (j := 0) (by walk_at "sd") (by walk_at "sd") ⟨rfl, rfl⟩)) av_nil)).ga ?_
    refine ⟨[], by simp, by simp, i, rfl, rfl, oi, ⟨rfl, ?_⟩⟩
    refine ⟨_, rfl, ?_⟩
    refine ⟨by walk_at "no", fun _ => ?_⟩
    refine gb_nil ?_
    refine gb_cons (gs_if ?_)
    refine ((tv_cmp (op_eqU hu) (nomark _) (ev_var 1) ev_str (eq_str ⟨rfl, rfl⟩))).gt ?_
    refine ⟨fun _ => ?_, by walk_at "no"⟩
    refine gb_one (gs_ret ?_)
    refine ge_call F_is_amount hr (by decide) ?_
    refine ((av_cons (ev_ix ix_seq (fun _ _ => rfl) (ev_var 2) ev_int (ix_tup' (j := 1) (by walk_at "sd") (by walk_at "sd") ⟨rfl, rfl⟩)) av_nil)).ga ?_
    refine ⟨[], by simp, by simp, a, rfl, rfl, a0, a1, ⟨rfl, ?_⟩⟩
    exact hk
  | put i n =>
    obtain ⟨oi, n0, n1⟩ := okd
    refine gb_cons (gs_if ?_)
    refine ((tv_bool (pv_or (tv_not (tv_val (ev_callB call_isi T.z_isinstance PyProof.Rows.boot_isinstance (av_cons (ev_var 0) (av_cons (ev_ty T.z_tuple b_tuple) av_nil)) (isi_tup rfl ⟨rfl, rfl⟩)))) (fun hb2 => (pv_or (tv_cmp (op_eqU hu) (nomark _) (ev_callB call_len T.z_len PySem.boot_len (av_cons (ev_var 0) av_nil) (len_tup ⟨rfl, rfl⟩)) ev_int (eq_int ⟨rfl, rfl⟩)) (fun hb1 => (pv_or1 (tv_not (tv_val (ev_callB call_isi T.z_isinstance PyProof.Rows.boot_isinstance (av_cons (ev_ix ix_seq (fun _ _ => rfl) (ev_var 0) ev_int (ix_tup' (j := 0) (by walk_at "sd") (by walk_at "sd") ⟨rfl, rfl⟩)) (av_cons (ev_ty T.z_str b_str) av_nil)) (isi_str rfl ⟨rfl, rfl⟩))))))))))).gt ?_
    refine ⟨by walk_at "no", fun _ => ?_⟩
    refine gb_nil ?_
    refine gb_cons (gs_par 1 2 rfl ?_ nd)
    refine ga_cons ?_
    refine ((ev_ix ix_seq (fun _ _ => rfl) (ev_var 0) ev_int (ix_tup' (j := 0) (by walk_at "sd") (by walk_at "sd") ⟨rfl, rfl⟩))).ge ?_
    refine ga_cons ?_
    refine ge_slice sl_tupA ?_
    refine ((ev_var 0)).ge ?_
    refine go_some ?_
    refine (ev_int).ge ?_
    refine ⟨_, rfl, ?_⟩
    refine go_none ?_
    refine (sl_tupD ?_)
    refine ga_nil ?_
    refine ⟨_, _, rfl, ?_⟩
    rw [show cutD [.str "put", .str i, .int n] (some 1) none = [.str i, .int n] from rfl]
    refine gb_cons (gs_if ?_)
    refine ((tv_cmp (op_inU hu5) rfl (ev_var 1) (ev_tup (av_cons ev_str (av_cons ev_str av_nil))) (in_strs rfl ⟨rfl, rfl⟩))).gt ?_
    refine ⟨by walk_at "no", fun _ => ?_⟩
    refine gb_nil ?_
    refine gb_cons (gs_if ?_)
    refine ((tv_cmp (op_eqU hu) (nomark _) (ev_var 1) ev_str (eq_str ⟨rfl, rfl⟩))).gt ?_
    refine ⟨by walk_at "no", fun _ => ?_⟩
    refine gb_nil ?_
    refine gb_cons (gs_if ?_)
    refine gt_bool ?_
    refine gp_or ?_
    refine ((tv_cmp (op_neU hu) (nomark _) (ev_callB call_len T.z_len PySem.boot_len (av_cons (ev_var 2) av_nil) (len_tup ⟨rfl, rfl⟩)) ev_int (ne_int ⟨rfl, rfl⟩))).gt ?_
    refine ⟨fun _ => ?_, by walk_at "no"⟩
    refine gp_or1 ?_
    refine gt_not ?_
    refine gt_val ?_
    refine ge_call F_is_item hr (by decide) ?_
    refine ((av_cons (ev_ix ix_seq (fun _ _ => rfl) (ev_var 2) ev_int (ix_tup' (j := 0) (by walk_at "sd") (by walk_at "sd") ⟨rfl, rfl⟩)) av_nil)).ga ?_
    refine ⟨[], by simp, by simp, i, rfl, rfl, oi, ⟨rfl, ?_⟩⟩
    refine ⟨_, rfl, ?_⟩
    refine ⟨by walk_at "no", fun _ => ?_⟩
    refine gb_nil ?_
    refine gb_cons (gs_if ?_)
    refine ((tv_cmp (op_eqU hu) (nomark _) (ev_var 1) ev_str (eq_str ⟨rfl, rfl⟩))).gt ?_
    refine ⟨by walk_at "no", fun _ => ?_⟩
    refine gb_nil ?_
    refine gb_cons (gs_if ?_)
    refine ((tv_cmp (op_eqU hu) (nomark _) (ev_var 1) ev_str (eq_str ⟨rfl, rfl⟩))).gt ?_
    refine ⟨fun _ => ?_, by walk_at "no"⟩
    refine gb_one (gs_ret ?_)
    refine ge_call F_is_number1 hr (by decide) ?_
    refine ((av_cons (ev_ix ix_seq (fun _ _ => rfl) (ev_var 2) ev_int (ix_tup' (j := 1) (by walk_at "sd") (by walk_at "sd") ⟨rfl, rfl⟩)) av_nil)).ga ?_
    refine ⟨[], by simp, by simp, n, 1, rfl, rfl, n0, n1, ⟨rfl, ?_⟩⟩
    exact hk
  | alter i n =>
    obtain ⟨oi, n0, n1⟩ := okd
    refine gb_cons (gs_if ?_)
    refine ((tv_bool (pv_or (tv_not (tv_val (ev_callB call_isi T.z_isinstance PyProof.Rows.boot_isinstance (av_cons (ev_var 0) (av_cons (ev_ty T.z_tuple b_tuple) av_nil)) (isi_tup rfl ⟨rfl, rfl⟩)))) (fun hb2 => (pv_or (tv_cmp (op_eqU hu) (nomark _) (ev_callB call_len T.z_len PySem.boot_len (av_cons (ev_var 0) av_nil) (len_tup ⟨rfl, rfl⟩)) ev_int (eq_int ⟨rfl, rfl⟩)) (fun hb1 => (pv_or1 (tv_not (tv_val (ev_callB call_isi T.z_isinstance PyProof.Rows.boot_isinstance (av_cons (ev_ix ix_seq (fun _ _ => rfl) (ev_var 0) ev_int (ix_tup' (j := 0) (by walk_at "sd") (by walk_at "sd") ⟨rfl, rfl⟩)) (av_cons (ev_ty T.z_str b_str) av_nil)) (isi_str rfl ⟨rfl, rfl⟩))))))))))).gt ?_
    refine ⟨by walk_at "no", fun _ => ?_⟩
    refine gb_nil ?_
    refine gb_cons (gs_par 1 2 rfl ?_ nd)
    refine ga_cons ?_
    refine ((ev_ix ix_seq (fun _ _ => rfl) (ev_var 0) ev_int (ix_tup' (j := 0) (by walk_at "sd") (by walk_at "sd") ⟨rfl, rfl⟩))).ge ?_
    refine ga_cons ?_
    refine ge_slice sl_tupA ?_
    refine ((ev_var 0)).ge ?_
    refine go_some ?_
    refine (ev_int).ge ?_
    refine ⟨_, rfl, ?_⟩
    refine go_none ?_
    refine (sl_tupD ?_)
    refine ga_nil ?_
    refine ⟨_, _, rfl, ?_⟩
    rw [show cutD [.str "alter", .str i, .int n] (some 1) none = [.str i, .int n] from rfl]
    refine gb_cons (gs_if ?_)
    refine ((tv_cmp (op_inU hu5) rfl (ev_var 1) (ev_tup (av_cons ev_str (av_cons ev_str av_nil))) (in_strs rfl ⟨rfl, rfl⟩))).gt ?_
    refine ⟨by walk_at "no", fun _ => ?_⟩
    refine gb_nil ?_
    refine gb_cons (gs_if ?_)
    refine ((tv_cmp (op_eqU hu) (nomark _) (ev_var 1) ev_str (eq_str ⟨rfl, rfl⟩))).gt ?_
    refine ⟨by walk_at "no", fun _ => ?_⟩
    refine gb_nil ?_
    refine gb_cons (gs_if ?_)
    refine gt_bool ?_
    refine gp_or ?_
    refine ((tv_cmp (op_neU hu) (nomark _) (ev_callB call_len T.z_len PySem.boot_len (av_cons (ev_var 2) av_nil) (len_tup ⟨rfl, rfl⟩)) ev_int (ne_int ⟨rfl, rfl⟩))).gt ?_
    refine ⟨fun _ => ?_, by walk_at "no"⟩
    refine gp_or1 ?_
    refine gt_not ?_
    refine gt_val ?_
    refine ge_call F_is_item hr (by decide) ?_
    refine ((av_cons (ev_ix ix_seq (fun _ _ => rfl) (ev_var 2) ev_int (ix_tup' (j := 0) (by walk_at "sd") (by walk_at "sd") ⟨rfl, rfl⟩)) av_nil)).ga ?_
    refine ⟨[], by simp, by simp, i, rfl, rfl, oi, ⟨rfl, ?_⟩⟩
    refine ⟨_, rfl, ?_⟩
    refine ⟨by walk_at "no", fun _ => ?_⟩
    refine gb_nil ?_
    refine gb_cons (gs_if ?_)
    refine ((tv_cmp (op_eqU hu) (nomark _) (ev_var 1) ev_str (eq_str ⟨rfl, rfl⟩))).gt ?_
    refine ⟨by walk_at "no", fun _ => ?_⟩
    refine gb_nil ?_
    refine gb_cons (gs_if ?_)
    refine ((tv_cmp (op_eqU hu) (nomark _) (ev_var 1) ev_str (eq_str ⟨rfl, rfl⟩))).gt ?_
    refine ⟨by walk_at "no", fun _ => ?_⟩
    refine gb_nil ?_
    refine gb_one (gs_ret ?_)
    refine ge_and ?_
    refine ((ev_cmp (op_eqU hu) (nomark _) (ev_var 1) ev_str (eq_str ⟨rfl, rfl⟩))).ge ?_
    refine ⟨_, rfl, fun _ => ?_, by walk_at "no"⟩
    refine ge_one ?_
    refine ge_call F_is_number2 hr (by decide) ?_
    refine ((av_cons (ev_ix ix_seq (fun _ _ => rfl) (ev_var 2) ev_int (ix_tup' (j := 1) (by walk_at "sd") (by walk_at "sd") ⟨rfl, rfl⟩)) (av_cons ev_int av_nil))).ga ?_
    refine ⟨[], by simp, by simp, n, 0, rfl, rfl, n0, n1, ⟨rfl, ?_⟩⟩
    exact hk
  | look  =>
    refine gb_cons (gs_if ?_)
    refine ((tv_bool (pv_or (tv_not (tv_val (ev_callB call_isi T.z_isinstance PyProof.Rows.boot_isinstance (av_cons (ev_var 0) (av_cons (ev_ty T.z_tuple b_tuple) av_nil)) (isi_tup rfl ⟨rfl, rfl⟩)))) (fun hb2 => (pv_or (tv_cmp (op_eqU hu) (nomark _) (ev_callB call_len T.z_len PySem.boot_len (av_cons (ev_var 0) av_nil) (len_tup ⟨rfl, rfl⟩)) ev_int (eq_int ⟨rfl, rfl⟩)) (fun hb1 => (pv_or1 (tv_not (tv_val (ev_callB call_isi T.z_isinstance PyProof.Rows.boot_isinstance (av_cons (ev_ix ix_seq (fun _ _ => rfl) (ev_var 0) ev_int (ix_tup' (j := 0) (by walk_at "sd") (by walk_at "sd") ⟨rfl, rfl⟩)) (av_cons (ev_ty T.z_str b_str) av_nil)) (isi_str rfl ⟨rfl, rfl⟩))))))))))).gt ?_
    refine ⟨by walk_at "no", fun _ => ?_⟩
    refine gb_nil ?_
    refine gb_cons (gs_par 1 2 rfl ?_ nd)
    refine ga_cons ?_
    refine ((ev_ix ix_seq (fun _ _ => rfl) (ev_var 0) ev_int (ix_tup' (j := 0) (by walk_at "sd") (by walk_at "sd") ⟨rfl, rfl⟩))).ge ?_
    refine ga_cons ?_
    refine ge_slice sl_tupA ?_
    refine ((ev_var 0)).ge ?_
    refine go_some ?_
    refine (ev_int).ge ?_
    refine ⟨_, rfl, ?_⟩
    refine go_none ?_
    refine (sl_tupD ?_)
    refine ga_nil ?_
    refine ⟨_, _, rfl, ?_⟩
    rw [show cutD [.str "look"] (some 1) none = [] from rfl]
    refine gb_cons (gs_if ?_)
    refine ((tv_cmp (op_inU hu5) rfl (ev_var 1) (ev_tup (av_cons ev_str (av_cons ev_str av_nil))) (in_strs rfl ⟨rfl, rfl⟩))).gt ?_
    refine ⟨fun _ => ?_, by walk_at "no"⟩
    refine gb_one (gs_ret ?_)
    refine ((ev_cmp (op_eqU hu) (nomark _) (ev_var 2) (ev_tup av_nil) (eq_dat (n := 60) (m := 60) (by walk_at "sd") (by walk_at "sd") ⟨rfl, rfl⟩))).ge ?_
    simpa [py, pys, PyData.eqv, PyData.eqvAll] using hk
  | back  =>
    refine gb_cons (gs_if ?_)
    refine ((tv_bool (pv_or (tv_not (tv_val (ev_callB call_isi T.z_isinstance PyProof.Rows.boot_isinstance (av_cons (ev_var 0) (av_cons (ev_ty T.z_tuple b_tuple) av_nil)) (isi_tup rfl ⟨rfl, rfl⟩)))) (fun hb2 => (pv_or (tv_cmp (op_eqU hu) (nomark _) (ev_callB call_len T.z_len PySem.boot_len (av_cons (ev_var 0) av_nil) (len_tup ⟨rfl, rfl⟩)) ev_int (eq_int ⟨rfl, rfl⟩)) (fun hb1 => (pv_or1 (tv_not (tv_val (ev_callB call_isi T.z_isinstance PyProof.Rows.boot_isinstance (av_cons (ev_ix ix_seq (fun _ _ => rfl) (ev_var 0) ev_int (ix_tup' (j := 0) (by walk_at "sd") (by walk_at "sd") ⟨rfl, rfl⟩)) (av_cons (ev_ty T.z_str b_str) av_nil)) (isi_str rfl ⟨rfl, rfl⟩))))))))))).gt ?_
    refine ⟨by walk_at "no", fun _ => ?_⟩
    refine gb_nil ?_
    refine gb_cons (gs_par 1 2 rfl ?_ nd)
    refine ga_cons ?_
    refine ((ev_ix ix_seq (fun _ _ => rfl) (ev_var 0) ev_int (ix_tup' (j := 0) (by walk_at "sd") (by walk_at "sd") ⟨rfl, rfl⟩))).ge ?_
    refine ga_cons ?_
    refine ge_slice sl_tupA ?_
    refine ((ev_var 0)).ge ?_
    refine go_some ?_
    refine (ev_int).ge ?_
    refine ⟨_, rfl, ?_⟩
    refine go_none ?_
    refine (sl_tupD ?_)
    refine ga_nil ?_
    refine ⟨_, _, rfl, ?_⟩
    rw [show cutD [.str "back"] (some 1) none = [] from rfl]
    refine gb_cons (gs_if ?_)
    refine ((tv_cmp (op_inU hu5) rfl (ev_var 1) (ev_tup (av_cons ev_str (av_cons ev_str av_nil))) (in_strs rfl ⟨rfl, rfl⟩))).gt ?_
    refine ⟨fun _ => ?_, by walk_at "no"⟩
    refine gb_one (gs_ret ?_)
    refine ((ev_cmp (op_eqU hu) (nomark _) (ev_var 2) (ev_tup av_nil) (eq_dat (n := 60) (m := 60) (by walk_at "sd") (by walk_at "sd") ⟨rfl, rfl⟩))).ge ?_
    simpa [py, pys, PyData.eqv, PyData.eqvAll] using hk
  | pay b =>
    refine gb_cons (gs_if ?_)
    refine ((tv_bool (pv_or (tv_not (tv_val (ev_callB call_isi T.z_isinstance PyProof.Rows.boot_isinstance (av_cons (ev_var 0) (av_cons (ev_ty T.z_tuple b_tuple) av_nil)) (isi_tup rfl ⟨rfl, rfl⟩)))) (fun hb2 => (pv_or (tv_cmp (op_eqU hu) (nomark _) (ev_callB call_len T.z_len PySem.boot_len (av_cons (ev_var 0) av_nil) (len_tup ⟨rfl, rfl⟩)) ev_int (eq_int ⟨rfl, rfl⟩)) (fun hb1 => (pv_or1 (tv_not (tv_val (ev_callB call_isi T.z_isinstance PyProof.Rows.boot_isinstance (av_cons (ev_ix ix_seq (fun _ _ => rfl) (ev_var 0) ev_int (ix_tup' (j := 0) (by walk_at "sd") (by walk_at "sd") ⟨rfl, rfl⟩)) (av_cons (ev_ty T.z_str b_str) av_nil)) (isi_str rfl ⟨rfl, rfl⟩))))))))))).gt ?_
    refine ⟨by walk_at "no", fun _ => ?_⟩
    refine gb_nil ?_
    refine gb_cons (gs_par 1 2 rfl ?_ nd)
    refine ga_cons ?_
    refine ((ev_ix ix_seq (fun _ _ => rfl) (ev_var 0) ev_int (ix_tup' (j := 0) (by walk_at "sd") (by walk_at "sd") ⟨rfl, rfl⟩))).ge ?_
    refine ga_cons ?_
    refine ge_slice sl_tupA ?_
    refine ((ev_var 0)).ge ?_
    refine go_some ?_
    refine (ev_int).ge ?_
    refine ⟨_, rfl, ?_⟩
    refine go_none ?_
    refine (sl_tupD ?_)
    refine ga_nil ?_
    refine ⟨_, _, rfl, ?_⟩
    rw [show cutD [.str "pay", .bl b] (some 1) none = [.bl b] from rfl]
    refine gb_cons (gs_if ?_)
    refine ((tv_cmp (op_inU hu5) rfl (ev_var 1) (ev_tup (av_cons ev_str (av_cons ev_str av_nil))) (in_strs rfl ⟨rfl, rfl⟩))).gt ?_
    refine ⟨by walk_at "no", fun _ => ?_⟩
    refine gb_nil ?_
    refine gb_cons (gs_if ?_)
    refine ((tv_cmp (op_eqU hu) (nomark _) (ev_var 1) ev_str (eq_str ⟨rfl, rfl⟩))).gt ?_
    refine ⟨fun _ => ?_, by walk_at "no"⟩
    refine gb_one (gs_ret ?_)
    refine ((ev_and (ev_cmp (op_eqU hu) (nomark _) (ev_callB call_len T.z_len PySem.boot_len (av_cons (ev_var 2) av_nil) (len_tup ⟨rfl, rfl⟩)) ev_int (eq_int ⟨rfl, rfl⟩)) (fun hb3 => (ev_one (ev_callB call_isi T.z_isinstance PyProof.Rows.boot_isinstance (av_cons (ev_ix ix_seq (fun _ _ => rfl) (ev_var 2) ev_int (ix_tup' (j := 0) (by walk_at "sd") (by walk_at "sd") ⟨rfl, rfl⟩)) (av_cons (ev_ty T.z_bool b_bool) av_nil)) (isi_bool rfl ⟨rfl, rfl⟩)))))).ge ?_
    exact hk

theorem sc_check_history : FnScope ["prices", "deeds", "index", "deed"] ["prices", "deeds"] (defScope s_check_history) := ⟨rfl, rfl, rfl, by decide +kernel, rfl, by decide +kernel, by decide +kernel⟩
theorem ok_check_history {f : Addr} {fd : FuncData}  (F : Fun K "check_history" "check_history" s_check_history f fd) (T : Txt K mg) (F_are_prices : FnD P w K mg base 4 "are_prices" [] R_are_prices) (F_is_deed : FnD P w K mg base 3 "is_deed" [] R_is_deed) : FnOk P w K mg base (L2.CX P w) 5 f fd ["prices", "deeds"] (spD K R_check_history) := by
  have nd := sc_check_history.nd
  refine fn_ok F sc_check_history (fun ds M k kx H0 => by obtain ⟨m, dl, rfl, rfl, om, od, hk⟩ := H0; rfl) fun cdv A outer s H E ds M k kx hr H0 => ?_
  obtain ⟨m, dl, rfl, rfl, om, od, hk⟩ := H0
  have hu := hr.units
  have hu5 := units65 hr
  refine gb_cons (gs_if ?_)
  refine gt_not ?_
  refine gt_val ?_
  refine ge_call F_are_prices hr (by decide) ?_
  refine ((av_cons (ev_var 0) av_nil)).ga ?_
  refine ⟨[], by simp, by simp, m, rfl, rfl, om, ⟨rfl, ?_⟩⟩
  refine ⟨_, rfl, ?_⟩
  refine ⟨by walk_at "no", fun _ => ?_⟩
  refine gb_nil ?_
  refine gb_cons (gs_if ?_)
  refine ((tv_not (tv_val (ev_callB call_isi T.z_isinstance PyProof.Rows.boot_isinstance (av_cons (ev_var 1) (av_cons (ev_ty T.z_list b_list) av_nil)) (isi_lst rfl ⟨rfl, rfl⟩))))).gt ?_
  refine ⟨by walk_at "no", fun _ => ?_⟩
  refine gb_nil ?_
  refine gb_cons (gs_for (passes_of rfl) rfl ?_)
  refine gi_enum T.z_enumerate ?_
  refine ((av_cons (ev_var 1) av_nil)).ga ?_
  refine ⟨_, rfl, ?_⟩
  refine ⟨fun i Γ M => ∃ (y z : Option D), Γ = [some (dPr m), some (.lst (dl.map dDd)), y, z] ∧ M = [], ⟨none, none, rfl, rfl⟩, fun _ _ _ _ _ => trivial, fun i d Γ M hi hit hP => ?_, fun Γ M hP => ?_⟩
  · obtain ⟨y, z, rfl, rfl⟩ := hP
    obtain ⟨e5, he5, rfl⟩ := hit
    obtain ⟨d5, hd5, rfl⟩ := get_map he5
    refine gg_tup rfl ?_ rfl
    refine ggs_cons ?_
    refine gg_name 2 ?_ nd
    refine ggs_cons ?_
    refine gg_name 3 ?_ nd
    refine ggs_nil ?_
    refine gb_cons (gs_if ?_)
    refine gt_not ?_
    refine gt_val ?_
    refine ge_call F_is_deed hr (by decide) ?_
    refine ((av_cons (ev_var 3) av_nil)).ga ?_
    refine ⟨[], by simp, by simp, d5, rfl, rfl, od d5 (List.mem_of_getElem? hd5), ⟨rfl, ?_⟩⟩
    refine ⟨_, rfl, ?_⟩
    refine ⟨by walk_at "no", fun _ => ?_⟩
    refine gb_nil ?_
    refine gb_nil ?_
    exact ⟨_, _, rfl, rfl⟩
  · obtain ⟨y, z, rfl, rfl⟩ := hP
    refine gb_nil ?_
    exact hk
theorem sc_Cart_init : FnScope ["self", "book", "prices", "item", "amount"] ["self", "book", "prices"] (defScope s_Cart_init) := ⟨rfl, rfl, rfl, by decide +kernel, rfl, by decide +kernel, by decide +kernel⟩
theorem ok_Cart_init {f : Addr} {fd : FuncData} {CC CI : Addr} (F : Fun K "__init__" "Cart.__init__" s_Cart_init f fd) (T : Txt K mg) (clC : Cls K CC) (nc_design : NoAttr K CC "design") (nc_amounts : NoAttr K CC "amounts") (nc_rows : NoAttr K CC "rows") (nc_is_failed : NoAttr K CC "is_failed") (nc_spent : NoAttr K CC "spent") (nc_times_asked : NoAttr K CC "times_asked") : FnOk P w K mg base (L2.CX P w) 1 f fd ["self", "book", "prices"] (spD K (R_Cart_init CC CI)) := by
  have nd := sc_Cart_init.nd
  refine fn_ok F sc_Cart_init (fun ds M k kx H0 => by obtain ⟨x, g, m, rfl, rfl, ndm, hlm, hk⟩ := H0; rfl) fun cdv A outer s H E ds M k kx hr H0 => ?_
  obtain ⟨x, g, m, rfl, rfl, ndm, hlm, hk⟩ := H0
  have hu := hr.units
  have hu5 := units65 hr
  refine gb_cons (gs_fld ?_)
  refine ((ev_var 1)).ge ?_
  refine ((ev_var 0)).ge ?_
  refine ⟨0, _, _, _, _, _, _, rfl, rfl, clC, nc_design, by decide, .new (by decide), ?_⟩
  refine gb_cons (gs_fld ?_)
  refine ge_dc [("item", 3), ("amount", 4)] rfl nd (blkOk_by (by show blkC ["self", "book", "prices", "item", "amount"] (defScope s_Cart_init) _ _ = true; decide +kernel)) ?_
  refine gi_tup ((ev_var 2).ge ⟨_, rfl, ?_⟩)
  refine ⟨fun i ks ds M => ks = Am.ks (m.take i) ∧ ds = Am.ds (m.take i) ∧ M = [(x, .ins CC ["design"] [g])], ⟨rfl, rfl, rfl⟩, fun _ _ _ _ _ _ => trivial, fun i d ks ds M hi hit hP => ?_, fun ks ds M hP q_am => ?_⟩
  · obtain ⟨rfl, rfl, rfl⟩ := hP
    obtain ⟨p, hp, rfl⟩ := get_map hit
    have hi2 : i < m.length := by simpa using hi
    intro _ _ _ _ _
    refine cg_tup rfl ?_ rfl
    refine cgs_cons ?_
    refine cg_name 3 ?_ nd
    refine cgs_cons ?_
    refine cg_name 4 ?_ nd
    refine cgs_nil ?_
    intro _ _ _ _ _
    refine gts_nil ⟨fun _ => ?_, by walk_at "no"⟩
    intro _ _ _ _ _
    refine (ev_var 3).ge ?_
    intro _ _ _ _ _
    refine (ev_var 4).ge ?_
    exact ⟨.inr p.1, _, _, rfl, by simp [Am.ks]; omega, .new (am_new ndm hp), am_take_ks hp, am_take_ds hp, rfl⟩
  obtain ⟨rfl, rfl, rfl⟩ := hP
  rw [List.length_map, List.take_length]
  refine ((ev_var 0)).ge ?_
  refine ⟨0, _, _, _, _, _, _, rfl, rfl, clC, nc_amounts, by decide, .new (by decide), ?_⟩
  refine gb_cons (gs_fld ?_)
  refine ge_lstM ?_
  refine (av_nil).ga ?_
  refine ⟨by walk_at "sd", fun q_rows => ?_⟩
  refine ((ev_var 0)).ge ?_
  refine ⟨0, _, _, _, _, _, _, rfl, rfl, clC, nc_rows, by decide, .new (by decide), ?_⟩
  refine gb_cons (gs_fld ?_)
  refine (ev_bl).ge ?_
  refine ((ev_var 0)).ge ?_
  refine ⟨0, _, _, _, _, _, _, rfl, rfl, clC, nc_is_failed, by decide, .new (by decide), ?_⟩
  refine gb_cons (gs_fld ?_)
  refine (ev_int).ge ?_
  refine ((ev_var 0)).ge ?_
  refine ⟨0, _, _, _, _, _, _, rfl, rfl, clC, nc_spent, by decide, .new (by decide), ?_⟩
  refine gb_cons (gs_fld ?_)
  refine (ev_int).ge ?_
  refine ((ev_var 0)).ge ?_
  refine ⟨0, _, _, _, _, _, _, rfl, rfl, clC, nc_times_asked, by decide, .new (by decide), ?_⟩
  refine gb_nil ?_
  exact hk _ _
theorem sc_Cart_row_of : FnScope ["self", "item", "row"] ["self", "item"] (defScope s_Cart_row_of) := ⟨rfl, rfl, rfl, by decide +kernel, rfl, by decide +kernel, by decide +kernel⟩
theorem ok_Cart_row_of {f : Addr} {fd : FuncData} {CC CI : Addr} (F : Fun K "row_of" "Cart.row_of" s_Cart_row_of f fd) (T : Txt K mg) (clC : Cls K CC) (nc_design : NoAttr K CC "design") (nc_amounts : NoAttr K CC "amounts") (nc_rows : NoAttr K CC "rows") (nc_is_failed : NoAttr K CC "is_failed") (nc_spent : NoAttr K CC "spent") (nc_times_asked : NoAttr K CC "times_asked") (clI : Cls K CI) (ni_item : NoAttr K CI "item") (ni_number : NoAttr K CI "number") (ni_kept : NoAttr K CI "kept") (ni_shown : NoAttr K CI "shown") (ni_greatest : NoAttr K CI "greatest") : FnOk P w K mg base (L2.CX P w) 1 f fd ["self", "item"] (spD K (R_Cart_row_of CC CI)) := by
  have nd := sc_Cart_row_of.nd
  refine fn_ok F sc_Cart_row_of (fun ds M k kx H0 => by obtain ⟨x, am, rw, g, c, rs, it, rfl, rfl, hk⟩ := H0; rfl) fun cdv A outer s H E ds M k kx hr H0 => ?_
  obtain ⟨x, am, rw, g, c, rs, it, rfl, rfl, hk⟩ := H0
  have hu := hr.units
  have hu5 := units65 hr
  refine gb_cons (gs_for (passes_of rfl) rfl ?_)
  refine gi_hdl ?_
  refine ge_fld 2 ?_
  refine ((ev_var 0)).ge ?_
  refine ⟨CC, _, _, _, clC, nc_rows, .inr ⟨0, _, rfl, rfl⟩, by decide, rfl, rfl, ?_⟩
  refine ⟨2, _, _, rfl, rfl, ?_⟩
  refine ⟨fun i Γ M => ∃ (y : Option D), Γ = [some (.hdl x), some (.str it), y] ∧ (∀ z ∈ rs.take i, z.2.item ≠ it) ∧ M = cartM CC CI x am rw g c rs, ⟨none, rfl, by simp, rfl⟩, fun i Γ M hi hP => by obtain ⟨_, _, _, rfl⟩ := hP; exact ⟨2, rfl⟩, fun i d Γ M hi hit hP => ?_, fun Γ M hP => ?_⟩
  · obtain ⟨y, rfl, hn, rfl⟩ := hP
    obtain ⟨p, hp, rfl⟩ := get_map hit
    refine gg_name 2 ?_ nd
    refine gb_cons (gs_if ?_)
    refine gt_cmp (op_eqU hu) (nomark _) ?_
    refine ge_fld 0 ?_
    refine ((ev_var 2)).ge ?_
    refine ⟨CI, _, _, _, clI, ni_item, .inr ⟨i + 3, _, rfl, row_at hp⟩, by decide, rfl, rfl, ?_⟩
    refine ((ev_var 1)).ge ?_
    refine (eq_str ⟨_, rfl, ?_⟩)
    refine ⟨fun hb1 => ?_, fun hb1 => ?_⟩
    · have hb1 := hb1
      refine gb_one (gs_ret ?_)
      refine ((ev_var 2)).ge ?_
      rw [findR_first hp (by simpa using hb1) hn] at hk
      exact hk
    · have hb1 := hb1
      refine gb_nil ?_
      refine gb_nil ?_
      exact ⟨_, rfl, fun z hz => (mem_take_succ hp hz).elim (hn z) fun e => by rw [e]; simpa using hb1, rfl⟩
  · obtain ⟨y, rfl, hn, rfl⟩ := hP
    rw [List.length_map, List.take_length] at hn
    refine gb_one (gs_ret ?_)
    refine (ev_non).ge ?_
    rw [rowD_none hn] at hk
    exact hk
theorem sc_Cart_check : FnScope ["self", "deed", "index"] ["self", "deed", "index"] (defScope s_Cart_check) := ⟨rfl, rfl, rfl, by decide +kernel, rfl, by decide +kernel, by decide +kernel⟩
theorem ok_Cart_check {f : Addr} {fd : FuncData} {CC CI : Addr} (F : Fun K "check" "Cart.check" s_Cart_check f fd) (T : Txt K mg) (F_Cart_row_of : MtD P w K mg base 1 CC "row_of" [] (R_Cart_row_of CC CI)) (clC : Cls K CC) (nc_design : NoAttr K CC "design") (nc_amounts : NoAttr K CC "amounts") (nc_rows : NoAttr K CC "rows") (nc_is_failed : NoAttr K CC "is_failed") (nc_spent : NoAttr K CC "spent") (nc_times_asked : NoAttr K CC "times_asked") : FnOk P w K mg base (L2.CX P w) 2 f fd ["self", "deed", "index"] (spD K (R_Cart_check CC CI)) := by
  have nd := sc_Cart_check.nd
  refine fn_ok F sc_Cart_check (fun ds M k kx H0 => by obtain ⟨x, am, rw, g, c, rs, d, n, rfl, rfl, okd, hpl, hk⟩ := H0; rfl) fun cdv A outer s H E ds M k kx hr H0 => ?_
  obtain ⟨x, am, rw, g, c, rs, d, n, rfl, rfl, okd, hpl, hk⟩ := H0
  have hu := hr.units
  have hu5 := units65 hr
  cases d with
  | price i a =>
    obtain ⟨oi, a0, a1⟩ := okd
    have hg := hpl
    obtain ⟨pr, hg⟩ := Option.isSome_iff_exists.mp hg
    refine gb_cons (gs_if ?_)
    refine gt_bool ?_
    refine gp_and ?_
    refine ((tv_cmp (op_inU hu5) rfl (ev_ix ix_seq (fun _ _ => rfl) (ev_var 1) ev_int (ix_tup' (j := 0) (by walk_at "sd") (by walk_at "sd") ⟨rfl, rfl⟩)) (ev_tup (av_cons ev_str (av_cons ev_str (av_cons ev_str av_nil)))) (in_strs rfl ⟨rfl, rfl⟩))).gt ?_
    refine ⟨fun _ => ?_, by walk_at "no"⟩
    refine gp_and1 ?_
    refine gt_dnotin (Nat.lt_of_le_of_lt (Nat.add_le_add_left (by decide : 1 ≤ 65) _) hu5) ?_
    refine ((ev_ix ix_seq (fun _ _ => rfl) (ev_var 1) ev_int (ix_tup' (j := 1) (by walk_at "sd") (by walk_at "sd") ⟨rfl, rfl⟩))).ge ?_
    refine ge_fld 1 ?_
    refine ((ev_var 0)).ge ?_
    refine ⟨CC, _, _, _, clC, nc_amounts, .inr ⟨0, _, rfl, rfl⟩, by decide, rfl, rfl, ?_⟩
    refine ⟨_, _, .inr i, .hdl 1 rfl, rfl, ?_⟩
    rw [am_val]
    refine ⟨by walk_at "no", fun _ => ?_⟩
    refine gb_nil ?_
    refine gb_cons (gs_if ?_)
    refine gt_bool ?_
    refine gp_and ?_
    refine ((tv_cmp (op_eqU hu) (nomark _) (ev_ix ix_seq (fun _ _ => rfl) (ev_var 1) ev_int (ix_tup' (j := 0) (by walk_at "sd") (by walk_at "sd") ⟨rfl, rfl⟩)) ev_str (eq_str ⟨rfl, rfl⟩))).gt ?_
    refine ⟨by walk_at "no", fun _ => ?_⟩
    refine ⟨by walk_at "no", fun _ => ?_⟩
    refine gb_nil ?_
    refine gb_nil ?_
    exact hk
  | put i n =>
    obtain ⟨oi, n0, n1⟩ := okd
    have hg := hpl
    obtain ⟨pr, hg⟩ := Option.isSome_iff_exists.mp hg
    refine gb_cons (gs_if ?_)
    refine gt_bool ?_
    refine gp_and ?_
    refine ((tv_cmp (op_inU hu5) rfl (ev_ix ix_seq (fun _ _ => rfl) (ev_var 1) ev_int (ix_tup' (j := 0) (by walk_at "sd") (by walk_at "sd") ⟨rfl, rfl⟩)) (ev_tup (av_cons ev_str (av_cons ev_str (av_cons ev_str av_nil)))) (in_strs rfl ⟨rfl, rfl⟩))).gt ?_
    refine ⟨fun _ => ?_, by walk_at "no"⟩
    refine gp_and1 ?_
    refine gt_dnotin (Nat.lt_of_le_of_lt (Nat.add_le_add_left (by decide : 1 ≤ 65) _) hu5) ?_
    refine ((ev_ix ix_seq (fun _ _ => rfl) (ev_var 1) ev_int (ix_tup' (j := 1) (by walk_at "sd") (by walk_at "sd") ⟨rfl, rfl⟩))).ge ?_
    refine ge_fld 1 ?_
    refine ((ev_var 0)).ge ?_
    refine ⟨CC, _, _, _, clC, nc_amounts, .inr ⟨0, _, rfl, rfl⟩, by decide, rfl, rfl, ?_⟩
    refine ⟨_, _, .inr i, .hdl 1 rfl, rfl, ?_⟩
    rw [am_val]
    refine ⟨by walk_at "no", fun _ => ?_⟩
    refine gb_nil ?_
    refine gb_cons (gs_if ?_)
    refine gt_bool ?_
    refine gp_and ?_
    refine ((tv_cmp (op_eqU hu) (nomark _) (ev_ix ix_seq (fun _ _ => rfl) (ev_var 1) ev_int (ix_tup' (j := 0) (by walk_at "sd") (by walk_at "sd") ⟨rfl, rfl⟩)) ev_str (eq_str ⟨rfl, rfl⟩))).gt ?_
    refine ⟨by walk_at "no", fun _ => ?_⟩
    refine ⟨by walk_at "no", fun _ => ?_⟩
    refine gb_nil ?_
    refine gb_nil ?_
    exact hk
  | alter i n =>
    obtain ⟨oi, n0, n1⟩ := okd
    obtain ⟨hg, hf⟩ := hpl
    rw [← findR_L] at hf
    obtain ⟨q, hq⟩ := Option.isSome_iff_exists.mp hf
    obtain ⟨p, hp, hpi⟩ := findR_some hq
    obtain ⟨pr, hg⟩ := Option.isSome_iff_exists.mp hg
    refine gb_cons (gs_if ?_)
    refine gt_bool ?_
    refine gp_and ?_
    refine ((tv_cmp (op_inU hu5) rfl (ev_ix ix_seq (fun _ _ => rfl) (ev_var 1) ev_int (ix_tup' (j := 0) (by walk_at "sd") (by walk_at "sd") ⟨rfl, rfl⟩)) (ev_tup (av_cons ev_str (av_cons ev_str (av_cons ev_str av_nil)))) (in_strs rfl ⟨rfl, rfl⟩))).gt ?_
    refine ⟨fun _ => ?_, by walk_at "no"⟩
    refine gp_and1 ?_
    refine gt_dnotin (Nat.lt_of_le_of_lt (Nat.add_le_add_left (by decide : 1 ≤ 65) _) hu5) ?_
    refine ((ev_ix ix_seq (fun _ _ => rfl) (ev_var 1) ev_int (ix_tup' (j := 1) (by walk_at "sd") (by walk_at "sd") ⟨rfl, rfl⟩))).ge ?_
    refine ge_fld 1 ?_
    refine ((ev_var 0)).ge ?_
    refine ⟨CC, _, _, _, clC, nc_amounts, .inr ⟨0, _, rfl, rfl⟩, by decide, rfl, rfl, ?_⟩
    refine ⟨_, _, .inr i, .hdl 1 rfl, rfl, ?_⟩
    rw [am_val]
    refine ⟨by walk_at "no", fun _ => ?_⟩
    refine gb_nil ?_
    refine gb_cons (gs_if ?_)
    refine gt_bool ?_
    refine gp_and ?_
    refine ((tv_cmp (op_eqU hu) (nomark _) (ev_ix ix_seq (fun _ _ => rfl) (ev_var 1) ev_int (ix_tup' (j := 0) (by walk_at "sd") (by walk_at "sd") ⟨rfl, rfl⟩)) ev_str (eq_str ⟨rfl, rfl⟩))).gt ?_
    refine ⟨fun _ => ?_, by walk_at "no"⟩
    refine gp_and1 ?_
    refine gt_cmp op_isN (nomark _) ?_
    refine ge_methF F_Cart_row_of hr (by decide) ?_
    refine ((ev_var 0)).ge ?_
    refine ⟨ctF, _, .inr ⟨0, x, rfl, rfl⟩, by decide, ?_⟩
    refine ((av_cons (ev_ix ix_seq (fun _ _ => rfl) (ev_var 1) ev_int (ix_tup' (j := 1) (by walk_at "sd") (by walk_at "sd") ⟨rfl, rfl⟩)) av_nil)).ga ?_
    refine Hand.all ⟨x, am, rw, g, c, rs, i, rfl, rfl, ?_⟩
    rw [rowD_some hq hp]
    refine (ev_non).ge ?_
    refine (is_non ⟨_, rfl, ?_⟩)
    refine ⟨by walk_at "no", fun _ => ?_⟩
    refine gb_nil ?_
    refine gb_nil ?_
    exact hk
  | look  =>
    refine gb_cons (gs_if ?_)
    refine gt_bool ?_
    refine gp_and ?_
    refine ((tv_cmp (op_inU hu5) rfl (ev_ix ix_seq (fun _ _ => rfl) (ev_var 1) ev_int (ix_tup' (j := 0) (by walk_at "sd") (by walk_at "sd") ⟨rfl, rfl⟩)) (ev_tup (av_cons ev_str (av_cons ev_str (av_cons ev_str av_nil)))) (in_strs rfl ⟨rfl, rfl⟩))).gt ?_
    refine ⟨by walk_at "no", fun _ => ?_⟩
    refine ⟨by walk_at "no", fun _ => ?_⟩
    refine gb_nil ?_
    refine gb_cons (gs_if ?_)
    refine gt_bool ?_
    refine gp_and ?_
    refine ((tv_cmp (op_eqU hu) (nomark _) (ev_ix ix_seq (fun _ _ => rfl) (ev_var 1) ev_int (ix_tup' (j := 0) (by walk_at "sd") (by walk_at "sd") ⟨rfl, rfl⟩)) ev_str (eq_str ⟨rfl, rfl⟩))).gt ?_
    refine ⟨by walk_at "no", fun _ => ?_⟩
    refine ⟨by walk_at "no", fun _ => ?_⟩
    refine gb_nil ?_
    refine gb_nil ?_
    exact hk
  | back  =>
    refine gb_cons (gs_if ?_)
    refine gt_bool ?_
    refine gp_and ?_
    refine ((tv_cmp (op_inU hu5) rfl (ev_ix ix_seq (fun _ _ => rfl) (ev_var 1) ev_int (ix_tup' (j := 0) (by walk_at "sd") (by walk_at "sd") ⟨rfl, rfl⟩)) (ev_tup (av_cons ev_str (av_cons ev_str (av_cons ev_str av_nil)))) (in_strs rfl ⟨rfl, rfl⟩))).gt ?_
    refine ⟨by walk_at "no", fun _ => ?_⟩
    refine ⟨by walk_at "no", fun _ => ?_⟩
    refine gb_nil ?_
    refine gb_cons (gs_if ?_)
    refine gt_bool ?_
    refine gp_and ?_
    refine ((tv_cmp (op_eqU hu) (nomark _) (ev_ix ix_seq (fun _ _ => rfl) (ev_var 1) ev_int (ix_tup' (j := 0) (by walk_at "sd") (by walk_at "sd") ⟨rfl, rfl⟩)) ev_str (eq_str ⟨rfl, rfl⟩))).gt ?_
    refine ⟨by walk_at "no", fun _ => ?_⟩
    refine ⟨by walk_at "no", fun _ => ?_⟩
    refine gb_nil ?_
    refine gb_nil ?_
    exact hk
  | pay b =>
    refine gb_cons (gs_if ?_)
    refine gt_bool ?_
    refine gp_and ?_
    refine ((tv_cmp (op_inU hu5) rfl (ev_ix ix_seq (fun _ _ => rfl) (ev_var 1) ev_int (ix_tup' (j := 0) (by walk_at "sd") (by walk_at "sd") ⟨rfl, rfl⟩)) (ev_tup (av_cons ev_str (av_cons ev_str (av_cons ev_str av_nil)))) (in_strs rfl ⟨rfl, rfl⟩))).gt ?_
    refine ⟨by walk_at "no", fun _ => ?_⟩
    refine ⟨by walk_at "no", fun _ => ?_⟩
    refine gb_nil ?_
    refine gb_cons (gs_if ?_)
    refine gt_bool ?_
    refine gp_and ?_
    refine ((tv_cmp (op_eqU hu) (nomark _) (ev_ix ix_seq (fun _ _ => rfl) (ev_var 1) ev_int (ix_tup' (j := 0) (by walk_at "sd") (by walk_at "sd") ⟨rfl, rfl⟩)) ev_str (eq_str ⟨rfl, rfl⟩))).gt ?_
    refine ⟨by walk_at "no", fun _ => ?_⟩
    refine ⟨by walk_at "no", fun _ => ?_⟩
    refine gb_nil ?_
    refine gb_nil ?_
    exact hk

theorem sc_Cart_touched : FnScope ["self", "deed", "row", "other"] ["self", "deed"] (defScope s_Cart_touched) := ⟨rfl, rfl, rfl, by decide +kernel, rfl, by decide +kernel, by decide +kernel⟩
theorem ok_Cart_touched {f : Addr} {fd : FuncData} {CC CI : Addr} (F : Fun K "touched" "Cart.touched" s_Cart_touched f fd) (T : Txt K mg) (F_Cart_row_of : MtD P w K mg base 1 CC "row_of" [] (R_Cart_row_of CC CI)) (clC : Cls K CC) (nc_design : NoAttr K CC "design") (nc_amounts : NoAttr K CC "amounts") (nc_rows : NoAttr K CC "rows") (nc_is_failed : NoAttr K CC "is_failed") (nc_spent : NoAttr K CC "spent") (nc_times_asked : NoAttr K CC "times_asked") (clI : Cls K CI) (ni_item : NoAttr K CI "item") (ni_number : NoAttr K CI "number") (ni_kept : NoAttr K CI "kept") (ni_shown : NoAttr K CI "shown") (ni_greatest : NoAttr K CI "greatest") (F_CartLine_init : MkD P w K mg base 1 CI "CartLine" [] (R_CartLine_init CI)) : FnOk P w K mg base (L2.CX P w) 3 f fd ["self", "deed"] (spD K (R_Cart_touched CC CI)) := by
  have nd := sc_Cart_touched.nd
  refine fn_ok F sc_Cart_touched (fun ds M k kx H0 => by obtain ⟨x, am, rw, g, c, rs, d, rfl, rfl, okd, hpl, hnp, hlen, hk⟩ := H0; rfl) fun cdv A outer s H E ds M k kx hr H0 => ?_
  obtain ⟨x, am, rw, g, c, rs, d, rfl, rfl, okd, hpl, hnp, hlen, hk⟩ := H0
  have hu := hr.units
  have hu5 := units65 hr
  cases d with
  | price i a =>
    obtain ⟨oi, a0, a1⟩ := okd
    exact absurd hnp (by simp [wordD])
  | put i n =>
    obtain ⟨oi, n0, n1⟩ := okd
    have hg := hpl
    obtain ⟨pr, hg⟩ := Option.isSome_iff_exists.mp hg
    cases hq : findR i rs with
    | none =>
      rw [findR_none_iff] at hq
      refine gb_cons (gs_if ?_)
      refine ((tv_cmp (op_notInU hu5) rfl (ev_ix ix_seq (fun _ _ => rfl) (ev_var 1) ev_int (ix_tup' (j := 0) (by walk_at "sd") (by walk_at "sd") ⟨rfl, rfl⟩)) (ev_tup (av_cons ev_str (av_cons ev_str av_nil))) (ni_strs rfl ⟨rfl, rfl⟩))).gt ?_
      refine ⟨by walk_at "no", fun _ => ?_⟩
      refine gb_nil ?_
      refine gb_cons (gs_set 2 ?_ nd)
      refine ge_methF F_Cart_row_of hr (by decide) ?_
      refine ((ev_var 0)).ge ?_
      refine ⟨ctF, _, .inr ⟨0, x, rfl, rfl⟩, by decide, ?_⟩
      refine ((av_cons (ev_ix ix_seq (fun _ _ => rfl) (ev_var 1) ev_int (ix_tup' (j := 1) (by walk_at "sd") (by walk_at "sd") ⟨rfl, rfl⟩)) av_nil)).ga ?_
      refine Hand.all ⟨x, am, rw, g, c, rs, i, rfl, rfl, ?_⟩
      rw [rowD_none hq]
      refine gb_cons (gs_if ?_)
      refine ((tv_cmp (op_eqU hu) (nomark _) (ev_ix ix_seq (fun _ _ => rfl) (ev_var 1) ev_int (ix_tup' (j := 0) (by walk_at "sd") (by walk_at "sd") ⟨rfl, rfl⟩)) ev_str (eq_str ⟨rfl, rfl⟩))).gt ?_
      refine ⟨by walk_at "no", fun _ => ?_⟩
      refine gb_cons (gs_if ?_)
      refine ((tv_cmp op_isN (nomark _) (ev_var 2) ev_non (is_non ⟨rfl, rfl⟩))).gt ?_
      refine ⟨fun _ => ?_, by walk_at "no"⟩
      refine gb_cons (gs_set 2 ?_ nd)
      refine ge_makeF F_CartLine_init hr (by decide) ?_
      refine ga_cons ?_
      refine ((ev_ix ix_seq (fun _ _ => rfl) (ev_var 1) ev_int (ix_tup' (j := 1) (by walk_at "sd") (by walk_at "sd") ⟨rfl, rfl⟩))).ge ?_
      refine ga_cons ?_
      refine ((ev_ix ix_seq (fun _ _ => rfl) (ev_var 1) ev_int (ix_tup' (j := 2) (by walk_at "sd") (by walk_at "sd") ⟨rfl, rfl⟩))).ge ?_
      refine ga_cons ?_
      refine ge_dget (Nat.lt_of_le_of_lt (Nat.add_le_add_left (by decide : 1 ≤ 65) _) hu5) (fun _ _ => rfl) ?_
      refine ge_fld 1 ?_
      refine ((ev_var 0)).ge ?_
      refine ⟨CC, _, _, _, clC, nc_amounts, .inr ⟨0, _, rfl, rfl⟩, by decide, rfl, rfl, ?_⟩
      refine ((ev_ix ix_seq (fun _ _ => rfl) (ev_var 1) ev_int (ix_tup' (j := 1) (by walk_at "sd") (by walk_at "sd") ⟨rfl, rfl⟩))).ge ?_
      refine ⟨_, _, .inr i, .int pr, .hdl 1 rfl, rfl, by rw [am_val, hg]; rfl, ?_⟩
      refine ga_nil ?_
      refine fun xl => Hand.of [(xl, .ins CI [] [])] (cartM CC CI x am rw g c rs) (.refl _) ⟨xl, i, n, pr, rfl, rfl, ⟨rfl, ?_⟩⟩
      refine gb_cons (gs_expr ?_)
      refine ge_append ?_
      refine ge_fld 2 ?_
      refine ((ev_var 0)).ge ?_
      refine ⟨CC, _, _, _, clC, nc_rows, .inr ⟨0, _, rfl, rfl⟩, by decide, rfl, rfl, ?_⟩
      refine ⟨⟨2, _, _, rfl, rfl⟩, ?_⟩
      refine ((ev_var 2)).ge ?_
      refine ⟨2, _, _, rfl, rfl, by walk_at "sd", ?_⟩
      refine gb_nil ?_
      refine gb_nil ?_
      refine gb_one (gs_ret ?_)
      refine ((ev_lst (av_cons (ev_var 2) av_nil))).ge ?_
      exact touch_put_new hq hg hk
    | some q =>
      obtain ⟨p, hp, hpi⟩ := findR_some hq
      refine gb_cons (gs_if ?_)
      refine ((tv_cmp (op_notInU hu5) rfl (ev_ix ix_seq (fun _ _ => rfl) (ev_var 1) ev_int (ix_tup' (j := 0) (by walk_at "sd") (by walk_at "sd") ⟨rfl, rfl⟩)) (ev_tup (av_cons ev_str (av_cons ev_str av_nil))) (ni_strs rfl ⟨rfl, rfl⟩))).gt ?_
      refine ⟨by walk_at "no", fun _ => ?_⟩
      refine gb_nil ?_
      refine gb_cons (gs_set 2 ?_ nd)
      refine ge_methF F_Cart_row_of hr (by decide) ?_
      refine ((ev_var 0)).ge ?_
      refine ⟨ctF, _, .inr ⟨0, x, rfl, rfl⟩, by decide, ?_⟩
      refine ((av_cons (ev_ix ix_seq (fun _ _ => rfl) (ev_var 1) ev_int (ix_tup' (j := 1) (by walk_at "sd") (by walk_at "sd") ⟨rfl, rfl⟩)) av_nil)).ga ?_
      refine Hand.all ⟨x, am, rw, g, c, rs, i, rfl, rfl, ?_⟩
      rw [rowD_some hq hp]
      refine gb_cons (gs_if ?_)
      refine ((tv_cmp (op_eqU hu) (nomark _) (ev_ix ix_seq (fun _ _ => rfl) (ev_var 1) ev_int (ix_tup' (j := 0) (by walk_at "sd") (by walk_at "sd") ⟨rfl, rfl⟩)) ev_str (eq_str ⟨rfl, rfl⟩))).gt ?_
      refine ⟨by walk_at "no", fun _ => ?_⟩
      refine gb_cons (gs_if ?_)
      refine ((tv_cmp op_isN (nomark _) (ev_var 2) ev_non (is_non ⟨rfl, rfl⟩))).gt ?_
      refine ⟨by walk_at "no", fun _ => ?_⟩
      refine gb_cons (gs_fldaug in_addU ?_)
      refine ((ev_var 2)).ge ?_
      refine ⟨CI, _, _, 1, _, .inr ⟨q + 3, _, rfl, row_at hp⟩, clI, ni_number, by decide, rfl, rfl, ?_⟩
      refine ((ev_ix ix_seq (fun _ _ => rfl) (ev_var 1) ev_int (ix_tup' (j := 2) (by walk_at "sd") (by walk_at "sd") ⟨rfl, rfl⟩))).ge ?_
      refine aug_add ⟨q + 3, _, _, _, _, _, rfl, row_at hp, by decide, .old 1 (by decide) rfl, ?_⟩
      refine gb_nil ?_
      refine gb_nil ?_
      refine gb_one (gs_ret ?_)
      refine ((ev_lst (av_cons (ev_var 2) av_nil))).ge ?_
      exact touch_put_old hq hp hk
  | alter i n =>
    obtain ⟨oi, n0, n1⟩ := okd
    obtain ⟨hg, hf⟩ := hpl
    rw [← findR_L] at hf
    obtain ⟨q, hq⟩ := Option.isSome_iff_exists.mp hf
    obtain ⟨p, hp, hpi⟩ := findR_some hq
    obtain ⟨pr, hg⟩ := Option.isSome_iff_exists.mp hg
    by_cases hn0 : n = 0
    · subst hn0
      refine gb_cons (gs_if ?_)
      refine ((tv_cmp (op_notInU hu5) rfl (ev_ix ix_seq (fun _ _ => rfl) (ev_var 1) ev_int (ix_tup' (j := 0) (by walk_at "sd") (by walk_at "sd") ⟨rfl, rfl⟩)) (ev_tup (av_cons ev_str (av_cons ev_str av_nil))) (ni_strs rfl ⟨rfl, rfl⟩))).gt ?_
      refine ⟨by walk_at "no", fun _ => ?_⟩
      refine gb_nil ?_
      refine gb_cons (gs_set 2 ?_ nd)
      refine ge_methF F_Cart_row_of hr (by decide) ?_
      refine ((ev_var 0)).ge ?_
      refine ⟨ctF, _, .inr ⟨0, x, rfl, rfl⟩, by decide, ?_⟩
      refine ((av_cons (ev_ix ix_seq (fun _ _ => rfl) (ev_var 1) ev_int (ix_tup' (j := 1) (by walk_at "sd") (by walk_at "sd") ⟨rfl, rfl⟩)) av_nil)).ga ?_
      refine Hand.all ⟨x, am, rw, g, c, rs, i, rfl, rfl, ?_⟩
      rw [rowD_some hq hp]
      refine gb_cons (gs_if ?_)
      refine ((tv_cmp (op_eqU hu) (nomark _) (ev_ix ix_seq (fun _ _ => rfl) (ev_var 1) ev_int (ix_tup' (j := 0) (by walk_at "sd") (by walk_at "sd") ⟨rfl, rfl⟩)) ev_str (eq_str ⟨rfl, rfl⟩))).gt ?_
      refine ⟨fun _ => ?_, by walk_at "no"⟩
      refine gb_cons (gs_fld ?_)
      refine ((ev_ix ix_seq (fun _ _ => rfl) (ev_var 1) ev_int (ix_tup' (j := 2) (by walk_at "sd") (by walk_at "sd") ⟨rfl, rfl⟩))).ge ?_
      refine ((ev_var 2)).ge ?_
      refine ⟨q + 3, _, _, _, _, _, _, rfl, row_at hp, clI, ni_number, by decide, .old 1 (by decide) rfl, ?_⟩
      refine gb_cons (gs_if ?_)
      refine ((tv_cmp (op_eqU hu) (nomark _) (ev_ix ix_seq (fun _ _ => rfl) (ev_var 1) ev_int (ix_tup' (j := 2) (by walk_at "sd") (by walk_at "sd") ⟨rfl, rfl⟩)) ev_int (eq_int ⟨rfl, rfl⟩))).gt ?_
      refine ⟨fun _ => ?_, by walk_at "no"⟩
      refine gb_cons (gs_fld ?_)
      refine ge_lcM [("other", 3)] rfl nd (blkOk_by (by show blkC ["self", "deed", "row", "other"] (defScope s_Cart_touched) _ _ = true; decide +kernel)) ?_
      refine gi_hdl ?_
      refine ge_fld 2 ?_
      refine ((ev_var 0)).ge ?_
      refine ⟨CC, _, _, _, clC, nc_rows, .inr ⟨0, _, rfl, rfl⟩, by decide, rfl, rfl, ?_⟩
      refine ⟨2, _, _, rfl, rfl, ?_⟩
      refine ⟨fun i0 acc M => acc = (((rs.set q (p.1, { p.2 with number := 0 })).take i0).filter fun p => !decide (p.2.item = i)).map hd1 ∧ M = (x, .ins CC ctF [g, .hdl am, .hdl rw, .bl c.failed, .int c.spent, .int c.asked]) :: (am, .dct c.am.ks c.am.ds) :: (rw, .lst (rs.map hd1)) :: ((rs.set q (p.1, { p.2 with number := 0 })).map (rowE CI)), ⟨rfl, by rw [← (row_set (CI := CI) (l := { p.2 with number := 0 }) hp).1]; rfl⟩, fun i0 acc M _ hP => by obtain ⟨_, rfl⟩ := hP; exact ⟨2, rfl⟩, fun i0 d acc M hi hit hP => ?_, fun acc M hP => ?_⟩
      · obtain ⟨rfl, rfl⟩ := hP
        rw [← (row_set (CI := CI) (l := { p.2 with number := 0 }) hp).2] at hit
        obtain ⟨z, hz, rfl⟩ := get_map hit
        have hl0 := (List.getElem?_eq_some_iff.mp hz).1
        intro _ _ _ _ _
        refine cg_name 3 ?_ nd
        intro _ _ _ _ _
        refine gts_one ?_
        refine gt_cmp (op_neU hu) (nomark _) ?_
        refine ge_fld 0 ?_
        refine ((ev_var 3)).ge ?_
        refine ⟨CI, _, _, _, clI, ni_item, .inr ⟨i0 + 3, _, rfl, row_at hz⟩, by decide, rfl, rfl, ?_⟩
        refine ((ev_ix ix_seq (fun _ _ => rfl) (ev_var 1) ev_int (ix_tup' (j := 1) (by walk_at "sd") (by walk_at "sd") ⟨rfl, rfl⟩))).ge ?_
        refine (ne_str ⟨_, rfl, ?_⟩)
        refine ⟨fun hif => ?_, fun hif => ?_⟩
        · intro _ _ _ _ _
          refine ((ev_var 3)).ge ?_
          exact ⟨by rw [List.length_map]; exact Nat.lt_of_le_of_lt (take_filter_len _ _ _) (by rw [List.length_set]; omega), by rw [take_filter_yes hz (by simpa using hif)]; simp, rfl⟩
        · exact ⟨by rw [take_filter_no hz (by simpa using hif)], rfl⟩
      · intro rw2
        obtain ⟨rfl, rfl⟩ := hP
        rw [List.length_map, show rs.length = (rs.set q (p.1, { p.2 with number := 0 })).length from (List.length_set).symm, List.take_length]
        refine ((ev_var 0)).ge ?_
        refine ⟨0, _, _, _, _, _, _, rfl, rfl, clC, nc_rows, by decide, .old 2 (by decide) rfl, ?_⟩
        refine gb_perm (zero_perm _ _ _ _ _) (gb_drop (zero_sub _ _ _ _ _ _ (filter_rows CI (rs.set q (p.1, { p.2 with number := 0 })) (fun p => !decide (p.2.item = i)))) ?_)
        refine gb_one (gs_ret ?_)
        refine ((ev_lst av_nil)).ge ?_
        exact touch_zero hq hp hpi hk
    · skip
      refine gb_cons (gs_if ?_)
      refine ((tv_cmp (op_notInU hu5) rfl (ev_ix ix_seq (fun _ _ => rfl) (ev_var 1) ev_int (ix_tup' (j := 0) (by walk_at "sd") (by walk_at "sd") ⟨rfl, rfl⟩)) (ev_tup (av_cons ev_str (av_cons ev_str av_nil))) (ni_strs rfl ⟨rfl, rfl⟩))).gt ?_
      refine ⟨by walk_at "no", fun _ => ?_⟩
      refine gb_nil ?_
      refine gb_cons (gs_set 2 ?_ nd)
      refine ge_methF F_Cart_row_of hr (by decide) ?_
      refine ((ev_var 0)).ge ?_
      refine ⟨ctF, _, .inr ⟨0, x, rfl, rfl⟩, by decide, ?_⟩
      refine ((av_cons (ev_ix ix_seq (fun _ _ => rfl) (ev_var 1) ev_int (ix_tup' (j := 1) (by walk_at "sd") (by walk_at "sd") ⟨rfl, rfl⟩)) av_nil)).ga ?_
      refine Hand.all ⟨x, am, rw, g, c, rs, i, rfl, rfl, ?_⟩
      rw [rowD_some hq hp]
      refine gb_cons (gs_if ?_)
      refine ((tv_cmp (op_eqU hu) (nomark _) (ev_ix ix_seq (fun _ _ => rfl) (ev_var 1) ev_int (ix_tup' (j := 0) (by walk_at "sd") (by walk_at "sd") ⟨rfl, rfl⟩)) ev_str (eq_str ⟨rfl, rfl⟩))).gt ?_
      refine ⟨fun _ => ?_, by walk_at "no"⟩
      refine gb_cons (gs_fld ?_)
      refine ((ev_ix ix_seq (fun _ _ => rfl) (ev_var 1) ev_int (ix_tup' (j := 2) (by walk_at "sd") (by walk_at "sd") ⟨rfl, rfl⟩))).ge ?_
      refine ((ev_var 2)).ge ?_
      refine ⟨q + 3, _, _, _, _, _, _, rfl, row_at hp, clI, ni_number, by decide, .old 1 (by decide) rfl, ?_⟩
      refine gb_cons (gs_if ?_)
      refine ((tv_cmp (op_eqU hu) (nomark _) (ev_ix ix_seq (fun _ _ => rfl) (ev_var 1) ev_int (ix_tup' (j := 2) (by walk_at "sd") (by walk_at "sd") ⟨rfl, rfl⟩)) ev_int (eq_int ⟨rfl, rfl⟩))).gt ?_
      refine ⟨by walk_at "no", fun _ => ?_⟩
      refine gb_nil ?_
      refine gb_nil ?_
      refine gb_one (gs_ret ?_)
      refine ((ev_lst (av_cons (ev_var 2) av_nil))).ge ?_
      exact touch_alter hq hp hn0 hk
  | look  =>
    refine gb_cons (gs_if ?_)
    refine ((tv_cmp (op_notInU hu5) rfl (ev_ix ix_seq (fun _ _ => rfl) (ev_var 1) ev_int (ix_tup' (j := 0) (by walk_at "sd") (by walk_at "sd") ⟨rfl, rfl⟩)) (ev_tup (av_cons ev_str (av_cons ev_str av_nil))) (ni_strs rfl ⟨rfl, rfl⟩))).gt ?_
    refine ⟨fun _ => ?_, by walk_at "no"⟩
    refine gb_one (gs_ret ?_)
    refine ge_callT call_list_of T.z_list PyProof.Rows.boot_list ?_
    refine ga_cons ?_
    refine ge_fld 2 ?_
    refine ((ev_var 0)).ge ?_
    refine ⟨CC, _, _, _, clC, nc_rows, .inr ⟨0, _, rfl, rfl⟩, by decide, rfl, rfl, ?_⟩
    refine ga_nil ?_
    refine (lst_hdl (p := 2) rfl ?_)
    refine k_eq (hk rw rs rfl) ?_ rfl
    rw [range_hd]
    simp [touchL]
  | back  =>
    refine gb_cons (gs_if ?_)
    refine ((tv_cmp (op_notInU hu5) rfl (ev_ix ix_seq (fun _ _ => rfl) (ev_var 1) ev_int (ix_tup' (j := 0) (by walk_at "sd") (by walk_at "sd") ⟨rfl, rfl⟩)) (ev_tup (av_cons ev_str (av_cons ev_str av_nil))) (ni_strs rfl ⟨rfl, rfl⟩))).gt ?_
    refine ⟨fun _ => ?_, by walk_at "no"⟩
    refine gb_one (gs_ret ?_)
    refine ge_callT call_list_of T.z_list PyProof.Rows.boot_list ?_
    refine ga_cons ?_
    refine ge_fld 2 ?_
    refine ((ev_var 0)).ge ?_
    refine ⟨CC, _, _, _, clC, nc_rows, .inr ⟨0, _, rfl, rfl⟩, by decide, rfl, rfl, ?_⟩
    refine ga_nil ?_
    refine (lst_hdl (p := 2) rfl ?_)
    refine k_eq (hk rw rs rfl) ?_ rfl
    rw [range_hd]
    simp [touchL]
  | pay b =>
    refine gb_cons (gs_if ?_)
    refine ((tv_cmp (op_notInU hu5) rfl (ev_ix ix_seq (fun _ _ => rfl) (ev_var 1) ev_int (ix_tup' (j := 0) (by walk_at "sd") (by walk_at "sd") ⟨rfl, rfl⟩)) (ev_tup (av_cons ev_str (av_cons ev_str av_nil))) (ni_strs rfl ⟨rfl, rfl⟩))).gt ?_
    refine ⟨fun _ => ?_, by walk_at "no"⟩
    refine gb_one (gs_ret ?_)
    refine ge_callT call_list_of T.z_list PyProof.Rows.boot_list ?_
    refine ga_cons ?_
    refine ge_fld 2 ?_
    refine ((ev_var 0)).ge ?_
    refine ⟨CC, _, _, _, clC, nc_rows, .inr ⟨0, _, rfl, rfl⟩, by decide, rfl, rfl, ?_⟩
    refine ga_nil ?_
    refine (lst_hdl (p := 2) rfl ?_)
    refine k_eq (hk rw rs rfl) ?_ rfl
    rw [range_hd]
    simp [touchL]

theorem sc_Cart_carry_out : FnScope ["self", "deed", "door", "found", "row", "times"] ["self", "deed"] (defScope s_Cart_carry_out) := ⟨rfl, rfl, rfl, by decide +kernel, rfl, by decide +kernel, by decide +kernel⟩
theorem ok_Cart_carry_out {f : Addr} {fd : FuncData} {CC CI CB CD : Addr} (F : Fun K "carry_out" "Cart.carry_out" s_Cart_carry_out f fd) (T : Txt K mg) (F_Cart_touched : MtD P w K mg base 3 CC "touched" [] (R_Cart_touched CC CI)) (F_CartLine_carry_out : MtD P w K mg base 4 CI "carry_out" [] (R_CartLine_carry_out CI)) (clC : Cls K CC) (nc_design : NoAttr K CC "design") (nc_amounts : NoAttr K CC "amounts") (nc_rows : NoAttr K CC "rows") (nc_is_failed : NoAttr K CC "is_failed") (nc_spent : NoAttr K CC "spent") (nc_times_asked : NoAttr K CC "times_asked") (clI : Cls K CI) (ni_item : NoAttr K CI "item") (ni_number : NoAttr K CI "number") (ni_kept : NoAttr K CI "kept") (ni_shown : NoAttr K CI "shown") (ni_greatest : NoAttr K CI "greatest") (F_Book_rule : MtD P w K mg base 3 CB "rule" [] (R_Book_rule CB CD)) : FnOk P w K mg base (L2.CX P w) 5 f fd ["self", "deed"] (spD K (R_Cart_carry_out CC CI CB)) := by
  have nd := sc_Cart_carry_out.nd
  refine fn_ok F sc_Cart_carry_out (fun ds M k kx H0 => by obtain ⟨x, am, rw, s2, c, rs, d, rfl, rfl, oks, okd, hpl, hnp, hlen, hhas, hk⟩ := H0; rfl) fun cdv A outer s H E ds M k kx hr H0 => ?_
  obtain ⟨x, am, rw, s2, c, rs, d, rfl, rfl, oks, okd, hpl, hnp, hlen, hhas, hk⟩ := H0
  have hu := hr.units
  have hu5 := units65 hr
  refine gb_cut (fun Γ1 M1 => Γ1 = [some (.hdl x), some (dDd d), some (.str (doorOf d c.failed)), none, none, none] ∧ M1 = cartM CC CI x am rw (bk CB s2) c rs) ?_ fun Γ1 M1 hJ => ?_
  · clear hk hhas
    cases d with
    | price i a =>
      obtain ⟨oi, a0, a1⟩ := okd
      exact absurd rfl hnp
    | put i n =>
      obtain ⟨oi, n0, n1⟩ := okd
      refine gs_set 2 ?_ nd
      refine ge_ife ?_
      refine gt_bool ?_
      refine gp_and ?_
      refine ((tv_cmp (op_eqU hu) (nomark _) (ev_ix ix_seq (fun _ _ => rfl) (ev_var 1) ev_int (ix_tup' (j := 0) (by walk_at "sd") (by walk_at "sd") ⟨rfl, rfl⟩)) ev_str (eq_str ⟨rfl, rfl⟩))).gt ?_
      refine ⟨by walk_at "no", fun _ => ?_⟩
      refine ⟨by walk_at "no", fun _ => ?_⟩
      refine ((ev_ix ix_seq (fun _ _ => rfl) (ev_var 1) ev_int (ix_tup' (j := 0) (by walk_at "sd") (by walk_at "sd") ⟨rfl, rfl⟩))).ge ?_
      skip
      exact ⟨rfl, rfl⟩
    | alter i n =>
      obtain ⟨oi, n0, n1⟩ := okd
      refine gs_set 2 ?_ nd
      refine ge_ife ?_
      refine gt_bool ?_
      refine gp_and ?_
      refine ((tv_cmp (op_eqU hu) (nomark _) (ev_ix ix_seq (fun _ _ => rfl) (ev_var 1) ev_int (ix_tup' (j := 0) (by walk_at "sd") (by walk_at "sd") ⟨rfl, rfl⟩)) ev_str (eq_str ⟨rfl, rfl⟩))).gt ?_
      refine ⟨by walk_at "no", fun _ => ?_⟩
      refine ⟨by walk_at "no", fun _ => ?_⟩
      refine ((ev_ix ix_seq (fun _ _ => rfl) (ev_var 1) ev_int (ix_tup' (j := 0) (by walk_at "sd") (by walk_at "sd") ⟨rfl, rfl⟩))).ge ?_
      skip
      exact ⟨rfl, rfl⟩
    | look  =>
      refine gs_set 2 ?_ nd
      refine ge_ife ?_
      refine gt_bool ?_
      refine gp_and ?_
      refine ((tv_cmp (op_eqU hu) (nomark _) (ev_ix ix_seq (fun _ _ => rfl) (ev_var 1) ev_int (ix_tup' (j := 0) (by walk_at "sd") (by walk_at "sd") ⟨rfl, rfl⟩)) ev_str (eq_str ⟨rfl, rfl⟩))).gt ?_
      refine ⟨by walk_at "no", fun _ => ?_⟩
      refine ⟨by walk_at "no", fun _ => ?_⟩
      refine ((ev_ix ix_seq (fun _ _ => rfl) (ev_var 1) ev_int (ix_tup' (j := 0) (by walk_at "sd") (by walk_at "sd") ⟨rfl, rfl⟩))).ge ?_
      skip
      exact ⟨rfl, rfl⟩
    | back  =>
      refine gs_set 2 ?_ nd
      refine ge_ife ?_
      refine gt_bool ?_
      refine gp_and ?_
      refine ((tv_cmp (op_eqU hu) (nomark _) (ev_ix ix_seq (fun _ _ => rfl) (ev_var 1) ev_int (ix_tup' (j := 0) (by walk_at "sd") (by walk_at "sd") ⟨rfl, rfl⟩)) ev_str (eq_str ⟨rfl, rfl⟩))).gt ?_
      refine ⟨by walk_at "no", fun _ => ?_⟩
      refine ⟨by walk_at "no", fun _ => ?_⟩
      refine ((ev_ix ix_seq (fun _ _ => rfl) (ev_var 1) ev_int (ix_tup' (j := 0) (by walk_at "sd") (by walk_at "sd") ⟨rfl, rfl⟩))).ge ?_
      skip
      exact ⟨rfl, rfl⟩
    | pay b =>
      refine gs_set 2 ?_ nd
      refine ge_ife ?_
      refine gt_bool ?_
      refine gp_and ?_
      refine ((tv_cmp (op_eqU hu) (nomark _) (ev_ix ix_seq (fun _ _ => rfl) (ev_var 1) ev_int (ix_tup' (j := 0) (by walk_at "sd") (by walk_at "sd") ⟨rfl, rfl⟩)) ev_str (eq_str ⟨rfl, rfl⟩))).gt ?_
      refine ⟨fun _ => ?_, by walk_at "no"⟩
      refine gp_and1 ?_
      refine gt_val ?_
      refine ge_fld 3 ?_
      refine ((ev_var 0)).ge ?_
      refine ⟨CC, _, _, _, clC, nc_is_failed, .inr ⟨0, _, rfl, rfl⟩, by decide, rfl, rfl, ?_⟩
      refine ⟨_, rfl, ?_⟩
      refine ⟨fun hb1 => ?_, fun hb1 => ?_⟩
      · have hb1 := hb1
        refine (ev_str).ge ?_
        skip
        exact ⟨door_a hb1, rfl⟩
      · have hb1 := hb1
        refine ((ev_ix ix_seq (fun _ _ => rfl) (ev_var 1) ev_int (ix_tup' (j := 0) (by walk_at "sd") (by walk_at "sd") ⟨rfl, rfl⟩))).ge ?_
        skip
        exact ⟨door_p hb1, rfl⟩
  obtain ⟨rfl, rfl⟩ := hJ
  obtain ⟨okr, hx6⟩ := rule_at oks (door_mem hnp (f := c.failed))
  have hjs := touch_len c.am d hlen
  refine gb_cons (gs_set 3 ?_ nd)
  refine ge_lstM ?_
  refine (av_nil).ga ?_
  refine ⟨by walk_at "sd", fun q_found => ?_⟩
  refine gb_perm (List.perm_append_singleton _ _) ?_
  refine gb_cons (gs_for (passes_of rfl) rfl ?_)
  refine gi_lst ?_
  refine ge_methF F_Cart_touched hr (by decide) ?_
  refine ((ev_var 0)).ge ?_
  refine ⟨ctF, _, .inr ⟨1, x, rfl, rfl⟩, by decide, ?_⟩
  refine ((av_cons (ev_var 1) av_nil)).ga ?_
  refine Hand.of (cartM CC CI x am rw (bk CB s2) c rs) [(q_found, .lst [])] (.refl _) ⟨x, am, rw, (bk CB s2), c, rs, d, rfl, rfl, okd, hpl, hnp, hlen, fun rw2 rs1 hT => ?_⟩
  refine ⟨_, rfl, ?_⟩
  refine ⟨fun i Γ M => ∃ (rs2 : Rs) (fd : List Str) (y z : Option D), Γ = [some (.hdl x), some (dDd d), some (.str (doorOf d c.failed)), some (.hdl q_found), y, z] ∧ rs2.map (·.1) = rs1.map (·.1) ∧ (rs2.map (·.2), fd) = ((touchL c.am d (rs.map (·.2))).2.take i).foldl (carryStep c.am (ruleOf s2 (doorOf d c.failed))) ((touchL c.am d (rs.map (·.2))).1, []) ∧ M = (q_found, .lst (fd.map D.str)) :: cartM CC CI x am rw2 (bk CB s2) c rs2, ⟨rs1, [], none, none, rfl, rfl, by rw [hT]; rfl, rfl⟩, fun _ _ _ _ _ => trivial, fun i d Γ M hi hit hP => ?_, fun Γ M hP => ?_⟩
  · obtain ⟨rs2, fd, y, z, rfl, hfst, hfold, rfl⟩ := hP
    obtain ⟨j, hj, rfl⟩ := get_map hit
    obtain ⟨p, hp⟩ := carry_row hfst hT (List.mem_of_getElem? hj)
    rw [show hdAt rs1 j = .hdl p.1 from by rw [hdAt_eq hfst.symm, hdAt_at hp]]
    obtain ⟨pr, hg⟩ := carry_get hhas hpl hfold hp
    obtain ⟨ht0, ht6⟩ := work_times pr okr p.2
    have hfd := carry_fd okr hfold
    have hi2 : i < (touchL c.am d (rs.map (·.2))).2.length := by simpa using hi
    refine gg_name 4 ?_ nd
    refine gb_cons (gs_set 5 ?_ nd)
    refine ge_meth F_CartLine_carry_out hr (by decide) ?_
    refine ((ev_var 4)).ge ?_
    refine ⟨lnF, _, .inr ⟨j + 4, p.1, rfl, row_at hp⟩, by decide, ?_⟩
    refine ga_cons ?_
    refine ge_methF F_Book_rule hr (by decide) ?_
    refine ge_fld 0 ?_
    refine ((ev_var 0)).ge ?_
    refine ⟨CC, _, _, _, clC, nc_design, .inr ⟨1, _, rfl, rfl⟩, by decide, rfl, rfl, ?_⟩
    refine ⟨["row"], [dS s2], .inl rfl, by decide, ?_⟩
    refine ((av_cons (ev_var 2) av_nil)).ga ?_
    refine Hand.all ⟨(bk CB s2), s2.map dR, .str (doorOf d c.failed), rfl, .inl rfl, rfl, .inl ⟨_, _, rfl, door_mem hnp, hx6, ?_⟩⟩
    refine ga_cons ?_
    refine ge_dget (Nat.lt_of_le_of_lt (Nat.add_le_add_left (by decide : 1 ≤ 65) _) hu5) (fun _ _ => rfl) ?_
    refine ge_fld 1 ?_
    refine ((ev_var 0)).ge ?_
    refine ⟨CC, _, _, _, clC, nc_amounts, .inr ⟨1, _, rfl, rfl⟩, by decide, rfl, rfl, ?_⟩
    refine ge_fld 0 ?_
    refine ((ev_var 4)).ge ?_
    refine ⟨CI, _, _, _, clI, ni_item, .inr ⟨j + 4, _, rfl, row_at hp⟩, by decide, rfl, rfl, ?_⟩
    refine ⟨_, _, .inr p.2.item, .int pr, .hdl 2 rfl, rfl, by rw [am_val, hg]; rfl, ?_⟩
    refine ga_nil ?_
    refine ⟨[j + 4], callOk1 (row_at hp) ⟨p.1, (ruleOf s2 (doorOf d c.failed)), pr, p.2, rfl, rfl, okr, ⟨rfl, ?_⟩⟩⟩
    refine gb_eq (M' := (q_found, .lst (fd.map D.str)) :: cartM CC CI x am rw2 (bk CB s2) c (rs2.set j (p.1, (lnRun pr (ruleOf s2 (doorOf d c.failed)) p.2)))) (carry_set hp) ?_
    refine gb_cons (gs_expr ?_)
    refine ge_extend ((ev_var 3).ge ⟨⟨0, _, _, rfl, rfl⟩, ?_⟩)
    refine ge_bin op_mulU ?_
    refine ge_lst ?_
    refine ga_cons ?_
    refine ge_fld 0 ?_
    refine ((ev_var 4)).ge ?_
    refine ⟨CI, _, _, _, clI, ni_item, .inr ⟨j + 4, _, rfl, (row_at (p := (p.1, (lnRun pr (ruleOf s2 (doorOf d c.failed)) p.2))) (set_at hp))⟩, by decide, rfl, rfl, ?_⟩
    refine ga_nil ?_
    refine ⟨by walk_at "sd", ?_⟩
    refine ((ev_var 5)).ge ?_
    refine (mul_lst1 (by omega) (by omega) ?_)
    refine ⟨0, _, _, _, rfl, rfl, rfl, by walk_at "sd", ?_⟩
    refine gb_nil ?_
    exact ⟨rs2.set j (p.1, (lnRun pr (ruleOf s2 (doorOf d c.failed)) p.2)), fd ++ List.replicate (lnWork pr (ruleOf s2 (doorOf d c.failed)) p.2).times.toNat p.2.item, _, _, rfl, by rw [fst_set hp]; exact hfst, carry_next hfold hj hp hg, by rw [List.map_append, List.map_replicate]; rfl⟩
  · obtain ⟨rs2, fd, y, z, rfl, hfst, hfold, rfl⟩ := hP
    rw [List.length_map, List.take_length] at hfold
    refine gb_cons (gs_fld ?_)
    refine ((ev_cmp (op_eqU hu) (nomark _) (ev_var 1) (ev_tup (av_cons ev_str (av_cons ev_bl av_nil))) (eq_dat (n := 1) (m := 1) (sm_dDd okd) (by decide +kernel) ⟨rfl, rfl⟩))).ge ?_
    refine ((ev_var 0)).ge ?_
    refine ⟨1, _, _, _, _, _, _, rfl, rfl, clC, nc_is_failed, by decide, .old 3 (by decide) rfl, ?_⟩
    refine gb_cons (gs_fldaug in_addU ?_)
    refine ((ev_var 0)).ge ?_
    refine ⟨CC, _, _, 5, _, .inr ⟨1, _, rfl, rfl⟩, clC, nc_times_asked, by decide, rfl, rfl, ?_⟩
    refine ((ev_callB call_len T.z_len PySem.boot_len (av_cons (ev_var 3) av_nil) (len_hdl (p := 0) rfl ⟨rfl, rfl⟩))).ge ?_
    refine aug_add ⟨1, _, _, _, _, _, rfl, rfl, by decide, .old 5 (by decide) rfl, ?_⟩
    refine gb_one (gs_ret ?_)
    refine ((ev_var 3)).ge ?_
    exact carry_end okd hfold hk
theorem sc_Cart_report : FnScope ["self", "deed", "names", "told", "bought", "row", "item", "number", "amount"] ["self", "deed", "names"] (defScope s_Cart_report) := ⟨rfl, rfl, rfl, by decide +kernel, rfl, by decide +kernel, by decide +kernel⟩
theorem ok_Cart_report {f : Addr} {fd : FuncData} {CC CI : Addr} (F : Fun K "report" "Cart.report" s_Cart_report f fd) (T : Txt K mg) (clC : Cls K CC) (nc_design : NoAttr K CC "design") (nc_amounts : NoAttr K CC "amounts") (nc_rows : NoAttr K CC "rows") (nc_is_failed : NoAttr K CC "is_failed") (nc_spent : NoAttr K CC "spent") (nc_times_asked : NoAttr K CC "times_asked") (clI : Cls K CI) (ni_item : NoAttr K CI "item") (ni_number : NoAttr K CI "number") (ni_kept : NoAttr K CI "kept") (ni_shown : NoAttr K CI "shown") (ni_greatest : NoAttr K CI "greatest") : FnOk P w K mg base (L2.CX P w) 1 f fd ["self", "deed", "names"] (spD K (R_Cart_report CC CI)) := by
  have nd := sc_Cart_report.nd
  refine fn_ok F sc_Cart_report (fun ds M k kx H0 => by obtain ⟨x, am, rw, g, c, rs, d, nm, rfl, rfl, okd, hlen, hnum, hk⟩ := H0; rfl) fun cdv A outer s H E ds M k kx hr H0 => ?_
  obtain ⟨x, am, rw, g, c, rs, d, nm, rfl, rfl, okd, hlen, hnum, hk⟩ := H0
  have hu := hr.units
  have hu5 := units65 hr
  refine gb_cons (gs_lcM 3 [("row", 5)] rfl nd (blkOk_by (by show blkC ["self", "deed", "names", "told", "bought", "row", "item", "number", "amount"] (defScope s_Cart_report) _ _ = true; decide +kernel)) ?_ (sw_true rfl rfl rfl (by decide +kernel)))
  refine gi_hdl ?_
  refine ge_fld 2 ?_
  refine ((ev_var 0)).ge ?_
  refine ⟨CC, _, _, _, clC, nc_rows, .inr ⟨0, _, rfl, rfl⟩, by decide, rfl, rfl, ?_⟩
  refine ⟨2, _, _, rfl, rfl, ?_⟩
  refine ⟨fun i acc M => acc = ((rs.take i).map (·.2)).map tellD ∧ M = cartM CC CI x am rw g c rs, ⟨rfl, rfl⟩, fun i acc M _ hP => by obtain ⟨_, rfl⟩ := hP; exact ⟨2, rfl⟩, fun i d acc M hi hit hP => ?_, fun acc M hP => ?_⟩
  · obtain ⟨rfl, rfl⟩ := hP
    obtain ⟨p, hp, rfl⟩ := get_map hit
    have hi2 := (List.getElem?_eq_some_iff.mp hp).1
    intro _ _ _ _ _
    refine cg_name 5 ?_ nd
    intro _ _ _ _ _
    refine gts_nil ⟨fun _ => ?_, fun z => nomatch z⟩
    intro _ _ _ _ _
    refine ge_tup ?_
    refine ga_cons ?_
    refine ge_fld 0 ?_
    refine ((ev_var 5)).ge ?_
    refine ⟨CI, _, _, _, clI, ni_item, .inr ⟨i + 3, _, rfl, row_at hp⟩, by decide, rfl, rfl, ?_⟩
    refine ga_cons ?_
    refine ge_fld 1 ?_
    refine ((ev_var 5)).ge ?_
    refine ⟨CI, _, _, _, clI, ni_number, .inr ⟨i + 3, _, rfl, row_at hp⟩, by decide, rfl, rfl, ?_⟩
    refine ga_cons ?_
    refine ge_fld 3 ?_
    refine ((ev_var 5)).ge ?_
    refine ⟨CI, _, _, _, clI, ni_shown, .inr ⟨i + 3, _, rfl, row_at hp⟩, by decide, rfl, rfl, ?_⟩
    refine ga_nil ?_
    refine ⟨by walk_at "sd", ?_⟩
    exact ⟨by simp; omega, by rw [List.take_add_one, hp]; simp [tellD], rfl⟩
  · intro q_told
    obtain ⟨rfl, rfl⟩ := hP
    rw [List.length_map, List.take_length]
    refine gb_perm (List.perm_append_singleton _ _) ?_
    refine gb_cons (gs_if ?_)
    refine ((tv_cmp (op_neU hu) (nomark _) (ev_var 1) (ev_tup (av_cons ev_str (av_cons ev_bl av_nil))) (ne_dat (n := 1) (m := 1) (sm_dDd okd) (by decide +kernel) ⟨rfl, rfl⟩))).gt ?_
    refine ⟨fun hb1 => ?_, fun hb1 => ?_⟩
    · rw [eqv_payT] at hb1
      refine gb_one (gs_ret ?_)
      refine ((ev_tup (av_cons (ev_var 3) (av_cons (ev_var 2) (av_cons ev_non av_nil))))).ge ?_
      exact report_no (by simpa using hb1) hk
    · rw [eqv_payT] at hb1
      refine gb_nil ?_
      refine gb_cons (gs_lc 4 [("row", 5)] rfl nd (blkOk_by (by show blkC ["self", "deed", "names", "told", "bought", "row", "item", "number", "amount"] (defScope s_Cart_report) _ _ = true; decide +kernel)) ?_ (sw_true rfl rfl rfl (by decide +kernel)))
      refine gi_hdl ?_
      refine ge_fld 2 ?_
      refine ((ev_var 0)).ge ?_
      refine ⟨CC, _, _, _, clC, nc_rows, .inr ⟨1, _, rfl, rfl⟩, by decide, rfl, rfl, ?_⟩
      refine ⟨3, _, _, rfl, rfl, ?_⟩
      refine ⟨fun i acc M => acc = ((rs.take i).map (·.2)).map boughtD ∧ M = (q_told, .lst ((rs.map (·.2)).map tellD)) :: cartM CC CI x am rw g c rs, ⟨rfl, rfl⟩, fun i acc M _ hP => by obtain ⟨_, rfl⟩ := hP; exact ⟨3, rfl⟩, fun i d acc M hi hit hP => ?_, fun acc M hP => ?_⟩
      · obtain ⟨rfl, rfl⟩ := hP
        obtain ⟨p, hp, rfl⟩ := get_map hit
        have hi2 := (List.getElem?_eq_some_iff.mp hp).1
        intro _ _ _ _ _
        refine cg_name 5 ?_ nd
        intro _ _ _ _ _
        refine gts_nil ⟨fun _ => ?_, fun z => nomatch z⟩
        intro _ _ _ _ _
        refine ge_tup ?_
        refine ga_cons ?_
        refine ge_fld 0 ?_
        refine ((ev_var 5)).ge ?_
        refine ⟨CI, _, _, _, clI, ni_item, .inr ⟨i + 4, _, rfl, row_at hp⟩, by decide, rfl, rfl, ?_⟩
        refine ga_cons ?_
        refine ge_fld 1 ?_
        refine ((ev_var 5)).ge ?_
        refine ⟨CI, _, _, _, clI, ni_number, .inr ⟨i + 4, _, rfl, row_at hp⟩, by decide, rfl, rfl, ?_⟩
        refine ga_cons ?_
        refine ge_fld 2 ?_
        refine ((ev_var 5)).ge ?_
        refine ⟨CI, _, _, _, clI, ni_kept, .inr ⟨i + 4, _, rfl, row_at hp⟩, by decide, rfl, rfl, ?_⟩
        refine ga_nil ?_
        refine ⟨by walk_at "sd", ?_⟩
        exact ⟨by simp; omega, by rw [List.take_add_one, hp]; simp [boughtD], rfl⟩
      · obtain ⟨rfl, rfl⟩ := hP
        rw [List.length_map, List.take_length]
        refine gb_cons (gs_fldaug in_addU ?_)
        refine ((ev_var 0)).ge ?_
        refine ⟨CC, _, _, 4, _, .inr ⟨1, _, rfl, rfl⟩, clC, nc_spent, by decide, rfl, rfl, ?_⟩
        refine ge_callB (cr_sum rfl) T.z_sum b_sum ?_
        refine ga_cons ?_
        refine ge_lc [("item", 6), ("number", 7), ("amount", 8)] rfl nd (blkOk_by (by show blkC ["self", "deed", "names", "told", "bought", "row", "item", "number", "amount"] (defScope s_Cart_report) _ _ = true; decide +kernel)) ?_
        refine gi_lst ?_
        refine ((ev_var 4)).ge ?_
        refine ⟨_, rfl, ?_⟩
        refine ⟨fun i acc M => acc = ((rs.take i).map (·.2)).map (fun l => D.int (l.number * l.kept)) ∧ M = (q_told, .lst ((rs.map (·.2)).map tellD)) :: cartM CC CI x am rw g c rs, ⟨rfl, rfl⟩, fun _ _ _ _ _ => trivial, fun i d acc M hi hit hP => ?_, fun acc M hP => ?_⟩
        · obtain ⟨rfl, rfl⟩ := hP
          obtain ⟨z, hz, rfl⟩ := get_map hit
          obtain ⟨p, hp, rfl⟩ := get_map1 hz
          have hi2 := (List.getElem?_eq_some_iff.mp hp).1
          obtain ⟨n0, n1, k0, k1⟩ := hnum p.2 (List.mem_map_of_mem (List.mem_of_getElem? hp))
          intro _ _ _ _ _
          refine cg_tup rfl ?_ rfl
          refine cgs_cons ?_
          refine cg_name 6 ?_ nd
          refine cgs_cons ?_
          refine cg_name 7 ?_ nd
          refine cgs_cons ?_
          refine cg_name 8 ?_ nd
          refine cgs_nil ?_
          intro _ _ _ _ _
          refine gts_nil ⟨fun _ => ?_, fun z => nomatch z⟩
          intro _ _ _ _ _
          refine ((ev_bin op_mulU (ev_var 7) (ev_var 8) (mul_int' (mulx (by omega) (by omega) (by omega) (by omega)) ⟨rfl, rfl⟩))).ge ?_
          exact ⟨by simp; omega, by rw [List.take_add_one, hp]; simp, rfl⟩
        · obtain ⟨rfl, rfl⟩ := hP
          rw [List.length_map, List.length_map, List.take_length]
          refine ga_nil ?_
          refine (sum_lst (bs := (rs.map (·.2)).map fun l => l.number * l.kept) (by simp) ?_)
          refine aug_add ⟨1, _, _, _, _, _, rfl, rfl, by decide, .old 4 (by decide) rfl, ?_⟩
          refine gb_cons (gs_fld ?_)
          refine ge_lstM ?_
          refine (av_nil).ga ?_
          refine ⟨by walk_at "sd", fun q_rows => ?_⟩
          refine ((ev_var 0)).ge ?_
          refine ⟨1, _, _, _, _, _, _, rfl, rfl, clC, nc_rows, by decide, .old 2 (by decide) rfl, ?_⟩
          refine gb_perm (.cons _ (zero_perm _ _ _ _ _)) (gb_drop (pay_sub _ _ _ _ _ _) ?_)
          refine gb_one (gs_ret ?_)
          refine ((ev_tup (av_cons (ev_var 3) (av_cons (ev_var 2) (av_cons (ev_var 4) av_nil))))).ge ?_
          exact report_yes (by simpa using hb1) hk
theorem sc_Cart_play_deed : FnScope ["self", "deed"] ["self", "deed"] (defScope s_Cart_play_deed) := ⟨rfl, rfl, rfl, by decide +kernel, rfl, by decide +kernel, by decide +kernel⟩
theorem ok_Cart_play_deed {f : Addr} {fd : FuncData} {CC CI : Addr} (F : Fun K "play_deed" "Cart.play_deed" s_Cart_play_deed f fd) (T : Txt K mg) (clC : Cls K CC) (nc_design : NoAttr K CC "design") (nc_amounts : NoAttr K CC "amounts") (nc_rows : NoAttr K CC "rows") (nc_is_failed : NoAttr K CC "is_failed") (nc_spent : NoAttr K CC "spent") (nc_times_asked : NoAttr K CC "times_asked") : FnOk P w K mg base (L2.CX P w) 1 f fd ["self", "deed"] (spD K (R_Cart_play_deed CC CI)) := by
  have nd := sc_Cart_play_deed.nd
  refine fn_ok F sc_Cart_play_deed (fun ds M k kx H0 => by obtain ⟨x, am, rw, g, c, rs, i, a, rfl, rfl, hgs, hlen, hk⟩ := H0; rfl) fun cdv A outer s H E ds M k kx hr H0 => ?_
  obtain ⟨x, am, rw, g, c, rs, i, a, rfl, rfl, hgs, hlen, hk⟩ := H0
  have hu := hr.units
  have hu5 := units65 hr
  obtain ⟨pr, hg⟩ := Option.isSome_iff_exists.mp hgs
  refine gb_cons (gs_if ?_)
  refine ((tv_cmp (op_eqU hu) (nomark _) (ev_ix ix_seq (fun _ _ => rfl) (ev_var 1) ev_int (ix_tup' (j := 0) (by walk_at "sd") (by walk_at "sd") ⟨rfl, rfl⟩)) ev_str (eq_str ⟨rfl, rfl⟩))).gt ?_
  refine ⟨fun _ => ?_, by walk_at "no"⟩
  refine gb_cons (gs_dput (Nat.lt_of_le_of_lt (Nat.add_le_add_left (by decide : 1 ≤ 65) _) hu5) ?_)
  refine ((ev_ix ix_seq (fun _ _ => rfl) (ev_var 1) ev_int (ix_tup' (j := 2) (by walk_at "sd") (by walk_at "sd") ⟨rfl, rfl⟩))).ge ?_
  refine ge_fld 1 ?_
  refine ((ev_var 0)).ge ?_
  refine ⟨CC, _, _, _, clC, nc_amounts, .inr ⟨0, _, rfl, rfl⟩, by decide, rfl, rfl, ?_⟩
  refine ((ev_ix ix_seq (fun _ _ => rfl) (ev_var 1) ev_int (ix_tup' (j := 1) (by walk_at "sd") (by walk_at "sd") ⟨rfl, rfl⟩))).ge ?_
  refine ⟨1, _, _, _, _, _, .inr i, rfl, rfl, rfl, by simp [Am.ks]; omega, .old (am_mem hg), ?_⟩
  refine gb_one (gs_ret ?_)
  refine (ev_non).ge ?_
  exact price_end hk
theorem sc_wrongs_of : FnScope ["rows", "index", "found", "row"] ["rows", "index"] (defScope s_wrongs_of) := ⟨rfl, rfl, rfl, by decide +kernel, rfl, by decide +kernel, by decide +kernel⟩
theorem ok_wrongs_of {f : Addr} {fd : FuncData} {CI : Addr} (F : Fun K "wrongs_of" "wrongs_of" s_wrongs_of f fd) (T : Txt K mg) (clI : Cls K CI) (ni_item : NoAttr K CI "item") (ni_number : NoAttr K CI "number") (ni_kept : NoAttr K CI "kept") (ni_shown : NoAttr K CI "shown") (ni_greatest : NoAttr K CI "greatest") : FnOk P w K mg base (L2.CX P w) 1 f fd ["rows", "index"] (spD K (R_wrongs_of CI)) := by
  have nd := sc_wrongs_of.nd
  refine fn_ok F sc_wrongs_of (fun ds M k kx H0 => by obtain ⟨rw, n, rs, M0, qr, q0, rfl, rfl, hqr, hrow, hlen, hsg, hk⟩ := H0; rfl) fun cdv A outer s H E ds M k kx hr H0 => ?_
  obtain ⟨rw, n, rs, M0, qr, q0, rfl, rfl, hqr, hrow, hlen, hsg, hk⟩ := H0
  have hu := hr.units
  have hu5 := units65 hr
  refine gb_cons (gs_set 2 ?_ nd)
  refine ge_lstM ?_
  refine (av_nil).ga ?_
  refine ⟨by walk_at "sd", fun q_found => ?_⟩
  refine gb_perm (List.perm_append_singleton _ _) ?_
  refine gb_cons (gs_for (passes_of rfl) rfl ?_)
  refine gi_hdl ?_
  refine ((ev_var 0)).ge ?_
  refine ⟨qr + 1, _, _, rfl, hqr, ?_⟩
  refine ⟨fun i Γ M => ∃ (y : Option D), Γ = [some (.hdl rw), some (.int n), some (.hdl q_found), y] ∧ M = (q_found, .lst ((((rs.take i).map (·.2)).flatMap (wrongL n)).map dW)) :: M0, ⟨none, rfl, rfl⟩, fun i Γ M _ hP => by obtain ⟨_, _, rfl⟩ := hP; exact ⟨qr + 1, hqr⟩, fun i d Γ M hi hit hP => ?_, fun Γ M hP => ?_⟩
  · obtain ⟨y, rfl, rfl⟩ := hP
    obtain ⟨p, hp, rfl⟩ := get_map hit
    have hi2 := (List.getElem?_eq_some_iff.mp hp).1
    have hbd := wr_len n ((rs.take i).map (·.2))
    have hbd2 : ((rs.take i).map (·.2)).length ≤ 1000 := by simp; omega
    refine gg_name 3 ?_ nd
    refine gb_cons (gs_if ?_)
    refine gt_cmp op_isN (nomark _) ?_
    refine ge_fld 3 ?_
    refine ((ev_var 3)).ge ?_
    refine ⟨CI, _, _, _, clI, ni_shown, .inr ⟨i + q0 + 1, _, rfl, hrow i p hp⟩, by decide, rfl, rfl, ?_⟩
    refine (ev_non).ge ?_
    refine (is_non ⟨_, rfl, ?_⟩ (dO_raw _))
    refine ⟨fun hb1 => ?_, fun hb1 => ?_⟩
    · have hb1 := hb1
      refine gb_cons (gs_expr ?_)
      refine ge_append ((ev_var 2).ge ⟨⟨0, _, _, rfl, rfl⟩, ?_⟩)
      refine ge_tup ?_
      refine ga_cons ?_
      refine (ev_str).ge ?_
      refine ga_cons ?_
      refine ((ev_var 1)).ge ?_
      refine ga_cons ?_
      refine ge_fld 0 ?_
      refine ((ev_var 3)).ge ?_
      refine ⟨CI, _, _, _, clI, ni_item, .inr ⟨i + q0 + 1, _, rfl, hrow i p hp⟩, by decide, rfl, rfl, ?_⟩
      refine ga_nil ?_
      refine ⟨by walk_at "sd", ?_⟩
      refine ⟨0, _, _, rfl, rfl, by walk_at "sd", ?_⟩
      refine gb_nil ?_
      refine gb_nil ?_
      exact ⟨_, rfl, wr_next hp (wr_un hb1)⟩
    · have hb1 := hb1
      refine gb_cons (gs_if ?_)
      refine gt_cmp (op_neU hu) (nomark _) ?_
      refine ge_fld 2 ?_
      refine ((ev_var 3)).ge ?_
      refine ⟨CI, _, _, _, clI, ni_kept, .inr ⟨i + q0 + 1, _, rfl, hrow i p hp⟩, by decide, rfl, rfl, ?_⟩
      refine ge_fld 3 ?_
      refine ((ev_var 3)).ge ?_
      refine ⟨CI, _, _, _, clI, ni_shown, .inr ⟨i + q0 + 1, _, rfl, hrow i p hp⟩, by decide, rfl, rfl, ?_⟩
      refine (ne_dat (n := 0) (m := 0) rfl (sm_dO _) ⟨_, rfl, ?_⟩)
      refine ⟨fun hb2 => ?_, fun hb2 => ?_⟩
      · obtain ⟨sv, hsv⟩ := non_no hb1
        obtain ⟨gv, hgr⟩ := opt_get (hsg p.2 (List.mem_map_of_mem (List.mem_of_getElem? hp)) (by rw [hsv]; simp))
        refine gb_cons (gs_expr ?_)
        refine ge_append ((ev_var 2).ge ⟨⟨0, _, _, rfl, rfl⟩, ?_⟩)
        refine ge_tup ?_
        refine ga_cons ?_
        refine (ev_str).ge ?_
        refine ga_cons ?_
        refine ((ev_var 1)).ge ?_
        refine ga_cons ?_
        refine ge_fld 0 ?_
        refine ((ev_var 3)).ge ?_
        refine ⟨CI, _, _, _, clI, ni_item, .inr ⟨i + q0 + 1, _, rfl, hrow i p hp⟩, by decide, rfl, rfl, ?_⟩
        refine ga_nil ?_
        refine ⟨by walk_at "sd", ?_⟩
        refine ⟨0, _, _, rfl, rfl, by walk_at "sd", ?_⟩
        refine gb_cons (gs_if ?_)
        refine gt_cmp op_gt (nomark _) ?_
        refine ge_fld 2 ?_
        refine ((ev_var 3)).ge ?_
        refine ⟨CI, _, _, _, clI, ni_kept, .inr ⟨i + q0 + 1, _, rfl, hrow i p hp⟩, by decide, rfl, rfl, ?_⟩
        refine ge_fld 4 ?_
        refine ((ev_var 3)).ge ?_
        refine ⟨CI, _, _, _, clI, ni_greatest, .inr ⟨i + q0 + 1, _, rfl, hrow i p hp⟩, by decide, rfl, rfl, ?_⟩
        rw [hgr]
        refine (gt_int ⟨_, rfl, ?_⟩)
        refine ⟨fun hb3 => ?_, fun hb3 => ?_⟩
        · have hb3 := hb3
          refine gb_cons (gs_expr ?_)
          refine ge_append ((ev_var 2).ge ⟨⟨0, _, _, rfl, rfl⟩, ?_⟩)
          refine ge_tup ?_
          refine ga_cons ?_
          refine (ev_str).ge ?_
          refine ga_cons ?_
          refine ((ev_var 1)).ge ?_
          refine ga_cons ?_
          refine ge_fld 0 ?_
          refine ((ev_var 3)).ge ?_
          refine ⟨CI, _, _, _, clI, ni_item, .inr ⟨i + q0 + 1, _, rfl, hrow i p hp⟩, by decide, rfl, rfl, ?_⟩
          refine ga_nil ?_
          refine ⟨by walk_at "sd", ?_⟩
          refine ⟨0, _, _, rfl, rfl, by walk_at "sd", ?_⟩
          refine gb_nil ?_
          refine gb_nil ?_
          refine gb_nil ?_
          refine gb_nil ?_
          exact ⟨_, rfl, wr_next2 hp (wr_de hsv hb2 hgr hb3)⟩
        · have hb3 := hb3
          refine gb_nil ?_
          refine gb_nil ?_
          refine gb_nil ?_
          refine gb_nil ?_
          exact ⟨_, rfl, wr_next hp (wr_ot hsv hb2 hgr hb3)⟩
      · obtain ⟨sv, hsv⟩ := non_no hb1
        obtain ⟨gv, hgr⟩ := opt_get (hsg p.2 (List.mem_map_of_mem (List.mem_of_getElem? hp)) (by rw [hsv]; simp))
        refine gb_nil ?_
        refine gb_nil ?_
        refine gb_nil ?_
        exact ⟨_, rfl, wr_next0 hp (wr_no hsv hb2)⟩
  · obtain ⟨y, rfl, rfl⟩ := hP
    rw [List.length_map, List.take_length]
    refine gb_one (gs_ret ?_)
    refine ge_frz (ge_var 2 ⟨0, _, _, rfl, rfl, ?_⟩)
    exact hk
theorem sc_are_mixed : FnScope ["rows", "moments", "seen", "moment", "row"] ["rows", "moments"] (defScope s_are_mixed) := ⟨rfl, rfl, rfl, by decide +kernel, rfl, by decide +kernel, by decide +kernel⟩
theorem ok_are_mixed {f : Addr} {fd : FuncData} {CI : Addr} (F : Fun K "are_mixed" "are_mixed" s_are_mixed f fd) (T : Txt K mg) (clI : Cls K CI) (ni_item : NoAttr K CI "item") (ni_number : NoAttr K CI "number") (ni_kept : NoAttr K CI "kept") (ni_shown : NoAttr K CI "shown") (ni_greatest : NoAttr K CI "greatest") : FnOk P w K mg base (L2.CX P w) 1 f fd ["rows", "moments"] (spD K (R_are_mixed CI)) := by
  have nd := sc_are_mixed.nd
  refine fn_ok F sc_are_mixed (fun ds M k kx H0 => by obtain ⟨rw, mo, rs, ms, M0, qr, q0, qm, rfl, rfl, hqr, hrow, hqm, hlen, hms, hk⟩ := H0; rfl) fun cdv A outer s H E ds M k kx hr H0 => ?_
  obtain ⟨rw, mo, rs, ms, M0, qr, q0, qm, rfl, rfl, hqr, hrow, hqm, hlen, hms, hk⟩ := H0
  have hu := hr.units
  have hu5 := units65 hr
  refine gb_cons (gs_lc 2 [("row", 4)] rfl nd (blkOk_by (by show blkC ["rows", "moments", "seen", "moment", "row"] (defScope s_are_mixed) _ _ = true; decide +kernel)) ?_ (sw_true rfl rfl rfl (by decide +kernel)))
  refine gi_hdl ?_
  refine ((ev_var 0)).ge ?_
  refine ⟨qr, _, _, rfl, hqr, ?_⟩
  refine ⟨fun i acc M => acc = ((rs.take i).filter fun p => p.2.shown.isSome).map hd1 ∧ M0 = M, ⟨rfl, rfl⟩, fun i acc M _ hP => by obtain ⟨_, rfl⟩ := hP; exact ⟨qr, hqr⟩, fun i d acc M hi hit hP => ?_, fun acc M hP => ?_⟩
  · obtain ⟨rfl, rfl⟩ := hP
    obtain ⟨p, hp, rfl⟩ := get_map hit
    have hi2 := (List.getElem?_eq_some_iff.mp hp).1
    intro _ _ _ _ _
    refine cg_name 4 ?_ nd
    intro _ _ _ _ _
    refine gts_one ?_
    refine gt_cmp op_notN (nomark _) ?_
    refine ge_fld 3 ?_
    refine ((ev_var 4)).ge ?_
    refine ⟨CI, _, _, _, clI, ni_shown, .inr ⟨i + q0, _, rfl, hrow i p hp⟩, by decide, rfl, rfl, ?_⟩
    refine (ev_non).ge ?_
    refine (not_non ⟨_, rfl, ?_⟩ (dO_raw _))
    refine ⟨fun hif => ?_, fun hif => ?_⟩
    · intro _ _ _ _ _
      refine ((ev_var 4)).ge ?_
      exact ⟨by rw [List.length_map]; exact Nat.lt_of_le_of_lt (take_filter_len _ _ _) (by omega), by rw [take_filter_yes hp (by cases hs : p.2.shown <;> simp_all [dO, PD.isNon])]; simp, rfl⟩
    · exact ⟨by rw [take_filter_no hp (by cases hs : p.2.shown <;> simp_all [dO, PD.isNon])], rfl⟩
  · obtain ⟨rfl, rfl⟩ := hP
    rw [List.length_map, List.take_length]
    refine gb_cons (gs_if ?_)
    refine gt_cmp (op_emp (Nat.lt_of_le_of_lt (Nat.add_le_add_left (by decide : 1 ≤ 65) _) hu5)) (nomark _) ((ev_var 2).ge ((ev_lst av_nil).ge (eq_emp ⟨_, rfl, ?_⟩)))
    refine ⟨fun hb1 => ?_, fun hb1 => ?_⟩
    · have hb1 := hb1
      refine gb_one (gs_ret ?_)
      refine (ev_bl).ge ?_
      exact mix_nil hb1 hk
    · have hb1 := hb1
      refine gb_nil ?_
      refine gb_cons (gs_for (passes_of rfl) rfl ?_)
      refine gi_hdl ?_
      refine ((ev_var 1)).ge ?_
      refine ⟨qm, _, _, rfl, hqm, ?_⟩
      refine ⟨fun i Γ M => ∃ (y : Option D), Γ = [some (.hdl rw), some (.hdl mo), some (.lst ((rs.filter fun p => p.2.shown.isSome).map hd1)), y, none] ∧ (∀ m ∈ ms.take i, (rs.filter fun p => p.2.shown.isSome).all (fun z => decide (m.get z.2.item = z.2.shown)) = false) ∧ M0 = M, ⟨none, rfl, by simp, rfl⟩, fun i Γ M _ hP => by obtain ⟨_, _, _, rfl⟩ := hP; exact ⟨qm, hqm⟩, fun i d Γ M hi hit hP => ?_, fun Γ M hP => ?_⟩
      · obtain ⟨y, rfl, hno, rfl⟩ := hP
        obtain ⟨mm, hm5, rfl⟩ := get_map hit
        refine gg_name 3 ?_ nd
        refine gb_cons (gs_if ?_)
        refine gt_val ?_
        refine ge_callB (cr_all rfl) T.z_all b_all ?_
        refine ga_cons ?_
        refine ge_lc [("row", 4)] rfl nd (blkOk_by (by show blkC ["rows", "moments", "seen", "moment", "row"] (defScope s_are_mixed) _ _ = true; decide +kernel)) ?_
        refine gi_lst ?_
        refine ((ev_var 2)).ge ?_
        refine ⟨_, rfl, ?_⟩
        refine ⟨fun i acc M => acc = (((rs.filter fun p => p.2.shown.isSome).take i).map fun z => decide (mm.get z.2.item = z.2.shown)).map D.bl ∧ M0 = M, ⟨rfl, rfl⟩, fun _ _ _ _ _ => trivial, fun i d acc M hi hit hP => ?_, fun acc M hP => ?_⟩
        · obtain ⟨rfl, rfl⟩ := hP
          obtain ⟨z, hz0, rfl⟩ := get_map hit
          have hi2 := (List.getElem?_eq_some_iff.mp hz0).1
          obtain ⟨hzm, hzs⟩ := List.mem_filter.mp (List.mem_of_getElem? hz0)
          obtain ⟨jz, hz⟩ := List.getElem?_of_mem hzm
          obtain ⟨a, hga⟩ := Option.isSome_iff_exists.mp (hms mm (List.mem_of_getElem? hm5) z.2 (List.mem_map_of_mem hzm))
          have hlf : (rs.filter fun p => p.2.shown.isSome).length ≤ rs.length := List.length_filter_le _ _
          intro _ _ _ _ _
          refine cg_name 4 ?_ nd
          intro _ _ _ _ _
          refine gts_nil ⟨fun _ => ?_, fun z => nomatch z⟩
          intro _ _ _ _ _
          refine ge_cmp (op_eqU hu) (nomark _) ?_
          refine ge_dget (Nat.lt_of_le_of_lt (Nat.add_le_add_left (by decide : 1 ≤ 65) _) hu5) (fun _ _ => rfl) ?_
          refine ((ev_var 3)).ge ?_
          refine ge_fld 0 ?_
          refine ((ev_var 4)).ge ?_
          refine ⟨CI, _, _, _, clI, ni_item, .inr ⟨jz + q0, _, rfl, hrow jz z hz⟩, by decide, rfl, rfl, ?_⟩
          refine ⟨_, _, .inr z.2.item, .int a, .dct, rfl, by rw [am_val, hga]; rfl, ?_⟩
          refine ge_fld 3 ?_
          refine ((ev_var 4)).ge ?_
          refine ⟨CI, _, _, _, clI, ni_shown, .inr ⟨jz + q0, _, rfl, hrow jz z hz⟩, by decide, rfl, rfl, ?_⟩
          refine (eq_dat (n := 0) (m := 0) rfl (sm_dO _) ?_)
          exact ⟨by simp; omega, by rw [List.take_add_one, hz0]; simp [mix_eq hga], rfl⟩
        · obtain ⟨rfl, rfl⟩ := hP
          rw [List.length_map, List.take_length]
          refine ga_nil ?_
          refine (all_lst (bs := (rs.filter fun p => p.2.shown.isSome).map fun z => decide (mm.get z.2.item = z.2.shown)) (by simp) ?_)
          refine ⟨_, rfl, ?_⟩
          refine ⟨fun hb2 => ?_, fun hb2 => ?_⟩
          · have hb2 := hb2
            refine gb_one (gs_ret ?_)
            refine (ev_bl).ge ?_
            exact mix_met hm5 (by simpa [List.all_map] using hb2) hk
          · have hb2 := hb2
            refine gb_nil ?_
            refine gb_nil ?_
            exact ⟨_, rfl, fun m hm => (mem_take_succ hm5 hm).elim (hno m) fun e => by rw [e]; simpa [List.all_map] using hb2, rfl⟩
      · obtain ⟨y, rfl, hno, rfl⟩ := hP
        rw [List.length_map, List.take_length] at hno
        refine gb_one (gs_ret ?_)
        refine (ev_bl).ge ?_
        exact mix_yes hb1 hno hk
theorem sc_History_go_on : FnScope ["self", "deed", "index", "names"] ["self", "deed", "index"] (defScope s_History_go_on) := ⟨rfl, rfl, rfl, by decide +kernel, rfl, by decide +kernel, by decide +kernel⟩
theorem ok_History_go_on {f : Addr} {fd : FuncData} {CC CI CB CH : Addr} (F : Fun K "go_on" "History.go_on" s_History_go_on f fd) (T : Txt K mg) (F_Cart_play_deed : MtD P w K mg base 1 CC "play_deed" [] (R_Cart_play_deed CC CI)) (F_Cart_carry_out : MtD P w K mg base 5 CC "carry_out" [] (R_Cart_carry_out CC CI CB)) (F_Cart_report : MtD P w K mg base 1 CC "report" [] (R_Cart_report CC CI)) (F_are_mixed : FnD P w K mg base 1 "are_mixed" [] (R_are_mixed CI)) (F_wrongs_of : FnD P w K mg base 1 "wrongs_of" [] (R_wrongs_of CI)) (clH : Cls K CH) (nh_cart : NoAttr K CH "cart") (nh_reports : NoAttr K CH "reports") (nh_wrongs : NoAttr K CH "wrongs") (nh_mixed : NoAttr K CH "mixed") (nh_moments : NoAttr K CH "moments") (clC : Cls K CC) (nc_design : NoAttr K CC "design") (nc_amounts : NoAttr K CC "amounts") (nc_rows : NoAttr K CC "rows") (nc_is_failed : NoAttr K CC "is_failed") (nc_spent : NoAttr K CC "spent") (nc_times_asked : NoAttr K CC "times_asked") : FnOk P w K mg base (L2.CX P w) 7 f fd ["self", "deed", "index"] (spD K (R_History_go_on CC CI CB CH)) := by
  have nd := sc_History_go_on.nd
  refine fn_ok F sc_History_go_on (fun ds M k kx H0 => by obtain ⟨h, x, am, rw, rp, wr, mx, mo, s2, c, rs, d, n, rd, wd, md, ms, rfl, rfl, oks, okd, hpl, hlen, hal, hhas, ⟨hz1, hz2, hz3, hz4⟩, hk⟩ := H0; rfl) fun cdv A outer s H E ds M k kx hr H0 => ?_
  obtain ⟨h, x, am, rw, rp, wr, mx, mo, s2, c, rs, d, n, rd, wd, md, ms, rfl, rfl, oks, okd, hpl, hlen, hal, hhas, ⟨hz1, hz2, hz3, hz4⟩, hk⟩ := H0
  have hu := hr.units
  have hu5 := units65 hr
  rcases hk with ⟨i, a, rfl, hk⟩ | ⟨hnp, hafter, hk⟩
  · skip
    refine gb_cons (gs_if ?_)
    refine ((tv_cmp (op_eqU hu) (nomark _) (ev_ix ix_seq (fun _ _ => rfl) (ev_var 1) ev_int (ix_tup' (j := 0) (by walk_at "sd") (by walk_at "sd") ⟨rfl, rfl⟩)) ev_str (eq_str ⟨rfl, rfl⟩))).gt ?_
    refine ⟨fun _ => ?_, by walk_at "no"⟩
    refine gb_cons (gs_expr ?_)
    refine ge_append ?_
    refine ge_fld 1 ?_
    refine ((ev_var 0)).ge ?_
    refine ⟨CH, _, _, _, clH, nh_reports, .inr ⟨0, _, rfl, rfl⟩, by decide, rfl, rfl, ?_⟩
    refine ⟨⟨1, _, _, rfl, rfl⟩, ?_⟩
    refine ge_methF F_Cart_play_deed hr (by decide) ?_
    refine ge_fld 0 ?_
    refine ((ev_var 0)).ge ?_
    refine ⟨CH, _, _, _, clH, nh_cart, .inr ⟨0, _, rfl, rfl⟩, by decide, rfl, rfl, ?_⟩
    refine ⟨ctF, _, .inr ⟨5, x, rfl, rfl⟩, by decide, ?_⟩
    refine ((av_cons (ev_var 1) av_nil)).ga ?_
    refine Hand.of (cartM CC CI x am rw (bk CB s2) c rs) (hyM CH h x rp wr mx mo rd wd md ms) (.refl _) ⟨x, am, rw, bk CB s2, c, rs, i, a, rfl, rfl, hpl, hal, ?_⟩
    refine ⟨1, _, _, rfl, rfl, by walk_at "sd", ?_⟩
    refine gb_cons (gs_expr ?_)
    refine ge_append ?_
    refine ge_fld 4 ?_
    refine ((ev_var 0)).ge ?_
    refine ⟨CH, _, _, _, clH, nh_moments, .inr ⟨0, _, rfl, rfl⟩, by decide, rfl, rfl, ?_⟩
    refine ⟨⟨4, _, _, rfl, rfl⟩, ?_⟩
    refine ge_callT call_dictD T.z_dict b_dict ?_
    refine ga_cons ?_
    refine ge_fld 1 ?_
    refine ge_fld 0 ?_
    refine ((ev_var 0)).ge ?_
    refine ⟨CH, _, _, _, clH, nh_cart, .inr ⟨0, _, rfl, rfl⟩, by decide, rfl, rfl, ?_⟩
    refine ⟨CC, _, _, _, clC, nc_amounts, .inr ⟨5, _, rfl, rfl⟩, by decide, rfl, rfl, ?_⟩
    refine ga_nil ?_
    refine (dct_of (.hdl 6 rfl) ?_)
    refine ⟨4, _, _, rfl, rfl, by walk_at "sd", ?_⟩
    refine gb_one (gs_retN ?_)
    exact go_price hk
  · skip
    refine gb_cons (gs_if ?_)
    refine ((tv_cmp (op_eqU hu) (nomark _) (ev_ix ix_seq (fun _ _ => rfl) (ev_var 1) ev_int (word_ix ⟨rfl, rfl⟩)) ev_str (eq_str ⟨rfl, rfl⟩))).gt ?_
    refine ⟨by walk_at "no", fun _ => ?_⟩
    refine gb_nil ?_
    refine gb_cons (gs_set 3 ?_ nd)
    refine ge_methF F_Cart_carry_out hr (by decide) ?_
    refine ge_fld 0 ?_
    refine ((ev_var 0)).ge ?_
    refine ⟨CH, _, _, _, clH, nh_cart, .inr ⟨0, _, rfl, rfl⟩, by decide, rfl, rfl, ?_⟩
    refine ⟨ctF, _, .inr ⟨5, x, rfl, rfl⟩, by decide, ?_⟩
    refine ((av_cons (ev_var 1) av_nil)).ga ?_
    refine Hand.of (cartM CC CI x am rw (bk CB s2) c rs) (hyM CH h x rp wr mx mo rd wd md ms) (.refl _) ⟨x, am, rw, s2, c, rs, d, rfl, rfl, oks, okd, hpl, hnp, hlen, hhas, fun fa rw1 rs1 hT1 => ?_⟩
    obtain ⟨hl1, hm1, hs1, hn1⟩ := hafter
    rw [← hT1] at hl1 hm1 hs1 hn1
    rw [List.length_map] at hl1
    refine gb_cons (gs_if ?_)
    refine gt_val ?_
    refine ge_callF F_are_mixed hr (by decide) ?_
    refine ga_cons ?_
    refine ge_fld 2 ?_
    refine ge_fld 0 ?_
    refine ((ev_var 0)).ge ?_
    refine ⟨CH, _, _, _, clH, nh_cart, .inr ⟨0, _, rfl, rfl⟩, by decide, rfl, rfl, ?_⟩
    refine ⟨CC, _, _, _, clC, nc_rows, .inr ⟨6, _, rfl, rfl⟩, by decide, rfl, rfl, ?_⟩
    refine ga_cons ?_
    refine ge_fld 4 ?_
    refine ((ev_var 0)).ge ?_
    refine ⟨CH, _, _, _, clH, nh_moments, .inr ⟨0, _, rfl, rfl⟩, by decide, rfl, rfl, ?_⟩
    refine ga_nil ?_
    refine Hand.all ⟨rw1, mo, rs1, ms, _, 8, 9, 4, rfl, rfl, rfl, fun j z hz => row_at hz, rfl, hl1, hm1, ?_⟩
    refine ⟨_, rfl, ?_⟩
    refine ⟨fun hb1 => ?_, fun hb1 => ?_⟩
    · have hb1 := hb1
      refine gb_cons (gs_expr ?_)
      refine ge_append ?_
      refine ge_fld 3 ?_
      refine ((ev_var 0)).ge ?_
      refine ⟨CH, _, _, _, clH, nh_mixed, .inr ⟨0, _, rfl, rfl⟩, by decide, rfl, rfl, ?_⟩
      refine ⟨⟨3, _, _, rfl, rfl⟩, ?_⟩
      refine ((ev_var 2)).ge ?_
      refine ⟨3, _, _, rfl, rfl, by walk_at "sd", ?_⟩
      refine gb_nil ?_
      refine gb_cons (gs_if ?_)
      refine ((tv_cmp (op_eqU hu) (nomark _) (ev_var 1) (ev_tup (av_cons ev_str (av_cons ev_bl av_nil))) (eq_dat (n := 1) (m := 1) (sm_dDd okd) (by decide +kernel) ⟨rfl, rfl⟩))).gt ?_
      refine ⟨fun hb2 => ?_, fun hb2 => ?_⟩
      · rw [eqv_payT] at hb2
        refine gb_cons (gs_expr ?_)
        refine ge_extend ?_
        refine ge_fld 2 ?_
        refine ((ev_var 0)).ge ?_
        refine ⟨CH, _, _, _, clH, nh_wrongs, .inr ⟨0, _, rfl, rfl⟩, by decide, rfl, rfl, ?_⟩
        refine ⟨⟨2, _, _, rfl, rfl⟩, ?_⟩
        refine ge_callF F_wrongs_of hr (by decide) ?_
        refine ga_cons ?_
        refine ge_fld 2 ?_
        refine ge_fld 0 ?_
        refine ((ev_var 0)).ge ?_
        refine ⟨CH, _, _, _, clH, nh_cart, .inr ⟨0, _, rfl, rfl⟩, by decide, rfl, rfl, ?_⟩
        refine ⟨CC, _, _, _, clC, nc_rows, .inr ⟨6, _, rfl, rfl⟩, by decide, rfl, rfl, ?_⟩
        refine ga_cons ?_
        refine ((ev_var 2)).ge ?_
        refine ga_nil ?_
        refine Hand.all ⟨rw1, n, rs1, _, 8, 9, rfl, rfl, rfl, fun j z hz => row_at hz, hl1, hs1, ?_⟩
        have hwl := wr_len n (rs1.map (·.2))
        have hll : (rs1.map (·.2)).length ≤ 1000 := by rw [List.length_map]; exact hl1
        have hwd : (wd.map dW).length ≤ 10000000 := by rw [List.length_map]; exact hz2
        refine ⟨2, _, _, _, rfl, rfl, rfl, by walk_at "sd", ?_⟩
        refine gb_nil ?_
        refine gb_cons (gs_expr ?_)
        refine ge_append ?_
        refine ge_fld 1 ?_
        refine ((ev_var 0)).ge ?_
        refine ⟨CH, _, _, _, clH, nh_reports, .inr ⟨0, _, rfl, rfl⟩, by decide, rfl, rfl, ?_⟩
        refine ⟨⟨1, _, _, rfl, rfl⟩, ?_⟩
        refine ge_methF F_Cart_report hr (by decide) ?_
        refine ge_fld 0 ?_
        refine ((ev_var 0)).ge ?_
        refine ⟨CH, _, _, _, clH, nh_cart, .inr ⟨0, _, rfl, rfl⟩, by decide, rfl, rfl, ?_⟩
        refine ⟨ctF, _, .inr ⟨6, x, rfl, rfl⟩, by decide, ?_⟩
        refine ((av_cons (ev_var 1) (av_cons (ev_var 3) av_nil))).ga ?_
        refine Hand.cut 6 (A := cartM CC CI x am rw1 (bk CB s2) (carryC s2 d c (rs.map (·.2))).1 rs1) rfl ⟨x, am, rw1, bk CB s2, _, rs1, d, .hdl fa, rfl, rfl, okd, hl1, hn1, fun ta rw2 rs3 hT3 => ?_⟩
        refine ⟨1, _, _, rfl, rfl, by walk_at "sd", ?_⟩
        refine gb_nil ?_
        exact go_end hT1 hT3 (by simp [hb2]) (by simp [hb1]) hk
      · rw [eqv_payT] at hb2
        refine gb_nil ?_
        refine gb_cons (gs_expr ?_)
        refine ge_append ?_
        refine ge_fld 1 ?_
        refine ((ev_var 0)).ge ?_
        refine ⟨CH, _, _, _, clH, nh_reports, .inr ⟨0, _, rfl, rfl⟩, by decide, rfl, rfl, ?_⟩
        refine ⟨⟨1, _, _, rfl, rfl⟩, ?_⟩
        refine ge_methF F_Cart_report hr (by decide) ?_
        refine ge_fld 0 ?_
        refine ((ev_var 0)).ge ?_
        refine ⟨CH, _, _, _, clH, nh_cart, .inr ⟨0, _, rfl, rfl⟩, by decide, rfl, rfl, ?_⟩
        refine ⟨ctF, _, .inr ⟨6, x, rfl, rfl⟩, by decide, ?_⟩
        refine ((av_cons (ev_var 1) (av_cons (ev_var 3) av_nil))).ga ?_
        refine Hand.cut 6 (A := cartM CC CI x am rw1 (bk CB s2) (carryC s2 d c (rs.map (·.2))).1 rs1) rfl ⟨x, am, rw1, bk CB s2, _, rs1, d, .hdl fa, rfl, rfl, okd, hl1, hn1, fun ta rw2 rs3 hT3 => ?_⟩
        refine ⟨1, _, _, rfl, rfl, by walk_at "sd", ?_⟩
        refine gb_nil ?_
        exact go_end hT1 hT3 (by simp [hb2]) (by simp [hb1]) hk
    · have hb1 := hb1
      refine gb_nil ?_
      refine gb_cons (gs_if ?_)
      refine ((tv_cmp (op_eqU hu) (nomark _) (ev_var 1) (ev_tup (av_cons ev_str (av_cons ev_bl av_nil))) (eq_dat (n := 1) (m := 1) (sm_dDd okd) (by decide +kernel) ⟨rfl, rfl⟩))).gt ?_
      refine ⟨fun hb3 => ?_, fun hb3 => ?_⟩
      · rw [eqv_payT] at hb3
        refine gb_cons (gs_expr ?_)
        refine ge_extend ?_
        refine ge_fld 2 ?_
        refine ((ev_var 0)).ge ?_
        refine ⟨CH, _, _, _, clH, nh_wrongs, .inr ⟨0, _, rfl, rfl⟩, by decide, rfl, rfl, ?_⟩
        refine ⟨⟨2, _, _, rfl, rfl⟩, ?_⟩
        refine ge_callF F_wrongs_of hr (by decide) ?_
        refine ga_cons ?_
        refine ge_fld 2 ?_
        refine ge_fld 0 ?_
        refine ((ev_var 0)).ge ?_
        refine ⟨CH, _, _, _, clH, nh_cart, .inr ⟨0, _, rfl, rfl⟩, by decide, rfl, rfl, ?_⟩
        refine ⟨CC, _, _, _, clC, nc_rows, .inr ⟨6, _, rfl, rfl⟩, by decide, rfl, rfl, ?_⟩
        refine ga_cons ?_
        refine ((ev_var 2)).ge ?_
        refine ga_nil ?_
        refine Hand.all ⟨rw1, n, rs1, _, 8, 9, rfl, rfl, rfl, fun j z hz => row_at hz, hl1, hs1, ?_⟩
        have hwl := wr_len n (rs1.map (·.2))
        have hll : (rs1.map (·.2)).length ≤ 1000 := by rw [List.length_map]; exact hl1
        have hwd : (wd.map dW).length ≤ 10000000 := by rw [List.length_map]; exact hz2
        refine ⟨2, _, _, _, rfl, rfl, rfl, by walk_at "sd", ?_⟩
        refine gb_nil ?_
        refine gb_cons (gs_expr ?_)
        refine ge_append ?_
        refine ge_fld 1 ?_
        refine ((ev_var 0)).ge ?_
        refine ⟨CH, _, _, _, clH, nh_reports, .inr ⟨0, _, rfl, rfl⟩, by decide, rfl, rfl, ?_⟩
        refine ⟨⟨1, _, _, rfl, rfl⟩, ?_⟩
        refine ge_methF F_Cart_report hr (by decide) ?_
        refine ge_fld 0 ?_
        refine ((ev_var 0)).ge ?_
        refine ⟨CH, _, _, _, clH, nh_cart, .inr ⟨0, _, rfl, rfl⟩, by decide, rfl, rfl, ?_⟩
        refine ⟨ctF, _, .inr ⟨6, x, rfl, rfl⟩, by decide, ?_⟩
        refine ((av_cons (ev_var 1) (av_cons (ev_var 3) av_nil))).ga ?_
        refine Hand.cut 6 (A := cartM CC CI x am rw1 (bk CB s2) (carryC s2 d c (rs.map (·.2))).1 rs1) rfl ⟨x, am, rw1, bk CB s2, _, rs1, d, .hdl fa, rfl, rfl, okd, hl1, hn1, fun ta rw2 rs3 hT3 => ?_⟩
        refine ⟨1, _, _, rfl, rfl, by walk_at "sd", ?_⟩
        refine gb_nil ?_
        exact go_end hT1 hT3 (by simp [hb3]) (by simp [hb1]) hk
      · rw [eqv_payT] at hb3
        refine gb_nil ?_
        refine gb_cons (gs_expr ?_)
        refine ge_append ?_
        refine ge_fld 1 ?_
        refine ((ev_var 0)).ge ?_
        refine ⟨CH, _, _, _, clH, nh_reports, .inr ⟨0, _, rfl, rfl⟩, by decide, rfl, rfl, ?_⟩
        refine ⟨⟨1, _, _, rfl, rfl⟩, ?_⟩
        refine ge_methF F_Cart_report hr (by decide) ?_
        refine ge_fld 0 ?_
        refine ((ev_var 0)).ge ?_
        refine ⟨CH, _, _, _, clH, nh_cart, .inr ⟨0, _, rfl, rfl⟩, by decide, rfl, rfl, ?_⟩
        refine ⟨ctF, _, .inr ⟨6, x, rfl, rfl⟩, by decide, ?_⟩
        refine ((av_cons (ev_var 1) (av_cons (ev_var 3) av_nil))).ga ?_
        refine Hand.cut 6 (A := cartM CC CI x am rw1 (bk CB s2) (carryC s2 d c (rs.map (·.2))).1 rs1) rfl ⟨x, am, rw1, bk CB s2, _, rs1, d, .hdl fa, rfl, rfl, okd, hl1, hn1, fun ta rw2 rs3 hT3 => ?_⟩
        refine ⟨1, _, _, rfl, rfl, by walk_at "sd", ?_⟩
        refine gb_nil ?_
        exact go_end hT1 hT3 (by simp [hb3]) (by simp [hb1]) hk
theorem sc_History_init : FnScope ["self", "book", "prices", "deeds", "index", "deed"] ["self", "book", "prices", "deeds"] (defScope s_History_init) := ⟨rfl, rfl, rfl, by decide +kernel, rfl, by decide +kernel, by decide +kernel⟩
theorem ok_History_init {f : Addr} {fd : FuncData} {CC CI CB CH : Addr} (F : Fun K "__init__" "History.__init__" s_History_init f fd) (T : Txt K mg) (F_check_history : FnD P w K mg base 5 "check_history" [] R_check_history) (F_Cart_init : MkD P w K mg base 1 CC "Cart" [] (R_Cart_init CC CI)) (F_Cart_check : MtD P w K mg base 2 CC "check" [] (R_Cart_check CC CI)) (F_History_go_on : MtD P w K mg base 7 CH "go_on" [] (R_History_go_on CC CI CB CH)) (clH : Cls K CH) (nh_cart : NoAttr K CH "cart") (nh_reports : NoAttr K CH "reports") (nh_wrongs : NoAttr K CH "wrongs") (nh_mixed : NoAttr K CH "mixed") (nh_moments : NoAttr K CH "moments") (clC : Cls K CC) (nc_design : NoAttr K CC "design") (nc_amounts : NoAttr K CC "amounts") (nc_rows : NoAttr K CC "rows") (nc_is_failed : NoAttr K CC "is_failed") (nc_spent : NoAttr K CC "spent") (nc_times_asked : NoAttr K CC "times_asked") : FnOk P w K mg base (L2.CX P w) 8 f fd ["self", "book", "prices", "deeds"] (spD K (R_History_init CC CI CB CH)) := by
  have nd := sc_History_init.nd
  refine fn_ok F sc_History_init (fun ds M k kx H0 => by obtain ⟨h, s2, m, dl, rfl, rfl, oks, om, od, hl9, hpls, hk⟩ := H0; rfl) fun cdv A outer s H E ds M k kx hr H0 => ?_
  obtain ⟨h, s2, m, dl, rfl, rfl, oks, om, od, hl9, hpls, hk⟩ := H0
  have hu := hr.units
  have hu5 := units65 hr
  refine gb_cons (gs_expr ?_)
  refine ge_callF F_check_history hr (by decide) ?_
  refine ((av_cons (ev_var 2) (av_cons (ev_var 3) av_nil))).ga ?_
  refine Hand.none ⟨m, dl, rfl, rfl, om, od, ?_⟩
  refine gb_cons (gs_fld ?_)
  refine ge_makeF F_Cart_init hr (by decide) ?_
  refine ((av_cons (ev_var 1) (av_cons (ev_var 2) av_nil))).ga ?_
  refine fun x => Hand.of [(x, .ins CC [] [])] [(h, .ins CH [] [])] (.refl _) ⟨x, bk CB s2, m, rfl, rfl, om.nd, Nat.le_trans om.l6 (by decide), fun am rw => ⟨rfl, ?_⟩⟩
  refine ((ev_var 0)).ge ?_
  refine ⟨0, _, _, _, _, _, _, rfl, rfl, clH, nh_cart, by decide, .new (by decide), ?_⟩
  refine gb_cons (gs_fld ?_)
  refine ge_lstM ?_
  refine (av_nil).ga ?_
  refine ⟨by walk_at "sd", fun rp => ?_⟩
  refine ((ev_var 0)).ge ?_
  refine ⟨0, _, _, _, _, _, _, rfl, rfl, clH, nh_reports, by decide, .new (by decide), ?_⟩
  refine gb_cons (gs_fld ?_)
  refine ge_lstM ?_
  refine (av_nil).ga ?_
  refine ⟨by walk_at "sd", fun wr => ?_⟩
  refine ((ev_var 0)).ge ?_
  refine ⟨0, _, _, _, _, _, _, rfl, rfl, clH, nh_wrongs, by decide, .new (by decide), ?_⟩
  refine gb_cons (gs_fld ?_)
  refine ge_lstM ?_
  refine (av_nil).ga ?_
  refine ⟨by walk_at "sd", fun mx => ?_⟩
  refine ((ev_var 0)).ge ?_
  refine ⟨0, _, _, _, _, _, _, rfl, rfl, clH, nh_mixed, by decide, .new (by decide), ?_⟩
  refine gb_cons (gs_fld ?_)
  refine ge_lstM ?_
  refine ga_cons ?_
  refine ge_callT call_dictD T.z_dict b_dict ?_
  refine ga_cons ?_
  refine ge_fld 1 ?_
  refine ge_fld 0 ?_
  refine ((ev_var 0)).ge ?_
  refine ⟨CH, _, _, _, clH, nh_cart, .inr ⟨0, _, rfl, rfl⟩, by decide, rfl, rfl, ?_⟩
  refine ⟨CC, _, _, _, clC, nc_amounts, .inr ⟨1, _, rfl, rfl⟩, by decide, rfl, rfl, ?_⟩
  refine ga_nil ?_
  refine (dct_of (.hdl 2 rfl) ?_)
  refine ga_nil ?_
  refine ⟨by walk_at "sd", fun mo => ?_⟩
  refine ((ev_var 0)).ge ?_
  refine ⟨0, _, _, _, _, _, _, rfl, rfl, clH, nh_moments, by decide, .new (by decide), ?_⟩
  refine gb_perm (his_perm _ _ _ _ _ _ _ _) ?_
  refine gb_cons (gs_for (passes_of rfl) rfl ?_)
  refine gi_enum T.z_enumerate ?_
  refine ((av_cons (ev_var 3) av_nil)).ga ?_
  refine ⟨_, rfl, ?_⟩
  refine ⟨fun i Γ M => ∃ (rw : Addr) (RH : List (Option RpH)) (rs : Rs) (y z : Option D), Γ = [some (.hdl h), some (bk CB s2), some (dPr m), some (.lst (dl.map dDd)), y, z] ∧ RH.map fgt = (hAt s2 m dl i).rps ∧ rs.map (·.2) = (hAt s2 m dl i).ls ∧ M = hyM CH h x rp wr mx mo (RH.map dH) (hAt s2 m dl i).wr (hAt s2 m dl i).mx (hAt s2 m dl i).ms ++ RH.flatMap eH ++ cartM CC CI x am rw (bk CB s2) (hAt s2 m dl i).c rs, ⟨rw, [], [], none, none, rfl, rfl, rfl, rfl⟩, fun _ _ _ _ _ => trivial, fun i d Γ M hi hit hP => ?_, fun Γ M hP => ?_⟩
  · obtain ⟨rw, RH, rs, y, z, rfl, hRH, hls, rfl⟩ := hP
    obtain ⟨e5, he5, rfl⟩ := hit
    obtain ⟨d5, hd5, rfl⟩ := get_map he5
    have okd := od d5 (List.mem_of_getElem? hd5)
    have hi5 := (List.getElem?_eq_some_iff.mp hd5).1
    have hv := hinv om od hpls (Nat.le_of_lt hi5) hl9
    have hi9 : i ≤ 900 := by omega
    have hpl5 : Play (hAt s2 m dl i).c.am (rs.map (·.2)) d5 := by rw [hls]; exact hpls i d5 hd5
    refine gg_tup rfl ?_ rfl
    refine ggs_cons ?_
    refine gg_name 4 ?_ nd
    refine ggs_cons ?_
    refine gg_name 5 ?_ nd
    refine ggs_nil ?_
    refine gb_cons (gs_expr ?_)
    refine ge_methF F_Cart_check hr (by decide) ?_
    refine ge_fld 0 ?_
    refine ((ev_var 0)).ge ?_
    refine ⟨CH, _, _, _, clH, nh_cart, .inr ⟨0, _, rfl, rfl⟩, by decide, rfl, rfl, ?_⟩
    refine ⟨ctF, _, .inr ⟨5 + (RH.flatMap eH).length, x, rfl, mid_at (H := hyM CH h x rp wr mx mo (RH.map dH) (hAt s2 m dl i).wr (hAt s2 m dl i).mx (hAt s2 m dl i).ms) (T := RH.flatMap eH) rfl⟩, by decide, ?_⟩
    refine ((av_cons (ev_var 5) (av_cons (ev_var 4) av_nil))).ga ?_
    refine Hand.of (cartM CC CI x am rw (bk CB s2) (hAt s2 m dl i).c rs) (hyM CH h x rp wr mx mo (RH.map dH) (hAt s2 m dl i).wr (hAt s2 m dl i).mx (hAt s2 m dl i).ms ++ RH.flatMap eH) (.refl _) ⟨x, am, rw, _, _, rs, d5, i, rfl, rfl, okd, hpl5, ?_⟩
    refine gb_cons (gs_expr ?_)
    refine ge_methF F_History_go_on hr (by decide) ?_
    refine ((ev_var 0)).ge ?_
    refine ⟨hyF, _, .inr ⟨0, h, rfl, rfl⟩, by decide, ?_⟩
    refine ((av_cons (ev_var 5) (av_cons (ev_var 4) av_nil))).ga ?_
    refine Hand.of (hyM CH h x rp wr mx mo (RH.map dH) (hAt s2 m dl i).wr (hAt s2 m dl i).mx (hAt s2 m dl i).ms ++ cartM CC CI x am rw (bk CB s2) (hAt s2 m dl i).c rs) (RH.flatMap eH) (go_perm1 _ _ _) ⟨h, x, am, rw, rp, wr, mx, mo, s2, _, rs, d5, i, _, _, _, _, rfl, rfl, oks, okd, hpl5, hv.len2 hls hi9, hv.aml, hv.has2 hls, hv.sizes hRH hi9, ?_⟩
    refine go_case (Q := fun N => GB _ _ (RH.flatMap eH ++ N) [] _) hv okd hpl5 hRH hls hi9 fun r rw2 rs2 h1 h2 => ?_
    refine gb_perm (go_perm2 _ _ _ _) ?_
    refine gb_nil ?_
    refine ⟨rw2, RH ++ [r], rs2, _, _, rfl, ?_, ?_, ?_⟩ <;> rw [hAt_succ hd5]
    · exact h1
    · exact h2
    · rw [List.flatMap_append, List.flatMap_singleton]
  · obtain ⟨rw, RH, rs, y, z, rfl, hRH, hls, rfl⟩ := hP
    rw [List.length_map] at hRH hls ⊢
    refine gb_nil ?_
    exact hk x am _ rp wr mx mo RH rs hRH hls
theorem sc_play : FnScope ["book", "prices", "deeds"] ["book", "prices", "deeds"] (defScope s_play) := ⟨rfl, rfl, rfl, by decide +kernel, rfl, by decide +kernel, by decide +kernel⟩
theorem ok_play {f : Addr} {fd : FuncData} {CC CI CB CH : Addr} (F : Fun K "play" "play" s_play f fd) (T : Txt K mg) (F_History_init : MkD P w K mg base 8 CH "History" [] (R_History_init CC CI CB CH)) (clH : Cls K CH) (nh_cart : NoAttr K CH "cart") (nh_reports : NoAttr K CH "reports") (nh_wrongs : NoAttr K CH "wrongs") (nh_mixed : NoAttr K CH "mixed") (nh_moments : NoAttr K CH "moments") : FnOk P w K mg base (L2.CX P w) 10 f fd ["book", "prices", "deeds"] (spD K (R_play CC CI CB CH)) := by
  have nd := sc_play.nd
  refine fn_ok F sc_play (fun ds M k kx H0 => by obtain ⟨s2, m, dl, rfl, rfl, oks, om, od, hl9, hpls, hk⟩ := H0; rfl) fun cdv A outer s H E ds M k kx hr H0 => ?_
  obtain ⟨s2, m, dl, rfl, rfl, oks, om, od, hl9, hpls, hk⟩ := H0
  have hu := hr.units
  have hu5 := units65 hr
  refine gb_one (gs_ret (ge_drop (ge_fld 1 ?_)))
  refine ge_makeF F_History_init hr (by decide) ((av_cons (ev_var 0) (av_cons (ev_var 1) (av_cons (ev_var 2) av_nil))).ga ?_)
  refine fun h => Hand.all ⟨h, s2, m, dl, rfl, rfl, oks, om, od, hl9, hpls, fun x am rw rp wr mx mo RH rs h1 h2 => ⟨rfl, ?_⟩⟩
  exact ⟨CH, _, _, _, clH, nh_reports, .inr ⟨0, _, rfl, rfl⟩, by decide, rfl, rfl, _, .cons _ (.cons₂ _ (.cons _ (.cons _ (.cons _ (List.sublist_append_left _ _))))), hk rp RH h1⟩
theorem sc_mixtures : FnScope ["book", "prices", "deeds"] ["book", "prices", "deeds"] (defScope s_mixtures) := ⟨rfl, rfl, rfl, by decide +kernel, rfl, by decide +kernel, by decide +kernel⟩
theorem ok_mixtures {f : Addr} {fd : FuncData} {CC CI CB CH : Addr} (F : Fun K "mixtures" "mixtures" s_mixtures f fd) (T : Txt K mg) (F_History_init : MkD P w K mg base 8 CH "History" [] (R_History_init CC CI CB CH)) (clH : Cls K CH) (nh_cart : NoAttr K CH "cart") (nh_reports : NoAttr K CH "reports") (nh_wrongs : NoAttr K CH "wrongs") (nh_mixed : NoAttr K CH "mixed") (nh_moments : NoAttr K CH "moments") : FnOk P w K mg base (L2.CX P w) 10 f fd ["book", "prices", "deeds"] (spD K (R_mixtures CC CI CB CH)) := by
  have nd := sc_mixtures.nd
  refine fn_ok F sc_mixtures (fun ds M k kx H0 => by obtain ⟨s2, m, dl, rfl, rfl, oks, om, od, hl9, hpls, hk⟩ := H0; rfl) fun cdv A outer s H E ds M k kx hr H0 => ?_
  obtain ⟨s2, m, dl, rfl, rfl, oks, om, od, hl9, hpls, hk⟩ := H0
  have hu := hr.units
  have hu5 := units65 hr
  refine gb_one (gs_ret (ge_drop (ge_fld 3 ?_)))
  refine ge_makeF F_History_init hr (by decide) ((av_cons (ev_var 0) (av_cons (ev_var 1) (av_cons (ev_var 2) av_nil))).ga ?_)
  refine fun h => Hand.all ⟨h, s2, m, dl, rfl, rfl, oks, om, od, hl9, hpls, fun x am rw rp wr mx mo RH rs h1 h2 => ⟨rfl, ?_⟩⟩
  exact ⟨CH, _, _, _, clH, nh_mixed, .inr ⟨0, _, rfl, rfl⟩, by decide, rfl, rfl, _, .cons _ (.cons _ (.cons _ (.cons₂ _ (List.nil_sublist _)))), hk mx⟩
theorem sc__law_well : FnScope ["script", "k", "cell"] ["script", "k"] (defScope s__law_well) := ⟨rfl, rfl, rfl, by decide +kernel, rfl, by decide +kernel, by decide +kernel⟩
theorem ok__law_well {f : Addr} {fd : FuncData}  (F : Fun K "_law_well" "_law_well" s__law_well f fd) (T : Txt K mg) : FnOk P w K mg base (L2.CX P w) 1 f fd ["script", "k"] (spD K R__law_well) := by
  have nd := sc__law_well.nd
  refine fn_ok F sc__law_well (fun ds M k kx H0 => by obtain ⟨ns, i, rfl, rfl, hi0, hi1, hk⟩ := H0; rfl) fun cdv A outer s H E ds M k kx hr H0 => ?_
  obtain ⟨ns, i, rfl, rfl, hi0, hi1, hk⟩ := H0
  have hu := hr.units
  have hu5 := units65 hr
  have key : ∀ c : Int, GB (cxOf (L2.CX P w) P w K mg base ["script", "k", "cell"] "_law_well" (defScope s__law_well) f cdv A outer s H E) [some (.seq (ns.map D.int)), some (.int i), some (.int c)] []
      [(defBody s__law_well).getD 2 (.Pass ⟨0, 0, 0, 0⟩)] { nx := fun _ M' => k .non M', rt := k, ex := fun c f _ M' => kx c f M' } := fun c => by
    refine gb_one (gs_ret ?_)
    refine ge_lstM ?_
    refine (av_cons (ev_callB (call_max2 rfl) T.z_max PyProof.Rows.boot_max (av_cons ev_int (av_cons (ev_bin op_sub (ev_callB call_abs T.z_abs b_abs (av_cons (ev_var 2) av_nil) (abs_int ⟨rfl, rfl⟩)) (ev_bin op_powX ev_int ev_int (pow_int (pow4 (n := 18) (by decide) (by decide) (by decide)) ⟨rfl, rfl⟩)) (sub_int ⟨rfl, rfl⟩)) av_nil)) (max2_int ⟨rfl, rfl⟩))
      (av_cons (ev_bin op_addU (ev_bin op_mod (ev_callT call_int1 T.z_int PyProof.Rows.boot_int (av_cons (ev_var 2) av_nil) (int_int ⟨rfl, rfl⟩)) ev_int (mod_int (by decide) ⟨rfl, rfl⟩)) (ev_bin op_mulU ev_int (ev_var 1) (mul_int' (mulx (by omega) (by omega) (by omega) (by omega)) ⟨rfl, rfl⟩)) (add_int ⟨rfl, rfl⟩))
      (av_cons ev_int av_nil))).ga ⟨by simp, fun p => ?_⟩
    refine hk p ⟨_, _, _⟩ ⟨?_, ?_, by show (0:Int) ≤ 0; omega, by show (0:Int) ≤ 0; omega⟩
    · have := Int.emod_nonneg c (b := 162259276829213363391578010288127) (by decide)
      show 0 ≤ c % 162259276829213363391578010288127 + 8191 * i
      omega
    · have h1 := Int.emod_lt_of_pos c (b := 162259276829213363391578010288127) (by decide)
      show c % 162259276829213363391578010288127 + 8191 * i < 10000000000000000000000000000000000000000
      omega
  refine gb_cons (gs_set 2 (ev_int.ge ?_) nd)
  refine gb_cons (gs_if ((tv_cmp op_lt (nomark _) (ev_var 1) (ev_callB call_len T.z_len PySem.boot_len (av_cons (ev_var 0) av_nil) (len_seq ⟨rfl, rfl⟩)) (lt_int ⟨rfl, rfl⟩)).gt ⟨fun hb => ?_, fun hb => ?_⟩))
  · refine gb_cons (gs_set 2 ?_ nd)
    refine ge_callT call_int1 T.z_int PyProof.Rows.boot_int ?_
    refine ga_cons ?_
    refine ge_ix ix_seq (fun _ _ => rfl) ((ev_var 0).ge ((ev_var 1).ge (ix_seqAny hi0 (by simpa using hb) fun d hd _ => ?_)))
    obtain ⟨c, _, rfl⟩ := List.mem_map.mp hd
    refine ga_nil (int_int ?_)
    refine gb_nil ?_
    exact key _
  · refine gb_nil ?_
    exact key _
theorem sc__law_draw : FnScope ["well", "many", "drawn", "mixed"] ["well", "many"] (defScope s__law_draw) := ⟨rfl, rfl, rfl, by decide +kernel, rfl, by decide +kernel, by decide +kernel⟩
theorem ok__law_draw {f : Addr} {fd : FuncData}  (F : Fun K "_law_draw" "_law_draw" s__law_draw f fd) (T : Txt K mg) : FnOk P w K mg base (L2.CX P w) 1 f fd ["well", "many"] (spD K R__law_draw) := by
  have nd := sc__law_draw.nd
  refine fn_ok F sc__law_draw (fun ds M k kx H0 => by obtain ⟨h, j, m, n, rfl, rfl, ⟨jb0, jb1, jc0, jc1⟩, hn, h0, h1, hk⟩ := H0; rfl) fun cdv A outer s H E ds M k kx hr H0 => ?_
  obtain ⟨h, j, m, n, rfl, rfl, ⟨jb0, jb1, jc0, jc1⟩, hn, h0, h1, hk⟩ := H0
  have hu := hr.units
  have hu5 := units65 hr
  refine gb_cons (gs_if ?_)
  refine ((tv_cmp op_gt (nomark _) (ev_ix ix_seq (fun _ _ => rfl) (ev_var 0) ev_int (ix_hdl (p := 0) (j := 0) rfl (by walk_at "sd") rfl ⟨rfl, rfl⟩)) ev_int (gt_int ⟨rfl, rfl⟩))).gt ?_
  refine ⟨fun hb1 => ?_, fun hb1 => ?_⟩
  · have hb1 := hb1
    refine gb_cons (gs_set 2 ?_ nd)
    refine ((ev_bin op_mod (ev_callT call_int1 T.z_int PyProof.Rows.boot_int (av_cons (ev_ix ix_seq (fun _ _ => rfl) (ev_var 0) ev_int (ix_hdl (p := 0) (j := 0) rfl (by walk_at "sd") rfl ⟨rfl, rfl⟩)) av_nil) (int_int ⟨rfl, rfl⟩)) (ev_var 1) (mod_int (by walk_at "sd") ⟨rfl, rfl⟩))).ge ?_
    refine gb_cons (gs_seti ?_)
    refine ((ev_bin op_fdivW (ev_ix ix_seq (fun _ _ => rfl) (ev_var 0) ev_int (ix_hdl (p := 0) (j := 0) rfl (by walk_at "sd") rfl ⟨rfl, rfl⟩)) (ev_var 1) (div_int (divx (by walk_at "sd") (by walk_at "sd")) ⟨rfl, rfl⟩))).ge ?_
    refine ((ev_var 0)).ge ?_
    refine (ev_int).ge ?_
    refine ⟨0, _, _, _, 0, rfl, rfl, rfl, by walk_at "sd", ?_⟩
    refine gb_one (gs_ret ?_)
    refine ((ev_var 2)).ge ?_
    exact hk _ ⟨j.a / m, j.b, j.c⟩ (Int.emod_nonneg _ (by omega)) (Int.emod_lt_of_pos _ h0) ⟨jb0, jb1, jc0, by show j.c ≤ n + 1; omega⟩
  · have hb1 := hb1
    refine gb_nil ?_
    refine gb_cons (gs_seti ?_)
    refine ((ev_bin op_addU (ev_ix ix_seq (fun _ _ => rfl) (ev_var 0) ev_int (ix_hdl (p := 0) (j := 2) rfl (by walk_at "sd") rfl ⟨rfl, rfl⟩)) ev_int (add_int ⟨rfl, rfl⟩))).ge ?_
    refine ((ev_var 0)).ge ?_
    refine (ev_int).ge ?_
    refine ⟨0, _, _, _, 2, rfl, rfl, rfl, by walk_at "sd", ?_⟩
    refine gb_cons (gs_set 3 ?_ nd)
    refine ((ev_bin op_mod (ev_callT call_int1 T.z_int PyProof.Rows.boot_int (av_cons (ev_bin op_powX (ev_bin op_addU (ev_ix ix_seq (fun _ _ => rfl) (ev_var 0) ev_int (ix_hdl (p := 0) (j := 1) rfl (by walk_at "sd") rfl ⟨rfl, rfl⟩)) (ev_bin op_mulU ev_int (ev_ix ix_seq (fun _ _ => rfl) (ev_var 0) ev_int (ix_hdl (p := 0) (j := 2) rfl (by walk_at "sd") rfl ⟨rfl, rfl⟩)) (mul_int' (mulx (by omega) (by omega) (by omega) (by omega)) ⟨rfl, rfl⟩)) (add_int ⟨rfl, rfl⟩)) ev_int (pow_int (pow4 (n := 3) (by omega) (by omega) (by decide)) ⟨rfl, rfl⟩)) av_nil) (int_int ⟨rfl, rfl⟩)) ev_int (mod_int (by decide) ⟨rfl, rfl⟩))).ge ?_
    have hs := Int.emod_nonneg ((j.b + 99991 * (j.c + 1)) ^ (3 : Int).toNat) (b := 618970019642690137449562111) (by decide)
    have hs2 := Int.emod_lt_of_pos ((j.b + 99991 * (j.c + 1)) ^ (3 : Int).toNat) (b := 618970019642690137449562111) (by decide)
    generalize ((j.b + 99991 * (j.c + 1)) ^ (3 : Int).toNat) % 618970019642690137449562111 = st at hs hs2
    refine gb_cons (gs_set 3 ?_ nd)
    refine ((ev_bin op_mod (ev_callT call_int1 T.z_int PyProof.Rows.boot_int (av_cons (ev_bin op_powX (ev_bin op_addU (ev_var 3) (ev_bin op_mulU ev_int (ev_ix ix_seq (fun _ _ => rfl) (ev_var 0) ev_int (ix_hdl (p := 0) (j := 2) rfl (by walk_at "sd") rfl ⟨rfl, rfl⟩)) (mul_int' (mulx (by omega) (by omega) (by omega) (by omega)) ⟨rfl, rfl⟩)) (add_int ⟨rfl, rfl⟩)) ev_int (pow_int (pow4 (n := 3) (by omega) (by omega) (by decide)) ⟨rfl, rfl⟩)) av_nil) (int_int ⟨rfl, rfl⟩)) ev_int (mod_int (by decide) ⟨rfl, rfl⟩))).ge ?_
    refine gb_one (gs_ret ?_)
    refine ((ev_bin op_mod (ev_callT call_int1 T.z_int PyProof.Rows.boot_int (av_cons (ev_bin op_fdivW (ev_var 3) (ev_bin op_powX ev_int ev_int (pow_int (pow4 (n := 6) (by decide) (by decide) (by decide)) ⟨rfl, rfl⟩)) (div_int (divx (by decide) (by decide)) ⟨rfl, rfl⟩)) av_nil) (int_int ⟨rfl, rfl⟩)) (ev_var 1) (mod_int (by walk_at "sd") ⟨rfl, rfl⟩))).ge ?_
    exact hk _ ⟨j.a, j.b, j.c + 1⟩ (Int.emod_nonneg _ (by omega)) (Int.emod_lt_of_pos _ h0) ⟨jb0, jb1, by show 0 ≤ j.c + 1; omega, by show j.c + 1 ≤ n + 1; omega⟩
theorem sc__law_amount : FnScope ["well", "great"] ["well"] (defScope s__law_amount) := ⟨rfl, rfl, rfl, by decide +kernel, rfl, by decide +kernel, by decide +kernel⟩
theorem ok__law_amount {f : Addr} {fd : FuncData}  (F : Fun K "_law_amount" "_law_amount" s__law_amount f fd) (T : Txt K mg) (F__law_draw : FnD P w K mg base 1 "_law_draw" [] R__law_draw) : FnOk P w K mg base (L2.CX P w) 2 f fd ["well"] (spD K R__law_amount) := by
  have nd := sc__law_amount.nd
  refine fn_ok F sc__law_amount (fun ds M k kx H0 => by obtain ⟨h, j, n, rfl, rfl, jo, hn, hk⟩ := H0; rfl) fun cdv A outer s H E ds M k kx hr H0 => ?_
  obtain ⟨h, j, n, rfl, rfl, jo, hn, hk⟩ := H0
  have hu := hr.units
  have hu5 := units65 hr
  refine gb_cons (gs_set 1 ?_ nd)
  refine ge_lst ?_
  refine ga_cons ?_
  refine ge_call F__law_draw hr (by decide) ?_
  refine ((av_cons (ev_var 0) (av_cons (ev_bin op_addU (ev_bin op_powX ev_int ev_int (pow_int (pow4 (n := 12) (by decide) (by decide) (by decide)) ⟨rfl, rfl⟩)) ev_int (add_int ⟨rfl, rfl⟩)) av_nil))).ga ?_
  refine ⟨[0], by decide, by simp [merge], _, _, _, _, rfl, rfl, jo, by walk_at "sd", by walk_at "sd", by walk_at "sd", fun r1 j1 lo1 hi1 jo1 => ⟨rfl, ?_⟩⟩
  refine ga_cons ?_
  refine ge_bin op_sub ?_
  refine ((ev_bin op_powX ev_int ev_int (pow_int (pow4 (n := 12) (by decide) (by decide) (by decide)) ⟨rfl, rfl⟩))).ge ?_
  refine ge_call F__law_draw hr (by decide) ?_
  refine ((av_cons (ev_var 0) (av_cons ev_int av_nil))).ga ?_
  refine ⟨[0], by decide, by simp [merge], _, _, _, _, rfl, rfl, jo1, by walk_at "sd", by walk_at "sd", by walk_at "sd", fun r2 j2 lo2 hi2 jo2 => ⟨rfl, ?_⟩⟩
  refine (sub_int ?_)
  refine ga_cons ?_
  refine ge_call F__law_draw hr (by decide) ?_
  refine ((av_cons (ev_var 0) (av_cons ev_int av_nil))).ga ?_
  refine ⟨[0], by decide, by simp [merge], _, _, _, _, rfl, rfl, jo2, by walk_at "sd", by walk_at "sd", by walk_at "sd", fun r3 j3 lo3 hi3 jo3 => ⟨rfl, ?_⟩⟩
  refine ga_nil ?_
  refine ⟨by walk_at "sd", ?_⟩
  refine gb_one (gs_ret ?_)
  refine ge_ix ix_seq (fun _ _ => rfl) ?_
  refine ge_bin op_addU ?_
  refine ge_bin op_mulU ?_
  refine ge_lst ?_
  refine ga_cons ?_
  refine ge_call F__law_draw hr (by decide) ?_
  refine ((av_cons (ev_var 0) (av_cons ev_int av_nil))).ga ?_
  refine ⟨[0], by decide, by simp [merge], _, _, _, _, rfl, rfl, jo3, by walk_at "sd", by walk_at "sd", by walk_at "sd", fun r4 j4 lo4 hi4 jo4 => ⟨rfl, ?_⟩⟩
  refine ga_nil ?_
  refine ⟨by walk_at "sd", ?_⟩
  refine (ev_int).ge ?_
  refine (mul_lst1 (by decide) (by decide) ?_)
  refine ((ev_var 1)).ge ?_
  refine (add_lst (by simp) ?_)
  refine ge_call F__law_draw hr (by decide) ?_
  refine ((av_cons (ev_var 0) (av_cons ev_int av_nil))).ga ?_
  refine ⟨[0], by decide, by simp [merge], _, _, _, _, rfl, rfl, jo4, by walk_at "sd", by walk_at "sd", by walk_at "sd", fun r5 j5 lo5 hi5 jo5 => ⟨rfl, ?_⟩⟩
  refine (ix_lstAny (by walk_at "sd") (by simp; omega) fun d hd _ => ?_)
  obtain ⟨v, rfl, v0, v1⟩ := amount_in hd (by simpa using lo1) (by have := hi1; simp at this; omega) lo2 hi2 lo3 hi3 lo4 hi4
  exact hk v _ v0 v1 (jo5.mono (by omega))
theorem sc__law_rule : FnScope ["well", "most", "some", "k"] ["well", "most"] (defScope s__law_rule) := ⟨rfl, rfl, rfl, by decide +kernel, rfl, by decide +kernel, by decide +kernel⟩
theorem ok__law_rule {f : Addr} {fd : FuncData}  (F : Fun K "_law_rule" "_law_rule" s__law_rule f fd) (T : Txt K mg) (F__law_draw : FnD P w K mg base 1 "_law_draw" [] R__law_draw) : FnOk P w K mg base (L2.CX P w) 2 f fd ["well", "most"] (spD K R__law_rule) := by
  have nd := sc__law_rule.nd
  refine fn_ok F sc__law_rule (fun ds M k kx H0 => by obtain ⟨h, j, m, n, rfl, rfl, jo, hn, h0, h1, hk⟩ := H0; rfl) fun cdv A outer s H E ds M k kx hr H0 => ?_
  obtain ⟨h, j, m, n, rfl, rfl, jo, hn, h0, h1, hk⟩ := H0
  have hu := hr.units
  have hu5 := units65 hr
  refine gb_cons (gs_set 2 ?_ nd)
  refine ((ev_lst (av_cons ev_str (av_cons ev_str (av_cons ev_str (av_cons ev_str (av_cons ev_str av_nil))))))).ge ?_
  refine gb_one (gs_ret ?_)
  refine ge_callT call_tuple_of T.z_tuple PyProof.Rows.boot_tuple ?_
  refine ga_cons ?_
  refine ge_lc [("k", 3)] rfl nd (blkOk_by (by show blkC ["well", "most", "some", "k"] (defScope s__law_rule) _ _ = true; decide +kernel)) ?_
  refine gi_range1 T.z_range ?_
  refine ga_cons ?_
  refine ge_call F__law_draw hr (by decide) ?_
  refine ((av_cons (ev_var 0) (av_cons (ev_bin op_addU (ev_var 1) ev_int (add_int ⟨rfl, rfl⟩)) av_nil))).ga ?_
  refine ⟨[0], by decide, by simp [merge], _, _, _, _, rfl, rfl, jo, by walk_at "sd", by walk_at "sd", by walk_at "sd", fun r1 j1 lo1 hi1 jo1 => ⟨rfl, ?_⟩⟩
  refine ga_nil ?_
  refine ⟨_, rfl, by walk_at "sd", by walk_at "sd", ?_⟩
  refine ⟨fun i acc M => ∃ (r : Rule) (j2 : Jar), acc = r.map D.str ∧ r.length = i ∧ (∀ a ∈ r, a ∈ acts) ∧ j2.Ok (n + 1 + i) ∧ M = [(h, j2.mo)], ⟨[], j1, rfl, rfl, by simp, by simpa using jo1, rfl⟩, fun _ _ _ _ _ => trivial, fun i d acc M hi hit hP => ?_, fun acc M hP => ?_⟩
  · obtain ⟨r, j2, rfl, hl, hm, jo2, rfl⟩ := hP
    intro _ _ _ _ _
    refine cg_name 3 ?_ nd
    intro _ _ _ _ _
    refine gts_nil ⟨fun _ => ?_, fun z => nomatch z⟩
    intro _ _ _ _ _
    refine ge_ix ix_seq (fun _ _ => rfl) ?_
    refine ((ev_var 2)).ge ?_
    refine ge_call F__law_draw hr (by decide) ?_
    refine ((av_cons (ev_var 0) (av_cons ev_int av_nil))).ga ?_
    refine ⟨[0], by decide, by simp [merge], _, _, _, _, rfl, rfl, jo2, by walk_at "sd", by walk_at "sd", by walk_at "sd", fun r2 j2 lo2 hi2 jo2 => ⟨rfl, ?_⟩⟩
    refine (ix_lstAny (by walk_at "sd") (by simp; omega) fun d hd _ => ?_)
    obtain ⟨a, ha, rfl⟩ := List.mem_map.mp (show d ∈ acts.map D.str from hd)
    exact ⟨by simp; omega, r ++ [a], j2, by simp, by simp [hl], fun b hb => (List.mem_append.mp hb).elim (hm b) fun q => by rw [List.mem_singleton.mp q]; exact ha, jo2.mono (by omega), rfl⟩
  · obtain ⟨r, j2, rfl, hl, hm, jo2, rfl⟩ := hP
    refine ga_nil ?_
    refine (tup_lst ?_)
    exact hk r j2 ⟨by omega, hm⟩ (jo2.mono (by omega))
theorem sc__law_items : FnScope ["well", "many", "letters", "items", "turn", "item", "k", "spare"] ["well", "many"] (defScope s__law_items) := ⟨rfl, rfl, rfl, by decide +kernel, rfl, by decide +kernel, by decide +kernel⟩
theorem ok__law_items {f : Addr} {fd : FuncData}  (F : Fun K "_law_items" "_law_items" s__law_items f fd) (T : Txt K mg) (F__law_draw : FnD P w K mg base 1 "_law_draw" [] R__law_draw) : FnOk P w K mg base (L2.CX P w) 2 f fd ["well", "many"] (spD K R__law_items) := by
  have nd := sc__law_items.nd
  refine fn_ok F sc__law_items (fun ds M k kx H0 => by obtain ⟨h, j, m, n, rfl, rfl, jo, hn0, hn, h0, h1, hk⟩ := H0; rfl) fun cdv A outer s H E ds M k kx hr H0 => ?_
  obtain ⟨h, j, m, n, rfl, rfl, jo, hn0, hn, h0, h1, hk⟩ := H0
  have hu := hr.units
  have hu5 := units65 hr
  refine gb_cons (gs_set 2 ?_ nd)
  refine (ev_str).ge ?_
  refine gb_cons (gs_set 3 ?_ nd)
  refine ge_lstM ?_
  refine (av_nil).ga ?_
  refine ⟨by walk_at "sd", fun q_items => ?_⟩
  refine gb_cons (gs_for (passes_of rfl) rfl ?_)
  refine gi_range1 T.z_range ?_
  refine ((av_cons (ev_var 1) av_nil)).ga ?_
  refine ⟨_, rfl, by walk_at "sd", by walk_at "sd", ?_⟩
  refine ⟨fun i Γ M => ∃ (its : List Str) (j2 : Jar) (a b : Option D), Γ = [some (.hdl h), some (.int m), some (.str letters), some (.hdl q_items), b, a, none, none] ∧ its.length = i ∧ its.Nodup ∧ (∀ s ∈ its, OkI s) ∧ j2.Ok (n + 20 * i) ∧ M = [(h, j2.mo), (q_items, .lst (its.map D.str))], ⟨[], j, none, none, rfl, rfl, by simp, by simp, by simpa using jo, rfl⟩, fun _ _ _ _ _ => trivial, fun i d Γ M hi hit hP => ?_, fun Γ M hP => ?_⟩
  · obtain ⟨its, j2, a, b, rfl, hlen, hnd, hok, jo2, rfl⟩ := hP
    obtain rfl : d = .int (0 + (i : Int)) := hit
    have hi6 : i < 6 := by omega
    refine gg_name 4 ?_ nd
    refine gb_cons (gs_set 5 ?_ nd)
    refine ge_join ?_
    refine (ev_str).ge ?_
    refine ⟨_, rfl, ?_⟩
    refine ge_lc [("k", 6)] rfl nd (blkOk_by (by show blkC ["well", "many", "letters", "items", "turn", "item", "k", "spare"] (defScope s__law_items) _ _ = true; decide +kernel)) ?_
    refine gi_range1 T.z_range ?_
    refine ga_cons ?_
    refine ge_bin op_addU ?_
    refine (ev_int).ge ?_
    refine ge_call F__law_draw hr (by decide) ?_
    refine ((av_cons (ev_var 0) (av_cons ev_int av_nil))).ga ?_
    refine ⟨[0], by decide, by simp [merge], _, _, _, _, rfl, rfl, jo2, by walk_at "sd", by walk_at "sd", by walk_at "sd", fun r1 j1 lo1 hi1 jo1 => ⟨rfl, ?_⟩⟩
    refine (add_int ?_)
    refine ga_nil ?_
    refine ⟨_, rfl, by walk_at "sd", by walk_at "sd", ?_⟩
    refine ⟨fun i2 acc M => ∃ (cs : List Nat) (j3 : Jar), acc = (cs.map sg).map D.str ∧ cs.length = i2 ∧ (∀ c ∈ cs, 97 ≤ c ∧ c ≤ 122) ∧ j3.Ok (n + 20 * i + 1 + i2) ∧ M = [(h, j3.mo), (q_items, .lst (its.map D.str))], ⟨[], _, rfl, rfl, by simp, by simpa using jo1, rfl⟩, fun _ _ _ _ _ => trivial, fun i2 d acc M hi hit hP => ?_, fun acc M hP => ?_⟩
    · obtain ⟨cs, j3, rfl, hcl, hcs, jo3, rfl⟩ := hP
      have hi9 : i2 < 9 := by omega
      intro _ _ _ _ _
      refine cg_name 6 ?_ nd
      intro _ _ _ _ _
      refine gts_nil ⟨fun _ => ?_, fun z => nomatch z⟩
      intro _ _ _ _ _
      refine ge_ix ix_seq (fun _ _ => rfl) ?_
      refine ((ev_var 2)).ge ?_
      refine ge_call F__law_draw hr (by decide) ?_
      refine ((av_cons (ev_var 0) (av_cons ev_int av_nil))).ga ?_
      refine ⟨[0], by decide, by simp [merge], _, _, _, _, rfl, rfl, jo3, by walk_at "sd", by walk_at "sd", by walk_at "sd", fun r2 j2 lo2 hi2 jo2 => ⟨rfl, ?_⟩⟩
      refine (letter_ix (by omega) (by omega) ?_)
      exact ⟨by simp; omega, cs ++ [97 + r2.toNat], _, by simp, by simp [hcl], fun c hc => (List.mem_append.mp hc).elim (hcs c) fun z => by rw [List.mem_singleton.mp z]; omega, Jar.Ok.mono (by assumption) (by push_cast; omega), rfl⟩
    · obtain ⟨cs, j3, rfl, hcl, hcs, jo4, rfl⟩ := hP
      refine ⟨cs.map sg, .lst, by rw [sg_sum, show ("" : Str).length = 0 from by decide +kernel]; omega, ?_⟩
      obtain ⟨it1, hit1, oi1⟩ : ∃ s : Str, s = Txt.join "" (cs.map sg) ∧ OkI s := ⟨_, rfl, join_ok (by omega) (by omega) hcs⟩
      rw [← hit1]
      refine gb_cons (gs_if ?_)
      refine gt_bool ?_
      refine gp_and ?_
      refine ((tv_cmp (op_neU hu) (nomark _) (ev_var 3) (ev_lst av_nil) (ne_hdl (p := 1) (n := 1) (m := 1) rfl (strs_sm hok) rfl ⟨rfl, rfl⟩))).gt ?_
      refine ⟨fun hp1 => ?_, fun hp1 => ?_⟩
      · first | (obtain ⟨lst1, hlst⟩ := last_of hp1; have oil := hok lst1 (List.mem_of_getElem? hlst); have hl0 := (List.getElem?_eq_some_iff.mp hlst).1; have ol8 := oil.l8) | skip
        refine gp_and1 ?_
        refine gt_cmp (op_eqU hu) (nomark _) ?_
        refine ge_call F__law_draw hr (by decide) ?_
        refine ((av_cons (ev_var 0) (av_cons ev_int av_nil))).ga ?_
        refine ⟨[0], by decide, by simp [merge], _, _, _, _, rfl, rfl, jo4, by walk_at "sd", by walk_at "sd", by walk_at "sd", fun r3 j3 lo3 hi3 jo3 => ⟨rfl, ?_⟩⟩
        refine (ev_int).ge ?_
        refine (eq_int ⟨_, rfl, ?_⟩)
        refine ⟨fun hb1 => ?_, fun hb1 => ?_⟩
        · have hb1 := hb1
          refine gb_cons (gs_set 5 ?_ nd)
          refine ge_bin op_addU ?_
          refine ge_slice sl_str ?_
          refine ((ev_ix ix_seq (fun _ _ => rfl) (ev_var 3) (ev_neg ev_int) (ix_hdl (p := 1) (j := its.length - 1) (d := .str lst1) rfl (.inr ⟨by omega, by simp; omega⟩) (by rw [List.getElem?_map, hlst]; rfl) ⟨rfl, rfl⟩))).ge ?_
          refine go_none ?_
          refine go_some ?_
          refine (ev_int).ge ?_
          refine ⟨_, rfl, ?_⟩
          refine (sl_strD (by walk_at "sd") ?_)
          refine ge_ix ix_seq (fun _ _ => rfl) ?_
          refine ((ev_var 2)).ge ?_
          refine ge_call F__law_draw hr (by decide) ?_
          refine ((av_cons (ev_var 0) (av_cons ev_int av_nil))).ga ?_
          refine ⟨[0], by decide, by simp [merge], _, _, _, _, rfl, rfl, jo3, by walk_at "sd", by walk_at "sd", by walk_at "sd", fun r4 j4 lo4 hi4 jo4 => ⟨rfl, ?_⟩⟩
          refine (letter_ix (by omega) (by omega) ?_)
          refine (add_str (by have := (cut7_ok (c := 97) oil (by omega)).1; show _ + 1 ≤ _; omega) ?_)
          obtain ⟨it2, hit2, oi2⟩ : ∃ s : Str, s = cutS lst1 none (some 7) ++ sg (97 + r4.toNat) ∧ OkI s := ⟨_, rfl, (cut7_ok oil (by omega)).2⟩
          rw [← hit2]
          refine gb_nil ?_
          refine gb_cons (gs_if ?_)
          refine ((tv_cmp (op_inU hu5) rfl (ev_var 5) (ev_var 3) (in_strsH (p := 1) rfl (strs_D its) ⟨rfl, rfl⟩))).gt ?_
          refine ⟨fun hb2 => ?_, fun hb2 => ?_⟩
          · have hb2 := hb2
            refine gb_cons (gs_set 5 ?_ nd)
            refine ge_ix ix_seq (fun _ _ => rfl) ?_
            refine ge_lc [("spare", 7)] rfl nd (blkOk_by (by show blkC ["well", "many", "letters", "items", "turn", "item", "k", "spare"] (defScope s__law_items) _ _ = true; decide +kernel)) ?_
            refine gi_lst ?_
            refine ge_lc [("k", 6)] rfl nd (blkOk_by (by show blkC ["well", "many", "letters", "items", "turn", "item", "k", "spare"] (defScope s__law_items) _ _ = true; decide +kernel)) ?_
            refine gi_range1 T.z_range ?_
            refine ((av_cons ev_int av_nil)).ga ?_
            refine ⟨_, rfl, by walk_at "sd", by walk_at "sd", ?_⟩
            refine ⟨fun i3 acc M => ∃ (jx : Jar), jx.Ok (n + 20 * i + 15) ∧ acc = ((List.range i3).map qs).map D.str ∧ M = [(h, jx.mo), (q_items, .lst (its.map D.str))], ⟨_, Jar.Ok.mono (by assumption) (by omega), rfl, rfl⟩, fun _ _ _ _ _ => trivial, fun i3 d acc M hi hit hP => ?_, fun acc M hP => ?_⟩
            · obtain ⟨jx, jox, rfl, rfl⟩ := hP
              obtain rfl : d = .int (0 + (i3 : Int)) := hit
              have hi8 : i3 < 8 := by simpa using hi
              intro _ _ _ _ _
              refine cg_name 6 ?_ nd
              intro _ _ _ _ _
              refine gts_nil ⟨fun _ => ?_, fun z => nomatch z⟩
              intro _ _ _ _ _
              refine ((ev_bin op_mulU ev_str (ev_bin op_addU (ev_var 6) ev_int (add_int ⟨rfl, rfl⟩)) (mul_str (by omega) (by omega) (by decide +kernel) ⟨rfl, rfl⟩))).ge ?_
              exact ⟨by simp; omega, _, jox, by rw [List.range_succ]; simp [qs], rfl⟩
            · obtain ⟨jx, jox, rfl, rfl⟩ := hP
              rw [show (8 : Int).toNat = 8 from rfl]
              refine ⟨_, rfl, ?_⟩
              refine ⟨fun i2 acc M => ∃ (jx : Jar), jx.Ok (n + 20 * i + 15) ∧ acc = (((List.range 8).map qs).take i2 |>.filter fun s => !decide (s ∈ its)).map D.str ∧ M = [(h, jx.mo), (q_items, .lst (its.map D.str))], ⟨_, Jar.Ok.mono (by assumption) (by omega), rfl, rfl⟩, fun _ _ _ _ _ => trivial, fun i2 d acc M hi hit hP => ?_, fun acc M hP => ?_⟩
              · obtain ⟨jx, jox, rfl, rfl⟩ := hP
                obtain ⟨s, hs, rfl⟩ := get_map hit
                intro _ _ _ _ _
                refine cg_name 7 ?_ nd
                intro _ _ _ _ _
                refine gts_one ?_
                refine ((tv_cmp (op_notInU hu5) rfl (ev_var 7) (ev_var 3) (ni_strsH (p := 1) rfl (strs_D its) ⟨rfl, rfl⟩))).gt ?_
                refine ⟨fun hif => ?_, fun hif => ?_⟩
                · intro _ _ _ _ _
                  refine ((ev_var 7)).ge ?_
                  exact ⟨by simp; exact Nat.lt_of_le_of_lt (List.length_filter_le _ _) (by rw [List.length_take]; simp; omega), _, jox, by rw [List.take_add_one, hs, List.filter_append]; simp [nmem_of hif], rfl⟩
                · exact ⟨_, jox, by rw [List.take_add_one, hs, List.filter_append]; simp [mem_of hif], rfl⟩
              · obtain ⟨jx, jox, rfl, rfl⟩ := hP
                obtain ⟨sp, rest, hsp, hspn, oisp⟩ := spare_in (its := its) (by omega)
                rw [List.length_map, take_all8, hsp]
                refine (ev_int).ge ?_
                refine (ix_lst' (j := 0) (d := .str sp) (.inl ⟨by omega, by omega, by simp⟩) rfl ?_)
                refine gb_nil ?_
                refine gb_cons (gs_expr ?_)
                refine ge_append ((ev_var 3).ge ⟨⟨1, _, _, rfl, rfl⟩, ?_⟩)
                refine ((ev_var 5)).ge ?_
                refine ⟨1, _, _, rfl, rfl, by walk_at "sd", ?_⟩
                refine gb_nil ?_
                exact ⟨its ++ [sp], _, _, _, rfl, by simp [hlen], snoc_nd hnd hspn, fun s hs => (List.mem_append.mp hs).elim (hok s) fun z => by rw [List.mem_singleton.mp z]; exact oisp, Jar.Ok.mono (by assumption) (by push_cast; omega), by rw [List.map_append]; rfl⟩
          · have hb2 := hb2
            refine gb_nil ?_
            refine gb_cons (gs_expr ?_)
            refine ge_append ((ev_var 3).ge ⟨⟨1, _, _, rfl, rfl⟩, ?_⟩)
            refine ((ev_var 5)).ge ?_
            refine ⟨1, _, _, rfl, rfl, by walk_at "sd", ?_⟩
            refine gb_nil ?_
            exact ⟨its ++ [it2], _, _, _, rfl, by simp [hlen], snoc_nd hnd (nin_of hb2), fun s hs => (List.mem_append.mp hs).elim (hok s) fun z => by rw [List.mem_singleton.mp z]; exact oi2, Jar.Ok.mono (by assumption) (by push_cast; omega), by rw [List.map_append]; rfl⟩
        · have hb1 := hb1
          refine gb_nil ?_
          refine gb_cons (gs_if ?_)
          refine ((tv_cmp (op_inU hu5) rfl (ev_var 5) (ev_var 3) (in_strsH (p := 1) rfl (strs_D its) ⟨rfl, rfl⟩))).gt ?_
          refine ⟨fun hb3 => ?_, fun hb3 => ?_⟩
          · have hb3 := hb3
            refine gb_cons (gs_set 5 ?_ nd)
            refine ge_ix ix_seq (fun _ _ => rfl) ?_
            refine ge_lc [("spare", 7)] rfl nd (blkOk_by (by show blkC ["well", "many", "letters", "items", "turn", "item", "k", "spare"] (defScope s__law_items) _ _ = true; decide +kernel)) ?_
            refine gi_lst ?_
            refine ge_lc [("k", 6)] rfl nd (blkOk_by (by show blkC ["well", "many", "letters", "items", "turn", "item", "k", "spare"] (defScope s__law_items) _ _ = true; decide +kernel)) ?_
            refine gi_range1 T.z_range ?_
            refine ((av_cons ev_int av_nil)).ga ?_
            refine ⟨_, rfl, by walk_at "sd", by walk_at "sd", ?_⟩
            refine ⟨fun i3 acc M => ∃ (jx : Jar), jx.Ok (n + 20 * i + 15) ∧ acc = ((List.range i3).map qs).map D.str ∧ M = [(h, jx.mo), (q_items, .lst (its.map D.str))], ⟨_, Jar.Ok.mono (by assumption) (by omega), rfl, rfl⟩, fun _ _ _ _ _ => trivial, fun i3 d acc M hi hit hP => ?_, fun acc M hP => ?_⟩
            · obtain ⟨jx, jox, rfl, rfl⟩ := hP
              obtain rfl : d = .int (0 + (i3 : Int)) := hit
              have hi8 : i3 < 8 := by simpa using hi
              intro _ _ _ _ _
              refine cg_name 6 ?_ nd
              intro _ _ _ _ _
              refine gts_nil ⟨fun _ => ?_, fun z => nomatch z⟩
              intro _ _ _ _ _
              refine ((ev_bin op_mulU ev_str (ev_bin op_addU (ev_var 6) ev_int (add_int ⟨rfl, rfl⟩)) (mul_str (by omega) (by omega) (by decide +kernel) ⟨rfl, rfl⟩))).ge ?_
              exact ⟨by simp; omega, _, jox, by rw [List.range_succ]; simp [qs], rfl⟩
            · obtain ⟨jx, jox, rfl, rfl⟩ := hP
              rw [show (8 : Int).toNat = 8 from rfl]
              refine ⟨_, rfl, ?_⟩
              refine ⟨fun i2 acc M => ∃ (jx : Jar), jx.Ok (n + 20 * i + 15) ∧ acc = (((List.range 8).map qs).take i2 |>.filter fun s => !decide (s ∈ its)).map D.str ∧ M = [(h, jx.mo), (q_items, .lst (its.map D.str))], ⟨_, Jar.Ok.mono (by assumption) (by omega), rfl, rfl⟩, fun _ _ _ _ _ => trivial, fun i2 d acc M hi hit hP => ?_, fun acc M hP => ?_⟩
              · obtain ⟨jx, jox, rfl, rfl⟩ := hP
                obtain ⟨s, hs, rfl⟩ := get_map hit
                intro _ _ _ _ _
                refine cg_name 7 ?_ nd
                intro _ _ _ _ _
                refine gts_one ?_
                refine ((tv_cmp (op_notInU hu5) rfl (ev_var 7) (ev_var 3) (ni_strsH (p := 1) rfl (strs_D its) ⟨rfl, rfl⟩))).gt ?_
                refine ⟨fun hif => ?_, fun hif => ?_⟩
                · intro _ _ _ _ _
                  refine ((ev_var 7)).ge ?_
                  exact ⟨by simp; exact Nat.lt_of_le_of_lt (List.length_filter_le _ _) (by rw [List.length_take]; simp; omega), _, jox, by rw [List.take_add_one, hs, List.filter_append]; simp [nmem_of hif], rfl⟩
                · exact ⟨_, jox, by rw [List.take_add_one, hs, List.filter_append]; simp [mem_of hif], rfl⟩
              · obtain ⟨jx, jox, rfl, rfl⟩ := hP
                obtain ⟨sp, rest, hsp, hspn, oisp⟩ := spare_in (its := its) (by omega)
                rw [List.length_map, take_all8, hsp]
                refine (ev_int).ge ?_
                refine (ix_lst' (j := 0) (d := .str sp) (.inl ⟨by omega, by omega, by simp⟩) rfl ?_)
                refine gb_nil ?_
                refine gb_cons (gs_expr ?_)
                refine ge_append ((ev_var 3).ge ⟨⟨1, _, _, rfl, rfl⟩, ?_⟩)
                refine ((ev_var 5)).ge ?_
                refine ⟨1, _, _, rfl, rfl, by walk_at "sd", ?_⟩
                refine gb_nil ?_
                exact ⟨its ++ [sp], _, _, _, rfl, by simp [hlen], snoc_nd hnd hspn, fun s hs => (List.mem_append.mp hs).elim (hok s) fun z => by rw [List.mem_singleton.mp z]; exact oisp, Jar.Ok.mono (by assumption) (by push_cast; omega), by rw [List.map_append]; rfl⟩
          · have hb3 := hb3
            refine gb_nil ?_
            refine gb_cons (gs_expr ?_)
            refine ge_append ((ev_var 3).ge ⟨⟨1, _, _, rfl, rfl⟩, ?_⟩)
            refine ((ev_var 5)).ge ?_
            refine ⟨1, _, _, rfl, rfl, by walk_at "sd", ?_⟩
            refine gb_nil ?_
            exact ⟨its ++ [it1], _, _, _, rfl, by simp [hlen], snoc_nd hnd (nin_of hb3), fun s hs => (List.mem_append.mp hs).elim (hok s) fun z => by rw [List.mem_singleton.mp z]; exact oi1, Jar.Ok.mono (by assumption) (by push_cast; omega), by rw [List.map_append]; rfl⟩
      · first | (obtain ⟨lst1, hlst⟩ := last_of hp1; have oil := hok lst1 (List.mem_of_getElem? hlst); have hl0 := (List.getElem?_eq_some_iff.mp hlst).1; have ol8 := oil.l8) | skip
        refine ⟨by walk_at "no", fun _ => ?_⟩
        refine gb_nil ?_
        refine gb_cons (gs_if ?_)
        refine ((tv_cmp (op_inU hu5) rfl (ev_var 5) (ev_var 3) (in_strsH (p := 1) rfl (strs_D its) ⟨rfl, rfl⟩))).gt ?_
        refine ⟨fun hb4 => ?_, fun hb4 => ?_⟩
        · have hb4 := hb4
          refine gb_cons (gs_set 5 ?_ nd)
          refine ge_ix ix_seq (fun _ _ => rfl) ?_
          refine ge_lc [("spare", 7)] rfl nd (blkOk_by (by show blkC ["well", "many", "letters", "items", "turn", "item", "k", "spare"] (defScope s__law_items) _ _ = true; decide +kernel)) ?_
          refine gi_lst ?_
          refine ge_lc [("k", 6)] rfl nd (blkOk_by (by show blkC ["well", "many", "letters", "items", "turn", "item", "k", "spare"] (defScope s__law_items) _ _ = true; decide +kernel)) ?_
          refine gi_range1 T.z_range ?_
          refine ((av_cons ev_int av_nil)).ga ?_
          refine ⟨_, rfl, by walk_at "sd", by walk_at "sd", ?_⟩
          refine ⟨fun i3 acc M => ∃ (jx : Jar), jx.Ok (n + 20 * i + 15) ∧ acc = ((List.range i3).map qs).map D.str ∧ M = [(h, jx.mo), (q_items, .lst (its.map D.str))], ⟨_, Jar.Ok.mono (by assumption) (by omega), rfl, rfl⟩, fun _ _ _ _ _ => trivial, fun i3 d acc M hi hit hP => ?_, fun acc M hP => ?_⟩
          · obtain ⟨jx, jox, rfl, rfl⟩ := hP
            obtain rfl : d = .int (0 + (i3 : Int)) := hit
            have hi8 : i3 < 8 := by simpa using hi
            intro _ _ _ _ _
            refine cg_name 6 ?_ nd
            intro _ _ _ _ _
            refine gts_nil ⟨fun _ => ?_, fun z => nomatch z⟩
            intro _ _ _ _ _
            refine ((ev_bin op_mulU ev_str (ev_bin op_addU (ev_var 6) ev_int (add_int ⟨rfl, rfl⟩)) (mul_str (by omega) (by omega) (by decide +kernel) ⟨rfl, rfl⟩))).ge ?_
            exact ⟨by simp; omega, _, jox, by rw [List.range_succ]; simp [qs], rfl⟩
          · obtain ⟨jx, jox, rfl, rfl⟩ := hP
            rw [show (8 : Int).toNat = 8 from rfl]
            refine ⟨_, rfl, ?_⟩
            refine ⟨fun i2 acc M => ∃ (jx : Jar), jx.Ok (n + 20 * i + 15) ∧ acc = (((List.range 8).map qs).take i2 |>.filter fun s => !decide (s ∈ its)).map D.str ∧ M = [(h, jx.mo), (q_items, .lst (its.map D.str))], ⟨_, Jar.Ok.mono (by assumption) (by omega), rfl, rfl⟩, fun _ _ _ _ _ => trivial, fun i2 d acc M hi hit hP => ?_, fun acc M hP => ?_⟩
            · obtain ⟨jx, jox, rfl, rfl⟩ := hP
              obtain ⟨s, hs, rfl⟩ := get_map hit
              intro _ _ _ _ _
              refine cg_name 7 ?_ nd
              intro _ _ _ _ _
              refine gts_one ?_
              refine ((tv_cmp (op_notInU hu5) rfl (ev_var 7) (ev_var 3) (ni_strsH (p := 1) rfl (strs_D its) ⟨rfl, rfl⟩))).gt ?_
              refine ⟨fun hif => ?_, fun hif => ?_⟩
              · intro _ _ _ _ _
                refine ((ev_var 7)).ge ?_
                exact ⟨by simp; exact Nat.lt_of_le_of_lt (List.length_filter_le _ _) (by rw [List.length_take]; simp; omega), _, jox, by rw [List.take_add_one, hs, List.filter_append]; simp [nmem_of hif], rfl⟩
              · exact ⟨_, jox, by rw [List.take_add_one, hs, List.filter_append]; simp [mem_of hif], rfl⟩
            · obtain ⟨jx, jox, rfl, rfl⟩ := hP
              obtain ⟨sp, rest, hsp, hspn, oisp⟩ := spare_in (its := its) (by omega)
              rw [List.length_map, take_all8, hsp]
              refine (ev_int).ge ?_
              refine (ix_lst' (j := 0) (d := .str sp) (.inl ⟨by omega, by omega, by simp⟩) rfl ?_)
              refine gb_nil ?_
              refine gb_cons (gs_expr ?_)
              refine ge_append ((ev_var 3).ge ⟨⟨1, _, _, rfl, rfl⟩, ?_⟩)
              refine ((ev_var 5)).ge ?_
              refine ⟨1, _, _, rfl, rfl, by walk_at "sd", ?_⟩
              refine gb_nil ?_
              exact ⟨its ++ [sp], _, _, _, rfl, by simp [hlen], snoc_nd hnd hspn, fun s hs => (List.mem_append.mp hs).elim (hok s) fun z => by rw [List.mem_singleton.mp z]; exact oisp, Jar.Ok.mono (by assumption) (by push_cast; omega), by rw [List.map_append]; rfl⟩
        · have hb4 := hb4
          refine gb_nil ?_
          refine gb_cons (gs_expr ?_)
          refine ge_append ((ev_var 3).ge ⟨⟨1, _, _, rfl, rfl⟩, ?_⟩)
          refine ((ev_var 5)).ge ?_
          refine ⟨1, _, _, rfl, rfl, by walk_at "sd", ?_⟩
          refine gb_nil ?_
          exact ⟨its ++ [it1], _, _, _, rfl, by simp [hlen], snoc_nd hnd (nin_of hb4), fun s hs => (List.mem_append.mp hs).elim (hok s) fun z => by rw [List.mem_singleton.mp z]; exact oi1, Jar.Ok.mono (by assumption) (by push_cast; omega), by rw [List.map_append]; rfl⟩
  · obtain ⟨its, j2, a, b, rfl, hlen, hnd, hok, jo2, rfl⟩ := hP
    refine gb_one (gs_ret ?_)
    refine ge_frz ?_
    refine ((ev_var 3)).ge ?_
    refine ⟨1, _, _, rfl, rfl, ?_⟩
    exact hk its j2 (by omega) hnd hok (jo2.mono (by omega))
theorem sc__law_start : FnScope ["well", "items", "item"] ["well", "items"] (defScope s__law_start) := ⟨rfl, rfl, rfl, by decide +kernel, rfl, by decide +kernel, by decide +kernel⟩
theorem ok__law_start {f : Addr} {fd : FuncData}  (F : Fun K "_law_start" "_law_start" s__law_start f fd) (T : Txt K mg) (F__law_amount : FnD P w K mg base 2 "_law_amount" [] R__law_amount) : FnOk P w K mg base (L2.CX P w) 3 f fd ["well", "items"] (spD K R__law_start) := by
  have nd := sc__law_start.nd
  refine fn_ok F sc__law_start (fun ds M k kx H0 => by obtain ⟨h, j, n, its, rfl, rfl, jo, hn0, hn, hl6, hk⟩ := H0; rfl) fun cdv A outer s H E ds M k kx hr H0 => ?_
  obtain ⟨h, j, n, its, rfl, rfl, jo, hn0, hn, hl6, hk⟩ := H0
  have hu := hr.units
  have hu5 := units65 hr
  refine gb_one (gs_ret ?_)
  refine ge_callT call_tuple_of T.z_tuple PyProof.Rows.boot_tuple ?_
  refine ga_cons ?_
  refine ge_lc [("item", 2)] rfl nd (blkOk_by (by show blkC ["well", "items", "item"] (defScope s__law_start) _ _ = true; decide +kernel)) ?_
  refine gi_lst ?_
  refine ((ev_var 1)).ge ?_
  refine ⟨_, rfl, ?_⟩
  refine ⟨fun i acc M => ∃ (m : Am) (j2 : Jar), acc = m.map (fun p => D.tup [.str p.1, .int p.2]) ∧ m.map (·.1) = its.take i ∧ AmOk m ∧ j2.Ok (n + 5 * i) ∧ M = [(h, j2.mo)], ⟨[], j, rfl, rfl, fun p hp => by simp at hp, by simpa using jo, rfl⟩, fun _ _ _ _ _ => trivial, fun i d acc M hi hit hP => ?_, fun acc M hP => ?_⟩
  · obtain ⟨m, j2, rfl, hm, ham, jo2, rfl⟩ := hP
    obtain ⟨s, hs, rfl⟩ := get_map hit
    have hi6 := (List.getElem?_eq_some_iff.mp hs).1
    have hml := congrArg List.length hm
    intro _ _ _ _ _
    refine cg_name 2 ?_ nd
    intro _ _ _ _ _
    refine gts_nil ⟨fun _ => ?_, fun z => nomatch z⟩
    intro _ _ _ _ _
    refine ge_tup ?_
    refine ga_cons ?_
    refine ((ev_var 2)).ge ?_
    refine ga_cons ?_
    refine ge_call F__law_amount hr (by decide) ?_
    refine ((av_cons (ev_var 0) av_nil)).ga ?_
    refine ⟨[0], by decide, by simp [merge], _, _, _, rfl, rfl, jo2, by walk_at "sd", fun v1 j1 vl1 vh1 jo1 => ⟨rfl, ?_⟩⟩
    refine ga_nil ?_
    refine ⟨by walk_at "sd", ?_⟩
    exact ⟨by simp at hml ⊢; omega, m ++ [(s, v1)], j1, by simp, by rw [List.map_append, hm, List.take_add_one, hs]; rfl, fun p hp => (List.mem_append.mp hp).elim (ham p) fun z => by rw [List.mem_singleton.mp z]; exact ⟨vl1, vh1⟩, jo1.mono (by push_cast; omega), rfl⟩
  · obtain ⟨m, j2, rfl, hm, ham, jo2, rfl⟩ := hP
    rw [List.length_map, List.take_length] at hm
    refine ga_nil ?_
    refine (tup_lst ?_)
    exact hk m j2 hm ham (jo2.mono (by simp; omega))
theorem sc__law_rules : FnScope ["well", "most", "some", "door"] ["well", "most"] (defScope s__law_rules) := ⟨rfl, rfl, rfl, by decide +kernel, rfl, by decide +kernel, by decide +kernel⟩
theorem v__law_rules  : VOk w__law_rules 4 R__law_rules := by
  intro ds M k kx H0
  obtain ⟨h, j, n, m, rfl, rfl, jo, hn0, hn, hm0, hm6, hk⟩ := H0
  walk_at "w"
  refine use_draw 0 jo (by omega) (by omega) (by omega) fun r1 j1 lo1 hi1 jo1 => ?_
  refine Br.mk (fun hb => ?_) (fun hb => ?_)
  · walk_at "w"
    refine Lc.mk (fun i acc M2 => ∃ (s : List Rule) (jw : Jar), acc = s.map dR ∧ s.length = i ∧ (∀ r ∈ s, OkR r) ∧ jw.Ok (n + 1 + 8 * i) ∧ M2 = [(h, jw.mo)]) ⟨[], j1, rfl, rfl, by simp, by simpa using jo1, rfl⟩ (fun _ _ _ _ _ => trivial) (fun i d acc M2 hd hP => ?_) fun acc M2 hP => ?_
    · obtain ⟨s, jw, rfl, hl, hs, jow, rfl⟩ := hP
      obtain ⟨hi, rfl⟩ := rangeD_at hd
      have hi6 : i < 6 := hi
      walk_at "w"
      refine use_rule 0 jow (by omega) (by omega) (by omega) fun r j2 okr jo2 => ?_
      walk_at "h"
      refine Sd.mk (by rw [List.length_map]; omega) ⟨s ++ [r], j2, by simp, by simp [hl], fun a ha => ?_, jo2.mono (by push_cast; omega), rfl⟩
      rcases List.mem_append.mp ha with z | z
      · exact hs a z
      · rw [List.mem_singleton.mp z]; exact okr
    · obtain ⟨s, jw, rfl, hl, hs, jow, rfl⟩ := hP
      walk_at "w"
      exact hk s jw ⟨hl, hs⟩ (jow.mono (by show n + 1 + 8 * 6 ≤ _; omega))
  · walk_at "w"
    refine Lc.mk (fun i acc M2 => ∃ (s : List Rule) (jw : Jar), acc = s.map dR ∧ s.length = i ∧ (∀ r ∈ s, OkR r) ∧ jw.Ok (n + 1 + 8 * i) ∧ M2 = [(h, jw.mo)]) ⟨[], j1, rfl, rfl, by simp, by simpa using jo1, rfl⟩ (fun _ _ _ _ _ => trivial) (fun i d acc M2 hd hP => ?_) fun acc M2 hP => ?_
    · obtain ⟨s, jw, rfl, hl, hs, jow, rfl⟩ := hP
      obtain ⟨hi, rfl⟩ := rangeD_at hd
      have hi6 : i < 6 := hi
      walk_at "w"
      refine use_draw 0 jow (by omega) (by omega) (by omega) fun r2 j2 lo2 hi2 jo2 => ?_
      refine It1.any lo2 (by simp; omega) fun d hd _ => ?_
      obtain ⟨r, rfl, okr⟩ : ∃ r : Rule, d = dR r ∧ OkR r := by
        simp only [List.mem_cons, List.not_mem_nil, or_false] at hd
        rcases hd with rfl | rfl | rfl | rfl | rfl | rfl | rfl | rfl
        · exact ⟨["show"], rfl, by decide, by decide⟩
        · exact ⟨["take", "show"], rfl, by decide, by decide⟩
        · exact ⟨[], rfl, by decide, by decide⟩
        · exact ⟨["last"], rfl, by decide, by decide⟩
        · exact ⟨["ask"], rfl, by decide, by decide⟩
        · exact ⟨["least", "ask"], rfl, by decide, by decide⟩
        · exact ⟨["take"], rfl, by decide, by decide⟩
        · exact ⟨["take", "ask"], rfl, by decide, by decide⟩
      walk_at "h"
      refine Sd.mk (by rw [List.length_map]; omega) ⟨s ++ [r], j2, by simp, by simp [hl], fun a ha => ?_, jo2.mono (by push_cast; omega), rfl⟩
      rcases List.mem_append.mp ha with z | z
      · exact hs a z
      · rw [List.mem_singleton.mp z]; exact okr
    · obtain ⟨s, jw, rfl, hl, hs, jow, rfl⟩ := hP
      walk_at "w"
      exact hk s jw ⟨hl, hs⟩ (jow.mono (by show n + 1 + 8 * 6 ≤ _; omega))

theorem ok__law_rules {f : Addr} {fd : FuncData}  (F : Fun K "_law_rules" "_law_rules" s__law_rules f fd) (T : Txt K mg) (F__law_draw : FnD P w K mg base 1 "_law_draw" [] R__law_draw) (F__law_rule : FnD P w K mg base 2 "_law_rule" [] R__law_rule) : FnOk P w K mg base (L2.CX P w) 3 f fd ["well", "most"] (spD K R__law_rules) := by
  have nd := sc__law_rules.nd
  exact fn_wp F sc__law_rules (fun ds M k kx H0 => by obtain ⟨h, j, n, m, rfl, rfl, jo, hn0, hn, hm0, hm6, hk⟩ := H0; rfl) (fun cdv A outer s H E hr => (Cb.cons (CS.if (Kc.eq (units65 hr) (CE.call F__law_draw hr (by decide) (CA.cons (CE.var 0) (CA.cons CE.int CA.nil))) CE.int).t
  (Cb.cons (CS.ret (CE.lc [("door", 3)] rfl nd (blkOk_by (by show blkC ["well", "most", "some", "door"] (defScope s__law_rules) _ _ = true; decide +kernel)) (Ki.range1 T.z_range CE.int) (fun _ _ _ _ _ => (CGc.name 3 nd)) .none (fun _ _ _ _ _ => (CE.call F__law_rule hr (by decide) (CA.cons (CE.var 0) (CA.cons (CE.var 1) CA.nil))))))
  Cb.nil)
  Cb.nil)
  (Cb.cons (CS.set 2 (CE.lst (CA.cons (CE.tup (CA.cons CE.str CA.nil)) (CA.cons (CE.tup (CA.cons CE.str (CA.cons CE.str CA.nil))) (CA.cons (CE.tup CA.nil) (CA.cons (CE.tup (CA.cons CE.str CA.nil)) (CA.cons (CE.tup (CA.cons CE.str CA.nil)) (CA.cons (CE.tup (CA.cons CE.str (CA.cons CE.str CA.nil))) (CA.cons (CE.tup (CA.cons CE.str CA.nil)) (CA.cons (CE.tup (CA.cons CE.str (CA.cons CE.str CA.nil))) CA.nil))))))))) nd)
  (Cb.cons (CS.ret (CE.lc [("door", 3)] rfl nd (blkOk_by (by show blkC ["well", "most", "some", "door"] (defScope s__law_rules) _ _ = true; decide +kernel)) (Ki.range1 T.z_range CE.int) (fun _ _ _ _ _ => (CGc.name 3 nd)) .none (fun _ _ _ _ _ => (CE.ix (fun _ _ => rfl) (CE.var 2) (CE.call F__law_draw hr (by decide) (CA.cons (CE.var 0) (CA.cons CE.int CA.nil)))))))
  Cb.nil)))) v__law_rules
theorem sc__law_work : FnScope ["rules"] ["rules"] (defScope s__law_work) := ⟨rfl, rfl, rfl, by decide +kernel, rfl, by decide +kernel, by decide +kernel⟩
theorem v__law_work {CB CR : Addr} : VOk (w__law_work CB CR) 1 (R__law_work CB) := by
  intro ds M k kx H0
  obtain ⟨s, rfl, rfl, os, hk⟩ := H0
  obtain ⟨r0, r1, r2, r3, r4, r5, rfl⟩ : ∃ r0 r1 r2 r3 r4 r5 : Rule, s = [r0, r1, r2, r3, r4, r5] := by
    have := os.len
    match s, this with
    | [a, b, c, d, e, f], _ => exact ⟨a, b, c, d, e, f, rfl⟩
  walk_at "w"
  refine It1.nat (i := 4) (d := dR r4) rfl ?_
  walk_at "w"
  refine It1.nat (i := 5) (d := dR r5) rfl ?_
  walk_at "w"
  refine fun xb => use_bookP (s := [r0, r1, r2, r3, r4, r5]) os ?_
  exact hk

theorem ok__law_work {f : Addr} {fd : FuncData} {CB CR : Addr} (F : Fun K "_law_work" "_law_work" s__law_work f fd) (T : Txt K mg) (F_Bp6 : MkD P w K mg base 3 CB "Book" [] (R_Book_init CB CR)) : FnOk P w K mg base (L2.CX P w) 5 f fd ["rules"] (spD K (R__law_work CB)) := by
  have nd := sc__law_work.nd
  exact fn_wp F sc__law_work (fun ds M k kx H0 => by obtain ⟨s, rfl, rfl, os, hk⟩ := H0; rfl) (fun cdv A outer s H E hr => (Cb.cons (CS.ret (CE.gv (CE.make F_Bp6 hr (by decide) (CA.cons (CE.ix (fun _ _ => rfl) (CE.var 0) CE.int) (CA.cons (CE.ix (fun _ _ => rfl) (CE.var 0) CE.int) (CA.cons (CE.ix (fun _ _ => rfl) (CE.var 0) CE.int) (CA.cons (CE.ix (fun _ _ => rfl) (CE.var 0) CE.int) (CA.cons (CE.ix (fun _ _ => rfl) (CE.var 0) CE.int) (CA.cons (CE.ix (fun _ _ => rfl) (CE.var 0) CE.int) CA.nil)))))))))
  Cb.nil)) v__law_work
theorem sc__law_act : FnScope ["well", "items", "there", "item", "way", "number"] ["well", "items", "there"] (defScope s__law_act) := ⟨rfl, rfl, rfl, by decide +kernel, rfl, by decide +kernel, by decide +kernel⟩
theorem v__law_act  : VOk w__law_act 6 R__law_act := by
  intro ds M k kx H0
  obtain ⟨h, j, n, its, th, rfl, rfl, jo, hn0, hn, hl1, hl6, hoki, hth, hth6, hk⟩ := H0
  walk_at "w"
  refine use_draw 0 jo (by omega) (by simp; omega) (by simp; omega) fun r1 j1 lo1 hi1 jo1 => ?_
  refine It1.any lo1 (by simpa using hi1) fun d hd _ => ?_
  obtain ⟨s1, hs1, rfl⟩ := List.mem_map.mp hd
  have oi1 := hoki s1 hs1
  walk_at "w"
  refine use_draw 0 jo1 (by omega) (by omega) (by omega) fun way j2 lo2 hi2 jo2 => ?_
  walk_at "w"
  refine use_draw 0 jo2 (by omega) (by omega) (by omega) fun r3 j3 lo3 hi3 jo3 => ?_
  walk_at "w"
  refine use_draw 0 jo3 (by omega) (by omega) (by omega) fun r4 j4 lo4 hi4 jo4 => ?_
  refine It1.any lo4 (by simp; omega) fun d hd _ => ?_
  obtain ⟨v, rfl, lov, hiv⟩ : ∃ v : Int, d = .int v ∧ 1 ≤ v ∧ v ≤ 1000 := by
    simp only [List.mem_cons, List.not_mem_nil, or_false] at hd
    rcases hd with rfl | rfl
    · exact ⟨_, rfl, by omega, by omega⟩
    · exact ⟨_, rfl, by omega, by omega⟩
  walk_at "w"
  refine Br.mk (fun hb1 => ?_) (fun hb1 => ?_)
  · walk_at "w"
    refine use_amount 0 jo4 (by omega) fun v5 j5 lo5 hi5 jo5 => ?_
    walk_at "w"
    exact hk (.price s1 v5) j5 ⟨oi1, lo5, hi5⟩ hs1 (jo5.mono (by omega))
  · walk_at "w"
    refine Br.mk (fun hb2 => ?_) (fun hb2 => ?_)
    · walk_at "w"
      refine ⟨_, _, .dat 1 (strs_sm fun x hx => hoki x (hth x hx)) (by decide), .dat 1 rfl (by decide), ?_⟩
      rw [eqv_empty]
      refine Br.mk (fun hb3 => ?_) (fun hb3 => ?_)
      · have hne : 0 < th.length := by cases q : th <;> simp_all
        walk_at "w"
        refine use_draw 0 jo4 (by omega) (by simp; omega) (by simp; omega) fun r6 j6 lo6 hi6 jo6 => ?_
        refine It1.any lo6 (by simpa using hi6) fun d hd _ => ?_
        obtain ⟨s2, hs2, rfl⟩ := List.mem_map.mp hd
        walk_at "w"
        refine use_draw 0 jo6 (by omega) (by omega) (by omega) fun r7 j7 lo7 hi7 jo7 => ?_
        refine It1.any lo7 (by simp; omega) fun d hd _ => ?_
        obtain ⟨u, rfl, lou, hiu⟩ : ∃ u : Int, d = .int u ∧ 0 ≤ u ∧ u ≤ 1000 := by
          simp only [List.mem_cons, List.not_mem_nil, or_false] at hd
          rcases hd with rfl | rfl | rfl
          · exact ⟨_, rfl, by omega, by omega⟩
          · exact ⟨_, rfl, by omega, by omega⟩
          · exact ⟨_, rfl, by omega, by omega⟩
        walk_at "w"
        exact hk (.alter s2 u) j7 ⟨hoki s2 (hth s2 hs2), lou, hiu⟩ ⟨hth s2 hs2, hs2⟩ (jo7.mono (by omega))
      · walk_at "w"
        have h10 : 10 < way := by simpa using hb2
        refine Br.mk (fun hb4 => ?_) (fun hb4 => ?_)
        · have : way < 7 := by simpa using hb4
          omega
        · walk_at "w"
          refine Br.mk (fun _ => ?_) (fun h => ?_)
          · walk_at "w"
            exact hk (.put s1 v) j4 ⟨oi1, lov, hiv⟩ hs1 (jo4.mono (by omega))
          · simp at h
            omega
    · have h10 : way ≤ 10 := by simpa using hb2
      refine Br.mk (fun h => nomatch h) (fun _ => ?_)
      walk_at "w"
      refine Br.mk (fun hb4 => ?_) (fun hb4 => ?_)
      · refine Br.mk (fun _ => ?_) (fun h => nomatch h)
        walk_at "w"
        exact hk (.put s1 v) j4 ⟨oi1, lov, hiv⟩ hs1 (jo4.mono (by omega))
      · have h7 : 7 ≤ way := by simpa using hb4
        walk_at "w"
        refine Br.mk (fun hb5 => ?_) (fun _ => ?_)
        · have : 10 < way := by simpa using hb5
          omega
        · walk_at "w"
          refine use_draw 0 jo4 (by omega) (by omega) (by omega) fun r6 j6 lo6 hi6 jo6 => ?_
          walk_at "w"
          refine It1.any (by omega) (by simp; omega) fun d hd _ => ?_
          obtain ⟨e, rfl, oke, ge⟩ : ∃ e : Dd, d = dDd e ∧ OkD e ∧ GoodD its th e := by
            simp only [List.mem_cons, List.not_mem_nil, or_false] at hd
            rcases hd with rfl | rfl | rfl | rfl
            · exact ⟨.look, rfl, trivial, trivial⟩
            · exact ⟨.back, rfl, trivial, trivial⟩
            · exact ⟨.pay false, rfl, trivial, trivial⟩
            · exact ⟨.pay (decide (r6 = 1)), rfl, trivial, trivial⟩
          exact hk e j6 oke ge (jo6.mono (by omega))

theorem ok__law_act {f : Addr} {fd : FuncData}  (F : Fun K "_law_act" "_law_act" s__law_act f fd) (T : Txt K mg) (F__law_draw : FnD P w K mg base 1 "_law_draw" [] R__law_draw) (F__law_amount : FnD P w K mg base 2 "_law_amount" [] R__law_amount) : FnOk P w K mg base (L2.CX P w) 3 f fd ["well", "items", "there"] (spD K R__law_act) := by
  have nd := sc__law_act.nd
  exact fn_wp F sc__law_act (fun ds M k kx H0 => by obtain ⟨h, j, n, its, th, rfl, rfl, jo, hn0, hn, hl1, hl6, hoki, hth, hth6, hk⟩ := H0; rfl) (fun cdv A outer s H E hr => (Cb.cons (CS.par 3 4 rfl (CA.cons (CE.ix (fun _ _ => rfl) (CE.var 1) (CE.call F__law_draw hr (by decide) (CA.cons (CE.var 0) (CA.cons (CE.callB call_len oLen_ok T.z_len PySem.boot_len (CE.var 1)) CA.nil)))) (CA.cons (CE.call F__law_draw hr (by decide) (CA.cons (CE.var 0) (CA.cons CE.int CA.nil))) CA.nil)) nd)
  (Cb.cons (CS.set 5 (CE.ix (fun _ _ => rfl) (CE.lst (CA.cons CE.int (CA.cons (CE.add CE.int (CE.call F__law_draw hr (by decide) (CA.cons (CE.var 0) (CA.cons CE.int CA.nil)))) CA.nil))) (CE.call F__law_draw hr (by decide) (CA.cons (CE.var 0) (CA.cons CE.int CA.nil)))) nd)
  (Cb.cons (CS.if (Kc.lt (CE.var 4) CE.int).t
  (Cb.cons (CS.ret (CE.tup (CA.cons CE.str (CA.cons (CE.var 3) (CA.cons (CE.call F__law_amount hr (by decide) (CA.cons (CE.var 0) CA.nil)) CA.nil)))))
  Cb.nil)
  Cb.nil)
  (Cb.cons (CS.if (CT.bool (CP.and (Kc.gt (CE.var 4) CE.int).t (CP.and1 (Kc.ne (units65 hr) (CE.var 2) (CE.lst CA.nil)).t)))
  (Cb.cons (CS.ret (CE.tup (CA.cons CE.str (CA.cons (CE.ix (fun _ _ => rfl) (CE.var 2) (CE.call F__law_draw hr (by decide) (CA.cons (CE.var 0) (CA.cons (CE.callB call_len oLen_ok T.z_len PySem.boot_len (CE.var 2)) CA.nil)))) (CA.cons (CE.ix (fun _ _ => rfl) (CE.lst (CA.cons (CE.var 5) (CA.cons (CE.var 5) (CA.cons CE.int CA.nil)))) (CE.call F__law_draw hr (by decide) (CA.cons (CE.var 0) (CA.cons CE.int CA.nil)))) CA.nil)))))
  Cb.nil)
  Cb.nil)
  (Cb.cons (CS.if (CT.bool (CP.or (Kc.lt (CE.var 4) CE.int).t (CP.or1 (Kc.gt (CE.var 4) CE.int).t)))
  (Cb.cons (CS.ret (CE.tup (CA.cons CE.str (CA.cons (CE.var 3) (CA.cons (CE.var 5) CA.nil)))))
  Cb.nil)
  Cb.nil)
  (Cb.cons (CS.ret (CE.ix (fun _ _ => rfl) (CE.lst (CA.cons (CE.tup (CA.cons CE.str CA.nil)) (CA.cons (CE.tup (CA.cons CE.str CA.nil)) (CA.cons (CE.tup (CA.cons CE.str (CA.cons CE.bl CA.nil))) (CA.cons (CE.tup (CA.cons CE.str (CA.cons (Kc.eq (units65 hr) (CE.call F__law_draw hr (by decide) (CA.cons (CE.var 0) (CA.cons CE.int CA.nil))) CE.int).v CA.nil))) CA.nil))))) (CE.sub (CE.var 4) CE.int)))
  Cb.nil))))))) v__law_act
theorem sc__law_acts : FnScope ["script", "begin", "well", "items", "most", "acts", "there", "turn", "source", "act", "item"] ["script", "begin", "well", "items", "most"] (defScope s__law_acts) := ⟨rfl, rfl, rfl, by decide +kernel, rfl, by decide +kernel, by decide +kernel⟩
theorem v__law_acts  : VOk w__law_acts 11 R__law_acts := by
  intro ds M k kx H0
  obtain ⟨ns, h, j, n, b, m, its, rfl, rfl, jo, hn0, hn, hns, hb0, hb10, hm0, hm3, hl1, hl6, hoki, hk⟩ := H0
  walk_at "w"
  intro qa
  walk_at "w"
  refine use_draw 1 jo (by omega) (by omega) (by omega) fun r1 j1 lo1 hi1 jo1 => ?_
  refine Sd.mk ⟨by split <;> (try split) <;> omega, by split <;> (try split) <;> omega⟩ ?_
  refine Loop.range (fun i Γ M => ∃ (dl : List Dd) (jw : Jar) (b1 b2 b3 b4 : Option D), Γ = [some (.seq (ns.map D.int)), some (.int b), some (.hdl h), some (.lst (its.map D.str)), some (.int m), some (.hdl qa), some (.lst ((thOf dl).map D.str)), b1, b2, b3, b4] ∧ GoodT its dl ∧ dl.length = i ∧ jw.Ok (n + 1 + 20 * i) ∧ M = [(qa, .lst (dl.map dDd)), (h, jw.mo)])
    ⟨[], j1, _, _, _, _, rfl, GoodT.nil, rfl, by simpa using jo1, rfl⟩ ?_ ?_
  · rintro i Γ M hi ⟨dl, jw, b1, b2, b3, b4, rfl, hg, hdl, jow, rfl⟩
    have hi60 : (i : Int) < 301 := by split at hi <;> (try split at hi) <;> omega
    have htl := th_len hg hl6
    refine Cut.mk (fun Γ1 M1 => ∃ (s : Addr) (js : Jar) (X : Ms), Γ1 = [some (.seq (ns.map D.int)), some (.int b), some (.hdl h), some (.lst (its.map D.str)), some (.int m), some (.hdl qa), some (.lst ((thOf dl).map D.str)), some (.int (0 + (i : Int))), some (.hdl s), b3, b4] ∧ js.Ok (n + 1 + 20 * i) ∧ M1 = (qa, .lst (dl.map dDd)) :: (s, js.mo) :: X ∧ ((s = h ∧ X = []) ∨ X = [(h, jw.mo)])) ?_ ?_
    · walk_at "w"
      refine Br.mk (fun hb => ?_) (fun hb => ?_)
      · have hb2 : b + (0 + (i : Int)) < (ns.map D.int).length := by simpa using hb
        rw [List.length_map] at hb2
        walk_at "w"
        refine use_well (by omega) (by omega) fun p jp jop => ⟨_, List.Perm.swap _ _ _, ?_⟩
        exact ⟨p, jp, _, rfl, jop.mono (by omega), rfl, .inr rfl⟩
      · exact ⟨h, jw, [], rfl, jow, rfl, .inl ⟨rfl, rfl⟩⟩
    · rintro Γ1 M1 ⟨s, js, X, rfl, jos, rfl, hX⟩
      walk_at "w"
      refine HandP.mk [(s, js.mo)] ((qa, .lst (dl.map dDd)) :: X) (.cons _ (List.perm_append_singleton _ _).symm) ⟨s, js, _, its, thOf dl, rfl, rfl, jos, by omega, by omega, hl1, hl6, hoki, fun x hx => th_sub hg x hx, htl, fun d j2 okd gd jo2 => ⟨(qa, .lst (dl.map dDd)) :: (s, j2.mo) :: X, .cons _ (List.perm_append_singleton _ _), ?_⟩⟩
      walk_at "w"
      refine Cut.mk (fun Γ1 M1 => Γ1 = [some (.seq (ns.map D.int)), some (.int b), some (.hdl h), some (.lst (its.map D.str)), some (.int m), some (.hdl qa), some (.lst ((tA (thOf dl) d).map D.str)), some (.int (0 + (i : Int))), some (.hdl s), some (dDd d), b4] ∧ M1 = (qa, .lst (dl.map dDd)) :: (s, j2.mo) :: X) ?_ ?_
      · cases d with
        | put i2 v =>
          walk_at "w"
          walk_at "b"
          walk_at "w"
          rw [any_strs]
          refine Br.mk (fun hc => ?_) (fun hc => ?_)
          · have hc2 : i2 ∉ thOf dl := by simpa using hc
            walk_at "w"
            exact ⟨by show _ = [some (.seq (ns.map D.int)), some (.int b), some (.hdl h), some (.lst (its.map D.str)), some (.int m), some (.hdl qa), some (.lst ((if i2 ∈ thOf dl then thOf dl else thOf dl ++ [i2]).map D.str)), some (.int (0 + (i : Int))), some (.hdl s), some (dDd (.put i2 v)), b4]; rw [if_neg hc2, List.map_append]; rfl, rfl⟩
          · have hc2 : i2 ∈ thOf dl := by simpa using hc
            exact ⟨by show _ = [some (.seq (ns.map D.int)), some (.int b), some (.hdl h), some (.lst (its.map D.str)), some (.int m), some (.hdl qa), some (.lst ((if i2 ∈ thOf dl then thOf dl else thOf dl ++ [i2]).map D.str)), some (.int (0 + (i : Int))), some (.hdl s), some (dDd (.put i2 v)), b4]; rw [if_pos hc2], rfl⟩
        | _ =>
          repeat (walk_at "w"; walk_at "b")
          exact ⟨rfl, rfl⟩
      rintro Γ1 M1 ⟨rfl, rfl⟩
      refine Cut.mk (fun Γ1 M1 => Γ1 = [some (.seq (ns.map D.int)), some (.int b), some (.hdl h), some (.lst (its.map D.str)), some (.int m), some (.hdl qa), some (.lst ((tB (thOf dl) d).map D.str)), some (.int (0 + (i : Int))), some (.hdl s), some (dDd d), b4] ∧ M1 = (qa, .lst (dl.map dDd)) :: (s, j2.mo) :: X) ?_ ?_
      · walk_at "w"
        refine cEq_deed ⟨_, _, .dat 1 (sm_dDd okd) (by decide), .dat 1 (sm_pay true) (by decide), ?_⟩
        rw [eqv_payT]
        refine Br.mk (fun hc => ?_) (fun hc => ?_)
        · obtain rfl := isT_pay hc
          walk_at "w"
          exact ⟨rfl, rfl⟩
        · have e : tB (thOf dl) d = tA (thOf dl) d := by
            cases d with
            | pay c => cases c <;> first | rfl | cases hc
            | _ => rfl
          exact ⟨by rw [e], rfl⟩
      rintro Γ1 M1 ⟨rfl, rfl⟩
      refine Cut.mk (fun Γ1 M1 => ∃ b4, Γ1 = [some (.seq (ns.map D.int)), some (.int b), some (.hdl h), some (.lst (its.map D.str)), some (.int m), some (.hdl qa), some (.lst ((thStep (thOf dl) d).map D.str)), some (.int (0 + (i : Int))), some (.hdl s), some (dDd d), b4] ∧ M1 = (qa, .lst (dl.map dDd)) :: (s, j2.mo) :: X) ?_ ?_
      · cases d with
        | alter i2 v =>
          walk_at "w"
          walk_at "b"
          walk_at "w"
          refine Br.mk (fun hc => ?_) (fun hc => ?_)
          · have hc2 : v = 0 := by simpa using hc
            subst hc2
            walk_at "w"
            refine Lc.filterT (xs := thOf dl) (e := D.str) (fun x => !decide (x = i2)) D.str trivial (by omega) (fun k x Q B hx hQ hB => ?_) ?_
            · walk_at "w"
              exact ⟨hQ, hB⟩
            walk_at "w"
            exact ⟨_, rfl, rfl⟩
          · have hc2 : ¬ v = 0 := by simpa using hc
            exact ⟨b4, by show _ = [some (.seq (ns.map D.int)), some (.int b), some (.hdl h), some (.lst (its.map D.str)), some (.int m), some (.hdl qa), some (.lst ((if v = 0 then (thOf dl).filter (fun x => !decide (x = i2)) else thOf dl).map D.str)), some (.int (0 + (i : Int))), some (.hdl s), some (dDd (.alter i2 v)), b4]; rw [if_neg hc2]; rfl, rfl⟩
        | pay c =>
          cases c <;> (repeat (walk_at "w"; walk_at "b")) <;> exact ⟨_, rfl, rfl⟩
        | _ =>
          repeat (walk_at "w"; walk_at "b")
          exact ⟨_, rfl, rfl⟩
      rintro Γ1 M1 ⟨b4, rfl, rfl⟩
      rcases hX with ⟨rfl, rfl⟩ | rfl
      · refine Gh.mk _ _ GhS.refl ?_
        walk_at "w"
        exact ⟨dl ++ [d], j2, _, _, _, _, by rw [thOf_snoc], hg.snoc okd gd, by simp [hdl], jo2.mono (by push_cast; omega), by rw [List.map_append]; rfl⟩
      · refine Gh.mk _ _ (GhS.drop (.cons₂ _ (.cons _ (List.Sublist.refl _)))) ?_
        walk_at "w"
        exact ⟨dl ++ [d], jw, _, _, _, _, by rw [thOf_snoc], hg.snoc okd gd, by simp [hdl], jow.mono (by push_cast; omega), by rw [List.map_append]; rfl⟩
  · rintro Γ M ⟨dl, jw, b1, b2, b3, b4, rfl, hg, hdl, jow, rfl⟩
    refine GhR.mk _ _ (GhV.frz 0 rfl) ?_
    refine hk dl jw hg ?_ (jow.mono (by split <;> (try split) <;> omega))
    rw [hdl]
    split <;> (try split) <;> omega


theorem ok__law_acts {f : Addr} {fd : FuncData}  (F : Fun K "_law_acts" "_law_acts" s__law_acts f fd) (T : Txt K mg) (F__law_draw : FnD P w K mg base 1 "_law_draw" [] R__law_draw) (F__law_act : FnD P w K mg base 3 "_law_act" [] R__law_act) (F__law_well : FnD P w K mg base 1 "_law_well" [] R__law_well) : FnOk P w K mg base (L2.CX P w) 4 f fd ["script", "begin", "well", "items", "most"] (spD K R__law_acts) := by
  have nd := sc__law_acts.nd
  exact fn_wp F sc__law_acts (fun ds M k kx H0 => by obtain ⟨ns, h, j, n, b, m, its, rfl, rfl, jo, hn0, hn, hns, hb0, hb10, hm0, hm3, hl1, hl6, hoki, hk⟩ := H0; rfl) (fun cdv A outer s H E hr => (Cb.cons (CS.par 5 6 rfl (CA.cons (CE.lstM CA.nil) (CA.cons (CE.lst CA.nil) CA.nil)) nd)
  (Cb.cons (CS.for (passes_of rfl) rfl (Ki.range1 T.z_range (CE.callB2 (call_max2 rfl) oMax2_ok T.z_max PyProof.Rows.boot_max (CE.callB2 (call_min2 rfl) oMin2_ok T.z_min PyProof.Rows.boot_min CE.int (CE.sub (CE.callB call_len oLen_ok T.z_len PySem.boot_len (CE.var 0)) (CE.var 1))) (CE.call F__law_draw hr (by decide) (CA.cons (CE.var 2) (CA.cons (CE.add (CE.var 4) CE.int) CA.nil))))) (CTg.name 7 nd)
  (Cb.cons (CS.set 8 (CE.var 2) nd)
  (Cb.cut (CS.if (Kc.lt (CE.add (CE.var 1) (CE.var 7)) (CE.callB call_len oLen_ok T.z_len PySem.boot_len (CE.var 0))).t
  (Cb.cons (CS.set 8 (CE.call F__law_well hr (by decide) (CA.cons (CE.var 0) (CA.cons (CE.add (CE.var 1) (CE.var 7)) CA.nil))) nd)
  Cb.nil)
  Cb.nil)
  (Cb.cons (CS.set 9 (CE.call F__law_act hr (by decide) (CA.cons (CE.var 8) (CA.cons (CE.var 3) (CA.cons (CE.var 6) CA.nil)))) nd)
  (Cb.cut (CS.if (CT.bool (CP.and (Kc.eq (units65 hr) (CE.ix (fun _ _ => rfl) (CE.var 9) CE.int) CE.str).t (CP.and1 (Kc.notIn (units65 hr) rfl (CE.ix (fun _ _ => rfl) (CE.var 9) CE.int) (CE.var 6)).t)))
  (Cb.cons (CS.set 6 (CE.add (CE.var 6) (CE.lst (CA.cons (CE.ix (fun _ _ => rfl) (CE.var 9) CE.int) CA.nil))) nd)
  Cb.nil)
  Cb.nil)
  (Cb.cut (CS.if (Kc.eq (units65 hr) (CE.var 9) (CE.tup (CA.cons CE.str (CA.cons CE.bl CA.nil)))).t
  (Cb.cons (CS.set 6 (CE.lst CA.nil) nd)
  Cb.nil)
  Cb.nil)
  (Cb.cut (CS.if (CT.bool (CP.and (Kc.eq (units65 hr) (CE.ix (fun _ _ => rfl) (CE.var 9) CE.int) CE.str).t (CP.and1 (Kc.eq (units65 hr) (CE.ix (fun _ _ => rfl) (CE.var 9) CE.int) CE.int).t)))
  (Cb.cons (CS.setLc 6 [("item", 10)] rfl nd (blkOk_by (by show blkC ["script", "begin", "well", "items", "most", "acts", "there", "turn", "source", "act", "item"] (defScope s__law_acts) _ _ = true; decide +kernel)) (Ki.lst (CE.var 6)) (fun _ _ _ _ _ => (CGc.name 10 nd)) (.some fun _ _ _ _ _ => (Kc.ne (units65 hr) (CE.var 10) (CE.ix (fun _ _ => rfl) (CE.var 9) CE.int)).t) (fun _ _ _ _ _ => (CE.var 10)) (sw_true rfl rfl rfl (by decide +kernel)))
  Cb.nil)
  Cb.nil)
  (Cb.gh (Cb.cons (CS.expr (CE.app (CE.var 5) (CE.var 9)))
  Cb.nil)))))))))
  (Cb.cons (CS.ret (CE.gv (CE.var 5)))
  Cb.nil)))) v__law_acts
theorem sc__law_unlike : FnScope ["acts", "start", "found", "at", "act", "item", "amount"] ["acts", "start"] (defScope s__law_unlike) := ⟨rfl, rfl, rfl, by decide +kernel, rfl, by decide +kernel, by decide +kernel⟩
theorem v__law_unlike  : VOk w__law_unlike 7 R__law_unlike := by
  intro ds M k kx H0
  obtain ⟨m, dl, rfl, rfl, om, od, hdl, hk⟩ := H0
  walk_at "w"
  intro qf
  walk_at "w"
  refine Loop.range (fun q Γ M => ∃ (b1 b2 b3 b4 : Option D), Γ = [some (.lst (dl.map dDd)), some (dPr m), some (.hdl qf), b1, b2, b3, b4] ∧ M = [(qf, .lst ((unlN dl q).map dDd))]) ⟨_, _, _, _, rfl, rfl⟩ ?_ ?_
  · rintro q Γ M hq ⟨b1, b2, b3, b4, rfl, rfl⟩
    have hq2 : q < dl.length := by simpa using hq
    obtain ⟨d, hd⟩ : ∃ d, dl[q]? = some d := ⟨dl[q], List.getElem?_eq_getElem hq2⟩
    rw [Int.zero_add]
    have hul := unlN_len (dl := dl) q (by omega)
    walk_at "w"
    refine It1.nat (i := q) (d := dDd d) (get_deed hd) ?_
    refine Cut.mk (fun Γ1 M1 => Γ1 = [some (.lst (dl.map dDd)), some (dPr m), some (.hdl qf), some (.int (q : Int)), some (dDd (unlD q d)), b3, b4] ∧ M1 = [(qf, .lst ((unlN dl q).map dDd))]) ?_ ?_
    · cases d with
      | price j a =>
        walk_at "w"
        walk_at "b"
        walk_at "w"
        refine Sd.mk (pow4 (n := 9) (by decide) (by decide) (by decide)) ?_
        rw [show (10 : Int) ^ (9 : Int).toNat = 1000000000 from by decide]
        walk_at "w"
        refine Sd.mk (mulx (by omega) (by omega) (by omega) (by omega)) ?_
        walk_at "w"
        exact ⟨rfl, rfl⟩
      | _ =>
        walk_at "w"
        walk_at "b"
        exact ⟨rfl, rfl⟩
    · rintro Γ1 M1 ⟨rfl, rfl⟩
      walk_at "w"
      exact ⟨_, _, _, _, rfl, by rw [unlN_succ hd, List.map_append]; rfl⟩
  · rintro Γ M ⟨b1, b2, b3, b4, rfl, rfl⟩
    rw [Int.toNat_natCast, List.length_map]
    refine Gh.mk _ _ (GhS.frz 2 0 rfl rfl) ?_
    walk_at "w"
    refine Lc.mapT (xs := m) (e := fun p => .tup [.str p.1, .int p.2]) (fun p => .tup [.str p.1, .int (p.2 % 1000000000 * 200)]) trivial (by have := om.l6; omega) (fun k p Q hp hQ => ?_) ?_
    · walk_at "w"
      refine Sd.mk (pow4 (n := 9) (by decide) (by decide) (by decide)) ?_
      rw [show (10 : Int) ^ (9 : Int).toNat = 1000000000 from by decide]
      walk_at "w"
      refine Sd.mk (mulx (by omega) (by omega) (by omega) (by omega)) ?_
      walk_at "w"
      exact hQ
    walk_at "w"
    rw [show m.map (fun p => D.tup [D.str p.1, D.int (p.2 % 1000000000 * 200)]) = (unlM m).map (fun p => D.tup [.str p.1, .int p.2]) from by unfold unlM; rw [List.map_map]; rfl]
    exact hk

theorem ok__law_unlike {f : Addr} {fd : FuncData}  (F : Fun K "_law_unlike" "_law_unlike" s__law_unlike f fd) (T : Txt K mg) : FnOk P w K mg base (L2.CX P w) 1 f fd ["acts", "start"] (spD K R__law_unlike) := by
  have nd := sc__law_unlike.nd
  exact fn_wp F sc__law_unlike (fun ds M k kx H0 => by obtain ⟨m, dl, rfl, rfl, om, od, hdl, hk⟩ := H0; rfl) (fun cdv A outer s H E hr => (Cb.cons (CS.set 2 (CE.lstM CA.nil) nd)
  (Cb.cons (CS.for (passes_of rfl) rfl (Ki.range1 T.z_range (CE.callB call_len oLen_ok T.z_len PySem.boot_len (CE.var 0))) (CTg.name 3 nd)
  (Cb.cons (CS.set 4 (CE.ix (fun _ _ => rfl) (CE.var 0) (CE.var 3)) nd)
  (Cb.cut (CS.if (Kc.eq (units65 hr) (CE.ix (fun _ _ => rfl) (CE.var 4) CE.int) CE.str).t
  (Cb.cons (CS.set 4 (CE.tup (CA.cons CE.str (CA.cons (CE.ix (fun _ _ => rfl) (CE.var 4) CE.int) (CA.cons (CE.add (CE.add (CE.mul (CE.mod (CE.callT call_int1 oInt_ok T.z_int PyProof.Rows.boot_int (CE.ix (fun _ _ => rfl) (CE.var 4) CE.int)) (CE.pow CE.int CE.int)) CE.int) (CE.var 3)) CE.int) CA.nil)))) nd)
  Cb.nil)
  Cb.nil)
  (Cb.cons (CS.expr (CE.app (CE.var 2) (CE.var 4)))
  Cb.nil))))
  (Cb.gh (Cb.cons (CS.ret (CE.tup (CA.cons (CE.var 2) (CA.cons (CE.callT call_tuple_of oTup_ok T.z_tuple PyProof.Rows.boot_tuple (CE.lc [("item", 5), ("amount", 6)] rfl nd (blkOk_by (by show blkC ["acts", "start", "found", "at", "act", "item", "amount"] (defScope s__law_unlike) _ _ = true; decide +kernel)) (Ki.tup (CE.var 1)) (fun _ _ _ _ _ => (CGc.tup (n := 2) rfl (CGcs.cons (CGc.name 5 nd) (CGcs.cons (CGc.name 6 nd) CGcs.nil)))) .none (fun _ _ _ _ _ => (CE.tup (CA.cons (CE.var 5) (CA.cons (CE.mul (CE.mod (CE.callT call_int1 oInt_ok T.z_int PyProof.Rows.boot_int (CE.var 6)) (CE.pow CE.int CE.int)) CE.int) CA.nil)))))) CA.nil))))
  Cb.nil))))) v__law_unlike
theorem sc__law_stretches : FnScope ["start", "acts", "rows", "item", "amount", "row", "at", "ends", "k"] ["start", "acts"] (defScope s__law_stretches) := ⟨rfl, rfl, rfl, by decide +kernel, rfl, by decide +kernel, by decide +kernel⟩
theorem v__law_stretches  : VOk w__law_stretches 9 R__law_stretches := by
  intro ds M k kx H0
  obtain ⟨m, dl, rfl, rfl, om, hdl, hk⟩ := H0
  walk_at "w"
  intro qr
  walk_at "w"
  refine Loop.ofT (xs := m) (e := fun p => .tup [.str p.1, .int p.2]) (fun q Γ M => ∃ (b1 b2 b3 b4 b5 b6 : Option D) (X : Ms), Γ = [some (dPr m), some (.lst (dl.map dDd)), some (.hdl qr), b1, b2, b3, b4, b5, b6] ∧ (∃ hX : X = [] ∨ ∃ w ds, X = [(w, .lst ds)], M = X ++ [(qr, .dct (Am.ks (m.take q)) ((m.take q).map fun p => D.lst ((rowsOf m dl p.1).map dSt)))])) ⟨_, _, _, _, _, _, [], rfl, .inl rfl, rfl⟩ (fun _ _ _ _ _ => trivial) ?_ ?_
  · rintro q p Γ M hp ⟨b1, b2, b3, b4, b5, b6, X, rfl, hX, rfl⟩
    have hgp : m.get p.1 = some p.2 := am_get_mem2 om.nd (List.mem_of_getElem? hp)
    have hro : rowsOf m dl p.1 = strL dl.length (rowN p.1 p.2 dl dl.length) := by unfold rowsOf; rw [hgp]
    walk_at "w"
    refine Gh.mk _ [(qr, .dct (Am.ks (m.take q)) ((m.take q).map fun p => D.lst ((rowsOf m dl p.1).map dSt)))] (GhS.drop (List.sublist_append_right _ _)) ?_
    walk_at "w"
    intro qw
    walk_at "h"
    refine Sd.mk ⟨by simp only [List.length_map]; omega, by simp only [List.length_map]; omega⟩ ?_
    refine Loop.range (fun k Γ M => ∃ (b1 b2 b3 : Option D), Γ = [some (dPr m), some (.lst (dl.map dDd)), some (.hdl qr), some (.str p.1), some (.int p.2), some (.hdl qw), b1, b2, b3] ∧ M = (qw, .lst ((rowN p.1 p.2 dl k).map fun t => D.tup [.int t.1, .int t.2])) :: (qr, .dct (Am.ks (m.take q)) ((m.take q).map fun p => D.lst ((rowsOf m dl p.1).map dSt))) :: []) ⟨_, _, _, rfl, rfl⟩ ?_ ?_
    · rintro k Γ M hk2 ⟨c1, c2, c3, rfl, rfl⟩
      have hk3 : k < dl.length := by simpa using hk2
      obtain ⟨d, hd⟩ : ∃ d, dl[k]? = some d := ⟨dl[k], List.getElem?_eq_getElem hk3⟩
      have hrl := rowN_len (i := p.1) (a0 := p.2) (dl := dl) k
      rw [Int.zero_add]
      walk_at "w"
      refine It1.nat (i := k) (d := dDd d) (get_deed hd) ?_
      cases d with
      | price j a =>
        walk_at "w"
        walk_at "b"
        walk_at "w"
        refine It1.nat (i := k) (d := dDd (.price j a)) (get_deed hd) ?_
        walk_at "w"
        refine Br.mk (fun hb => ?_) (fun hb => ?_)
        · have hj : j = p.1 := by simpa using hb
          walk_at "w"
          refine It1.nat (i := k) (d := dDd (.price j a)) (get_deed hd) ?_
          walk_at "w"
          exact ⟨_, _, _, rfl, by rw [rowN_succ, hd, List.map_append]; simp [hj]⟩
        · have hj : ¬ j = p.1 := by simpa using hb
          exact ⟨_, _, _, rfl, by rw [rowN_succ, hd]; simp [hj]⟩
      | _ =>
        repeat (walk_at "w"; walk_at "b")
        exact ⟨_, _, _, rfl, by rw [rowN_succ, hd]; simp⟩
    · rintro Γ M ⟨c1, c2, c3, rfl, rfl⟩
      rw [Int.toNat_natCast, List.length_map]
      obtain ⟨t0, hpos⟩ := rowN_pos p.1 p.2 dl dl.length
      have hrl := rowN_len (i := p.1) (a0 := p.2) (dl := dl) dl.length
      have h1 : 1 ≤ (rowN p.1 p.2 dl dl.length).length := by rw [hpos]; simp
      have hsl := strL_range (N := dl.length) h1
      have hel := endsL_range (N := dl.length) (row := rowN p.1 p.2 dl dl.length)
      have hen := endsL_len (N := dl.length) h1
      rw [hro.symm] at hsl
      generalize rowN p.1 p.2 dl dl.length = row at hrl h1 hsl hel hen
      walk_at "w"
      refine Lc.mk (fun k acc M2 => acc = (List.range k).map (fun k => D.int (((row.getD (k + 1) (0, 0)).2 : Nat) : Int)) ∧ M2 = (qw, MO.lst (row.map fun t => D.tup [.int t.1, .int t.2])) :: (qr, .dct (Am.ks (m.take q)) ((m.take q).map fun p => D.lst ((rowsOf m dl p.1).map dSt))) :: []) ⟨rfl, rfl⟩ (fun _ _ _ _ _ => trivial) ?_ ?_
      · rintro k d acc M2 hd ⟨rfl, rfl⟩
        obtain ⟨hk2, rfl⟩ := rangeD_at hd
        have hk3 : k + 1 < row.length := by simp only [List.length_map] at hk2; omega
        rw [Int.zero_add]
        walk_at "w"
        refine It1.nat (i := k + 1) (d := .tup [.int (row.getD (k + 1) (0, 0)).1, .int ((row.getD (k + 1) (0, 0)).2 : Nat)]) (by rw [List.getElem?_map, List.getElem?_eq_getElem hk3, List.getD_eq_getElem?_getD, List.getElem?_eq_getElem hk3]; rfl) ?_
        walk_at "w"
        exact ⟨by rw [List.range_succ, List.map_append]; rfl, rfl⟩
      · rintro acc M2 ⟨rfl, rfl⟩
        rw [show (rangeD 0 (((row.map fun t => D.tup [.int t.1, .int ((t.2 : Nat) : Int)]).length : Int) - 1).toNat).length = row.length - 1 from by simp [rangeD]]
        walk_at "w"
        rw [show (((dl.map dDd).length : Nat) : Int) = (dl.length : Int) from by rw [List.length_map], ← hel]
        refine Lc.mk (fun k acc M2 => acc = (List.range k).map (fun k => dSt ((row.getD k (0, 0)).1, (row.getD k (0, 0)).2, (endsL dl.length row).getD k 0)) ∧ M2 = (qw, .lst (row.map fun t => D.tup [.int t.1, .int t.2])) :: (qr, .dct (Am.ks (m.take q)) ((m.take q).map fun p => D.lst ((rowsOf m dl p.1).map dSt))) :: []) ⟨rfl, rfl⟩ (fun _ _ _ _ _ => trivial) ?_ ?_
        · rintro k d acc M2 hd ⟨rfl, rfl⟩
          obtain ⟨hk2, rfl⟩ := rangeD_at hd
          have hk3 : k < row.length := by simp only [List.length_map] at hk2; omega
          have hrow : (row.map fun t => D.tup [.int t.1, .int ((t.2 : Nat) : Int)])[k]? = some (.tup [.int (row.getD k (0, 0)).1, .int ((row.getD k (0, 0)).2 : Nat)]) := by rw [List.getElem?_map, List.getElem?_eq_getElem hk3, List.getD_eq_getElem?_getD, List.getElem?_eq_getElem hk3]; rfl
          rw [Int.zero_add]
          walk_at "w"
          refine It1.nat (i := k) hrow ?_
          walk_at "w"
          refine It1.nat (i := k) hrow ?_
          walk_at "w"
          refine It1.nat (i := k) (d := .int (((endsL dl.length row).getD k 0 : Nat) : Int)) (by rw [List.getElem?_map, List.getElem?_eq_getElem (by omega), List.getD_eq_getElem?_getD, List.getElem?_eq_getElem (by omega)]; rfl) ?_
          walk_at "w"
          exact ⟨by rw [List.range_succ, List.map_append]; rfl, rfl⟩
        · rintro acc M2 ⟨rfl, rfl⟩
          rw [show (rangeD 0 (((row.map fun t => D.tup [.int t.1, .int ((t.2 : Nat) : Int)]).length : Int)).toNat).length = row.length from by simp [rangeD]]
          rw [show (List.range row.length).map (fun k => dSt ((row.getD k (0, 0)).1, (row.getD k (0, 0)).2, (endsL dl.length row).getD k 0)) = (rowsOf m dl p.1).map dSt from by rw [hsl, List.map_map]; rfl]
          walk_at "w"
          refine HDm.mk 1 _ _ _ rfl rfl ⟨.inr p.1, _, _, ⟨rfl, am_take_len q (by have := om.l6; omega), .new (am_new om.nd hp)⟩, ?_⟩
          exact ⟨_, _, _, _, _, _, [_], rfl, .inr ⟨_, _, rfl⟩, by rw [← am_take_ks hp, map_succ hp]; rfl⟩
  · rintro Γ M ⟨b1, b2, b3, b4, b5, b6, X, rfl, hX, rfl⟩
    rw [List.take_length]
    refine GhR.mk _ _ ((GhV.drop (List.sublist_append_right X _)).trans (GhV.frzD 0 rfl)) ?_
    exact hk

theorem ok__law_stretches {f : Addr} {fd : FuncData}  (F : Fun K "_law_stretches" "_law_stretches" s__law_stretches f fd) (T : Txt K mg) : FnOk P w K mg base (L2.CX P w) 1 f fd ["start", "acts"] (spD K R__law_stretches) := by
  have nd := sc__law_stretches.nd
  exact fn_wp F sc__law_stretches (fun ds M k kx H0 => by obtain ⟨m, dl, rfl, rfl, om, hdl, hk⟩ := H0; rfl) (fun cdv A outer s H E hr => (Cb.cons (CS.set 2 CE.dnew nd)
  (Cb.cons (CS.for (passes_of rfl) rfl (Ki.tup (CE.var 0)) (CTg.tup (n := 2) rfl (CTs.cons (CTg.name 3 nd) (CTs.cons (CTg.name 4 nd) CTs.nil)))
  (Cb.gh (Cb.cons (CS.set 5 (CE.lstM (CA.cons (CE.tup (CA.cons (CE.var 4) (CA.cons CE.int CA.nil))) CA.nil)) nd)
  (Cb.cons (CS.for (passes_of rfl) rfl (Ki.range1 T.z_range (CE.callB call_len oLen_ok T.z_len PySem.boot_len (CE.var 1))) (CTg.name 6 nd)
  (Cb.cons (CS.if (CT.bool (CP.and (Kc.eq (units65 hr) (CE.ix (fun _ _ => rfl) (CE.ix (fun _ _ => rfl) (CE.var 1) (CE.var 6)) CE.int) CE.str).t (CP.and1 (Kc.eq (units65 hr) (CE.ix (fun _ _ => rfl) (CE.ix (fun _ _ => rfl) (CE.var 1) (CE.var 6)) CE.int) (CE.var 3)).t)))
  (Cb.cons (CS.expr (CE.app (CE.var 5) (CE.tup (CA.cons (CE.ix (fun _ _ => rfl) (CE.ix (fun _ _ => rfl) (CE.var 1) (CE.var 6)) CE.int) (CA.cons (CE.add (CE.var 6) CE.int) CA.nil)))))
  Cb.nil)
  Cb.nil)
  Cb.nil))
  (Cb.cons (CS.set 7 (CE.add (CE.lc [("k", 8)] rfl nd (blkOk_by (by show blkC ["start", "acts", "rows", "item", "amount", "row", "at", "ends", "k"] (defScope s__law_stretches) _ _ = true; decide +kernel)) (Ki.range1 T.z_range (CE.sub (CE.callB call_len oLen_ok T.z_len PySem.boot_len (CE.var 5)) CE.int)) (fun _ _ _ _ _ => (CGc.name 8 nd)) .none (fun _ _ _ _ _ => (CE.ix (fun _ _ => rfl) (CE.ix (fun _ _ => rfl) (CE.var 5) (CE.add (CE.var 8) CE.int)) CE.int))) (CE.lst (CA.cons (CE.add (CE.callB call_len oLen_ok T.z_len PySem.boot_len (CE.var 1)) CE.int) CA.nil))) nd)
  (Cb.cons (CS.dput (units65 hr) (CE.lc [("k", 8)] rfl nd (blkOk_by (by show blkC ["start", "acts", "rows", "item", "amount", "row", "at", "ends", "k"] (defScope s__law_stretches) _ _ = true; decide +kernel)) (Ki.range1 T.z_range (CE.callB call_len oLen_ok T.z_len PySem.boot_len (CE.var 5))) (fun _ _ _ _ _ => (CGc.name 8 nd)) .none (fun _ _ _ _ _ => (CE.tup (CA.cons (CE.ix (fun _ _ => rfl) (CE.ix (fun _ _ => rfl) (CE.var 5) (CE.var 8)) CE.int) (CA.cons (CE.ix (fun _ _ => rfl) (CE.ix (fun _ _ => rfl) (CE.var 5) (CE.var 8)) CE.int) (CA.cons (CE.ix (fun _ _ => rfl) (CE.var 7) (CE.var 8)) CA.nil)))))) (CE.var 2) (CE.var 3))
  Cb.nil))))))
  (Cb.cons (CS.ret (CE.gv (CE.var 2)))
  Cb.nil)))) v__law_stretches
theorem sc__law_mixed : FnScope ["rows", "lines", "begins", "ends", "line", "found", "amount", "begin", "end"] ["rows", "lines"] (defScope s__law_mixed) := ⟨rfl, rfl, rfl, by decide +kernel, rfl, by decide +kernel, by decide +kernel⟩
theorem v__law_mixed  : VOk w__law_mixed 9 R__law_mixed := by
  intro ds M k kx H0
  obtain ⟨m, dl, ls, rfl, rfl, om, hdl, hu, hls, hg, hk⟩ := H0
  walk_at "w"
  intro qb
  walk_at "w"
  intro qe
  walk_at "w"
  refine Loop.ofT (e := tellD) (fun q Γ M => ∃ (b1 b2 b3 b4 b5 : Option D), Γ = [some (.dct m.ks (m.map fun p => D.lst ((rowsOf m dl p.1).map dSt))), some (.lst (ls.map tellD)), some (.hdl qb), some (.hdl qe), b1, b2, b3, b4, b5] ∧ M = [(qe, .lst ((spans (rowsOf m dl) (ls.take q)).map fun p => D.int ((p.2 : Nat) : Int))), (qb, .lst ((spans (rowsOf m dl) (ls.take q)).map fun p => D.int ((p.1 : Nat) : Int)))]) ⟨_, _, _, _, _, rfl, rfl⟩ (fun _ _ _ _ _ => trivial) ?_ ?_
  · rintro q l Γ M hl ⟨b1, b2, b3, b4, b5, rfl, rfl⟩
    obtain ⟨⟨a0, _, hm0, _⟩, hsh⟩ := hg l (List.mem_of_getElem? hl)
    have hv := am_val2 (f := fun i => D.lst ((rowsOf m dl i).map dSt)) hm0
    rw [spans_succ hl, spans_one]
    have hsl := spans_len (m := m) (dl := dl) (ls := ls.take q) hu fun l hl => hg l (List.mem_of_mem_take hl)
    have hql : (ls.take q).length ≤ 10000 := by rw [List.length_take]; omega
    generalize spans (rowsOf m dl) (ls.take q) = sp at hsl
    obtain ⟨it, nb, kp, sh, gr⟩ := l
    replace hv : valK m.ks (m.map fun p => D.lst ((rowsOf m dl p.1).map dSt)) (.inr it) = some (.lst ((rowsOf m dl it).map dSt)) := hv
    rw [show tellD ⟨it, nb, kp, sh, gr⟩ = .tup [.str it, .int nb, dO sh] from rfl]
    repeat (walk_at "w"; walk_at "b")
    walk_at "w"
    refine HD.mk _ _ .dct ⟨.inr it, ⟨rfl, ?_⟩⟩
    rw [hv]
    walk_at "b"
    walk_at "w"
    cases sh with
    | none =>
      rw [show dO none = .non from rfl]
      walk_at "w"
      walk_at "b"
      exact ⟨_, _, _, _, _, rfl, by simp⟩
    | some a =>
      obtain ⟨b, en, q1, _, q3, _⟩ := QA.row (s := []) hu (Nat.le_refl _) (hsh a rfl)
      have hrl := rows_len hdl (m := m) (it := it)
      rw [show dO (some a) = .int a from rfl]
      walk_at "w"
      walk_at "b"
      walk_at "w"
      refine HD.mk _ _ .dct ⟨.inr it, _, ⟨rfl, hv⟩, ?_⟩
      walk_at "w"
      refine Lc.filterT (xs := rowsOf m dl it) (e := dSt) (fun t => decide (t.1 = a)) (fun t => .tup [.int (t.2.1 : Nat), .int (t.2.2 : Nat)]) trivial (by omega) (fun k t Q B ht hQ hB => ?_) ?_
      · walk_at "w"
        refine Br.mk (fun h => ?_) (fun h => hB h)
        walk_at "w"
        exact hQ h
      rw [show (rowsOf m dl it).filter (fun t => decide (t.1 = a)) = [(a, b, en)] from q3]
      walk_at "w"
      walk_at "b"
      walk_at "w"
      exact ⟨_, _, _, _, _, rfl, by simp [q3]⟩
  · rintro Γ M ⟨b1, b2, b3, b4, b5, rfl, rfl⟩
    rw [List.take_length]
    have hsl := spans_len (m := m) (dl := dl) (ls := ls) hu hg
    generalize hsp : spans (rowsOf m dl) ls = sp at hk hsl
    walk_at "w"
    refine Gh.mk _ _ ((GhS.frz 2 1 rfl rfl).trans (GhS.frz 3 0 rfl rfl)) ?_
    walk_at "w"
    rw [ints_1]
    refine ⟨_, _, .dat 1 (sm_ints _) (by decide), .dat 1 rfl (by decide), ?_⟩
    rw [eqv_empty]
    cases sp with
    | nil =>
      walk_at "w"
      walk_at "b"
      exact hk
    | cons x sp =>
      walk_at "w"
      walk_at "b"
      walk_at "w"
      refine ⟨(x :: sp).map (fun p => ((p.1 : Nat) : Int)), Sd.mk ⟨rfl, by simp⟩ fun b hb hb2 => ?_⟩
      walk_at "w"
      refine ⟨(x :: sp).map (fun p => ((p.2 : Nat) : Int)), Sd.mk ⟨ints_2 _, by simp⟩ fun e he he2 => ?_⟩
      walk_at "w"
      rw [mixS_max hb hb2 he he2]
      exact hk

theorem ok__law_mixed {f : Addr} {fd : FuncData}  (F : Fun K "_law_mixed" "_law_mixed" s__law_mixed f fd) (T : Txt K mg) : FnOk P w K mg base (L2.CX P w) 1 f fd ["rows", "lines"] (spD K R__law_mixed) := by
  have nd := sc__law_mixed.nd
  exact fn_wp F sc__law_mixed (fun ds M k kx H0 => by obtain ⟨m, dl, ls, rfl, rfl, om, hdl, hu, hls, hg, hk⟩ := H0; rfl) (fun cdv A outer s H E hr => (Cb.cons (CS.par 2 3 rfl (CA.cons (CE.lstM CA.nil) (CA.cons (CE.lstM CA.nil) CA.nil)) nd)
  (Cb.cons (CS.for (passes_of rfl) rfl (Ki.lst (CE.var 1)) (CTg.name 4 nd)
  (Cb.cons (CS.if (CT.bool (CP.or (CT.not (CT.val (CE.isi isi_tup T.z_isinstance T.z_tuple b_tuple (CE.var 4)))) (CP.or (Kc.ne (units65 hr) (CE.callB call_len oLen_ok T.z_len PySem.boot_len (CE.var 4)) CE.int).t (CP.or1 (Kc.dNotIn (units65 hr) (CE.ix (fun _ _ => rfl) (CE.var 4) CE.int) (CE.var 0)).t))))
  (Cb.cons (CS.ret CE.non)
  Cb.nil)
  Cb.nil)
  (Cb.cons (CS.if (Kc.isNot (CE.ix (fun _ _ => rfl) (CE.var 4) CE.int) CE.non).t
  (Cb.cons (CS.setLc 5 [("amount", 6), ("begin", 7), ("end", 8)] rfl nd (blkOk_by (by show blkC ["rows", "lines", "begins", "ends", "line", "found", "amount", "begin", "end"] (defScope s__law_mixed) _ _ = true; decide +kernel)) (Ki.lst (CE.dget (units65 hr) (fun _ _ => rfl) (CE.var 0) (CE.ix (fun _ _ => rfl) (CE.var 4) CE.int))) (fun _ _ _ _ _ => (CGc.tup (n := 3) rfl (CGcs.cons (CGc.name 6 nd) (CGcs.cons (CGc.name 7 nd) (CGcs.cons (CGc.name 8 nd) CGcs.nil))))) (.some fun _ _ _ _ _ => (Kc.eq (units65 hr) (CE.var 6) (CE.ix (fun _ _ => rfl) (CE.var 4) CE.int)).t) (fun _ _ _ _ _ => (CE.tup (CA.cons (CE.var 7) (CA.cons (CE.var 8) CA.nil)))) (sw_true rfl rfl rfl (by decide +kernel)))
  (Cb.cons (CS.if (Kc.ne (units65 hr) (CE.callB call_len oLen_ok T.z_len PySem.boot_len (CE.var 5)) CE.int).t
  (Cb.cons (CS.ret CE.non)
  Cb.nil)
  Cb.nil)
  (Cb.cons (CS.expr (CE.app (CE.var 2) (CE.ix (fun _ _ => rfl) (CE.ix (fun _ _ => rfl) (CE.var 5) CE.int) CE.int)))
  (Cb.cons (CS.expr (CE.app (CE.var 3) (CE.ix (fun _ _ => rfl) (CE.ix (fun _ _ => rfl) (CE.var 5) CE.int) CE.int)))
  Cb.nil))))
  Cb.nil)
  Cb.nil)))
  (Cb.gh (Cb.cons (CS.ret (CE.and (Kc.ne (units65 hr) (CE.var 2) (CE.lst CA.nil)).v (CE.one (Kc.ge (CE.callB (cr_max rfl) oMaxL_ok T.z_max PyProof.Rows.boot_max (CE.var 2)) (CE.callB (cr_min rfl) oMinL_ok T.z_min PyProof.Rows.boot_min (CE.var 3))).v)))
  Cb.nil))))) v__law_mixed
theorem sc__law_due : FnScope ["rows", "told", "found", "at", "mixed"] ["rows", "told"] (defScope s__law_due) := ⟨rfl, rfl, rfl, by decide +kernel, rfl, by decide +kernel, by decide +kernel⟩
theorem v__law_due  : VOk w__law_due 5 R__law_due := by
  intro ds M k kx H0
  obtain ⟨m, dl, rps, rfl, rfl, om, hdl, hu, hrl, hg, hk⟩ := H0
  walk_at "w"
  walk_at "b"
  walk_at "w"
  refine Loop.range (fun q Γ M => ∃ (b1 b2 : Option D), Γ = [some (.dct m.ks (m.map fun p => D.lst ((rowsOf m dl p.1).map dSt))), some (.lst (rps.map dRp)), some (.lst (((dueN (fun ls => mixS (spans (rowsOf m dl) ls)) rps q).map Int.ofNat).map D.int)), b1, b2] ∧ M = []) ⟨_, _, rfl, rfl⟩ ?_ ?_
  · rintro q Γ M hq ⟨b1, b2, rfl, rfl⟩
    have hq2 : q < rps.length := by simpa using hq
    obtain ⟨r, hr⟩ : ∃ r, rps[q]? = some r := ⟨rps[q], List.getElem?_eq_getElem hq2⟩
    have hr2 : (rps.map dRp)[q]? = some (dRp r) := by rw [List.getElem?_map, hr]; rfl
    have hdn := dueN_len (f := fun ls => mixS (spans (rowsOf m dl) ls)) (rps := rps) q
    rw [Int.zero_add]
    walk_at "w"
    refine It1.nat (i := q) hr2 ?_
    cases r with
    | none =>
      rw [show dRp none = .non from rfl]
      walk_at "w"
      walk_at "b"
      exact ⟨_, _, by rw [show dueN (fun ls => mixS (spans (rowsOf m dl) ls)) rps (q + 1) = dueN (fun ls => mixS (spans (rowsOf m dl) ls)) rps q from by rw [dueN_succ, hr]; simp], rfl⟩
    | some r =>
      obtain ⟨h1, h2⟩ := hg _ (List.mem_of_getElem? hr) r rfl
      have hr3 : (rps.map dRp)[q]? = some (.tup [.lst (r.told.map tellD), .lst (r.names.map D.str), dPaid r]) := hr2
      rw [show dRp (some r) = .tup [.lst (r.told.map tellD), .lst (r.names.map D.str), dPaid r] from rfl]
      walk_at "w"
      walk_at "b"
      walk_at "w"
      refine It1.nat (i := q) hr3 ?_
      walk_at "w"
      walk_at "b"
      walk_at "w"
      refine It1.nat (i := q) hr3 ?_
      walk_at "w"
      walk_at "b"
      walk_at "w"
      refine It1.nat (i := q) hr3 ?_
      walk_at "w"
      walk_at "b"
      walk_at "w"
      refine It1.nat (i := q) hr3 ?_
      walk_at "w"
      refine HandP.none ⟨m, dl, r.told, rfl, rfl, om, hdl, hu, h1, h2, ⟨_, List.Perm.refl _, ?_⟩⟩
      walk_at "w"
      have hed : dueN (fun ls => mixS (spans (rowsOf m dl) ls)) rps (q + 1) = dueN (fun ls => mixS (spans (rowsOf m dl) ls)) rps q ++ (if mixS (spans (rowsOf m dl) r.told) then [q] else []) := by rw [dueN_succ, hr]
      generalize mixS (spans (rowsOf m dl) r.told) = bb at hed
      cases bb with
      | false =>
        walk_at "w"
        walk_at "b"
        walk_at "h"
        refine Sd.mk (by simp) ?_
        walk_at "h"
        refine Sd.mk ⟨by decide, by decide, by simp⟩ ?_
        walk_at "w"
        exact ⟨some (.int q), some (.bl false), by rw [hed]; simp, rfl⟩
      | true =>
        walk_at "w"
        walk_at "b"
        walk_at "h"
        refine Sd.mk (by simp) ?_
        walk_at "h"
        refine Sd.mk ⟨by decide, by decide, by simp⟩ ?_
        walk_at "w"
        exact ⟨some (.int q), some (.bl true), by rw [hed]; simp, rfl⟩
  · rintro Γ M ⟨b1, b2, rfl, rfl⟩
    rw [Int.toNat_natCast, List.length_map]
    walk_at "w"
    exact hk

theorem ok__law_due {f : Addr} {fd : FuncData}  (F : Fun K "_law_due" "_law_due" s__law_due f fd) (T : Txt K mg) (F__law_mixed : FnD P w K mg base 1 "_law_mixed" [] R__law_mixed) : FnOk P w K mg base (L2.CX P w) 2 f fd ["rows", "told"] (spD K R__law_due) := by
  have nd := sc__law_due.nd
  exact fn_wp F sc__law_due (fun ds M k kx H0 => by obtain ⟨m, dl, rps, rfl, rfl, om, hdl, hu, hrl, hg, hk⟩ := H0; rfl) (fun cdv A outer s H E hr => (Cb.cons (CS.if (CT.not (CT.val (CE.isi isi_lst T.z_isinstance T.z_list b_list (CE.var 1))))
  (Cb.cons (CS.ret CE.non)
  Cb.nil)
  Cb.nil)
  (Cb.cons (CS.set 2 (CE.lst CA.nil) nd)
  (Cb.cons (CS.for (passes_of rfl) rfl (Ki.range1 T.z_range (CE.callB call_len oLen_ok T.z_len PySem.boot_len (CE.var 1))) (CTg.name 3 nd)
  (Cb.cons (CS.if (Kc.isNot (CE.ix (fun _ _ => rfl) (CE.var 1) (CE.var 3)) CE.non).t
  (Cb.cons (CS.if (CT.bool (CP.or (CT.not (CT.val (CE.isi isi_tup T.z_isinstance T.z_tuple b_tuple (CE.ix (fun _ _ => rfl) (CE.var 1) (CE.var 3))))) (CP.or (Kc.ne (units65 hr) (CE.callB call_len oLen_ok T.z_len PySem.boot_len (CE.ix (fun _ _ => rfl) (CE.var 1) (CE.var 3))) CE.int).t (CP.or1 (CT.not (CT.val (CE.isi isi_lst T.z_isinstance T.z_list b_list (CE.ix (fun _ _ => rfl) (CE.ix (fun _ _ => rfl) (CE.var 1) (CE.var 3)) CE.int))))))))
  (Cb.cons (CS.ret CE.non)
  Cb.nil)
  Cb.nil)
  (Cb.cons (CS.set 4 (CE.call F__law_mixed hr (by decide) (CA.cons (CE.var 0) (CA.cons (CE.ix (fun _ _ => rfl) (CE.ix (fun _ _ => rfl) (CE.var 1) (CE.var 3)) CE.int) CA.nil))) nd)
  (Cb.cons (CS.if (Kc.is (CE.var 4) CE.non).t
  (Cb.cons (CS.ret CE.non)
  Cb.nil)
  Cb.nil)
  (Cb.cons (CS.set 2 (CE.add (CE.var 2) (CE.mul (CE.lst (CA.cons (CE.var 3) CA.nil)) (CE.callT call_int1 oInt_ok T.z_int PyProof.Rows.boot_int (CE.var 4)))) nd)
  Cb.nil))))
  Cb.nil)
  Cb.nil))
  (Cb.cons (CS.ret (CE.var 2))
  Cb.nil))))) v__law_due
theorem sc_law : FnScope ["script", "well", "items", "begin", "rules", "acts", "start", "work", "due", "told", "at"] ["script"] (defScope s_law) := ⟨rfl, rfl, rfl, by decide +kernel, rfl, by decide +kernel, by decide +kernel⟩
theorem v_law {CB CC CI CH CR : Addr} : VOk (w_law CB CC CI CH CR) 11 (R_law CB) := by
  intro ds M k kx H0
  obtain ⟨ns, rfl, rfl, hns, hk⟩ := H0
  refine use_well (by omega) (by omega) fun pw j0 jo0 => ⟨_, List.Perm.refl _, ?_⟩
  walk_at "w"
  refine use_draw 0 jo0 (by omega) (by omega) (by omega) fun r2 j2 lo2 hi2 jo2 => ?_
  refine use_items 0 jo2 (by omega) (by omega) (by omega) (by omega) fun its j3 hil hind hoki jo3 => ?_
  refine use_start 0 jo3 (by omega) (by omega) (by omega) fun m0 j4 hm ham jo4 => ?_
  walk_at "w"
  refine HandP.mk [(pw, j4.mo)] [] (by simp) ⟨pw, j4, _, 6, rfl, rfl, jo4, by omega, by omega, by omega, by omega, fun s j5 os jo5 => ⟨_, List.Perm.refl _, ?_⟩⟩
  walk_at "w"
  refine HandP.mk [(pw, j5.mo)] [] (by simp) ⟨ns, pw, j5, _, 1, 30, its, rfl, rfl, jo5, by omega, by omega, hns, by omega, by omega, by omega, by omega, by omega, by omega, hoki, fun dl0 j6 hg0 hdl0 jo6 => ⟨_, List.Perm.refl _, ?_⟩⟩
  walk_at "w"
  have om0 : OkP m0 := okp_of hm ham hind hoki (by omega) (by omega)
  have hdl1 : dl0.length ≤ 60 := by omega
  refine HandP.none ⟨m0, dl0, rfl, rfl, om0, hg0.ok, hdl1, ⟨_, List.Perm.refl _, ?_⟩⟩
  have om := unlM_ok om0
  have hu := unl_unl (m := m0) hdl1
  have hg := unlN_good hdl1 hg0 dl0.length (Nat.le_refl _)
  have hdl : (unlN dl0 dl0.length).length ≤ 60 := by rw [unlN_len _ (Nat.le_refl _)]; omega
  have hks := unlM_keys m0
  generalize unlM m0 = m at om hu hks
  generalize unlN dl0 dl0.length = dl at hu hg hdl
  walk_at "w"
  refine Gh.mk _ _ (GhS.drop (List.nil_sublist _)) ?_
  walk_at "w"
  refine HandP.none ⟨s, rfl, rfl, os, ⟨_, List.Perm.refl _, ?_⟩⟩
  walk_at "w"
  have hgm : GoodT (m.map (·.1)) dl := by rw [hks, hm]; exact hg
  have hpl : Plays s m dl := goodT_plays hgm
  have hsm := rps_small om hgm.ok os hpl (by omega) _ (Nat.le_refl _)
  have hi3 := i30 (s := s) om hgm.ok hpl (by omega) hu dl.length (Nat.le_refl _)
  have hrl := (plays_len om hgm.ok hpl (by omega) (Nat.le_refl _)).2
  refine HandP.none ⟨m, dl, rfl, rfl, om, hdl, ⟨_, List.Perm.refl _, ?_⟩⟩
  walk_at "w"
  refine use_play os om hgm.ok (by omega) hpl fun rp1 RH hRH => ?_
  refine GhR.mk _ _ GhV.play ?_
  rw [hRH]
  walk_at "w"
  refine HandP.none ⟨m, dl, _, rfl, rfl, om, hdl, hu, by omega, fun r hr q e => ⟨(hsm r hr q e).1, hi3.rp r hr q e⟩, ⟨_, List.Perm.refl _, ?_⟩⟩
  walk_at "w"
  refine use_mixtures os om hgm.ok (by omega) hpl fun mx1 => ?_
  refine GhR.mk _ _ (GhV.frz 0 rfl) ?_
  rw [hi3.mx, hrl]
  have hdue : ((dueN (fun ls => mixS (spans (rowsOf m dl) ls)) (hAt s m dl dl.length).rps dl.length).map Int.ofNat).length ≤ 60 := by
    rw [List.length_map]
    exact Nat.le_trans (dueN_len _) hdl
  generalize (dueN (fun ls => mixS (spans (rowsOf m dl) ls)) (hAt s m dl dl.length).rps dl.length).map Int.ofNat = due at hdue
  repeat (walk_at "w"; walk_at "b")
  walk_at "w"
  refine ⟨_, _, .dat 1 (sm_ints _) (by decide), .dat 1 (sm_ints _) (by decide), ?_⟩
  rw [eqv_self _ (Nat.lt_succ_self _)]
  refine Br.mk (fun h => by simp at h) (fun _ => ?_)
  walk_at "w"
  refine Lc.mapT (e := D.int) (fun _ => .bl true) trivial (by omega) (fun k a Q ha hQ => ?_) ?_
  · repeat (walk_at "w"; walk_at "b")
    walk_at "w"
    exact hQ
  rw [List.map_const']
  refine ⟨List.replicate due.length true, Sd.mk (by rw [List.map_replicate]) ?_⟩
  rw [all_reps]
  walk_at "w"
  exact hk _


theorem ok_law {f : Addr} {fd : FuncData} {CB CC CI CH CR : Addr} (F : Fun K "law" "law" s_law f fd) (T : Txt K mg) (F_mixtures : FnD P w K mg base 10 "mixtures" [] (R_mixtures CC CI CB CH)) (F__law_due : FnD P w K mg base 2 "_law_due" [] R__law_due) (F_play : FnD P w K mg base 10 "play" [] (R_play CC CI CB CH)) (F__law_stretches : FnD P w K mg base 1 "_law_stretches" [] R__law_stretches) (F__law_work : FnD P w K mg base 5 "_law_work" [] (R__law_work CB)) (F__law_unlike : FnD P w K mg base 1 "_law_unlike" [] R__law_unlike) (F__law_acts : FnD P w K mg base 4 "_law_acts" [] R__law_acts) (F__law_rules : FnD P w K mg base 3 "_law_rules" [] R__law_rules) (F__law_start : FnD P w K mg base 3 "_law_start" [] R__law_start) (F__law_items : FnD P w K mg base 2 "_law_items" [] R__law_items) (F__law_draw : FnD P w K mg base 1 "_law_draw" [] R__law_draw) (F__law_well : FnD P w K mg base 1 "_law_well" [] R__law_well) : FnOk P w K mg base (L2.CX P w) 11 f fd ["script"] (spD K (R_law CB)) := by
  have nd := sc_law.nd
  refine fn_wp F sc_law (fun ds M k kx H0 => by obtain ⟨ns, rfl, rfl, hns, hk⟩ := H0; rfl) (fun cdv A outer s H E hr => (Cb.cons (CS.set 1 (CE.call F__law_well hr (by decide) (CA.cons (CE.var 0) (CA.cons CE.int CA.nil))) nd)
  (Cb.cons (CS.set 2 (CE.call F__law_items hr (by decide) (CA.cons (CE.var 1) (CA.cons (CE.add CE.int (CE.call F__law_draw hr (by decide) (CA.cons (CE.var 1) (CA.cons CE.int CA.nil)))) CA.nil))) nd)
  (Cb.cons (CS.par 3 4 rfl (CA.cons (CE.call F__law_start hr (by decide) (CA.cons (CE.var 1) (CA.cons (CE.var 2) CA.nil))) (CA.cons (CE.call F__law_rules hr (by decide) (CA.cons (CE.var 1) (CA.cons CE.int CA.nil))) CA.nil)) nd)
  (Cb.cons (CS.asg (CE.call F__law_unlike hr (by decide) (CA.cons (CE.call F__law_acts hr (by decide) (CA.cons (CE.var 0) (CA.cons CE.int (CA.cons (CE.var 1) (CA.cons (CE.var 2) (CA.cons CE.int CA.nil)))))) (CA.cons (CE.var 3) CA.nil))) (CTg.tup (n := 2) rfl (CTs.cons (CTg.name 5 nd) (CTs.cons (CTg.name 6 nd) CTs.nil))))
  (Cb.gh (Cb.cons (CS.set 7 (CE.call F__law_work hr (by decide) (CA.cons (CE.var 4) CA.nil)) nd)
  (Cb.cons (CS.set 8 (CE.call F__law_due hr (by decide) (CA.cons (CE.call F__law_stretches hr (by decide) (CA.cons (CE.var 6) (CA.cons (CE.var 5) CA.nil))) (CA.cons (CE.gv (CE.call F_play hr (by decide) (CA.cons (CE.var 7) (CA.cons (CE.var 6) (CA.cons (CE.callT call_list_of oLst_ok T.z_list PyProof.Rows.boot_list (CE.var 5)) CA.nil))))) CA.nil))) nd)
  (Cb.cons (CS.set 9 (CE.gv (CE.call F_mixtures hr (by decide) (CA.cons (CE.var 7) (CA.cons (CE.var 6) (CA.cons (CE.callT call_list_of oLst_ok T.z_list PyProof.Rows.boot_list (CE.var 5)) CA.nil))))) nd)
  (Cb.cons (CS.if (CT.bool (CP.or (Kc.is (CE.var 8) CE.non).t (CP.or (CT.not (CT.val (CE.isi isi_lst T.z_isinstance T.z_list b_list (CE.var 9)))) (CP.or1 (Kc.ne (units65 hr) (CE.var 9) (CE.var 8)).t))))
  (Cb.cons (CS.ret CE.bl)
  Cb.nil)
  Cb.nil)
  (Cb.cons (CS.ret (CE.callB (cr_all rfl) oAll_ok T.z_all b_all (CE.lc [("at", 10)] rfl nd (blkOk_by (by show blkC ["script", "well", "items", "begin", "rules", "acts", "start", "work", "due", "told", "at"] (defScope s_law) _ _ = true; decide +kernel)) (Ki.lst (CE.var 9)) (fun _ _ _ _ _ => (CGc.name 10 nd)) .none (fun _ _ _ _ _ => (CE.and (CE.isi isi_int T.z_isinstance T.z_int b_int (CE.var 10)) (CE.one (CE.not (CE.isi isi_bool T.z_isinstance T.z_bool b_bool (CE.var 10)))))))))
  Cb.nil))))))))))) ?_
  exact (v_law (CB := CB) (CC := CC) (CI := CI) (CH := CH) (CR := CR))
end
theorem all_mk {l : PySem.W.OpenLaw} {w : World} {K : PySem.W.Frag} {h : Heap} {mg : Str → Option Value} {fa : Addr} (X : K.In h) (G : h.Ns mainGlobals mg) (hfa : mg "law" = some (.ref fa))
    {t_MOST_ACTIONS : Tok}
    {t_LONGEST_ITEM : Tok}
    {t_MOST_AMOUNT : Tok}
    {t_MOST_NUMBER : Tok}
    {t_MOST_ITEMS : Tok}
    {t_LETTERS : Tok}
    {g_DOORS : Addr} {gi_DOORS : Array Value} {gn_DOORS : Nat} {gs_DOORS : Array (Option Value)}
    {g_ACTIONS : Addr} {gi_ACTIONS : Array Value} {gn_ACTIONS : Nat} {gs_ACTIONS : Array (Option Value)}
    {C_Book : Addr}
    {C_LineWork : Addr}
    {C_CartLine : Addr}
    {C_Cart : Addr}
    {C_History : Addr}
    {C_NoRule : Addr}
    {f_NoRule_init : Addr} {od_NoRule_init an_NoRule_init : Option Addr} {sl_NoRule_init : Array (Option Value)} {oc_NoRule_init kV_NoRule_init dc_NoRule_init pm_NoRule_init cd_NoRule_init ct_NoRule_init : Value}
    {C_NoDoor : Addr}
    {f_NoDoor_init : Addr} {od_NoDoor_init an_NoDoor_init : Option Addr} {sl_NoDoor_init : Array (Option Value)} {oc_NoDoor_init kV_NoDoor_init dc_NoDoor_init pm_NoDoor_init cd_NoDoor_init ct_NoDoor_init : Value}
    {f_is_door : Addr} {od_is_door an_is_door : Option Addr} {sl_is_door : Array (Option Value)} {oc_is_door kV_is_door dc_is_door pm_is_door cd_is_door ct_is_door : Value}
    {f_is_rule : Addr} {od_is_rule an_is_rule : Option Addr} {sl_is_rule : Array (Option Value)} {oc_is_rule kV_is_rule dc_is_rule pm_is_rule cd_is_rule ct_is_rule : Value}
    {f_Book_init : Addr} {od_Book_init an_Book_init : Option Addr} {sl_Book_init : Array (Option Value)} {oc_Book_init kV_Book_init dc_Book_init pm_Book_init cd_Book_init ct_Book_init : Value}
    {T_Book_init : Addr}
    {oT_Book_init : Value} {dT_Book_init : Option Addr} {iT_Book_init : Array Value} {nT_Book_init : Nat} {sT_Book_init : Array (Option Value)} {e_Book_init0 : Addr} {e_Book_init1 : Addr} {e_Book_init2 : Addr} {e_Book_init3 : Addr} {e_Book_init4 : Addr} {e_Book_init5 : Addr}
    {d_Book_init0 : Option Addr} {n_Book_init0 : Nat} {s_Book_init0 : Array (Option Value)}
    {d_Book_init1 : Option Addr} {n_Book_init1 : Nat} {s_Book_init1 : Array (Option Value)}
    {d_Book_init2 : Option Addr} {n_Book_init2 : Nat} {s_Book_init2 : Array (Option Value)}
    {d_Book_init3 : Option Addr} {n_Book_init3 : Nat} {s_Book_init3 : Array (Option Value)}
    {d_Book_init4 : Option Addr} {n_Book_init4 : Nat} {s_Book_init4 : Array (Option Value)}
    {d_Book_init5 : Option Addr} {n_Book_init5 : Nat} {s_Book_init5 : Array (Option Value)}
    {f_Book_rule : Addr} {od_Book_rule an_Book_rule : Option Addr} {sl_Book_rule : Array (Option Value)} {oc_Book_rule kV_Book_rule dc_Book_rule pm_Book_rule cd_Book_rule ct_Book_rule : Value}
    {f_LineWork_carry_out : Addr} {od_LineWork_carry_out an_LineWork_carry_out : Option Addr} {sl_LineWork_carry_out : Array (Option Value)} {oc_LineWork_carry_out kV_LineWork_carry_out dc_LineWork_carry_out pm_LineWork_carry_out cd_LineWork_carry_out ct_LineWork_carry_out : Value}
    {f_LineWork_init : Addr} {od_LineWork_init an_LineWork_init : Option Addr} {sl_LineWork_init : Array (Option Value)} {oc_LineWork_init kV_LineWork_init dc_LineWork_init pm_LineWork_init cd_LineWork_init ct_LineWork_init : Value}
    {f_CartLine_init : Addr} {od_CartLine_init an_CartLine_init : Option Addr} {sl_CartLine_init : Array (Option Value)} {oc_CartLine_init kV_CartLine_init dc_CartLine_init pm_CartLine_init cd_CartLine_init ct_CartLine_init : Value}
    {f_CartLine_carry_out : Addr} {od_CartLine_carry_out an_CartLine_carry_out : Option Addr} {sl_CartLine_carry_out : Array (Option Value)} {oc_CartLine_carry_out kV_CartLine_carry_out dc_CartLine_carry_out pm_CartLine_carry_out cd_CartLine_carry_out ct_CartLine_carry_out : Value}
    {f_is_whole : Addr} {od_is_whole an_is_whole : Option Addr} {sl_is_whole : Array (Option Value)} {oc_is_whole kV_is_whole dc_is_whole pm_is_whole cd_is_whole ct_is_whole : Value}
    {f_is_item : Addr} {od_is_item an_is_item : Option Addr} {sl_is_item : Array (Option Value)} {oc_is_item kV_is_item dc_is_item pm_is_item cd_is_item ct_is_item : Value}
    {f_is_amount : Addr} {od_is_amount an_is_amount : Option Addr} {sl_is_amount : Array (Option Value)} {oc_is_amount kV_is_amount dc_is_amount pm_is_amount cd_is_amount ct_is_amount : Value}
    {f_is_number : Addr} {od_is_number an_is_number : Option Addr} {sl_is_number : Array (Option Value)} {oc_is_number kV_is_number dc_is_number pm_is_number cd_is_number ct_is_number : Value} {T_is_number : Addr}
    {oT_is_number : Value} {dT_is_number : Option Addr} {iT_is_number : Array Value} {nT_is_number : Nat} {sT_is_number : Array (Option Value)}
    {f_is_price : Addr} {od_is_price an_is_price : Option Addr} {sl_is_price : Array (Option Value)} {oc_is_price kV_is_price dc_is_price pm_is_price cd_is_price ct_is_price : Value}
    {f_are_prices : Addr} {od_are_prices an_are_prices : Option Addr} {sl_are_prices : Array (Option Value)} {oc_are_prices kV_are_prices dc_are_prices pm_are_prices cd_are_prices ct_are_prices : Value}
    {f_is_deed : Addr} {od_is_deed an_is_deed : Option Addr} {sl_is_deed : Array (Option Value)} {oc_is_deed kV_is_deed dc_is_deed pm_is_deed cd_is_deed ct_is_deed : Value}
    {f_check_history : Addr} {od_check_history an_check_history : Option Addr} {sl_check_history : Array (Option Value)} {oc_check_history kV_check_history dc_check_history pm_check_history cd_check_history ct_check_history : Value}
    {f_Cart_init : Addr} {od_Cart_init an_Cart_init : Option Addr} {sl_Cart_init : Array (Option Value)} {oc_Cart_init kV_Cart_init dc_Cart_init pm_Cart_init cd_Cart_init ct_Cart_init : Value}
    {f_Cart_row_of : Addr} {od_Cart_row_of an_Cart_row_of : Option Addr} {sl_Cart_row_of : Array (Option Value)} {oc_Cart_row_of kV_Cart_row_of dc_Cart_row_of pm_Cart_row_of cd_Cart_row_of ct_Cart_row_of : Value}
    {f_Cart_check : Addr} {od_Cart_check an_Cart_check : Option Addr} {sl_Cart_check : Array (Option Value)} {oc_Cart_check kV_Cart_check dc_Cart_check pm_Cart_check cd_Cart_check ct_Cart_check : Value}
    {f_Cart_touched : Addr} {od_Cart_touched an_Cart_touched : Option Addr} {sl_Cart_touched : Array (Option Value)} {oc_Cart_touched kV_Cart_touched dc_Cart_touched pm_Cart_touched cd_Cart_touched ct_Cart_touched : Value}
    {f_Cart_carry_out : Addr} {od_Cart_carry_out an_Cart_carry_out : Option Addr} {sl_Cart_carry_out : Array (Option Value)} {oc_Cart_carry_out kV_Cart_carry_out dc_Cart_carry_out pm_Cart_carry_out cd_Cart_carry_out ct_Cart_carry_out : Value}
    {f_Cart_report : Addr} {od_Cart_report an_Cart_report : Option Addr} {sl_Cart_report : Array (Option Value)} {oc_Cart_report kV_Cart_report dc_Cart_report pm_Cart_report cd_Cart_report ct_Cart_report : Value}
    {f_Cart_play_deed : Addr} {od_Cart_play_deed an_Cart_play_deed : Option Addr} {sl_Cart_play_deed : Array (Option Value)} {oc_Cart_play_deed kV_Cart_play_deed dc_Cart_play_deed pm_Cart_play_deed cd_Cart_play_deed ct_Cart_play_deed : Value}
    {f_wrongs_of : Addr} {od_wrongs_of an_wrongs_of : Option Addr} {sl_wrongs_of : Array (Option Value)} {oc_wrongs_of kV_wrongs_of dc_wrongs_of pm_wrongs_of cd_wrongs_of ct_wrongs_of : Value}
    {f_are_mixed : Addr} {od_are_mixed an_are_mixed : Option Addr} {sl_are_mixed : Array (Option Value)} {oc_are_mixed kV_are_mixed dc_are_mixed pm_are_mixed cd_are_mixed ct_are_mixed : Value}
    {f_History_go_on : Addr} {od_History_go_on an_History_go_on : Option Addr} {sl_History_go_on : Array (Option Value)} {oc_History_go_on kV_History_go_on dc_History_go_on pm_History_go_on cd_History_go_on ct_History_go_on : Value}
    {f_History_init : Addr} {od_History_init an_History_init : Option Addr} {sl_History_init : Array (Option Value)} {oc_History_init kV_History_init dc_History_init pm_History_init cd_History_init ct_History_init : Value}
    {f_play : Addr} {od_play an_play : Option Addr} {sl_play : Array (Option Value)} {oc_play kV_play dc_play pm_play cd_play ct_play : Value}
    {f_mixtures : Addr} {od_mixtures an_mixtures : Option Addr} {sl_mixtures : Array (Option Value)} {oc_mixtures kV_mixtures dc_mixtures pm_mixtures cd_mixtures ct_mixtures : Value}
    {f__law_well : Addr} {od__law_well an__law_well : Option Addr} {sl__law_well : Array (Option Value)} {oc__law_well kV__law_well dc__law_well pm__law_well cd__law_well ct__law_well : Value}
    {f__law_draw : Addr} {od__law_draw an__law_draw : Option Addr} {sl__law_draw : Array (Option Value)} {oc__law_draw kV__law_draw dc__law_draw pm__law_draw cd__law_draw ct__law_draw : Value}
    {f__law_amount : Addr} {od__law_amount an__law_amount : Option Addr} {sl__law_amount : Array (Option Value)} {oc__law_amount kV__law_amount dc__law_amount pm__law_amount cd__law_amount ct__law_amount : Value}
    {f__law_rule : Addr} {od__law_rule an__law_rule : Option Addr} {sl__law_rule : Array (Option Value)} {oc__law_rule kV__law_rule dc__law_rule pm__law_rule cd__law_rule ct__law_rule : Value}
    {f__law_items : Addr} {od__law_items an__law_items : Option Addr} {sl__law_items : Array (Option Value)} {oc__law_items kV__law_items dc__law_items pm__law_items cd__law_items ct__law_items : Value}
    {f__law_start : Addr} {od__law_start an__law_start : Option Addr} {sl__law_start : Array (Option Value)} {oc__law_start kV__law_start dc__law_start pm__law_start cd__law_start ct__law_start : Value}
    {f__law_rules : Addr} {od__law_rules an__law_rules : Option Addr} {sl__law_rules : Array (Option Value)} {oc__law_rules kV__law_rules dc__law_rules pm__law_rules cd__law_rules ct__law_rules : Value}
    {f__law_work : Addr} {od__law_work an__law_work : Option Addr} {sl__law_work : Array (Option Value)} {oc__law_work kV__law_work dc__law_work pm__law_work cd__law_work ct__law_work : Value}
    {f__law_act : Addr} {od__law_act an__law_act : Option Addr} {sl__law_act : Array (Option Value)} {oc__law_act kV__law_act dc__law_act pm__law_act cd__law_act ct__law_act : Value}
    {f__law_acts : Addr} {od__law_acts an__law_acts : Option Addr} {sl__law_acts : Array (Option Value)} {oc__law_acts kV__law_acts dc__law_acts pm__law_acts cd__law_acts ct__law_acts : Value}
    {f__law_unlike : Addr} {od__law_unlike an__law_unlike : Option Addr} {sl__law_unlike : Array (Option Value)} {oc__law_unlike kV__law_unlike dc__law_unlike pm__law_unlike cd__law_unlike ct__law_unlike : Value}
    {f__law_stretches : Addr} {od__law_stretches an__law_stretches : Option Addr} {sl__law_stretches : Array (Option Value)} {oc__law_stretches kV__law_stretches dc__law_stretches pm__law_stretches cd__law_stretches ct__law_stretches : Value}
    {f__law_mixed : Addr} {od__law_mixed an__law_mixed : Option Addr} {sl__law_mixed : Array (Option Value)} {oc__law_mixed kV__law_mixed dc__law_mixed pm__law_mixed cd__law_mixed ct__law_mixed : Value}
    {f__law_due : Addr} {od__law_due an__law_due : Option Addr} {sl__law_due : Array (Option Value)} {oc__law_due kV__law_due dc__law_due pm__law_due cd__law_due ct__law_due : Value}
    {f_law : Addr} {od_law an_law : Option Addr} {sl_law : Array (Option Value)} {oc_law kV_law dc_law pm_law cd_law ct_law : Value}
    (z_abs : PySem.W.nsIn K mainGlobals "abs" = some none)
    (z_all : PySem.W.nsIn K mainGlobals "all" = some none)
    (z_bool : PySem.W.nsIn K mainGlobals "bool" = some none)
    (z_dict : PySem.W.nsIn K mainGlobals "dict" = some none)
    (z_enumerate : PySem.W.nsIn K mainGlobals "enumerate" = some none)
    (z_int : PySem.W.nsIn K mainGlobals "int" = some none)
    (z_isinstance : PySem.W.nsIn K mainGlobals "isinstance" = some none)
    (z_len : PySem.W.nsIn K mainGlobals "len" = some none)
    (z_list : PySem.W.nsIn K mainGlobals "list" = some none)
    (z_max : PySem.W.nsIn K mainGlobals "max" = some none)
    (z_min : PySem.W.nsIn K mainGlobals "min" = some none)
    (z_range : PySem.W.nsIn K mainGlobals "range" = some none)
    (z_set : PySem.W.nsIn K mainGlobals "set" = some none)
    (z_str : PySem.W.nsIn K mainGlobals "str" = some none)
    (z_sum : PySem.W.nsIn K mainGlobals "sum" = some none)
    (z_tuple : PySem.W.nsIn K mainGlobals "tuple" = some none)
    (z_zip : PySem.W.nsIn K mainGlobals "zip" = some none)
    (g_MOST_ACTIONS : PySem.W.nsIn K mainGlobals "MOST_ACTIONS" = some (some (.int 6 t_MOST_ACTIONS)))
    (g_LONGEST_ITEM : PySem.W.nsIn K mainGlobals "LONGEST_ITEM" = some (some (.int 8 t_LONGEST_ITEM)))
    (g_MOST_AMOUNT : PySem.W.nsIn K mainGlobals "MOST_AMOUNT" = some (some (.int 1000000000000 t_MOST_AMOUNT)))
    (g_MOST_NUMBER : PySem.W.nsIn K mainGlobals "MOST_NUMBER" = some (some (.int 1000 t_MOST_NUMBER)))
    (g_MOST_ITEMS : PySem.W.nsIn K mainGlobals "MOST_ITEMS" = some (some (.int 6 t_MOST_ITEMS)))
    (g_LETTERS : PySem.W.nsIn K mainGlobals "LETTERS" = some (some (.str "abcdefghijklmnopqrstuvwxyz" t_LETTERS)))
    (ag_DOORS : PySem.W.nsIn K mainGlobals "DOORS" = some (some (.ref g_DOORS)))
    (lg_DOORS : K.lookup g_DOORS = some ⟨.type "tuple", none, .seq gi_DOORS gn_DOORS, gs_DOORS⟩)
    (vg_DOORS : Vals (doors.map V.str) gi_DOORS.toList)
    (sg_DOORS : gi_DOORS.size ≤ sizeLine)
    (ag_ACTIONS : PySem.W.nsIn K mainGlobals "ACTIONS" = some (some (.ref g_ACTIONS)))
    (lg_ACTIONS : K.lookup g_ACTIONS = some ⟨.type "tuple", none, .seq gi_ACTIONS gn_ACTIONS, gs_ACTIONS⟩)
    (vg_ACTIONS : Vals (acts.map V.str) gi_ACTIONS.toList)
    (sg_ACTIONS : gi_ACTIONS.size ≤ sizeLine)
    (aC_Book : PySem.W.nsIn K mainGlobals "Book" = some (some (.ref C_Book)))
    (pg_Book : PySem.W.plainGet K C_Book Str.empty = true)
    (hd_Book : PySem.W.hasDictIn K C_Book = true)
    (po_Book : PySem.W.plainOver K C_Book = true)
    (sa_Book : PySem.W.findIn K (.ref C_Book) "__setattr__" = some (some (.builtin "object.__setattr__")))
    (mk_Book : PySem.W.makesIn K C_Book = true)
    (kc_Book : PySem.W.keepIn K (.ref C_Book) = true)
    (na_Book_row : PySem.W.findIn K (.ref C_Book) "row" = some none)
    (aC_LineWork : PySem.W.nsIn K mainGlobals "LineWork" = some (some (.ref C_LineWork)))
    (pg_LineWork : PySem.W.plainGet K C_LineWork Str.empty = true)
    (hd_LineWork : PySem.W.hasDictIn K C_LineWork = true)
    (po_LineWork : PySem.W.plainOver K C_LineWork = true)
    (sa_LineWork : PySem.W.findIn K (.ref C_LineWork) "__setattr__" = some (some (.builtin "object.__setattr__")))
    (mk_LineWork : PySem.W.makesIn K C_LineWork = true)
    (kc_LineWork : PySem.W.keepIn K (.ref C_LineWork) = true)
    (na_LineWork_stays : PySem.W.findIn K (.ref C_LineWork) "stays" = some none)
    (na_LineWork_seen : PySem.W.findIn K (.ref C_LineWork) "seen" = some none)
    (na_LineWork_told : PySem.W.findIn K (.ref C_LineWork) "told" = some none)
    (na_LineWork_times : PySem.W.findIn K (.ref C_LineWork) "times" = some none)
    (aC_CartLine : PySem.W.nsIn K mainGlobals "CartLine" = some (some (.ref C_CartLine)))
    (pg_CartLine : PySem.W.plainGet K C_CartLine Str.empty = true)
    (hd_CartLine : PySem.W.hasDictIn K C_CartLine = true)
    (po_CartLine : PySem.W.plainOver K C_CartLine = true)
    (sa_CartLine : PySem.W.findIn K (.ref C_CartLine) "__setattr__" = some (some (.builtin "object.__setattr__")))
    (mk_CartLine : PySem.W.makesIn K C_CartLine = true)
    (kc_CartLine : PySem.W.keepIn K (.ref C_CartLine) = true)
    (na_CartLine_item : PySem.W.findIn K (.ref C_CartLine) "item" = some none)
    (na_CartLine_number : PySem.W.findIn K (.ref C_CartLine) "number" = some none)
    (na_CartLine_kept : PySem.W.findIn K (.ref C_CartLine) "kept" = some none)
    (na_CartLine_shown : PySem.W.findIn K (.ref C_CartLine) "shown" = some none)
    (na_CartLine_greatest : PySem.W.findIn K (.ref C_CartLine) "greatest" = some none)
    (aC_Cart : PySem.W.nsIn K mainGlobals "Cart" = some (some (.ref C_Cart)))
    (pg_Cart : PySem.W.plainGet K C_Cart Str.empty = true)
    (hd_Cart : PySem.W.hasDictIn K C_Cart = true)
    (po_Cart : PySem.W.plainOver K C_Cart = true)
    (sa_Cart : PySem.W.findIn K (.ref C_Cart) "__setattr__" = some (some (.builtin "object.__setattr__")))
    (mk_Cart : PySem.W.makesIn K C_Cart = true)
    (kc_Cart : PySem.W.keepIn K (.ref C_Cart) = true)
    (na_Cart_design : PySem.W.findIn K (.ref C_Cart) "design" = some none)
    (na_Cart_amounts : PySem.W.findIn K (.ref C_Cart) "amounts" = some none)
    (na_Cart_rows : PySem.W.findIn K (.ref C_Cart) "rows" = some none)
    (na_Cart_is_failed : PySem.W.findIn K (.ref C_Cart) "is_failed" = some none)
    (na_Cart_spent : PySem.W.findIn K (.ref C_Cart) "spent" = some none)
    (na_Cart_times_asked : PySem.W.findIn K (.ref C_Cart) "times_asked" = some none)
    (aC_History : PySem.W.nsIn K mainGlobals "History" = some (some (.ref C_History)))
    (pg_History : PySem.W.plainGet K C_History Str.empty = true)
    (hd_History : PySem.W.hasDictIn K C_History = true)
    (po_History : PySem.W.plainOver K C_History = true)
    (sa_History : PySem.W.findIn K (.ref C_History) "__setattr__" = some (some (.builtin "object.__setattr__")))
    (mk_History : PySem.W.makesIn K C_History = true)
    (kc_History : PySem.W.keepIn K (.ref C_History) = true)
    (na_History_cart : PySem.W.findIn K (.ref C_History) "cart" = some none)
    (na_History_reports : PySem.W.findIn K (.ref C_History) "reports" = some none)
    (na_History_wrongs : PySem.W.findIn K (.ref C_History) "wrongs" = some none)
    (na_History_mixed : PySem.W.findIn K (.ref C_History) "mixed" = some none)
    (na_History_moments : PySem.W.findIn K (.ref C_History) "moments" = some none)
    (aC_NoRule : PySem.W.nsIn K mainGlobals "NoRule" = some (some (.ref C_NoRule)))
    (xl_NoRule : ∃ nm q N bs bm sn sub ab col dd k0 k1 k2 k3 k5, K.lookup C_NoRule = some (excClassObj nm q C_NoRule N bs bm true sn sub ab col dd k0 k1 k2 k3 k5 "ValueError.__new__") ∧ PySem.HandSPX.refsVE bm = true)
    (xa_NoRule : PySem.W.findIn K (.ref C_NoRule) "__setattr__" = some (some (.builtin "object.__setattr__")))
    (xe_NoRule : PySem.W.subIn K (.ref C_NoRule) (.type "BaseException") = some true)
    (xt_NoRule : PySem.W.typeIn K (.ref C_NoRule) = some (.type "type"))
    (xk_NoRule : PySem.W.keepIn K (.ref C_NoRule) = true)
    (xn_NoRule : PySem.W.findIn K (.ref C_NoRule) "door" = some none)
    (a_NoRule_init : PySem.W.findIn K (.ref C_NoRule) "__init__" = some (some (.ref f_NoRule_init)))
    (l_NoRule_init : K.lookup f_NoRule_init = some ⟨oc_NoRule_init, od_NoRule_init, .func (PySem.W.fnOf "__init__" "NoRule.__init__" (defArgs s_NoRule_init) (defBody s_NoRule_init) (defScope s_NoRule_init) .none kV_NoRule_init dc_NoRule_init pm_NoRule_init an_NoRule_init cd_NoRule_init ct_NoRule_init), sl_NoRule_init⟩)
    (c_NoRule_init : PySem.W.codeIn K cd_NoRule_init "NoRule.__init__" = true)
    (k_NoRule_init : PySem.W.keepIn K (.ref f_NoRule_init) = true)
    (ti_NoRule_init : PySem.W.typeIn K (.ref f_NoRule_init) = some (.type "function"))
    (aC_NoDoor : PySem.W.nsIn K mainGlobals "NoDoor" = some (some (.ref C_NoDoor)))
    (xl_NoDoor : ∃ nm q N bs bm sn sub ab col dd k0 k1 k2 k3 k5, K.lookup C_NoDoor = some (excClassObj nm q C_NoDoor N bs bm true sn sub ab col dd k0 k1 k2 k3 k5 "ValueError.__new__") ∧ PySem.HandSPX.refsVE bm = true)
    (xa_NoDoor : PySem.W.findIn K (.ref C_NoDoor) "__setattr__" = some (some (.builtin "object.__setattr__")))
    (xe_NoDoor : PySem.W.subIn K (.ref C_NoDoor) (.type "BaseException") = some true)
    (xt_NoDoor : PySem.W.typeIn K (.ref C_NoDoor) = some (.type "type"))
    (xk_NoDoor : PySem.W.keepIn K (.ref C_NoDoor) = true)
    (xn_NoDoor : PySem.W.findIn K (.ref C_NoDoor) "door" = some none)
    (a_NoDoor_init : PySem.W.findIn K (.ref C_NoDoor) "__init__" = some (some (.ref f_NoDoor_init)))
    (l_NoDoor_init : K.lookup f_NoDoor_init = some ⟨oc_NoDoor_init, od_NoDoor_init, .func (PySem.W.fnOf "__init__" "NoDoor.__init__" (defArgs s_NoDoor_init) (defBody s_NoDoor_init) (defScope s_NoDoor_init) .none kV_NoDoor_init dc_NoDoor_init pm_NoDoor_init an_NoDoor_init cd_NoDoor_init ct_NoDoor_init), sl_NoDoor_init⟩)
    (c_NoDoor_init : PySem.W.codeIn K cd_NoDoor_init "NoDoor.__init__" = true)
    (k_NoDoor_init : PySem.W.keepIn K (.ref f_NoDoor_init) = true)
    (ti_NoDoor_init : PySem.W.typeIn K (.ref f_NoDoor_init) = some (.type "function"))
    (a_is_door : PySem.W.nsIn K mainGlobals "is_door" = some (some (.ref f_is_door)))
    (l_is_door : K.lookup f_is_door = some ⟨oc_is_door, od_is_door, .func (PySem.W.fnOf "is_door" "is_door" (defArgs s_is_door) (defBody s_is_door) (defScope s_is_door) .none kV_is_door dc_is_door pm_is_door an_is_door cd_is_door ct_is_door), sl_is_door⟩)
    (c_is_door : PySem.W.codeIn K cd_is_door "is_door" = true)
    (k_is_door : PySem.W.keepIn K (.ref f_is_door) = true)
    (a_is_rule : PySem.W.nsIn K mainGlobals "is_rule" = some (some (.ref f_is_rule)))
    (l_is_rule : K.lookup f_is_rule = some ⟨oc_is_rule, od_is_rule, .func (PySem.W.fnOf "is_rule" "is_rule" (defArgs s_is_rule) (defBody s_is_rule) (defScope s_is_rule) .none kV_is_rule dc_is_rule pm_is_rule an_is_rule cd_is_rule ct_is_rule), sl_is_rule⟩)
    (c_is_rule : PySem.W.codeIn K cd_is_rule "is_rule" = true)
    (k_is_rule : PySem.W.keepIn K (.ref f_is_rule) = true)
    (a_Book_init : PySem.W.findIn K (.ref C_Book) "__init__" = some (some (.ref f_Book_init)))
    (i_Book_init : PySem.W.isFn K (.ref f_Book_init) = true)
    (l_Book_init : K.lookup f_Book_init = some ⟨oc_Book_init, od_Book_init, .func (PySem.W.fnOf "__init__" "Book.__init__" (defArgs s_Book_init) (defBody s_Book_init) (defScope s_Book_init) (.ref T_Book_init) kV_Book_init dc_Book_init pm_Book_init an_Book_init cd_Book_init ct_Book_init), sl_Book_init⟩)
    (c_Book_init : PySem.W.codeIn K cd_Book_init "Book.__init__" = true)
    (k_Book_init : PySem.W.keepIn K (.ref f_Book_init) = true)
    (lT_Book_init : K.lookup T_Book_init = some ⟨oT_Book_init, dT_Book_init, .seq iT_Book_init nT_Book_init, sT_Book_init⟩)
    (vT_Book_init : Vals [V.ref e_Book_init0, V.ref e_Book_init1, V.ref e_Book_init2, V.ref e_Book_init3, V.ref e_Book_init4, V.ref e_Book_init5] iT_Book_init.toList)
    (e_Book_initl0 : K.lookup e_Book_init0 = some ⟨.type "tuple", d_Book_init0, .seq #[] n_Book_init0, s_Book_init0⟩)
    (e_Book_initl1 : K.lookup e_Book_init1 = some ⟨.type "tuple", d_Book_init1, .seq #[] n_Book_init1, s_Book_init1⟩)
    (e_Book_initl2 : K.lookup e_Book_init2 = some ⟨.type "tuple", d_Book_init2, .seq #[] n_Book_init2, s_Book_init2⟩)
    (e_Book_initl3 : K.lookup e_Book_init3 = some ⟨.type "tuple", d_Book_init3, .seq #[] n_Book_init3, s_Book_init3⟩)
    (e_Book_initl4 : K.lookup e_Book_init4 = some ⟨.type "tuple", d_Book_init4, .seq #[] n_Book_init4, s_Book_init4⟩)
    (e_Book_initl5 : K.lookup e_Book_init5 = some ⟨.type "tuple", d_Book_init5, .seq #[] n_Book_init5, s_Book_init5⟩)
    (a_Book_rule : PySem.W.findIn K (.ref C_Book) "rule" = some (some (.ref f_Book_rule)))
    (i_Book_rule : PySem.W.isFn K (.ref f_Book_rule) = true)
    (l_Book_rule : K.lookup f_Book_rule = some ⟨oc_Book_rule, od_Book_rule, .func (PySem.W.fnOf "rule" "Book.rule" (defArgs s_Book_rule) (defBody s_Book_rule) (defScope s_Book_rule) .none kV_Book_rule dc_Book_rule pm_Book_rule an_Book_rule cd_Book_rule ct_Book_rule), sl_Book_rule⟩)
    (c_Book_rule : PySem.W.codeIn K cd_Book_rule "Book.rule" = true)
    (k_Book_rule : PySem.W.keepIn K (.ref f_Book_rule) = true)
    (a_LineWork_carry_out : PySem.W.findIn K (.ref C_LineWork) "carry_out" = some (some (.ref f_LineWork_carry_out)))
    (i_LineWork_carry_out : PySem.W.isFn K (.ref f_LineWork_carry_out) = true)
    (l_LineWork_carry_out : K.lookup f_LineWork_carry_out = some ⟨oc_LineWork_carry_out, od_LineWork_carry_out, .func (PySem.W.fnOf "carry_out" "LineWork.carry_out" (defArgs s_LineWork_carry_out) (defBody s_LineWork_carry_out) (defScope s_LineWork_carry_out) .none kV_LineWork_carry_out dc_LineWork_carry_out pm_LineWork_carry_out an_LineWork_carry_out cd_LineWork_carry_out ct_LineWork_carry_out), sl_LineWork_carry_out⟩)
    (c_LineWork_carry_out : PySem.W.codeIn K cd_LineWork_carry_out "LineWork.carry_out" = true)
    (k_LineWork_carry_out : PySem.W.keepIn K (.ref f_LineWork_carry_out) = true)
    (a_LineWork_init : PySem.W.findIn K (.ref C_LineWork) "__init__" = some (some (.ref f_LineWork_init)))
    (i_LineWork_init : PySem.W.isFn K (.ref f_LineWork_init) = true)
    (l_LineWork_init : K.lookup f_LineWork_init = some ⟨oc_LineWork_init, od_LineWork_init, .func (PySem.W.fnOf "__init__" "LineWork.__init__" (defArgs s_LineWork_init) (defBody s_LineWork_init) (defScope s_LineWork_init) .none kV_LineWork_init dc_LineWork_init pm_LineWork_init an_LineWork_init cd_LineWork_init ct_LineWork_init), sl_LineWork_init⟩)
    (c_LineWork_init : PySem.W.codeIn K cd_LineWork_init "LineWork.__init__" = true)
    (k_LineWork_init : PySem.W.keepIn K (.ref f_LineWork_init) = true)
    (a_CartLine_init : PySem.W.findIn K (.ref C_CartLine) "__init__" = some (some (.ref f_CartLine_init)))
    (i_CartLine_init : PySem.W.isFn K (.ref f_CartLine_init) = true)
    (l_CartLine_init : K.lookup f_CartLine_init = some ⟨oc_CartLine_init, od_CartLine_init, .func (PySem.W.fnOf "__init__" "CartLine.__init__" (defArgs s_CartLine_init) (defBody s_CartLine_init) (defScope s_CartLine_init) .none kV_CartLine_init dc_CartLine_init pm_CartLine_init an_CartLine_init cd_CartLine_init ct_CartLine_init), sl_CartLine_init⟩)
    (c_CartLine_init : PySem.W.codeIn K cd_CartLine_init "CartLine.__init__" = true)
    (k_CartLine_init : PySem.W.keepIn K (.ref f_CartLine_init) = true)
    (a_CartLine_carry_out : PySem.W.findIn K (.ref C_CartLine) "carry_out" = some (some (.ref f_CartLine_carry_out)))
    (i_CartLine_carry_out : PySem.W.isFn K (.ref f_CartLine_carry_out) = true)
    (l_CartLine_carry_out : K.lookup f_CartLine_carry_out = some ⟨oc_CartLine_carry_out, od_CartLine_carry_out, .func (PySem.W.fnOf "carry_out" "CartLine.carry_out" (defArgs s_CartLine_carry_out) (defBody s_CartLine_carry_out) (defScope s_CartLine_carry_out) .none kV_CartLine_carry_out dc_CartLine_carry_out pm_CartLine_carry_out an_CartLine_carry_out cd_CartLine_carry_out ct_CartLine_carry_out), sl_CartLine_carry_out⟩)
    (c_CartLine_carry_out : PySem.W.codeIn K cd_CartLine_carry_out "CartLine.carry_out" = true)
    (k_CartLine_carry_out : PySem.W.keepIn K (.ref f_CartLine_carry_out) = true)
    (a_is_whole : PySem.W.nsIn K mainGlobals "is_whole" = some (some (.ref f_is_whole)))
    (l_is_whole : K.lookup f_is_whole = some ⟨oc_is_whole, od_is_whole, .func (PySem.W.fnOf "is_whole" "is_whole" (defArgs s_is_whole) (defBody s_is_whole) (defScope s_is_whole) .none kV_is_whole dc_is_whole pm_is_whole an_is_whole cd_is_whole ct_is_whole), sl_is_whole⟩)
    (c_is_whole : PySem.W.codeIn K cd_is_whole "is_whole" = true)
    (k_is_whole : PySem.W.keepIn K (.ref f_is_whole) = true)
    (a_is_item : PySem.W.nsIn K mainGlobals "is_item" = some (some (.ref f_is_item)))
    (l_is_item : K.lookup f_is_item = some ⟨oc_is_item, od_is_item, .func (PySem.W.fnOf "is_item" "is_item" (defArgs s_is_item) (defBody s_is_item) (defScope s_is_item) .none kV_is_item dc_is_item pm_is_item an_is_item cd_is_item ct_is_item), sl_is_item⟩)
    (c_is_item : PySem.W.codeIn K cd_is_item "is_item" = true)
    (k_is_item : PySem.W.keepIn K (.ref f_is_item) = true)
    (a_is_amount : PySem.W.nsIn K mainGlobals "is_amount" = some (some (.ref f_is_amount)))
    (l_is_amount : K.lookup f_is_amount = some ⟨oc_is_amount, od_is_amount, .func (PySem.W.fnOf "is_amount" "is_amount" (defArgs s_is_amount) (defBody s_is_amount) (defScope s_is_amount) .none kV_is_amount dc_is_amount pm_is_amount an_is_amount cd_is_amount ct_is_amount), sl_is_amount⟩)
    (c_is_amount : PySem.W.codeIn K cd_is_amount "is_amount" = true)
    (k_is_amount : PySem.W.keepIn K (.ref f_is_amount) = true)
    (a_is_number : PySem.W.nsIn K mainGlobals "is_number" = some (some (.ref f_is_number)))
    (l_is_number : K.lookup f_is_number = some ⟨oc_is_number, od_is_number, .func (PySem.W.fnOf "is_number" "is_number" (defArgs s_is_number) (defBody s_is_number) (defScope s_is_number) (.ref T_is_number) kV_is_number dc_is_number pm_is_number an_is_number cd_is_number ct_is_number), sl_is_number⟩)
    (c_is_number : PySem.W.codeIn K cd_is_number "is_number" = true)
    (k_is_number : PySem.W.keepIn K (.ref f_is_number) = true)
    (lT_is_number : K.lookup T_is_number = some ⟨oT_is_number, dT_is_number, .seq iT_is_number nT_is_number, sT_is_number⟩)
    (vT_is_number : Vals [V.int 1] iT_is_number.toList)
    (a_is_price : PySem.W.nsIn K mainGlobals "is_price" = some (some (.ref f_is_price)))
    (l_is_price : K.lookup f_is_price = some ⟨oc_is_price, od_is_price, .func (PySem.W.fnOf "is_price" "is_price" (defArgs s_is_price) (defBody s_is_price) (defScope s_is_price) .none kV_is_price dc_is_price pm_is_price an_is_price cd_is_price ct_is_price), sl_is_price⟩)
    (c_is_price : PySem.W.codeIn K cd_is_price "is_price" = true)
    (k_is_price : PySem.W.keepIn K (.ref f_is_price) = true)
    (a_are_prices : PySem.W.nsIn K mainGlobals "are_prices" = some (some (.ref f_are_prices)))
    (l_are_prices : K.lookup f_are_prices = some ⟨oc_are_prices, od_are_prices, .func (PySem.W.fnOf "are_prices" "are_prices" (defArgs s_are_prices) (defBody s_are_prices) (defScope s_are_prices) .none kV_are_prices dc_are_prices pm_are_prices an_are_prices cd_are_prices ct_are_prices), sl_are_prices⟩)
    (c_are_prices : PySem.W.codeIn K cd_are_prices "are_prices" = true)
    (k_are_prices : PySem.W.keepIn K (.ref f_are_prices) = true)
    (a_is_deed : PySem.W.nsIn K mainGlobals "is_deed" = some (some (.ref f_is_deed)))
    (l_is_deed : K.lookup f_is_deed = some ⟨oc_is_deed, od_is_deed, .func (PySem.W.fnOf "is_deed" "is_deed" (defArgs s_is_deed) (defBody s_is_deed) (defScope s_is_deed) .none kV_is_deed dc_is_deed pm_is_deed an_is_deed cd_is_deed ct_is_deed), sl_is_deed⟩)
    (c_is_deed : PySem.W.codeIn K cd_is_deed "is_deed" = true)
    (k_is_deed : PySem.W.keepIn K (.ref f_is_deed) = true)
    (a_check_history : PySem.W.nsIn K mainGlobals "check_history" = some (some (.ref f_check_history)))
    (l_check_history : K.lookup f_check_history = some ⟨oc_check_history, od_check_history, .func (PySem.W.fnOf "check_history" "check_history" (defArgs s_check_history) (defBody s_check_history) (defScope s_check_history) .none kV_check_history dc_check_history pm_check_history an_check_history cd_check_history ct_check_history), sl_check_history⟩)
    (c_check_history : PySem.W.codeIn K cd_check_history "check_history" = true)
    (k_check_history : PySem.W.keepIn K (.ref f_check_history) = true)
    (a_Cart_init : PySem.W.findIn K (.ref C_Cart) "__init__" = some (some (.ref f_Cart_init)))
    (i_Cart_init : PySem.W.isFn K (.ref f_Cart_init) = true)
    (l_Cart_init : K.lookup f_Cart_init = some ⟨oc_Cart_init, od_Cart_init, .func (PySem.W.fnOf "__init__" "Cart.__init__" (defArgs s_Cart_init) (defBody s_Cart_init) (defScope s_Cart_init) .none kV_Cart_init dc_Cart_init pm_Cart_init an_Cart_init cd_Cart_init ct_Cart_init), sl_Cart_init⟩)
    (c_Cart_init : PySem.W.codeIn K cd_Cart_init "Cart.__init__" = true)
    (k_Cart_init : PySem.W.keepIn K (.ref f_Cart_init) = true)
    (a_Cart_row_of : PySem.W.findIn K (.ref C_Cart) "row_of" = some (some (.ref f_Cart_row_of)))
    (i_Cart_row_of : PySem.W.isFn K (.ref f_Cart_row_of) = true)
    (l_Cart_row_of : K.lookup f_Cart_row_of = some ⟨oc_Cart_row_of, od_Cart_row_of, .func (PySem.W.fnOf "row_of" "Cart.row_of" (defArgs s_Cart_row_of) (defBody s_Cart_row_of) (defScope s_Cart_row_of) .none kV_Cart_row_of dc_Cart_row_of pm_Cart_row_of an_Cart_row_of cd_Cart_row_of ct_Cart_row_of), sl_Cart_row_of⟩)
    (c_Cart_row_of : PySem.W.codeIn K cd_Cart_row_of "Cart.row_of" = true)
    (k_Cart_row_of : PySem.W.keepIn K (.ref f_Cart_row_of) = true)
    (a_Cart_check : PySem.W.findIn K (.ref C_Cart) "check" = some (some (.ref f_Cart_check)))
    (i_Cart_check : PySem.W.isFn K (.ref f_Cart_check) = true)
    (l_Cart_check : K.lookup f_Cart_check = some ⟨oc_Cart_check, od_Cart_check, .func (PySem.W.fnOf "check" "Cart.check" (defArgs s_Cart_check) (defBody s_Cart_check) (defScope s_Cart_check) .none kV_Cart_check dc_Cart_check pm_Cart_check an_Cart_check cd_Cart_check ct_Cart_check), sl_Cart_check⟩)
    (c_Cart_check : PySem.W.codeIn K cd_Cart_check "Cart.check" = true)
    (k_Cart_check : PySem.W.keepIn K (.ref f_Cart_check) = true)
    (a_Cart_touched : PySem.W.findIn K (.ref C_Cart) "touched" = some (some (.ref f_Cart_touched)))
    (i_Cart_touched : PySem.W.isFn K (.ref f_Cart_touched) = true)
    (l_Cart_touched : K.lookup f_Cart_touched = some ⟨oc_Cart_touched, od_Cart_touched, .func (PySem.W.fnOf "touched" "Cart.touched" (defArgs s_Cart_touched) (defBody s_Cart_touched) (defScope s_Cart_touched) .none kV_Cart_touched dc_Cart_touched pm_Cart_touched an_Cart_touched cd_Cart_touched ct_Cart_touched), sl_Cart_touched⟩)
    (c_Cart_touched : PySem.W.codeIn K cd_Cart_touched "Cart.touched" = true)
    (k_Cart_touched : PySem.W.keepIn K (.ref f_Cart_touched) = true)
    (a_Cart_carry_out : PySem.W.findIn K (.ref C_Cart) "carry_out" = some (some (.ref f_Cart_carry_out)))
    (i_Cart_carry_out : PySem.W.isFn K (.ref f_Cart_carry_out) = true)
    (l_Cart_carry_out : K.lookup f_Cart_carry_out = some ⟨oc_Cart_carry_out, od_Cart_carry_out, .func (PySem.W.fnOf "carry_out" "Cart.carry_out" (defArgs s_Cart_carry_out) (defBody s_Cart_carry_out) (defScope s_Cart_carry_out) .none kV_Cart_carry_out dc_Cart_carry_out pm_Cart_carry_out an_Cart_carry_out cd_Cart_carry_out ct_Cart_carry_out), sl_Cart_carry_out⟩)
    (c_Cart_carry_out : PySem.W.codeIn K cd_Cart_carry_out "Cart.carry_out" = true)
    (k_Cart_carry_out : PySem.W.keepIn K (.ref f_Cart_carry_out) = true)
    (a_Cart_report : PySem.W.findIn K (.ref C_Cart) "report" = some (some (.ref f_Cart_report)))
    (i_Cart_report : PySem.W.isFn K (.ref f_Cart_report) = true)
    (l_Cart_report : K.lookup f_Cart_report = some ⟨oc_Cart_report, od_Cart_report, .func (PySem.W.fnOf "report" "Cart.report" (defArgs s_Cart_report) (defBody s_Cart_report) (defScope s_Cart_report) .none kV_Cart_report dc_Cart_report pm_Cart_report an_Cart_report cd_Cart_report ct_Cart_report), sl_Cart_report⟩)
    (c_Cart_report : PySem.W.codeIn K cd_Cart_report "Cart.report" = true)
    (k_Cart_report : PySem.W.keepIn K (.ref f_Cart_report) = true)
    (a_Cart_play_deed : PySem.W.findIn K (.ref C_Cart) "play_deed" = some (some (.ref f_Cart_play_deed)))
    (i_Cart_play_deed : PySem.W.isFn K (.ref f_Cart_play_deed) = true)
    (l_Cart_play_deed : K.lookup f_Cart_play_deed = some ⟨oc_Cart_play_deed, od_Cart_play_deed, .func (PySem.W.fnOf "play_deed" "Cart.play_deed" (defArgs s_Cart_play_deed) (defBody s_Cart_play_deed) (defScope s_Cart_play_deed) .none kV_Cart_play_deed dc_Cart_play_deed pm_Cart_play_deed an_Cart_play_deed cd_Cart_play_deed ct_Cart_play_deed), sl_Cart_play_deed⟩)
    (c_Cart_play_deed : PySem.W.codeIn K cd_Cart_play_deed "Cart.play_deed" = true)
    (k_Cart_play_deed : PySem.W.keepIn K (.ref f_Cart_play_deed) = true)
    (a_wrongs_of : PySem.W.nsIn K mainGlobals "wrongs_of" = some (some (.ref f_wrongs_of)))
    (l_wrongs_of : K.lookup f_wrongs_of = some ⟨oc_wrongs_of, od_wrongs_of, .func (PySem.W.fnOf "wrongs_of" "wrongs_of" (defArgs s_wrongs_of) (defBody s_wrongs_of) (defScope s_wrongs_of) .none kV_wrongs_of dc_wrongs_of pm_wrongs_of an_wrongs_of cd_wrongs_of ct_wrongs_of), sl_wrongs_of⟩)
    (c_wrongs_of : PySem.W.codeIn K cd_wrongs_of "wrongs_of" = true)
    (k_wrongs_of : PySem.W.keepIn K (.ref f_wrongs_of) = true)
    (a_are_mixed : PySem.W.nsIn K mainGlobals "are_mixed" = some (some (.ref f_are_mixed)))
    (l_are_mixed : K.lookup f_are_mixed = some ⟨oc_are_mixed, od_are_mixed, .func (PySem.W.fnOf "are_mixed" "are_mixed" (defArgs s_are_mixed) (defBody s_are_mixed) (defScope s_are_mixed) .none kV_are_mixed dc_are_mixed pm_are_mixed an_are_mixed cd_are_mixed ct_are_mixed), sl_are_mixed⟩)
    (c_are_mixed : PySem.W.codeIn K cd_are_mixed "are_mixed" = true)
    (k_are_mixed : PySem.W.keepIn K (.ref f_are_mixed) = true)
    (a_History_go_on : PySem.W.findIn K (.ref C_History) "go_on" = some (some (.ref f_History_go_on)))
    (i_History_go_on : PySem.W.isFn K (.ref f_History_go_on) = true)
    (l_History_go_on : K.lookup f_History_go_on = some ⟨oc_History_go_on, od_History_go_on, .func (PySem.W.fnOf "go_on" "History.go_on" (defArgs s_History_go_on) (defBody s_History_go_on) (defScope s_History_go_on) .none kV_History_go_on dc_History_go_on pm_History_go_on an_History_go_on cd_History_go_on ct_History_go_on), sl_History_go_on⟩)
    (c_History_go_on : PySem.W.codeIn K cd_History_go_on "History.go_on" = true)
    (k_History_go_on : PySem.W.keepIn K (.ref f_History_go_on) = true)
    (a_History_init : PySem.W.findIn K (.ref C_History) "__init__" = some (some (.ref f_History_init)))
    (i_History_init : PySem.W.isFn K (.ref f_History_init) = true)
    (l_History_init : K.lookup f_History_init = some ⟨oc_History_init, od_History_init, .func (PySem.W.fnOf "__init__" "History.__init__" (defArgs s_History_init) (defBody s_History_init) (defScope s_History_init) .none kV_History_init dc_History_init pm_History_init an_History_init cd_History_init ct_History_init), sl_History_init⟩)
    (c_History_init : PySem.W.codeIn K cd_History_init "History.__init__" = true)
    (k_History_init : PySem.W.keepIn K (.ref f_History_init) = true)
    (a_play : PySem.W.nsIn K mainGlobals "play" = some (some (.ref f_play)))
    (l_play : K.lookup f_play = some ⟨oc_play, od_play, .func (PySem.W.fnOf "play" "play" (defArgs s_play) (defBody s_play) (defScope s_play) .none kV_play dc_play pm_play an_play cd_play ct_play), sl_play⟩)
    (c_play : PySem.W.codeIn K cd_play "play" = true)
    (k_play : PySem.W.keepIn K (.ref f_play) = true)
    (a_mixtures : PySem.W.nsIn K mainGlobals "mixtures" = some (some (.ref f_mixtures)))
    (l_mixtures : K.lookup f_mixtures = some ⟨oc_mixtures, od_mixtures, .func (PySem.W.fnOf "mixtures" "mixtures" (defArgs s_mixtures) (defBody s_mixtures) (defScope s_mixtures) .none kV_mixtures dc_mixtures pm_mixtures an_mixtures cd_mixtures ct_mixtures), sl_mixtures⟩)
    (c_mixtures : PySem.W.codeIn K cd_mixtures "mixtures" = true)
    (k_mixtures : PySem.W.keepIn K (.ref f_mixtures) = true)
    (a__law_well : PySem.W.nsIn K mainGlobals "_law_well" = some (some (.ref f__law_well)))
    (l__law_well : K.lookup f__law_well = some ⟨oc__law_well, od__law_well, .func (PySem.W.fnOf "_law_well" "_law_well" (defArgs s__law_well) (defBody s__law_well) (defScope s__law_well) .none kV__law_well dc__law_well pm__law_well an__law_well cd__law_well ct__law_well), sl__law_well⟩)
    (c__law_well : PySem.W.codeIn K cd__law_well "_law_well" = true)
    (k__law_well : PySem.W.keepIn K (.ref f__law_well) = true)
    (a__law_draw : PySem.W.nsIn K mainGlobals "_law_draw" = some (some (.ref f__law_draw)))
    (l__law_draw : K.lookup f__law_draw = some ⟨oc__law_draw, od__law_draw, .func (PySem.W.fnOf "_law_draw" "_law_draw" (defArgs s__law_draw) (defBody s__law_draw) (defScope s__law_draw) .none kV__law_draw dc__law_draw pm__law_draw an__law_draw cd__law_draw ct__law_draw), sl__law_draw⟩)
    (c__law_draw : PySem.W.codeIn K cd__law_draw "_law_draw" = true)
    (k__law_draw : PySem.W.keepIn K (.ref f__law_draw) = true)
    (a__law_amount : PySem.W.nsIn K mainGlobals "_law_amount" = some (some (.ref f__law_amount)))
    (l__law_amount : K.lookup f__law_amount = some ⟨oc__law_amount, od__law_amount, .func (PySem.W.fnOf "_law_amount" "_law_amount" (defArgs s__law_amount) (defBody s__law_amount) (defScope s__law_amount) .none kV__law_amount dc__law_amount pm__law_amount an__law_amount cd__law_amount ct__law_amount), sl__law_amount⟩)
    (c__law_amount : PySem.W.codeIn K cd__law_amount "_law_amount" = true)
    (k__law_amount : PySem.W.keepIn K (.ref f__law_amount) = true)
    (a__law_rule : PySem.W.nsIn K mainGlobals "_law_rule" = some (some (.ref f__law_rule)))
    (l__law_rule : K.lookup f__law_rule = some ⟨oc__law_rule, od__law_rule, .func (PySem.W.fnOf "_law_rule" "_law_rule" (defArgs s__law_rule) (defBody s__law_rule) (defScope s__law_rule) .none kV__law_rule dc__law_rule pm__law_rule an__law_rule cd__law_rule ct__law_rule), sl__law_rule⟩)
    (c__law_rule : PySem.W.codeIn K cd__law_rule "_law_rule" = true)
    (k__law_rule : PySem.W.keepIn K (.ref f__law_rule) = true)
    (a__law_items : PySem.W.nsIn K mainGlobals "_law_items" = some (some (.ref f__law_items)))
    (l__law_items : K.lookup f__law_items = some ⟨oc__law_items, od__law_items, .func (PySem.W.fnOf "_law_items" "_law_items" (defArgs s__law_items) (defBody s__law_items) (defScope s__law_items) .none kV__law_items dc__law_items pm__law_items an__law_items cd__law_items ct__law_items), sl__law_items⟩)
    (c__law_items : PySem.W.codeIn K cd__law_items "_law_items" = true)
    (k__law_items : PySem.W.keepIn K (.ref f__law_items) = true)
    (a__law_start : PySem.W.nsIn K mainGlobals "_law_start" = some (some (.ref f__law_start)))
    (l__law_start : K.lookup f__law_start = some ⟨oc__law_start, od__law_start, .func (PySem.W.fnOf "_law_start" "_law_start" (defArgs s__law_start) (defBody s__law_start) (defScope s__law_start) .none kV__law_start dc__law_start pm__law_start an__law_start cd__law_start ct__law_start), sl__law_start⟩)
    (c__law_start : PySem.W.codeIn K cd__law_start "_law_start" = true)
    (k__law_start : PySem.W.keepIn K (.ref f__law_start) = true)
    (a__law_rules : PySem.W.nsIn K mainGlobals "_law_rules" = some (some (.ref f__law_rules)))
    (l__law_rules : K.lookup f__law_rules = some ⟨oc__law_rules, od__law_rules, .func (PySem.W.fnOf "_law_rules" "_law_rules" (defArgs s__law_rules) (defBody s__law_rules) (defScope s__law_rules) .none kV__law_rules dc__law_rules pm__law_rules an__law_rules cd__law_rules ct__law_rules), sl__law_rules⟩)
    (c__law_rules : PySem.W.codeIn K cd__law_rules "_law_rules" = true)
    (k__law_rules : PySem.W.keepIn K (.ref f__law_rules) = true)
    (a__law_work : PySem.W.nsIn K mainGlobals "_law_work" = some (some (.ref f__law_work)))
    (l__law_work : K.lookup f__law_work = some ⟨oc__law_work, od__law_work, .func (PySem.W.fnOf "_law_work" "_law_work" (defArgs s__law_work) (defBody s__law_work) (defScope s__law_work) .none kV__law_work dc__law_work pm__law_work an__law_work cd__law_work ct__law_work), sl__law_work⟩)
    (c__law_work : PySem.W.codeIn K cd__law_work "_law_work" = true)
    (k__law_work : PySem.W.keepIn K (.ref f__law_work) = true)
    (a__law_act : PySem.W.nsIn K mainGlobals "_law_act" = some (some (.ref f__law_act)))
    (l__law_act : K.lookup f__law_act = some ⟨oc__law_act, od__law_act, .func (PySem.W.fnOf "_law_act" "_law_act" (defArgs s__law_act) (defBody s__law_act) (defScope s__law_act) .none kV__law_act dc__law_act pm__law_act an__law_act cd__law_act ct__law_act), sl__law_act⟩)
    (c__law_act : PySem.W.codeIn K cd__law_act "_law_act" = true)
    (k__law_act : PySem.W.keepIn K (.ref f__law_act) = true)
    (a__law_acts : PySem.W.nsIn K mainGlobals "_law_acts" = some (some (.ref f__law_acts)))
    (l__law_acts : K.lookup f__law_acts = some ⟨oc__law_acts, od__law_acts, .func (PySem.W.fnOf "_law_acts" "_law_acts" (defArgs s__law_acts) (defBody s__law_acts) (defScope s__law_acts) .none kV__law_acts dc__law_acts pm__law_acts an__law_acts cd__law_acts ct__law_acts), sl__law_acts⟩)
    (c__law_acts : PySem.W.codeIn K cd__law_acts "_law_acts" = true)
    (k__law_acts : PySem.W.keepIn K (.ref f__law_acts) = true)
    (a__law_unlike : PySem.W.nsIn K mainGlobals "_law_unlike" = some (some (.ref f__law_unlike)))
    (l__law_unlike : K.lookup f__law_unlike = some ⟨oc__law_unlike, od__law_unlike, .func (PySem.W.fnOf "_law_unlike" "_law_unlike" (defArgs s__law_unlike) (defBody s__law_unlike) (defScope s__law_unlike) .none kV__law_unlike dc__law_unlike pm__law_unlike an__law_unlike cd__law_unlike ct__law_unlike), sl__law_unlike⟩)
    (c__law_unlike : PySem.W.codeIn K cd__law_unlike "_law_unlike" = true)
    (k__law_unlike : PySem.W.keepIn K (.ref f__law_unlike) = true)
    (a__law_stretches : PySem.W.nsIn K mainGlobals "_law_stretches" = some (some (.ref f__law_stretches)))
    (l__law_stretches : K.lookup f__law_stretches = some ⟨oc__law_stretches, od__law_stretches, .func (PySem.W.fnOf "_law_stretches" "_law_stretches" (defArgs s__law_stretches) (defBody s__law_stretches) (defScope s__law_stretches) .none kV__law_stretches dc__law_stretches pm__law_stretches an__law_stretches cd__law_stretches ct__law_stretches), sl__law_stretches⟩)
    (c__law_stretches : PySem.W.codeIn K cd__law_stretches "_law_stretches" = true)
    (k__law_stretches : PySem.W.keepIn K (.ref f__law_stretches) = true)
    (a__law_mixed : PySem.W.nsIn K mainGlobals "_law_mixed" = some (some (.ref f__law_mixed)))
    (l__law_mixed : K.lookup f__law_mixed = some ⟨oc__law_mixed, od__law_mixed, .func (PySem.W.fnOf "_law_mixed" "_law_mixed" (defArgs s__law_mixed) (defBody s__law_mixed) (defScope s__law_mixed) .none kV__law_mixed dc__law_mixed pm__law_mixed an__law_mixed cd__law_mixed ct__law_mixed), sl__law_mixed⟩)
    (c__law_mixed : PySem.W.codeIn K cd__law_mixed "_law_mixed" = true)
    (k__law_mixed : PySem.W.keepIn K (.ref f__law_mixed) = true)
    (a__law_due : PySem.W.nsIn K mainGlobals "_law_due" = some (some (.ref f__law_due)))
    (l__law_due : K.lookup f__law_due = some ⟨oc__law_due, od__law_due, .func (PySem.W.fnOf "_law_due" "_law_due" (defArgs s__law_due) (defBody s__law_due) (defScope s__law_due) .none kV__law_due dc__law_due pm__law_due an__law_due cd__law_due ct__law_due), sl__law_due⟩)
    (c__law_due : PySem.W.codeIn K cd__law_due "_law_due" = true)
    (k__law_due : PySem.W.keepIn K (.ref f__law_due) = true)
    (a_law : PySem.W.nsIn K mainGlobals "law" = some (some (.ref f_law)))
    (l_law : K.lookup f_law = some ⟨oc_law, od_law, .func (PySem.W.fnOf "law" "law" (defArgs s_law) (defBody s_law) (defScope s_law) .none kV_law dc_law pm_law an_law cd_law ct_law), sl_law⟩)
    (c_law : PySem.W.codeIn K cd_law "law" = true)
    (k_law : PySem.W.keepIn K (.ref f_law) = true)
    : ∃ fd : FuncData, (∀ (s : Shared) (v : Value), BindsTo s fd ⟨[v], []⟩ [("script", v)]) ∧ ∀ base : Heap, K.In base → base.Ns mainGlobals mg → ∃ R : RSp, (∀ ns : List Int, ns.length ≤ 63 → R [.seq (ns.map D.int)] [] (fun d _ => d = .bl true) (fun _ _ _ => False)) ∧ FnOk l.prog w K mg base (L2.CX l.prog w) 11 fa fd ["script"] (spD K R) := by
  have e := hfa.symm.trans (PySem.W.mg_of X G a_law)
  cases e
  have T : Txt K mg := ⟨PySem.W.mg_none_of X G z_abs, PySem.W.mg_none_of X G z_all, PySem.W.mg_none_of X G z_bool, PySem.W.mg_none_of X G z_dict, PySem.W.mg_none_of X G z_enumerate, PySem.W.mg_none_of X G z_int, PySem.W.mg_none_of X G z_isinstance, PySem.W.mg_none_of X G z_len, PySem.W.mg_none_of X G z_list, PySem.W.mg_none_of X G z_max, PySem.W.mg_none_of X G z_min, PySem.W.mg_none_of X G z_range, PySem.W.mg_none_of X G z_set, PySem.W.mg_none_of X G z_str, PySem.W.mg_none_of X G z_sum, PySem.W.mg_none_of X G z_tuple, PySem.W.mg_none_of X G z_zip, ⟨_, .int 6, PySem.W.mg_of X G g_MOST_ACTIONS, ⟨_, rfl⟩, fun _ => rfl⟩, ⟨_, .int 8, PySem.W.mg_of X G g_LONGEST_ITEM, ⟨_, rfl⟩, fun _ => rfl⟩, ⟨_, .int 1000000000000, PySem.W.mg_of X G g_MOST_AMOUNT, ⟨_, rfl⟩, fun _ => rfl⟩, ⟨_, .int 1000, PySem.W.mg_of X G g_MOST_NUMBER, ⟨_, rfl⟩, fun _ => rfl⟩, ⟨_, .int 6, PySem.W.mg_of X G g_MOST_ITEMS, ⟨_, rfl⟩, fun _ => rfl⟩, ⟨_, .str "abcdefghijklmnopqrstuvwxyz", PySem.W.mg_of X G g_LETTERS, ⟨_, rfl⟩, fun _ => rfl⟩, ⟨_, PySem.W.mg_of X G ag_DOORS, ⟨_, lg_DOORS, rfl, rfl⟩, fun H => .inr ⟨_, _, _, lg_DOORS, rfl, rfl, sg_DOORS, vg_DOORS⟩⟩, ⟨_, PySem.W.mg_of X G ag_ACTIONS, ⟨_, lg_ACTIONS, rfl, rfl⟩, fun H => .inr ⟨_, _, _, lg_ACTIONS, rfl, rfl, sg_ACTIONS, vg_ACTIONS⟩⟩⟩
  have cl_Book : Cls K C_Book := ⟨pg_Book, hd_Book, po_Book, sa_Book⟩
  have cl_LineWork : Cls K C_LineWork := ⟨pg_LineWork, hd_LineWork, po_LineWork, sa_LineWork⟩
  have cl_CartLine : Cls K C_CartLine := ⟨pg_CartLine, hd_CartLine, po_CartLine, sa_CartLine⟩
  have cl_Cart : Cls K C_Cart := ⟨pg_Cart, hd_Cart, po_Cart, sa_Cart⟩
  have cl_History : Cls K C_History := ⟨pg_History, hd_History, po_History, sa_History⟩
  have U_NoRule_init := fun_mk (st := s_NoRule_init) l_NoRule_init c_NoRule_init k_NoRule_init
  have X_NoRule : OexC K C_NoRule := ⟨xl_NoRule, xa_NoRule, xe_NoRule, xt_NoRule, xk_NoRule⟩
  have U_NoDoor_init := fun_mk (st := s_NoDoor_init) l_NoDoor_init c_NoDoor_init k_NoDoor_init
  have X_NoDoor : OexC K C_NoDoor := ⟨xl_NoDoor, xa_NoDoor, xe_NoDoor, xt_NoDoor, xk_NoDoor⟩
  have U_is_door := fun_mk (st := s_is_door) l_is_door c_is_door k_is_door
  have U_is_rule := fun_mk (st := s_is_rule) l_is_rule c_is_rule k_is_rule
  have U_Book_init : FunD K "__init__" "Book.__init__" (defArgs s_Book_init) (defBody s_Book_init) (defScope s_Book_init) [V.ref e_Book_init0, V.ref e_Book_init1, V.ref e_Book_init2, V.ref e_Book_init3, V.ref e_Book_init4, V.ref e_Book_init5] [] f_Book_init (PySem.W.fnOf "__init__" "Book.__init__" (defArgs s_Book_init) (defBody s_Book_init) (defScope s_Book_init) (.ref T_Book_init) kV_Book_init dc_Book_init pm_Book_init an_Book_init cd_Book_init ct_Book_init) := ⟨⟨_, _, _, _, _, _, _, _, _, _, rfl, l_Book_init, c_Book_init, .inr ⟨by simp, T_Book_init, _, iT_Book_init.toList, nT_Book_init, rfl, lT_Book_init, rfl, vT_Book_init⟩, .inl rfl⟩, k_Book_init⟩
  have D_Book_init : ∀ S, RepL K S [dR [], dR [], dR [], dR [], dR [], dR []] [V.ref e_Book_init0, V.ref e_Book_init1, V.ref e_Book_init2, V.ref e_Book_init3, V.ref e_Book_init4, V.ref e_Book_init5] := fun S => .cons ⟨e_Book_init0, [], rfl, .inr ⟨_, #[], _, e_Book_initl0, rfl, rfl, by decide, .nil⟩, RepL.nil⟩ (.cons ⟨e_Book_init1, [], rfl, .inr ⟨_, #[], _, e_Book_initl1, rfl, rfl, by decide, .nil⟩, RepL.nil⟩ (.cons ⟨e_Book_init2, [], rfl, .inr ⟨_, #[], _, e_Book_initl2, rfl, rfl, by decide, .nil⟩, RepL.nil⟩ (.cons ⟨e_Book_init3, [], rfl, .inr ⟨_, #[], _, e_Book_initl3, rfl, rfl, by decide, .nil⟩, RepL.nil⟩ (.cons ⟨e_Book_init4, [], rfl, .inr ⟨_, #[], _, e_Book_initl4, rfl, rfl, by decide, .nil⟩, RepL.nil⟩ (.cons ⟨e_Book_init5, [], rfl, .inr ⟨_, #[], _, e_Book_initl5, rfl, rfl, by decide, .nil⟩, RepL.nil⟩ (RepL.nil))))))
  have U_Book_rule := fun_mk (st := s_Book_rule) l_Book_rule c_Book_rule k_Book_rule
  have U_LineWork_carry_out := fun_mk (st := s_LineWork_carry_out) l_LineWork_carry_out c_LineWork_carry_out k_LineWork_carry_out
  have U_LineWork_init := fun_mk (st := s_LineWork_init) l_LineWork_init c_LineWork_init k_LineWork_init
  have U_CartLine_init := fun_mk (st := s_CartLine_init) l_CartLine_init c_CartLine_init k_CartLine_init
  have U_CartLine_carry_out := fun_mk (st := s_CartLine_carry_out) l_CartLine_carry_out c_CartLine_carry_out k_CartLine_carry_out
  have U_is_whole := fun_mk (st := s_is_whole) l_is_whole c_is_whole k_is_whole
  have U_is_item := fun_mk (st := s_is_item) l_is_item c_is_item k_is_item
  have U_is_amount := fun_mk (st := s_is_amount) l_is_amount c_is_amount k_is_amount
  have U_is_number : FunD K "is_number" "is_number" (defArgs s_is_number) (defBody s_is_number) (defScope s_is_number) [V.int 1] [] f_is_number (PySem.W.fnOf "is_number" "is_number" (defArgs s_is_number) (defBody s_is_number) (defScope s_is_number) (.ref T_is_number) kV_is_number dc_is_number pm_is_number an_is_number cd_is_number ct_is_number) := ⟨⟨_, _, _, _, _, _, _, _, _, _, rfl, l_is_number, c_is_number, .inr ⟨by simp, T_is_number, _, iT_is_number.toList, nT_is_number, rfl, lT_is_number, rfl, vT_is_number⟩, .inl rfl⟩, k_is_number⟩
  have D_is_number : ∀ S, RepL K S [.int 1] [V.int 1] := fun S => .cons rfl (RepL.nil)
  have U_is_price := fun_mk (st := s_is_price) l_is_price c_is_price k_is_price
  have U_are_prices := fun_mk (st := s_are_prices) l_are_prices c_are_prices k_are_prices
  have U_is_deed := fun_mk (st := s_is_deed) l_is_deed c_is_deed k_is_deed
  have U_check_history := fun_mk (st := s_check_history) l_check_history c_check_history k_check_history
  have U_Cart_init := fun_mk (st := s_Cart_init) l_Cart_init c_Cart_init k_Cart_init
  have U_Cart_row_of := fun_mk (st := s_Cart_row_of) l_Cart_row_of c_Cart_row_of k_Cart_row_of
  have U_Cart_check := fun_mk (st := s_Cart_check) l_Cart_check c_Cart_check k_Cart_check
  have U_Cart_touched := fun_mk (st := s_Cart_touched) l_Cart_touched c_Cart_touched k_Cart_touched
  have U_Cart_carry_out := fun_mk (st := s_Cart_carry_out) l_Cart_carry_out c_Cart_carry_out k_Cart_carry_out
  have U_Cart_report := fun_mk (st := s_Cart_report) l_Cart_report c_Cart_report k_Cart_report
  have U_Cart_play_deed := fun_mk (st := s_Cart_play_deed) l_Cart_play_deed c_Cart_play_deed k_Cart_play_deed
  have U_wrongs_of := fun_mk (st := s_wrongs_of) l_wrongs_of c_wrongs_of k_wrongs_of
  have U_are_mixed := fun_mk (st := s_are_mixed) l_are_mixed c_are_mixed k_are_mixed
  have U_History_go_on := fun_mk (st := s_History_go_on) l_History_go_on c_History_go_on k_History_go_on
  have U_History_init := fun_mk (st := s_History_init) l_History_init c_History_init k_History_init
  have U_play := fun_mk (st := s_play) l_play c_play k_play
  have U_mixtures := fun_mk (st := s_mixtures) l_mixtures c_mixtures k_mixtures
  have U__law_well := fun_mk (st := s__law_well) l__law_well c__law_well k__law_well
  have U__law_draw := fun_mk (st := s__law_draw) l__law_draw c__law_draw k__law_draw
  have U__law_amount := fun_mk (st := s__law_amount) l__law_amount c__law_amount k__law_amount
  have U__law_rule := fun_mk (st := s__law_rule) l__law_rule c__law_rule k__law_rule
  have U__law_items := fun_mk (st := s__law_items) l__law_items c__law_items k__law_items
  have U__law_start := fun_mk (st := s__law_start) l__law_start c__law_start k__law_start
  have U__law_rules := fun_mk (st := s__law_rules) l__law_rules c__law_rules k__law_rules
  have U__law_work := fun_mk (st := s__law_work) l__law_work c__law_work k__law_work
  have U__law_act := fun_mk (st := s__law_act) l__law_act c__law_act k__law_act
  have U__law_acts := fun_mk (st := s__law_acts) l__law_acts c__law_acts k__law_acts
  have U__law_unlike := fun_mk (st := s__law_unlike) l__law_unlike c__law_unlike k__law_unlike
  have U__law_stretches := fun_mk (st := s__law_stretches) l__law_stretches c__law_stretches k__law_stretches
  have U__law_mixed := fun_mk (st := s__law_mixed) l__law_mixed c__law_mixed k__law_mixed
  have U__law_due := fun_mk (st := s__law_due) l__law_due c__law_due k__law_due
  have U_law := fun_mk (st := s_law) l_law c_law k_law
  refine ⟨PySem.W.fnOf "law" "law" (defArgs s_law) (defBody s_law) (defScope s_law) .none kV_law dc_law pm_law an_law cd_law ct_law, fun s v => .of_eq rfl, fun base _ _ => ⟨R_law C_Book, fun ns hl => ⟨ns, rfl, rfl, hl, fun _ => rfl⟩, ?_⟩⟩
  have F_NoRule : ExD l.prog w K mg base "NoRule" C_NoRule "door" := ⟨PySem.W.mg_of X G aC_NoRule, X_NoRule, xn_NoRule, _, _, a_NoRule_init, ti_NoRule_init, (U_NoRule_init.binds (ps := ["self", "door"]) fun _ _ _ _ _ _ us hl => match us, hl with | [_, _], _ => rfl), ex_init U_NoRule_init ⟨rfl, rfl, rfl, by decide +kernel, rfl, by decide +kernel, by decide +kernel⟩ X_NoRule xn_NoRule rfl rfl rfl (by decide) (by decide) (fun _ => rfl)⟩
  have F_NoDoor : ExD l.prog w K mg base "NoDoor" C_NoDoor "door" := ⟨PySem.W.mg_of X G aC_NoDoor, X_NoDoor, xn_NoDoor, _, _, a_NoDoor_init, ti_NoDoor_init, (U_NoDoor_init.binds (ps := ["self", "door"]) fun _ _ _ _ _ _ us hl => match us, hl with | [_, _], _ => rfl), ex_init U_NoDoor_init ⟨rfl, rfl, rfl, by decide +kernel, rfl, by decide +kernel, by decide +kernel⟩ X_NoDoor xn_NoDoor rfl rfl rfl (by decide) (by decide) (fun _ => rfl)⟩
  have F_is_door : FnD l.prog w K mg base 1 "is_door" [] R_is_door := ⟨_, _, _, [], [], PySem.W.mg_of X G a_is_door, k_is_door, (U_is_door.binds (ps := ["thing"]) fun _ _ _ _ _ _ us hl => match us, hl with | [_], _ => rfl), .nil, fun S => RepL.nil, ok_is_door  U_is_door T ⟩
  have F_is_rule : FnD l.prog w K mg base 1 "is_rule" [] R_is_rule := ⟨_, _, _, [], [], PySem.W.mg_of X G a_is_rule, k_is_rule, (U_is_rule.binds (ps := ["thing"]) fun _ _ _ _ _ _ us hl => match us, hl with | [_], _ => rfl), .nil, fun S => RepL.nil, ok_is_rule  U_is_rule T ⟩
  have M_Book : Mk K C_Book f_Book_init := ⟨mk_Book, a_Book_init, i_Book_init, kc_Book⟩
  have K_init := ok_Book_init (P := l.prog) (w := w) (mg := mg) (base := base) (C := C_Book) (CR := C_NoRule) U_Book_init T F_is_rule cl_Book na_Book_row F_NoRule
  have B_F_Bp6 := U_Book_init.binds1 (ps := ["self", "put", "look", "alter", "back", "pay", "again"]) 7 6 (by simp) rfl fun _ _ _ _ _ _ _ us its h1 h2 => by
    match us, its, h1, h2 with
    | [_, _, _, _, _, _, _], [_, _, _, _, _, _], _, _ => exact ⟨_, rfl, rfl⟩
  obtain ⟨ds_F_Bp6, v_F_Bp6, BB_F_Bp6⟩ := B_F_Bp6
  have F_Bp6 : MkD l.prog w K mg base 3 C_Book "Book" [] (R_Book_init C_Book C_NoRule) := ⟨cl_Book, PySem.W.mg_of X G aC_Book, _, _, _, _, _, M_Book, BB_F_Bp6, v_F_Bp6, fun S => (D_Book_init S).drop 6, K_init⟩
  have F_Book_rule : MtD l.prog w K mg base 3 C_Book "rule" [] (R_Book_rule C_Book C_NoDoor) := ⟨cl_Book, _, _, _, [], [], ⟨a_Book_rule, i_Book_rule, k_Book_rule⟩, (U_Book_rule.binds (ps := ["self", "door"]) fun _ _ _ _ _ _ us hl => match us, hl with | [_, _], _ => rfl), .nil, fun S => RepL.nil, ok_Book_rule (C := C_Book) (CD := C_NoDoor) U_Book_rule T F_is_door cl_Book na_Book_row F_NoDoor⟩
  have F_LineWork_carry_out : MtD l.prog w K mg base 1 C_LineWork "carry_out" [] (R_LineWork_carry_out C_LineWork) := ⟨cl_LineWork, _, _, _, [], [], ⟨a_LineWork_carry_out, i_LineWork_carry_out, k_LineWork_carry_out⟩, (U_LineWork_carry_out.binds (ps := ["self", "action", "now"]) fun _ _ _ _ _ _ us hl => match us, hl with | [_, _, _], _ => rfl), .nil, fun S => RepL.nil, ok_LineWork_carry_out (CL := C_LineWork) U_LineWork_carry_out T cl_LineWork na_LineWork_stays na_LineWork_seen na_LineWork_told na_LineWork_times⟩
  have M_LineWork : Mk K C_LineWork f_LineWork_init := ⟨mk_LineWork, a_LineWork_init, i_LineWork_init, kc_LineWork⟩
  have F_LineWork_init : MkD l.prog w K mg base 2 C_LineWork "LineWork" [] (R_LineWork_init C_LineWork) := ⟨cl_LineWork, PySem.W.mg_of X G aC_LineWork, _, _, _, [], [], M_LineWork, (U_LineWork_init.binds (ps := ["self", "rule", "kept", "shown", "now"]) fun _ _ _ _ _ _ us hl => match us, hl with | [_, _, _, _, _], _ => rfl), .nil, fun S => RepL.nil, ok_LineWork_init (CL := C_LineWork) U_LineWork_init T F_LineWork_carry_out cl_LineWork na_LineWork_stays na_LineWork_seen na_LineWork_told na_LineWork_times⟩
  have M_CartLine : Mk K C_CartLine f_CartLine_init := ⟨mk_CartLine, a_CartLine_init, i_CartLine_init, kc_CartLine⟩
  have F_CartLine_init : MkD l.prog w K mg base 1 C_CartLine "CartLine" [] (R_CartLine_init C_CartLine) := ⟨cl_CartLine, PySem.W.mg_of X G aC_CartLine, _, _, _, [], [], M_CartLine, (U_CartLine_init.binds (ps := ["self", "item", "number", "kept"]) fun _ _ _ _ _ _ us hl => match us, hl with | [_, _, _, _], _ => rfl), .nil, fun S => RepL.nil, ok_CartLine_init (CI := C_CartLine) U_CartLine_init T cl_CartLine na_CartLine_item na_CartLine_number na_CartLine_kept na_CartLine_shown na_CartLine_greatest⟩
  have F_CartLine_carry_out : MtD l.prog w K mg base 4 C_CartLine "carry_out" [] (R_CartLine_carry_out C_CartLine) := ⟨cl_CartLine, _, _, _, [], [], ⟨a_CartLine_carry_out, i_CartLine_carry_out, k_CartLine_carry_out⟩, (U_CartLine_carry_out.binds (ps := ["self", "rule", "now"]) fun _ _ _ _ _ _ us hl => match us, hl with | [_, _, _], _ => rfl), .nil, fun S => RepL.nil, ok_CartLine_carry_out (CI := C_CartLine) (CL := C_LineWork) U_CartLine_carry_out T F_LineWork_init cl_CartLine na_CartLine_item na_CartLine_number na_CartLine_kept na_CartLine_shown na_CartLine_greatest cl_LineWork na_LineWork_stays na_LineWork_seen na_LineWork_told na_LineWork_times⟩
  have F_is_whole : FnD l.prog w K mg base 1 "is_whole" [] R_is_whole := ⟨_, _, _, [], [], PySem.W.mg_of X G a_is_whole, k_is_whole, (U_is_whole.binds (ps := ["thing"]) fun _ _ _ _ _ _ us hl => match us, hl with | [_], _ => rfl), .nil, fun S => RepL.nil, ok_is_whole  U_is_whole T ⟩
  have F_is_item : FnD l.prog w K mg base 1 "is_item" [] R_is_item := ⟨_, _, _, [], [], PySem.W.mg_of X G a_is_item, k_is_item, (U_is_item.binds (ps := ["thing"]) fun _ _ _ _ _ _ us hl => match us, hl with | [_], _ => rfl), .nil, fun S => RepL.nil, ok_is_item  U_is_item T ⟩
  have F_is_amount : FnD l.prog w K mg base 2 "is_amount" [] R_is_amount := ⟨_, _, _, [], [], PySem.W.mg_of X G a_is_amount, k_is_amount, (U_is_amount.binds (ps := ["thing"]) fun _ _ _ _ _ _ us hl => match us, hl with | [_], _ => rfl), .nil, fun S => RepL.nil, ok_is_amount  U_is_amount T F_is_whole⟩
  have F_is_number1 : FnD l.prog w K mg base 2 "is_number" [.int 1] R_is_number := by
    obtain ⟨ds, v, B⟩ := U_is_number.binds1 (ps := ["thing", "least"]) 1 0 (by simp) rfl fun _ _ _ _ _ _ _ us its h1 h2 => by
      match us, its, h1, h2 with
      | [_], [_], _, _ => exact ⟨_, rfl, rfl⟩
    exact ⟨_, _, _, _, _, PySem.W.mg_of X G a_is_number, k_is_number, B, v, fun S => (D_is_number S).drop 0, ok_is_number U_is_number T F_is_whole⟩
  have F_is_number2 : FnD l.prog w K mg base 2 "is_number" [] R_is_number := by
    obtain ⟨ds, v, B⟩ := U_is_number.binds1 (ps := ["thing", "least"]) 2 1 (by simp) rfl fun _ _ _ _ _ _ _ us its h1 h2 => by
      match us, its, h1, h2 with
      | [_, _], [_], _, _ => exact ⟨_, rfl, rfl⟩
    exact ⟨_, _, _, _, _, PySem.W.mg_of X G a_is_number, k_is_number, B, v, fun S => (D_is_number S).drop 1, ok_is_number U_is_number T F_is_whole⟩
  have F_is_price : FnD l.prog w K mg base 3 "is_price" [] R_is_price := ⟨_, _, _, [], [], PySem.W.mg_of X G a_is_price, k_is_price, (U_is_price.binds (ps := ["thing"]) fun _ _ _ _ _ _ us hl => match us, hl with | [_], _ => rfl), .nil, fun S => RepL.nil, ok_is_price  U_is_price T F_is_item F_is_amount⟩
  have F_are_prices : FnD l.prog w K mg base 4 "are_prices" [] R_are_prices := ⟨_, _, _, [], [], PySem.W.mg_of X G a_are_prices, k_are_prices, (U_are_prices.binds (ps := ["thing"]) fun _ _ _ _ _ _ us hl => match us, hl with | [_], _ => rfl), .nil, fun S => RepL.nil, ok_are_prices  U_are_prices T F_is_price⟩
  have F_is_deed : FnD l.prog w K mg base 3 "is_deed" [] R_is_deed := ⟨_, _, _, [], [], PySem.W.mg_of X G a_is_deed, k_is_deed, (U_is_deed.binds (ps := ["thing"]) fun _ _ _ _ _ _ us hl => match us, hl with | [_], _ => rfl), .nil, fun S => RepL.nil, ok_is_deed  U_is_deed T F_is_item F_is_amount F_is_number1 F_is_number2⟩
  have F_check_history : FnD l.prog w K mg base 5 "check_history" [] R_check_history := ⟨_, _, _, [], [], PySem.W.mg_of X G a_check_history, k_check_history, (U_check_history.binds (ps := ["prices", "deeds"]) fun _ _ _ _ _ _ us hl => match us, hl with | [_, _], _ => rfl), .nil, fun S => RepL.nil, ok_check_history  U_check_history T F_are_prices F_is_deed⟩
  have M_Cart : Mk K C_Cart f_Cart_init := ⟨mk_Cart, a_Cart_init, i_Cart_init, kc_Cart⟩
  have F_Cart_init : MkD l.prog w K mg base 1 C_Cart "Cart" [] (R_Cart_init C_Cart C_CartLine) := ⟨cl_Cart, PySem.W.mg_of X G aC_Cart, _, _, _, [], [], M_Cart, (U_Cart_init.binds (ps := ["self", "book", "prices"]) fun _ _ _ _ _ _ us hl => match us, hl with | [_, _, _], _ => rfl), .nil, fun S => RepL.nil, ok_Cart_init (CC := C_Cart) (CI := C_CartLine) U_Cart_init T cl_Cart na_Cart_design na_Cart_amounts na_Cart_rows na_Cart_is_failed na_Cart_spent na_Cart_times_asked⟩
  have F_Cart_row_of : MtD l.prog w K mg base 1 C_Cart "row_of" [] (R_Cart_row_of C_Cart C_CartLine) := ⟨cl_Cart, _, _, _, [], [], ⟨a_Cart_row_of, i_Cart_row_of, k_Cart_row_of⟩, (U_Cart_row_of.binds (ps := ["self", "item"]) fun _ _ _ _ _ _ us hl => match us, hl with | [_, _], _ => rfl), .nil, fun S => RepL.nil, ok_Cart_row_of (CC := C_Cart) (CI := C_CartLine) U_Cart_row_of T cl_Cart na_Cart_design na_Cart_amounts na_Cart_rows na_Cart_is_failed na_Cart_spent na_Cart_times_asked cl_CartLine na_CartLine_item na_CartLine_number na_CartLine_kept na_CartLine_shown na_CartLine_greatest⟩
  have F_Cart_check : MtD l.prog w K mg base 2 C_Cart "check" [] (R_Cart_check C_Cart C_CartLine) := ⟨cl_Cart, _, _, _, [], [], ⟨a_Cart_check, i_Cart_check, k_Cart_check⟩, (U_Cart_check.binds (ps := ["self", "deed", "index"]) fun _ _ _ _ _ _ us hl => match us, hl with | [_, _, _], _ => rfl), .nil, fun S => RepL.nil, ok_Cart_check (CC := C_Cart) (CI := C_CartLine) U_Cart_check T F_Cart_row_of cl_Cart na_Cart_design na_Cart_amounts na_Cart_rows na_Cart_is_failed na_Cart_spent na_Cart_times_asked⟩
  have F_Cart_touched : MtD l.prog w K mg base 3 C_Cart "touched" [] (R_Cart_touched C_Cart C_CartLine) := ⟨cl_Cart, _, _, _, [], [], ⟨a_Cart_touched, i_Cart_touched, k_Cart_touched⟩, (U_Cart_touched.binds (ps := ["self", "deed"]) fun _ _ _ _ _ _ us hl => match us, hl with | [_, _], _ => rfl), .nil, fun S => RepL.nil, ok_Cart_touched (CC := C_Cart) (CI := C_CartLine) U_Cart_touched T F_Cart_row_of cl_Cart na_Cart_design na_Cart_amounts na_Cart_rows na_Cart_is_failed na_Cart_spent na_Cart_times_asked cl_CartLine na_CartLine_item na_CartLine_number na_CartLine_kept na_CartLine_shown na_CartLine_greatest F_CartLine_init⟩
  have F_Cart_carry_out : MtD l.prog w K mg base 5 C_Cart "carry_out" [] (R_Cart_carry_out C_Cart C_CartLine C_Book) := ⟨cl_Cart, _, _, _, [], [], ⟨a_Cart_carry_out, i_Cart_carry_out, k_Cart_carry_out⟩, (U_Cart_carry_out.binds (ps := ["self", "deed"]) fun _ _ _ _ _ _ us hl => match us, hl with | [_, _], _ => rfl), .nil, fun S => RepL.nil, ok_Cart_carry_out (CC := C_Cart) (CI := C_CartLine) (CB := C_Book) (CD := C_NoDoor) U_Cart_carry_out T F_Cart_touched F_CartLine_carry_out cl_Cart na_Cart_design na_Cart_amounts na_Cart_rows na_Cart_is_failed na_Cart_spent na_Cart_times_asked cl_CartLine na_CartLine_item na_CartLine_number na_CartLine_kept na_CartLine_shown na_CartLine_greatest F_Book_rule⟩
  have F_Cart_report : MtD l.prog w K mg base 1 C_Cart "report" [] (R_Cart_report C_Cart C_CartLine) := ⟨cl_Cart, _, _, _, [], [], ⟨a_Cart_report, i_Cart_report, k_Cart_report⟩, (U_Cart_report.binds (ps := ["self", "deed", "names"]) fun _ _ _ _ _ _ us hl => match us, hl with | [_, _, _], _ => rfl), .nil, fun S => RepL.nil, ok_Cart_report (CC := C_Cart) (CI := C_CartLine) U_Cart_report T cl_Cart na_Cart_design na_Cart_amounts na_Cart_rows na_Cart_is_failed na_Cart_spent na_Cart_times_asked cl_CartLine na_CartLine_item na_CartLine_number na_CartLine_kept na_CartLine_shown na_CartLine_greatest⟩
  have F_Cart_play_deed : MtD l.prog w K mg base 1 C_Cart "play_deed" [] (R_Cart_play_deed C_Cart C_CartLine) := ⟨cl_Cart, _, _, _, [], [], ⟨a_Cart_play_deed, i_Cart_play_deed, k_Cart_play_deed⟩, (U_Cart_play_deed.binds (ps := ["self", "deed"]) fun _ _ _ _ _ _ us hl => match us, hl with | [_, _], _ => rfl), .nil, fun S => RepL.nil, ok_Cart_play_deed (CC := C_Cart) (CI := C_CartLine) U_Cart_play_deed T cl_Cart na_Cart_design na_Cart_amounts na_Cart_rows na_Cart_is_failed na_Cart_spent na_Cart_times_asked⟩
  have F_wrongs_of : FnD l.prog w K mg base 1 "wrongs_of" [] (R_wrongs_of C_CartLine) := ⟨_, _, _, [], [], PySem.W.mg_of X G a_wrongs_of, k_wrongs_of, (U_wrongs_of.binds (ps := ["rows", "index"]) fun _ _ _ _ _ _ us hl => match us, hl with | [_, _], _ => rfl), .nil, fun S => RepL.nil, ok_wrongs_of (CI := C_CartLine) U_wrongs_of T cl_CartLine na_CartLine_item na_CartLine_number na_CartLine_kept na_CartLine_shown na_CartLine_greatest⟩
  have F_are_mixed : FnD l.prog w K mg base 1 "are_mixed" [] (R_are_mixed C_CartLine) := ⟨_, _, _, [], [], PySem.W.mg_of X G a_are_mixed, k_are_mixed, (U_are_mixed.binds (ps := ["rows", "moments"]) fun _ _ _ _ _ _ us hl => match us, hl with | [_, _], _ => rfl), .nil, fun S => RepL.nil, ok_are_mixed (CI := C_CartLine) U_are_mixed T cl_CartLine na_CartLine_item na_CartLine_number na_CartLine_kept na_CartLine_shown na_CartLine_greatest⟩
  have F_History_go_on : MtD l.prog w K mg base 7 C_History "go_on" [] (R_History_go_on C_Cart C_CartLine C_Book C_History) := ⟨cl_History, _, _, _, [], [], ⟨a_History_go_on, i_History_go_on, k_History_go_on⟩, (U_History_go_on.binds (ps := ["self", "deed", "index"]) fun _ _ _ _ _ _ us hl => match us, hl with | [_, _, _], _ => rfl), .nil, fun S => RepL.nil, ok_History_go_on (CC := C_Cart) (CI := C_CartLine) (CB := C_Book) (CH := C_History) U_History_go_on T F_Cart_play_deed F_Cart_carry_out F_Cart_report F_are_mixed F_wrongs_of cl_History na_History_cart na_History_reports na_History_wrongs na_History_mixed na_History_moments cl_Cart na_Cart_design na_Cart_amounts na_Cart_rows na_Cart_is_failed na_Cart_spent na_Cart_times_asked⟩
  have M_History : Mk K C_History f_History_init := ⟨mk_History, a_History_init, i_History_init, kc_History⟩
  have F_History_init : MkD l.prog w K mg base 8 C_History "History" [] (R_History_init C_Cart C_CartLine C_Book C_History) := ⟨cl_History, PySem.W.mg_of X G aC_History, _, _, _, [], [], M_History, (U_History_init.binds (ps := ["self", "book", "prices", "deeds"]) fun _ _ _ _ _ _ us hl => match us, hl with | [_, _, _, _], _ => rfl), .nil, fun S => RepL.nil, ok_History_init (CC := C_Cart) (CI := C_CartLine) (CB := C_Book) (CH := C_History) U_History_init T F_check_history F_Cart_init F_Cart_check F_History_go_on cl_History na_History_cart na_History_reports na_History_wrongs na_History_mixed na_History_moments cl_Cart na_Cart_design na_Cart_amounts na_Cart_rows na_Cart_is_failed na_Cart_spent na_Cart_times_asked⟩
  have F_play : FnD l.prog w K mg base 10 "play" [] (R_play C_Cart C_CartLine C_Book C_History) := ⟨_, _, _, [], [], PySem.W.mg_of X G a_play, k_play, (U_play.binds (ps := ["book", "prices", "deeds"]) fun _ _ _ _ _ _ us hl => match us, hl with | [_, _, _], _ => rfl), .nil, fun S => RepL.nil, ok_play (CC := C_Cart) (CI := C_CartLine) (CB := C_Book) (CH := C_History) U_play T F_History_init cl_History na_History_cart na_History_reports na_History_wrongs na_History_mixed na_History_moments⟩
  have F_mixtures : FnD l.prog w K mg base 10 "mixtures" [] (R_mixtures C_Cart C_CartLine C_Book C_History) := ⟨_, _, _, [], [], PySem.W.mg_of X G a_mixtures, k_mixtures, (U_mixtures.binds (ps := ["book", "prices", "deeds"]) fun _ _ _ _ _ _ us hl => match us, hl with | [_, _, _], _ => rfl), .nil, fun S => RepL.nil, ok_mixtures (CC := C_Cart) (CI := C_CartLine) (CB := C_Book) (CH := C_History) U_mixtures T F_History_init cl_History na_History_cart na_History_reports na_History_wrongs na_History_mixed na_History_moments⟩
  have F__law_well : FnD l.prog w K mg base 1 "_law_well" [] R__law_well := ⟨_, _, _, [], [], PySem.W.mg_of X G a__law_well, k__law_well, (U__law_well.binds (ps := ["script", "k"]) fun _ _ _ _ _ _ us hl => match us, hl with | [_, _], _ => rfl), .nil, fun S => RepL.nil, ok__law_well  U__law_well T ⟩
  have F__law_draw : FnD l.prog w K mg base 1 "_law_draw" [] R__law_draw := ⟨_, _, _, [], [], PySem.W.mg_of X G a__law_draw, k__law_draw, (U__law_draw.binds (ps := ["well", "many"]) fun _ _ _ _ _ _ us hl => match us, hl with | [_, _], _ => rfl), .nil, fun S => RepL.nil, ok__law_draw  U__law_draw T ⟩
  have F__law_amount : FnD l.prog w K mg base 2 "_law_amount" [] R__law_amount := ⟨_, _, _, [], [], PySem.W.mg_of X G a__law_amount, k__law_amount, (U__law_amount.binds (ps := ["well"]) fun _ _ _ _ _ _ us hl => match us, hl with | [_], _ => rfl), .nil, fun S => RepL.nil, ok__law_amount  U__law_amount T F__law_draw⟩
  have F__law_rule : FnD l.prog w K mg base 2 "_law_rule" [] R__law_rule := ⟨_, _, _, [], [], PySem.W.mg_of X G a__law_rule, k__law_rule, (U__law_rule.binds (ps := ["well", "most"]) fun _ _ _ _ _ _ us hl => match us, hl with | [_, _], _ => rfl), .nil, fun S => RepL.nil, ok__law_rule  U__law_rule T F__law_draw⟩
  have F__law_items : FnD l.prog w K mg base 2 "_law_items" [] R__law_items := ⟨_, _, _, [], [], PySem.W.mg_of X G a__law_items, k__law_items, (U__law_items.binds (ps := ["well", "many"]) fun _ _ _ _ _ _ us hl => match us, hl with | [_, _], _ => rfl), .nil, fun S => RepL.nil, ok__law_items  U__law_items T F__law_draw⟩
  have F__law_start : FnD l.prog w K mg base 3 "_law_start" [] R__law_start := ⟨_, _, _, [], [], PySem.W.mg_of X G a__law_start, k__law_start, (U__law_start.binds (ps := ["well", "items"]) fun _ _ _ _ _ _ us hl => match us, hl with | [_, _], _ => rfl), .nil, fun S => RepL.nil, ok__law_start  U__law_start T F__law_amount⟩
  have F__law_rules : FnD l.prog w K mg base 3 "_law_rules" [] R__law_rules := ⟨_, _, _, [], [], PySem.W.mg_of X G a__law_rules, k__law_rules, (U__law_rules.binds (ps := ["well", "most"]) fun _ _ _ _ _ _ us hl => match us, hl with | [_, _], _ => rfl), .nil, fun S => RepL.nil, ok__law_rules  U__law_rules T F__law_draw F__law_rule⟩
  have F__law_work : FnD l.prog w K mg base 5 "_law_work" [] (R__law_work C_Book) := ⟨_, _, _, [], [], PySem.W.mg_of X G a__law_work, k__law_work, (U__law_work.binds (ps := ["rules"]) fun _ _ _ _ _ _ us hl => match us, hl with | [_], _ => rfl), .nil, fun S => RepL.nil, ok__law_work (CB := C_Book) (CR := C_NoRule) U__law_work T F_Bp6⟩
  have F__law_act : FnD l.prog w K mg base 3 "_law_act" [] R__law_act := ⟨_, _, _, [], [], PySem.W.mg_of X G a__law_act, k__law_act, (U__law_act.binds (ps := ["well", "items", "there"]) fun _ _ _ _ _ _ us hl => match us, hl with | [_, _, _], _ => rfl), .nil, fun S => RepL.nil, ok__law_act  U__law_act T F__law_draw F__law_amount⟩
  have F__law_acts : FnD l.prog w K mg base 4 "_law_acts" [] R__law_acts := ⟨_, _, _, [], [], PySem.W.mg_of X G a__law_acts, k__law_acts, (U__law_acts.binds (ps := ["script", "begin", "well", "items", "most"]) fun _ _ _ _ _ _ us hl => match us, hl with | [_, _, _, _, _], _ => rfl), .nil, fun S => RepL.nil, ok__law_acts  U__law_acts T F__law_draw F__law_act F__law_well⟩
  have F__law_unlike : FnD l.prog w K mg base 1 "_law_unlike" [] R__law_unlike := ⟨_, _, _, [], [], PySem.W.mg_of X G a__law_unlike, k__law_unlike, (U__law_unlike.binds (ps := ["acts", "start"]) fun _ _ _ _ _ _ us hl => match us, hl with | [_, _], _ => rfl), .nil, fun S => RepL.nil, ok__law_unlike  U__law_unlike T ⟩
  have F__law_stretches : FnD l.prog w K mg base 1 "_law_stretches" [] R__law_stretches := ⟨_, _, _, [], [], PySem.W.mg_of X G a__law_stretches, k__law_stretches, (U__law_stretches.binds (ps := ["start", "acts"]) fun _ _ _ _ _ _ us hl => match us, hl with | [_, _], _ => rfl), .nil, fun S => RepL.nil, ok__law_stretches  U__law_stretches T ⟩
  have F__law_mixed : FnD l.prog w K mg base 1 "_law_mixed" [] R__law_mixed := ⟨_, _, _, [], [], PySem.W.mg_of X G a__law_mixed, k__law_mixed, (U__law_mixed.binds (ps := ["rows", "lines"]) fun _ _ _ _ _ _ us hl => match us, hl with | [_, _], _ => rfl), .nil, fun S => RepL.nil, ok__law_mixed  U__law_mixed T ⟩
  have F__law_due : FnD l.prog w K mg base 2 "_law_due" [] R__law_due := ⟨_, _, _, [], [], PySem.W.mg_of X G a__law_due, k__law_due, (U__law_due.binds (ps := ["rows", "told"]) fun _ _ _ _ _ _ us hl => match us, hl with | [_, _], _ => rfl), .nil, fun S => RepL.nil, ok__law_due  U__law_due T F__law_mixed⟩
  exact ok_law (CB := C_Book) (CC := C_Cart) (CI := C_CartLine) (CH := C_History) (CR := C_NoRule) U_law T F_mixtures F__law_due F_play F__law_stretches F__law_work F__law_unlike F__law_acts F__law_rules F__law_start F__law_items F__law_draw F__law_well
theorem walk {l : PySem.W.OpenLaw} {q : Program} {loose : List Str} {XP : (Str → Option Value) → Heap → Prop} {YP : World → Heap → Prop} {d : DefRec} {K : Params → PySem.W.Frag} (hn : l.most = some 63) (hdf : d.params.defaults = [])
    (hY : ∀ (w : World) (h : Heap), YP w h → (K w.params).In h)
    (F : ∀ (w : World) (mg : Str → Option Value) (fa : Addr) (h : Heap), (K w.params).In h → h.Ns mainGlobals mg → mg d.name = some (.ref fa) →
      ∃ fd : FuncData, (∀ (s : Shared) (u : Value), BindsTo s fd ⟨[u], []⟩ [("script", u)]) ∧ ∀ base : Heap, (K w.params).In base → base.Ns mainGlobals mg → ∃ R : RSp, (∀ ns : List Int, ns.length ≤ 63 → R [.seq (ns.map D.int)] [] (fun d _ => d = .bl true) (fun _ _ _ => False)) ∧ FnOk l.prog w (K w.params) mg base (L2.CX l.prog w) 11 fa fd ["script"] (spD (K w.params) R)) :
    PySem.W.WalkO q loose XP YP l.row.toRowW d [] (fun f vs => PySem.call f vs) :=
  L2.walk_of (n := 63) (k := 11) (x := "script") (CX := fun w => L2.CX l.prog w) (sp := fun w vs H Q E => ∃ (a : Addr) (ns : List Int), vs = [.ref a] ∧ ns.length ≤ 63 ∧ SqL (K w.params) H a (ns.map V.int) ∧ Q = (fun v _ => v = .bl true) ∧ E = fun _ _ _ => False) hn (by decide) hdf ⟨rfl, by decide, by decide⟩ hY
    (fun w mg fa h KX G hm => by
      obtain ⟨fd, hb, hF⟩ := F w mg fa h KX G hm
      refine ⟨fd, hb, fun base b1 b2 => ?_⟩
      obtain ⟨R, hR, ok⟩ := hF base b1 b2
      exact fn_top ok fun ns hl => hR ns hl)
    (fun _ _ a ns hl _ hS => ⟨a, ns, rfl, hl, hS, rfl, rfl⟩) fun _ _ _ _ _ z => by
      obtain ⟨_, _, _, _, _, _, _, _, _, _, _, _, z⟩ := z
      exact z.elim
end W
open PySem PySem.W PyProof.Rows
set_option maxRecDepth 100000 in
set_option maxHeartbeats 0 in
theorem PySem.Challenge.cw_lastshown_k30_mixtures_by_stretches_holds : PySem.Challenge.rw_lastshown_k30_mixtures_by_stretches.Holds := by
  w_on; o_law; k_head; (case hw => w_witness2)
  k_fill
  refine W.walk (l := PySem.Challenge.rw_lastshown_k30_mixtures_by_stretches) rfl rfl (fun w h Y => PySem.W.kIn_of Y) ?F
  case F =>
    intro w mg fa h KX G hmg
    refine' W.all_mk (l := PySem.Challenge.rw_lastshown_k30_mixtures_by_stretches) KX G hmg ?z_abs ?z_all ?z_bool ?z_dict ?z_enumerate ?z_int ?z_isinstance ?z_len ?z_list ?z_max ?z_min ?z_range ?z_set ?z_str ?z_sum ?z_tuple ?z_zip ?g_MOST_ACTIONS ?g_LONGEST_ITEM ?g_MOST_AMOUNT ?g_MOST_NUMBER ?g_MOST_ITEMS ?g_LETTERS ?ag_DOORS ?lg_DOORS ?vg_DOORS ?sg_DOORS ?ag_ACTIONS ?lg_ACTIONS ?vg_ACTIONS ?sg_ACTIONS ?aC_Book ?pg_Book ?hd_Book ?po_Book ?sa_Book ?mk_Book ?kc_Book ?na_Book_row ?aC_LineWork ?pg_LineWork ?hd_LineWork ?po_LineWork ?sa_LineWork ?mk_LineWork ?kc_LineWork ?na_LineWork_stays ?na_LineWork_seen ?na_LineWork_told ?na_LineWork_times ?aC_CartLine ?pg_CartLine ?hd_CartLine ?po_CartLine ?sa_CartLine ?mk_CartLine ?kc_CartLine ?na_CartLine_item ?na_CartLine_number ?na_CartLine_kept ?na_CartLine_shown ?na_CartLine_greatest ?aC_Cart ?pg_Cart ?hd_Cart ?po_Cart ?sa_Cart ?mk_Cart ?kc_Cart ?na_Cart_design ?na_Cart_amounts ?na_Cart_rows ?na_Cart_is_failed ?na_Cart_spent ?na_Cart_times_asked ?aC_History ?pg_History ?hd_History ?po_History ?sa_History ?mk_History ?kc_History ?na_History_cart ?na_History_reports ?na_History_wrongs ?na_History_mixed ?na_History_moments ?aC_NoRule ?xl_NoRule ?xa_NoRule ?xe_NoRule ?xt_NoRule ?xk_NoRule ?xn_NoRule ?a_NoRule_init ?l_NoRule_init ?c_NoRule_init ?k_NoRule_init ?ti_NoRule_init ?aC_NoDoor ?xl_NoDoor ?xa_NoDoor ?xe_NoDoor ?xt_NoDoor ?xk_NoDoor ?xn_NoDoor ?a_NoDoor_init ?l_NoDoor_init ?c_NoDoor_init ?k_NoDoor_init ?ti_NoDoor_init ?a_is_door ?l_is_door ?c_is_door ?k_is_door ?a_is_rule ?l_is_rule ?c_is_rule ?k_is_rule ?a_Book_init ?i_Book_init ?l_Book_init ?c_Book_init ?k_Book_init ?lT_Book_init ?vT_Book_init ?e_Book_initl0 ?e_Book_initl1 ?e_Book_initl2 ?e_Book_initl3 ?e_Book_initl4 ?e_Book_initl5 ?a_Book_rule ?i_Book_rule ?l_Book_rule ?c_Book_rule ?k_Book_rule ?a_LineWork_carry_out ?i_LineWork_carry_out ?l_LineWork_carry_out ?c_LineWork_carry_out ?k_LineWork_carry_out ?a_LineWork_init ?i_LineWork_init ?l_LineWork_init ?c_LineWork_init ?k_LineWork_init ?a_CartLine_init ?i_CartLine_init ?l_CartLine_init ?c_CartLine_init ?k_CartLine_init ?a_CartLine_carry_out ?i_CartLine_carry_out ?l_CartLine_carry_out ?c_CartLine_carry_out ?k_CartLine_carry_out ?a_is_whole ?l_is_whole ?c_is_whole ?k_is_whole ?a_is_item ?l_is_item ?c_is_item ?k_is_item ?a_is_amount ?l_is_amount ?c_is_amount ?k_is_amount ?a_is_number ?l_is_number ?c_is_number ?k_is_number ?lT_is_number ?vT_is_number ?a_is_price ?l_is_price ?c_is_price ?k_is_price ?a_are_prices ?l_are_prices ?c_are_prices ?k_are_prices ?a_is_deed ?l_is_deed ?c_is_deed ?k_is_deed ?a_check_history ?l_check_history ?c_check_history ?k_check_history ?a_Cart_init ?i_Cart_init ?l_Cart_init ?c_Cart_init ?k_Cart_init ?a_Cart_row_of ?i_Cart_row_of ?l_Cart_row_of ?c_Cart_row_of ?k_Cart_row_of ?a_Cart_check ?i_Cart_check ?l_Cart_check ?c_Cart_check ?k_Cart_check ?a_Cart_touched ?i_Cart_touched ?l_Cart_touched ?c_Cart_touched ?k_Cart_touched ?a_Cart_carry_out ?i_Cart_carry_out ?l_Cart_carry_out ?c_Cart_carry_out ?k_Cart_carry_out ?a_Cart_report ?i_Cart_report ?l_Cart_report ?c_Cart_report ?k_Cart_report ?a_Cart_play_deed ?i_Cart_play_deed ?l_Cart_play_deed ?c_Cart_play_deed ?k_Cart_play_deed ?a_wrongs_of ?l_wrongs_of ?c_wrongs_of ?k_wrongs_of ?a_are_mixed ?l_are_mixed ?c_are_mixed ?k_are_mixed ?a_History_go_on ?i_History_go_on ?l_History_go_on ?c_History_go_on ?k_History_go_on ?a_History_init ?i_History_init ?l_History_init ?c_History_init ?k_History_init ?a_play ?l_play ?c_play ?k_play ?a_mixtures ?l_mixtures ?c_mixtures ?k_mixtures ?a__law_well ?l__law_well ?c__law_well ?k__law_well ?a__law_draw ?l__law_draw ?c__law_draw ?k__law_draw ?a__law_amount ?l__law_amount ?c__law_amount ?k__law_amount ?a__law_rule ?l__law_rule ?c__law_rule ?k__law_rule ?a__law_items ?l__law_items ?c__law_items ?k__law_items ?a__law_start ?l__law_start ?c__law_start ?k__law_start ?a__law_rules ?l__law_rules ?c__law_rules ?k__law_rules ?a__law_work ?l__law_work ?c__law_work ?k__law_work ?a__law_act ?l__law_act ?c__law_act ?k__law_act ?a__law_acts ?l__law_acts ?c__law_acts ?k__law_acts ?a__law_unlike ?l__law_unlike ?c__law_unlike ?k__law_unlike ?a__law_stretches ?l__law_stretches ?c__law_stretches ?k__law_stretches ?a__law_mixed ?l__law_mixed ?c__law_mixed ?k__law_mixed ?a__law_due ?l__law_due ?c__law_due ?k__law_due ?a_law ?l_law ?c_law ?k_law
    (case z_abs => k_is)
    (case z_all => k_is)
    (case z_bool => k_is)
    (case z_dict => k_is)
    (case z_enumerate => k_is)
    (case z_int => k_is)
    (case z_isinstance => k_is)
    (case z_len => k_is)
    (case z_list => k_is)
    (case z_max => k_is)
    (case z_min => k_is)
    (case z_range => k_is)
    (case z_set => k_is)
    (case z_str => k_is)
    (case z_sum => k_is)
    (case z_tuple => k_is)
    (case z_zip => k_is)
    (case g_MOST_ACTIONS => k_is)
    (case g_LONGEST_ITEM => k_is)
    (case g_MOST_AMOUNT => k_is)
    (case g_MOST_NUMBER => k_is)
    (case g_MOST_ITEMS => k_is)
    (case g_LETTERS => k_is)
    (case ag_DOORS => k_is)
    (case lg_DOORS => k_is)
    (case vg_DOORS => exact (.cons ⟨_, rfl⟩ (.cons ⟨_, rfl⟩ (.cons ⟨_, rfl⟩ (.cons ⟨_, rfl⟩ (.cons ⟨_, rfl⟩ (.cons ⟨_, rfl⟩ .nil)))))))
    (case sg_DOORS => decide)
    (case ag_ACTIONS => k_is)
    (case lg_ACTIONS => k_is)
    (case vg_ACTIONS => exact (.cons ⟨_, rfl⟩ (.cons ⟨_, rfl⟩ (.cons ⟨_, rfl⟩ (.cons ⟨_, rfl⟩ (.cons ⟨_, rfl⟩ .nil))))))
    (case sg_ACTIONS => decide)
    (case aC_Book => k_is)
    (case pg_Book => k_is)
    (case hd_Book => k_is)
    (case po_Book => k_is)
    (case sa_Book => k_is)
    (case mk_Book => k_is)
    (case kc_Book => k_is)
    (case na_Book_row => k_is)
    (case aC_LineWork => k_is)
    (case pg_LineWork => k_is)
    (case hd_LineWork => k_is)
    (case po_LineWork => k_is)
    (case sa_LineWork => k_is)
    (case mk_LineWork => k_is)
    (case kc_LineWork => k_is)
    (case na_LineWork_stays => k_is)
    (case na_LineWork_seen => k_is)
    (case na_LineWork_told => k_is)
    (case na_LineWork_times => k_is)
    (case aC_CartLine => k_is)
    (case pg_CartLine => k_is)
    (case hd_CartLine => k_is)
    (case po_CartLine => k_is)
    (case sa_CartLine => k_is)
    (case mk_CartLine => k_is)
    (case kc_CartLine => k_is)
    (case na_CartLine_item => k_is)
    (case na_CartLine_number => k_is)
    (case na_CartLine_kept => k_is)
    (case na_CartLine_shown => k_is)
    (case na_CartLine_greatest => k_is)
    (case aC_Cart => k_is)
    (case pg_Cart => k_is)
    (case hd_Cart => k_is)
    (case po_Cart => k_is)
    (case sa_Cart => k_is)
    (case mk_Cart => k_is)
    (case kc_Cart => k_is)
    (case na_Cart_design => k_is)
    (case na_Cart_amounts => k_is)
    (case na_Cart_rows => k_is)
    (case na_Cart_is_failed => k_is)
    (case na_Cart_spent => k_is)
    (case na_Cart_times_asked => k_is)
    (case aC_History => k_is)
    (case pg_History => k_is)
    (case hd_History => k_is)
    (case po_History => k_is)
    (case sa_History => k_is)
    (case mk_History => k_is)
    (case kc_History => k_is)
    (case na_History_cart => k_is)
    (case na_History_reports => k_is)
    (case na_History_wrongs => k_is)
    (case na_History_mixed => k_is)
    (case na_History_moments => k_is)
    (case aC_NoRule => k_is)
    (case xl_NoRule => exact ⟨_, _, _, _, _, _, _, _, _, _, _, _, _, _, _, (by k_is), (by decide +kernel)⟩)
    (case xa_NoRule => k_is)
    (case xe_NoRule => k_is)
    (case xt_NoRule => k_is)
    (case xk_NoRule => k_is)
    (case xn_NoRule => k_is)
    (case a_NoRule_init => k_is)
    (case l_NoRule_init => k_is)
    (case c_NoRule_init => k_is)
    (case k_NoRule_init => k_is)
    (case ti_NoRule_init => k_is)
    (case aC_NoDoor => k_is)
    (case xl_NoDoor => exact ⟨_, _, _, _, _, _, _, _, _, _, _, _, _, _, _, (by k_is), (by decide +kernel)⟩)
    (case xa_NoDoor => k_is)
    (case xe_NoDoor => k_is)
    (case xt_NoDoor => k_is)
    (case xk_NoDoor => k_is)
    (case xn_NoDoor => k_is)
    (case a_NoDoor_init => k_is)
    (case l_NoDoor_init => k_is)
    (case c_NoDoor_init => k_is)
    (case k_NoDoor_init => k_is)
    (case ti_NoDoor_init => k_is)
    (case a_is_door => k_is)
    (case l_is_door => k_is)
    (case c_is_door => k_is)
    (case k_is_door => k_is)
    (case a_is_rule => k_is)
    (case l_is_rule => k_is)
    (case c_is_rule => k_is)
    (case k_is_rule => k_is)
    (case a_Book_init => k_is)
    (case i_Book_init => k_is)
    (case l_Book_init => k_is)
    (case c_Book_init => k_is)
    (case k_Book_init => k_is)
    (case lT_Book_init => k_is)
    (case vT_Book_init => exact (.cons rfl (.cons rfl (.cons rfl (.cons rfl (.cons rfl (.cons rfl .nil)))))))
    (case e_Book_initl0 => k_is)
    (case e_Book_initl1 => k_is)
    (case e_Book_initl2 => k_is)
    (case e_Book_initl3 => k_is)
    (case e_Book_initl4 => k_is)
    (case e_Book_initl5 => k_is)
    (case a_Book_rule => k_is)
    (case i_Book_rule => k_is)
    (case l_Book_rule => k_is)
    (case c_Book_rule => k_is)
    (case k_Book_rule => k_is)
    (case a_LineWork_carry_out => k_is)
    (case i_LineWork_carry_out => k_is)
    (case l_LineWork_carry_out => k_is)
    (case c_LineWork_carry_out => k_is)
    (case k_LineWork_carry_out => k_is)
    (case a_LineWork_init => k_is)
    (case i_LineWork_init => k_is)
    (case l_LineWork_init => k_is)
    (case c_LineWork_init => k_is)
    (case k_LineWork_init => k_is)
    (case a_CartLine_init => k_is)
    (case i_CartLine_init => k_is)
    (case l_CartLine_init => k_is)
    (case c_CartLine_init => k_is)
    (case k_CartLine_init => k_is)
    (case a_CartLine_carry_out => k_is)
    (case i_CartLine_carry_out => k_is)
    (case l_CartLine_carry_out => k_is)
    (case c_CartLine_carry_out => k_is)
    (case k_CartLine_carry_out => k_is)
    (case a_is_whole => k_is)
    (case l_is_whole => k_is)
    (case c_is_whole => k_is)
    (case k_is_whole => k_is)
    (case a_is_item => k_is)
    (case l_is_item => k_is)
    (case c_is_item => k_is)
    (case k_is_item => k_is)
    (case a_is_amount => k_is)
    (case l_is_amount => k_is)
    (case c_is_amount => k_is)
    (case k_is_amount => k_is)
    (case a_is_number => k_is)
    (case l_is_number => k_is)
    (case c_is_number => k_is)
    (case k_is_number => k_is)
    (case lT_is_number => k_is)
    (case vT_is_number => exact (.cons ⟨_, rfl⟩ .nil))
    (case a_is_price => k_is)
    (case l_is_price => k_is)
    (case c_is_price => k_is)
    (case k_is_price => k_is)
    (case a_are_prices => k_is)
    (case l_are_prices => k_is)
    (case c_are_prices => k_is)
    (case k_are_prices => k_is)
    (case a_is_deed => k_is)
    (case l_is_deed => k_is)
    (case c_is_deed => k_is)
    (case k_is_deed => k_is)
    (case a_check_history => k_is)
    (case l_check_history => k_is)
    (case c_check_history => k_is)
    (case k_check_history => k_is)
    (case a_Cart_init => k_is)
    (case i_Cart_init => k_is)
    (case l_Cart_init => k_is)
    (case c_Cart_init => k_is)
    (case k_Cart_init => k_is)
    (case a_Cart_row_of => k_is)
    (case i_Cart_row_of => k_is)
    (case l_Cart_row_of => k_is)
    (case c_Cart_row_of => k_is)
    (case k_Cart_row_of => k_is)
    (case a_Cart_check => k_is)
    (case i_Cart_check => k_is)
    (case l_Cart_check => k_is)
    (case c_Cart_check => k_is)
    (case k_Cart_check => k_is)
    (case a_Cart_touched => k_is)
    (case i_Cart_touched => k_is)
    (case l_Cart_touched => k_is)
    (case c_Cart_touched => k_is)
    (case k_Cart_touched => k_is)
    (case a_Cart_carry_out => k_is)
    (case i_Cart_carry_out => k_is)
    (case l_Cart_carry_out => k_is)
    (case c_Cart_carry_out => k_is)
    (case k_Cart_carry_out => k_is)
    (case a_Cart_report => k_is)
    (case i_Cart_report => k_is)
    (case l_Cart_report => k_is)
    (case c_Cart_report => k_is)
    (case k_Cart_report => k_is)
    (case a_Cart_play_deed => k_is)
    (case i_Cart_play_deed => k_is)
    (case l_Cart_play_deed => k_is)
    (case c_Cart_play_deed => k_is)
    (case k_Cart_play_deed => k_is)
    (case a_wrongs_of => k_is)
    (case l_wrongs_of => k_is)
    (case c_wrongs_of => k_is)
    (case k_wrongs_of => k_is)
    (case a_are_mixed => k_is)
    (case l_are_mixed => k_is)
    (case c_are_mixed => k_is)
    (case k_are_mixed => k_is)
    (case a_History_go_on => k_is)
    (case i_History_go_on => k_is)
    (case l_History_go_on => k_is)
    (case c_History_go_on => k_is)
    (case k_History_go_on => k_is)
    (case a_History_init => k_is)
    (case i_History_init => k_is)
    (case l_History_init => k_is)
    (case c_History_init => k_is)
    (case k_History_init => k_is)
    (case a_play => k_is)
    (case l_play => k_is)
    (case c_play => k_is)
    (case k_play => k_is)
    (case a_mixtures => k_is)
    (case l_mixtures => k_is)
    (case c_mixtures => k_is)
    (case k_mixtures => k_is)
    (case a__law_well => k_is)
    (case l__law_well => k_is)
    (case c__law_well => k_is)
    (case k__law_well => k_is)
    (case a__law_draw => k_is)
    (case l__law_draw => k_is)
    (case c__law_draw => k_is)
    (case k__law_draw => k_is)
    (case a__law_amount => k_is)
    (case l__law_amount => k_is)
    (case c__law_amount => k_is)
    (case k__law_amount => k_is)
    (case a__law_rule => k_is)
    (case l__law_rule => k_is)
    (case c__law_rule => k_is)
    (case k__law_rule => k_is)
    (case a__law_items => k_is)
    (case l__law_items => k_is)
    (case c__law_items => k_is)
    (case k__law_items => k_is)
    (case a__law_start => k_is)
    (case l__law_start => k_is)
    (case c__law_start => k_is)
    (case k__law_start => k_is)
    (case a__law_rules => k_is)
    (case l__law_rules => k_is)
    (case c__law_rules => k_is)
    (case k__law_rules => k_is)
    (case a__law_work => k_is)
    (case l__law_work => k_is)
    (case c__law_work => k_is)
    (case k__law_work => k_is)
    (case a__law_act => k_is)
    (case l__law_act => k_is)
    (case c__law_act => k_is)
    (case k__law_act => k_is)
    (case a__law_acts => k_is)
    (case l__law_acts => k_is)
    (case c__law_acts => k_is)
    (case k__law_acts => k_is)
    (case a__law_unlike => k_is)
    (case l__law_unlike => k_is)
    (case c__law_unlike => k_is)
    (case k__law_unlike => k_is)
    (case a__law_stretches => k_is)
    (case l__law_stretches => k_is)
    (case c__law_stretches => k_is)
    (case k__law_stretches => k_is)
    (case a__law_mixed => k_is)
    (case l__law_mixed => k_is)
    (case c__law_mixed => k_is)
    (case k__law_mixed => k_is)
    (case a__law_due => k_is)
    (case l__law_due => k_is)
    (case c__law_due => k_is)
    (case k__law_due => k_is)
    (case a_law => k_is)
    (case l_law => k_is)
    (case c_law => k_is)
    (case k_law => k_is)
