import PyProof.Rows.All
import Wide.All
import OpenK.AllK
import Wide.FinOn
import KE.KStateDown
import Lean
import HandS.Base
import HandS.Call
import HandS.Ends
import HandS.More
import HandS.Words
import HandS.WordsExc
import HandS.Defaults
import HandS.Head0
import HandS.Head1
import HandS.Head2
import HandS.HeadEnd
import HandS.HeadHook1
import HandS.HeadHook2
import HandS.ForMost
import HandS.IsInst
import HandS.Conv
import HandS.Zip
import HandS.Flow
import HandS.Style
import HandS.Wide
import HandS.Codes
import HandS.SortInts
import HandS.TupAny
import HandS.Deep
import HandS.WideBits
import KE.GoesEnum
import KE.GoesZip
import KE.GoesMore
import KE.KxText
import PyProof.FitsInt
import PySem.Challenge.RW_leastreasons_k79_forms_written
set_option Elab.async false
set_option linter.all false
set_option maxRecDepth 100000
set_option maxHeartbeats 0
/-! DL, part a: plain data over the hand layer's abstract heap; owned cells; the judgements DX, DT, DA, DS. -/
namespace DL
open PySem L2 PySem.Spec
set_option autoImplicit false
abbrev D := PyData
mutual
inductive DV (H : Hp) : V → D → Prop
  | non : DV H .non .none
  | bl (b : Bool) : DV H (.bl b) (.bool b)
  | int (i : Int) : DV H (.int i) (.int i)
  | str (x : Str) (h : x.length ≤ sizeLine) : DV H (.str x) (.str x)
  | lst {a : Addr} {xs : List V} {ds : List D} (e : H a = some (.lst xs)) (h : ds.length ≤ sizeLine) (r : DVs H xs ds) : DV H (.ref a) (.list ds)
  | tup {a : Addr} {xs : List V} {ds : List D} (e : H a = some (.tup xs)) (h : ds.length ≤ sizeLine) (r : DVs H xs ds) : DV H (.ref a) (.tuple ds)
inductive DVs (H : Hp) : List V → List D → Prop
  | nil : DVs H [] []
  | cons {v : V} {d : D} {vs : List V} {ds : List D} (h : DV H v d) (r : DVs H vs ds) : DVs H (v :: vs) (d :: ds)
end
theorem DV.mono {H H' : Hp} (e : Same H H') {v : V} {d : D} (h : DV H v d) : DV H' v d :=
  DV.rec (motive_1 := fun v d _ => DV H' v d) (motive_2 := fun vs ds _ => DVs H' vs ds) .non .bl .int .str (fun q l _ r => .lst (e _ _ q) l r) (fun q l _ r => .tup (e _ _ q) l r) .nil (fun _ _ a b => .cons a b) h
theorem DVs.mono {H H' : Hp} (e : Same H H') : ∀ {vs : List V} {ds : List D}, DVs H vs ds → DVs H' vs ds
  | _, _, .nil => .nil
  | _, _, .cons h r => .cons (h.mono e) (DVs.mono e r)
theorem DV.dp {K : PySem.W.Frag} {H : Hp} {v : V} {d : D} (h : DV H v d) : Dp K H v d :=
  DV.rec (motive_1 := fun v d _ => Dp K H v d) (motive_2 := fun vs ds _ => DpAll K H vs ds) .non .bl .int (fun x _ => .str x) (fun q _ _ r => .lst (SqL.of q) r) (fun q _ _ r => .tup (SqT.of q) r) .nil (fun _ _ a b => .cons a b) h
theorem DVs.dp {K : PySem.W.Frag} {H : Hp} : ∀ {vs : List V} {ds : List D}, DVs H vs ds → DpAll K H vs ds
  | _, _, .nil => .nil
  | _, _, .cons h r => .cons h.dp r.dp
theorem DVs.length {H : Hp} : ∀ {vs : List V} {ds : List D}, DVs H vs ds → vs.length = ds.length
  | _, _, .nil => rfl
  | _, _, .cons _ r => by simp [DVs.length r]
theorem DVs.get {H : Hp} : ∀ {vs : List V} {ds : List D} {i : Nat} {d : D}, DVs H vs ds → ds[i]? = some d → ∃ v, vs[i]? = some v ∧ DV H v d
  | _, _, _, _, .nil, e => by simp at e
  | _, _, 0, d, .cons h _, e => by simp at e; subst e; exact ⟨_, rfl, h⟩
  | _, _, i + 1, d, .cons _ r, e => by
    obtain ⟨v, h1, h2⟩ := DVs.get (i := i) (d := d) r (by simpa using e)
    exact ⟨v, by simpa using h1, h2⟩
theorem DVs.getv {H : Hp} : ∀ {vs : List V} {ds : List D} {i : Nat} {v : V}, DVs H vs ds → vs[i]? = some v → ∃ d, ds[i]? = some d ∧ DV H v d
  | _, _, _, _, .nil, e => by simp at e
  | _, _, 0, _, .cons h _, e => by simp at e; subst e; exact ⟨_, rfl, h⟩
  | _, _, i + 1, v, .cons _ r, e => by
    obtain ⟨v, h1, h2⟩ := DVs.getv (i := i) (v := v) r (by simpa using e)
    exact ⟨v, by simpa using h1, h2⟩
theorem DVs.append {H : Hp} : ∀ {vs ws : List V} {ds es : List D}, DVs H vs ds → DVs H ws es → DVs H (vs ++ ws) (ds ++ es)
  | _, _, _, _, .nil, s => s
  | _, _, _, _, .cons h r, s => .cons h (DVs.append r s)
theorem DVs.take {H : Hp} : ∀ {vs : List V} {ds : List D} (n : Nat), DVs H vs ds → DVs H (vs.take n) (ds.take n)
  | _, _, 0, _ => .nil
  | _, _, _ + 1, .nil => .nil
  | _, _, n + 1, .cons h r => .cons h (DVs.take n r)
theorem DVs.drop {H : Hp} : ∀ {vs : List V} {ds : List D} (n : Nat), DVs H vs ds → DVs H (vs.drop n) (ds.drop n)
  | _, _, 0, r => r
  | _, _, _ + 1, .nil => .nil
  | _, _, n + 1, .cons _ r => DVs.drop n r
theorem DVs.set {H : Hp} {v : V} {d : D} (h : DV H v d) : ∀ {vs : List V} {ds : List D} (n : Nat), DVs H vs ds → DVs H (vs.set n v) (ds.set n d)
  | _, _, _, .nil => .nil
  | _, _, 0, .cons _ r => .cons h r
  | _, _, n + 1, .cons q r => .cons q (DVs.set h n r)
theorem DVs.reverse {H : Hp} : ∀ {vs : List V} {ds : List D}, DVs H vs ds → DVs H vs.reverse ds.reverse
  | _, _, .nil => .nil
  | _, _, .cons h r => by
    rw [List.reverse_cons, List.reverse_cons]
    exact (DVs.reverse r).append (.cons h .nil)
theorem DVs.ints {H : Hp} : ∀ {is : List Int} {vs : List V}, DVs H vs (is.map .int) → vs = is.map V.int
  | [], _, .nil => rfl
  | i :: is, _, .cons h r => by cases h; rw [DVs.ints r]; rfl
theorem DVs.bools {H : Hp} : ∀ {bs : List Bool} {vs : List V}, DVs H vs (bs.map .bool) → vs = bs.map V.bl
  | [], _, .nil => rfl
  | i :: is, _, .cons h r => by cases h; rw [DVs.bools r]; rfl
theorem DVs.strs {H : Hp} : ∀ {xs : List Str} {vs : List V}, DVs H vs (xs.map .str) → vs = xs.map V.str
  | [], _, .nil => rfl
  | i :: is, _, .cons h r => by cases h; rw [DVs.strs r]; rfl
theorem DVs.of_ints {H : Hp} : ∀ is : List Int, DVs H (is.map V.int) (is.map .int)
  | [] => .nil
  | i :: is => .cons (.int i) (DVs.of_ints is)
theorem DVs.of_strs {H : Hp} : ∀ xs : List Str, (∀ x ∈ xs, x.length ≤ sizeLine) → DVs H (xs.map V.str) (xs.map .str)
  | [], _ => .nil
  | x :: xs, h => .cons (.str x (h x List.mem_cons_self)) (DVs.of_strs xs fun y m => h y (List.mem_cons_of_mem _ m))

/-! ### cells -/
/-- what a slot holds: data, or the k-th owned cell -/
inductive Ce where
  | d (x : D) | o (k : Nat) | v (x : V)
/-- what an owned cell holds -/
inductive Ob where
  | lst (xs : List D)
  | dk (kvs : List (Key × D))
  | ins (C : Addr) (fs : List (Str × Ce))
abbrev En := List (Option Ce)
abbrev Ow := List (Option Ob)
def CeR (F : Hp) (al : List Addr) : V → Ce → Prop
  | v, .d x => DV F v x
  | v, .o k => ∃ a, al[k]? = some a ∧ v = .ref a
  | v, .v x => v = x
def CeRs (F : Hp) (al : List Addr) : List V → List Ce → Prop := Paired (CeR F al)
def ObR (F H : Hp) (al : List Addr) (a : Addr) : Ob → Prop
  | .lst xs => ∃ vs, H a = some (.lst vs) ∧ DVs F vs xs
  | .dk kvs => ∃ ws : List (Key × V), H a = some (.dK ws) ∧ Paired (fun (p : Key × V) (q : Key × D) => p.1 = q.1 ∧ DV F p.2 q.2) ws kvs
  | .ins C fs => ∃ (dx : Addr) (ws : List (Str × V)), H a = some (.ins C dx ws) ∧ Paired (fun (p : Str × V) (q : Str × Ce) => p.1 = q.1 ∧ CeR F al p.2 q.2) ws fs
structure Rep (F H : Hp) (al : List Addr) (O : Ow) : Prop where
  sub : Same F H
  nd : al.Nodup
  len : al.length = O.length
  there : ∀ a ∈ al, H a ≠ none
  own : ∀ (k : Nat) (b : Ob), O[k]? = some (some b) → ∃ a, al[k]? = some a ∧ F a = none ∧ ObR F H al a b
structure EnR (F : Hp) (al : List Addr) (σ : St) (ρ : En) : Prop where
  len : σ.length = ρ.length
  get : ∀ (i : Nat) (c : Ce), ρ[i]? = some (some c) → ∃ v, σ[i]? = some (some v) ∧ CeR F al v c
structure Ext (F H : Hp) (al : List Addr) (F' H' : Hp) (al' : List Addr) : Prop where
  sub : Same F F'
  grow : ∃ be, al' = al ++ be
  keep : ∀ a o, H a = some o → a ∉ al → H' a = some o
  out : ∀ a, H a ≠ none → a ∉ al → a ∉ al'
  noF : ∀ a, H a ≠ none → a ∉ al → F a = none → F' a = none
theorem Ext.refl (F H : Hp) (al : List Addr) : Ext F H al F H al := ⟨Same.refl F, ⟨[], by simp⟩, fun _ _ e _ => e, fun _ _ h => h, fun _ _ _ e => e⟩
theorem ne_none_of {α : Type} {x : Option α} {y : α} (h : x = some y) : x ≠ none := by rw [h]; simp
theorem Ext.trans {F H F' H' F2 H2 : Hp} {al al' al2 : List Addr} (x : Ext F H al F' H' al') (y : Ext F' H' al' F2 H2 al2) : Ext F H al F2 H2 al2 := by
  refine ⟨x.sub.trans y.sub, ?_, fun a o e h => y.keep a o (x.keep a o e h) (x.out a (ne_none_of e) h), fun a e h => ?_, fun a e h n => ?_⟩
  · obtain ⟨b, rfl⟩ := x.grow
    obtain ⟨c, rfl⟩ := y.grow
    exact ⟨b ++ c, by simp⟩
  · obtain ⟨o, q⟩ := Option.ne_none_iff_exists'.mp e
    exact y.out a (ne_none_of (x.keep a o q h)) (x.out a e h)
  · obtain ⟨o, q⟩ := Option.ne_none_iff_exists'.mp e
    exact y.noF a (ne_none_of (x.keep a o q h)) (x.out a e h) (x.noF a e h n)
theorem Ext.al {F H F' H' : Hp} {al al' : List Addr} (x : Ext F H al F' H' al') {k : Nat} {a : Addr} (h : al[k]? = some a) : al'[k]? = some a := by
  obtain ⟨b, rfl⟩ := x.grow
  rw [List.getElem?_append_left (List.getElem?_eq_some_iff.mp h).1]
  exact h
theorem CeR.ext {F H F' H' : Hp} {al al' : List Addr} (x : Ext F H al F' H' al') : ∀ {v : V} {c : Ce}, CeR F al v c → CeR F' al' v c
  | _, .d _, h => DV.mono x.sub h
  | _, .o k, ⟨a, h, e⟩ => ⟨a, x.al h, e⟩
  | _, .v _, h => h
theorem EnR.ext {F H F' H' : Hp} {al al' : List Addr} {σ : St} {ρ : En} (x : Ext F H al F' H' al') (h : EnR F al σ ρ) : EnR F' al' σ ρ :=
  ⟨h.len, fun i c e => let ⟨v, q, r⟩ := h.get i c e; ⟨v, q, r.ext x⟩⟩
theorem CeRs.ext {F H F' H' : Hp} {al al' : List Addr} (x : Ext F H al F' H' al') : ∀ {vs : List V} {cs : List Ce}, CeRs F al vs cs → CeRs F' al' vs cs
  | _, _, .nil => .nil
  | _, _, .cons h r => .cons (h.ext x) (CeRs.ext x r)
theorem EnR.set {F : Hp} {al : List Addr} {σ : St} {ρ : En} {v : V} {c : Ce} (h : EnR F al σ ρ) (i : Nat) (q : CeR F al v c) : EnR F al (σ.set i (some v)) (ρ.set i (some c)) := by
  refine ⟨by simp [h.len], fun j c' e => ?_⟩
  rw [List.getElem?_set] at e ⊢
  have hl := h.len
  by_cases hij : i = j
  · subst hij
    by_cases hi : i < ρ.length
    · simp [hi] at e
      subst e
      exact ⟨v, by simp [hl, hi], q⟩
    · simp [hi] at e
  · simp only [hij, if_false] at e ⊢
    exact h.get j c' e
theorem Rep.fresh {F H : Hp} {al : List Addr} {O : Ow} (r : Rep F H al O) {p : Addr} (hp : H p = none) : p ∉ al := fun h => r.there p h hp
theorem upd_some {H : Hp} {p a : Addr} {o : HO} (h : H a ≠ none) : upd H p o a ≠ none := by
  by_cases e : a = p
  · subst e; rw [upd_same]; simp
  · rw [upd_ne e]; exact h
theorem same_upd {F H : Hp} {p : Addr} {o : HO} (s : Same F H) (hp : H p = none) : Same F (upd H p o) := fun b u e => by
  have := s b u e
  rw [upd_ne (ne_of_none this hp)]
  exact this
theorem same_upd2 {F H : Hp} {p : Addr} {o : HO} (s : Same F H) : Same (L2.upd F p o) (L2.upd H p o) := fun b u e => by
  by_cases h : b = p
  · subst h; rw [upd_same] at e ⊢; exact e
  · rw [upd_ne h] at e ⊢; exact s b u e
theorem ObR.mono {F F' H H' : Hp} {al al' : List Addr} {a : Addr} {b : Ob} (h : ObR F H al a b) (s : Same F F') (g : ∀ (k : Nat) x, al[k]? = some x → al'[k]? = some x) (e : ∀ o, H a = some o → H' a = some o) : ObR F' H' al' a b := by
  have ce : ∀ v c, CeR F al v c → CeR F' al' v c := fun v c h => by
    cases c with
    | d x => exact DV.mono s h
    | o k => obtain ⟨a, q, r⟩ := h; exact ⟨a, g _ _ q, r⟩
    | v x => exact h
  cases b with
  | lst xs => obtain ⟨vs, q, r⟩ := h; exact ⟨vs, e _ q, r.mono s⟩
  | dk kvs => obtain ⟨ws, q, r⟩ := h; exact ⟨ws, e _ q, Paired.mapP r fun p q z => ⟨z.1, z.2.mono s⟩⟩
  | ins C fs => obtain ⟨dx, ws, q, r⟩ := h; exact ⟨dx, ws, e _ q, Paired.mapP r fun p q z => ⟨z.1, ce _ _ z.2⟩⟩
theorem ObR.some {F H : Hp} {al : List Addr} {a : Addr} {b : Ob} (h : ObR F H al a b) : H a ≠ none := by
  cases b with
  | lst xs => obtain ⟨vs, q, _⟩ := h; exact ne_none_of q
  | dk kvs => obtain ⟨vs, q, _⟩ := h; exact ne_none_of q
  | ins C fs => obtain ⟨dx, vs, q, _⟩ := h; exact ne_none_of q
/-- a new object at p is tracked, and frozen -/
theorem Rep.laid {F H : Hp} {al : List Addr} {O : Ow} {p : Addr} {o : HO} (r : Rep F H al O) (hp : H p = none) : Rep (upd F p o) (upd H p o) al O := by
  refine ⟨same_upd2 r.sub, r.nd, r.len, fun a m => upd_some (r.there a m), fun k b e => ?_⟩
  obtain ⟨a, h1, h2, h3⟩ := r.own k b e
  have hne : a ≠ p := fun z => h3.some (z ▸ hp)
  exact ⟨a, h1, by rw [upd_ne hne]; exact h2, h3.mono (fun b u q => by rw [upd_ne (ne_of_none (r.sub b u q) hp)]; exact q) (fun _ _ q => q) fun o q => by rw [upd_ne hne]; exact q⟩
theorem Ext.laid {F H : Hp} {al : List Addr} {O : Ow} {p : Addr} {o : HO} (r : Rep F H al O) (hp : H p = none) : Ext F H al (upd F p o) (upd H p o) al := by
  refine ⟨fun b u q => ?_, ⟨[], by simp⟩, fun a o e _ => ?_, fun _ _ h => h, fun a e _ n => ?_⟩
  · rw [upd_ne (ne_of_none (r.sub b u q) hp)]; exact q
  · rw [upd_ne (ne_of_none e hp)]; exact e
  · rw [upd_ne (fun z => by rw [z] at e; exact e hp)]; exact n
/-- a new object at p is tracked, not frozen, in no cell -/
theorem Rep.beside {F H : Hp} {al : List Addr} {O : Ow} {p : Addr} {o : HO} (r : Rep F H al O) (hp : H p = none) : Rep F (upd H p o) al O := by
  refine ⟨same_upd r.sub hp, r.nd, r.len, fun a m => upd_some (r.there a m), fun k b e => ?_⟩
  obtain ⟨a, h1, h2, h3⟩ := r.own k b e
  have hne : a ≠ p := fun z => h3.some (z ▸ hp)
  exact ⟨a, h1, h2, h3.mono (Same.refl _) (fun _ _ q => q) fun o q => by rw [upd_ne hne]; exact q⟩
/-- an object in no cell and not frozen is changed -/
theorem Rep.poke {F H : Hp} {al : List Addr} {O : Ow} {p : Addr} {o : HO} (r : Rep F H al O) (hp : p ∉ al) (hF : F p = none) : Rep F (upd H p o) al O := by
  refine ⟨fun b u e => ?_, r.nd, r.len, fun a m => upd_some (r.there a m), fun k b e => ?_⟩
  · have hne : b ≠ p := fun z => by rw [z, hF] at e; cases e
    rw [upd_ne hne]; exact r.sub b u e
  · obtain ⟨a, h1, h2, h3⟩ := r.own k b e
    have hne : a ≠ p := fun z => hp (z ▸ List.mem_of_getElem? h1)
    exact ⟨a, h1, h2, h3.mono (Same.refl _) (fun _ _ q => q) fun o q => by rw [upd_ne hne]; exact q⟩
/-- .. and frozen -/
theorem Rep.freeze {F H : Hp} {al : List Addr} {O : Ow} {p : Addr} {o : HO} (r : Rep F H al O) (hp : p ∉ al) (hF : F p = none) (e : H p = some o) : Rep (upd F p o) H al O := by
  refine ⟨fun b u q => ?_, r.nd, r.len, r.there, fun k b q => ?_⟩
  · by_cases h : b = p
    · subst h; rw [upd_same] at q; cases q; exact e
    · rw [upd_ne h] at q; exact r.sub b u q
  · obtain ⟨a, h1, h2, h3⟩ := r.own k b q
    have hne : a ≠ p := fun z => hp (z ▸ List.mem_of_getElem? h1)
    exact ⟨a, h1, by rw [upd_ne hne]; exact h2, h3.mono (fun b u q => by rw [upd_ne (fun z => by rw [z, hF] at q; cases q)]; exact q) (fun _ _ q => q) fun o q => q⟩
end DL
/-! DL, part b: the judgements and the rules of the readings. -/
namespace DL
open PySem L2 PySem.Spec
set_option autoImplicit false
/-- which states a body may be in (all that follow its entry) -/
structure Bs where
  p : Hp → Hp → List Addr → Prop
  cl : ∀ {F H F' H' : Hp} {al al' : List Addr}, p F H al → Ext F H al F' H' al' → p F' H' al'
def Bs.any : Bs := ⟨fun _ _ _ => True, fun _ _ => trivial⟩
def Bs.from (F0 H0 : Hp) (al0 : List Addr) : Bs := ⟨fun F H al => Ext F0 H0 al0 F H al, fun a b => a.trans b⟩
abbrev RX := Ce → Ow → Prop
def Kx (F H : Hp) (al : List Addr) (R : RX) (Q : VK) : Prop := ∀ (F' H' : Hp) (al' : List Addr) (O' : Ow) (v : V) (c : Ce), Ext F H al F' H' al' → Rep F' H' al' O' → CeR F' al' v c → R c O' → Q v H'
def Kb (F H : Hp) (al : List Addr) (R : Bool → Ow → Prop) (Q : Bool → Hp → Prop) : Prop := ∀ (F' H' : Hp) (al' : List Addr) (O' : Ow) (b : Bool), Ext F H al F' H' al' → Rep F' H' al' O' → R b O' → Q b H'
def Ks (F H : Hp) (al : List Addr) (R : List Ce → Ow → Prop) (Q : List V → Hp → Prop) : Prop := ∀ (F' H' : Hp) (al' : List Addr) (O' : Ow) (vs : List V) (cs : List Ce), Ext F H al F' H' al' → Rep F' H' al' O' → CeRs F' al' vs cs → R cs O' → Q vs H'
def DX (B : Bs) (te : TE) (ρ : En) (O : Ow) (R : RX) : Prop := ∀ (F H : Hp) (al : List Addr) (σ : L2.St) (Q : VK), B.p F H al → Rep F H al O → EnR F al σ ρ → Kx F H al R Q → te σ H Q
def DT (B : Bs) (tt : TT) (ρ : En) (O : Ow) (R : Bool → Ow → Prop) : Prop := ∀ (F H : Hp) (al : List Addr) (σ : L2.St) (Q : Bool → Hp → Prop), B.p F H al → Rep F H al O → EnR F al σ ρ → Kb F H al R Q → tt σ H Q
def DA (B : Bs) (ta : TA) (ρ : En) (O : Ow) (R : List Ce → Ow → Prop) : Prop := ∀ (F H : Hp) (al : List Addr) (σ : L2.St) (Q : List V → Hp → Prop), B.p F H al → Rep F H al O → EnR F al σ ρ → Ks F H al R Q → ta σ H Q
def D1 (B : Bs) (r : V → Hp → VK → Prop) (x : Ce) (O : Ow) (R : RX) : Prop := ∀ (F H : Hp) (al : List Addr) (v : V) (Q : VK), B.p F H al → Rep F H al O → CeR F al v x → Kx F H al R Q → r v H Q
def D2 (B : Bs) (r : R2) (x y : Ce) (O : Ow) (R : RX) : Prop := ∀ (F H : Hp) (al : List Addr) (v u : V) (Q : VK), B.p F H al → Rep F H al O → CeR F al v x → CeR F al u y → Kx F H al R Q → r v u H Q
def DC (B : Bs) (r : List V → Hp → VK → Prop) (xs : List Ce) (O : Ow) (R : RX) : Prop := ∀ (F H : Hp) (al : List Addr) (vs : List V) (Q : VK), B.p F H al → Rep F H al O → CeRs F al vs xs → Kx F H al R Q → r vs H Q
def DM (B : Bs) (r : V → List V → Hp → VK → Prop) (x : Ce) (xs : List Ce) (O : Ow) (R : RX) : Prop := ∀ (F H : Hp) (al : List Addr) (v : V) (vs : List V) (Q : VK), B.p F H al → Rep F H al O → CeR F al v x → CeRs F al vs xs → Kx F H al R Q → r v vs H Q
/-- abstract ends -/
structure AE where
  nx : En → Ow → Prop
  rt : RX
  bk : En → Ow → Prop := fun _ _ => False
  ct : En → Ow → Prop := fun _ _ => False
def Ke (F H : Hp) (al : List Addr) (R : En → Ow → Prop) (Q : L2.St → Hp → Prop) : Prop := ∀ (F' H' : Hp) (al' : List Addr) (O' : Ow) (σ' : L2.St) (ρ' : En), Ext F H al F' H' al' → Rep F' H' al' O' → EnR F' al' σ' ρ' → R ρ' O' → Q σ' H'
structure KD (F H : Hp) (al : List Addr) (A : AE) (D : L2.Ends) : Prop where
  nx : Ke F H al A.nx D.nx
  rt : Kx F H al A.rt D.rt
  bk : Ke F H al A.bk D.bk
  ct : Ke F H al A.ct D.ct
def DS (B : Bs) (ts : TS) (ρ : En) (O : Ow) (A : AE) : Prop := ∀ (F H : Hp) (al : List Addr) (σ : L2.St) (D : L2.Ends), B.p F H al → Rep F H al O → EnR F al σ ρ → KD F H al A D → ts D σ H
theorem Kx.step {F H F1 H1 : Hp} {al al1 : List Addr} {R : RX} {Q : VK} (k : Kx F H al R Q) (x : Ext F H al F1 H1 al1) : Kx F1 H1 al1 R Q := fun F' H' al' O' v c y => k F' H' al' O' v c (x.trans y)
theorem Kb.step {F H F1 H1 : Hp} {al al1 : List Addr} {R : Bool → Ow → Prop} {Q : Bool → Hp → Prop} (k : Kb F H al R Q) (x : Ext F H al F1 H1 al1) : Kb F1 H1 al1 R Q := fun F' H' al' O' b y => k F' H' al' O' b (x.trans y)
theorem Ks.step {F H F1 H1 : Hp} {al al1 : List Addr} {R : List Ce → Ow → Prop} {Q : List V → Hp → Prop} (k : Ks F H al R Q) (x : Ext F H al F1 H1 al1) : Ks F1 H1 al1 R Q := fun F' H' al' O' vs cs y => k F' H' al' O' vs cs (x.trans y)
theorem Ke.step {F H F1 H1 : Hp} {al al1 : List Addr} {R : En → Ow → Prop} {Q : L2.St → Hp → Prop} (k : Ke F H al R Q) (x : Ext F H al F1 H1 al1) : Ke F1 H1 al1 R Q := fun F' H' al' O' s r y => k F' H' al' O' s r (x.trans y)
theorem KD.step {F H F1 H1 : Hp} {al al1 : List Addr} {A : AE} {D : L2.Ends} (k : KD F H al A D) (x : Ext F H al F1 H1 al1) : KD F1 H1 al1 A D := ⟨k.nx.step x, k.rt.step x, k.bk.step x, k.ct.step x⟩

section
variable {B : Bs} {ρ : En} {O : Ow} {R : RX}
/-! ### expressions -/
theorem dx_mono {te : TE} {R' : RX} (h : DX B te ρ O R') (k : ∀ c O', R' c O' → R c O') : DX B te ρ O R := fun F H al σ Q b r e q => h F H al σ Q b r e fun F' H' al' O' v c x r' cr z => q F' H' al' O' v c x r' cr (k c O' z)
theorem dx_var {i : Nat} {c : Ce} (h : ρ[i]? = some (some c)) (k : R c O) : DX B (tVar i) ρ O R := fun F H al σ Q b r e q =>
  let ⟨v, hv, rv⟩ := e.get i c h
  ⟨v, hv, q F H al O v c (.refl _ _ _) r rv k⟩
theorem dx_c {v : V} {d : D} (hd : ∀ F, DV F v d) (k : R (.d d) O) : DX B (tC v) ρ O R := fun F H al σ Q b r e q => q F H al O v (.d d) (.refl _ _ _) r (hd F) k
theorem dx_int {i : Int} (k : R (.d (.int i)) O) : DX B (tC (.int i)) ρ O R := dx_c (fun _ => .int i) k
theorem dx_bl {i : Bool} (k : R (.d (.bool i)) O) : DX B (tC (.bl i)) ρ O R := dx_c (fun _ => .bl i) k
theorem dx_non (k : R (.d .none) O) : DX B (tC .non) ρ O R := dx_c (fun _ => .non) k
theorem dx_str {x : Str} (h : x.length ≤ sizeLine) (k : R (.d (.str x)) O) : DX B (tC (.str x)) ρ O R := dx_c (fun _ => .str x h) k
theorem dx_op {r : R2} {ta tb : TE} (h : DX B ta ρ O fun x O1 => DX B tb ρ O1 fun y O2 => D2 B r x y O2 R) : DX B (tOp r ta tb) ρ O R := fun F H al σ Q b rp e q =>
  h F H al σ _ b rp e fun F1 H1 al1 O1 v x x1 r1 c1 h1 => h1 F1 H1 al1 σ _ (B.cl b x1) r1 (e.ext x1) fun F2 H2 al2 O2 u y x2 r2 c2 h2 =>
    h2 F2 H2 al2 v u Q (B.cl (B.cl b x1) x2) r2 (c1.ext x2) c2 (q.step (x1.trans x2))
theorem dx_un {r : V → Hp → VK → Prop} {ta : TE} (h : DX B ta ρ O fun x O1 => D1 B r x O1 R) : DX B (tUn r ta) ρ O R := fun F H al σ Q b rp e q =>
  h F H al σ _ b rp e fun F1 H1 al1 O1 v x x1 r1 c1 h1 => h1 F1 H1 al1 v Q (B.cl b x1) r1 c1 (q.step x1)
/-- both ways of a test -/
def Cs (b : Bool) (P Q : Prop) : Prop := (b = true → P) ∧ (b = false → Q)
theorem Cs.ite {b : Bool} {P Q : Prop} (h : Cs b P Q) : if b = true then P else Q := by
  cases b with
  | true => rw [if_pos rfl]; exact h.1 rfl
  | false => rw [if_neg (by simp)]; exact h.2 rfl
theorem Cs.t {P Q : Prop} (h : P) : Cs true P Q := ⟨fun _ => h, fun e => absurd e (by simp)⟩
theorem Cs.f {P Q : Prop} (h : Q) : Cs false P Q := ⟨fun e => absurd e (by simp), fun _ => h⟩
theorem Cs.of {b : Bool} {P Q : Prop} (h1 : b = true → P) (h2 : b = false → Q) : Cs b P Q := ⟨h1, h2⟩
theorem Cs.isT {b : Bool} {P Q : Prop} (e : b = true) (h : P) : Cs b P Q := by subst e; exact .t h
theorem Cs.isF {b : Bool} {P Q : Prop} (e : b = false) (h : Q) : Cs b P Q := by subst e; exact .f h
theorem ite_of {b : Bool} {P Q : Prop} (h1 : b = true → P) (h2 : b = false → Q) : if b = true then P else Q := Cs.ite ⟨h1, h2⟩
/-- a bool's value -/
def IsB (c : Ce) (P : Bool → Prop) : Prop := ∃ b, c = .d (.bool b) ∧ P b
theorem isB {b : Bool} {P : Bool → Prop} (h : P b) : IsB (.d (.bool b)) P := ⟨b, rfl, h⟩
theorem dt_b {t : TE} {R : Bool → Ow → Prop} (h : DX B t ρ O fun c O1 => IsB c fun b => R b O1) : DT B (tB t) ρ O R := fun F H al σ Q b rp e q =>
  h F H al σ _ b rp e fun F1 H1 al1 O1 v c x1 r1 c1 ⟨k, ek, hk⟩ => by
    subst ek
    cases c1
    exact ⟨k, rfl, q _ _ _ _ _ x1 r1 hk⟩
theorem dt_test {t : TE} {R : Bool → Ow → Prop} (h : DX B t ρ O fun c O1 => IsB c fun b => R b O1) : DT B (tTest t) ρ O R := dt_b h
theorem dt_and {t u : TT} {R : Bool → Ow → Prop} (h : DT B t ρ O fun b O1 => Cs b (DT B u ρ O1 R) (R false O1)) : DT B (tAnd t u) ρ O R := fun F H al σ Q b rp e q =>
  h F H al σ _ b rp e fun F1 H1 al1 O1 k x1 r1 hk => ite_of (fun z => hk.1 z F1 H1 al1 σ Q (B.cl b x1) r1 (e.ext x1) (q.step x1)) fun z => q _ _ _ _ _ x1 r1 (hk.2 z)
theorem dt_or {t u : TT} {R : Bool → Ow → Prop} (h : DT B t ρ O fun b O1 => Cs b (R true O1) (DT B u ρ O1 R)) : DT B (tOr t u) ρ O R := fun F H al σ Q b rp e q =>
  h F H al σ _ b rp e fun F1 H1 al1 O1 k x1 r1 hk => ite_of (fun z => q _ _ _ _ _ x1 r1 (hk.1 z)) fun z => hk.2 z F1 H1 al1 σ Q (B.cl b x1) r1 (e.ext x1) (q.step x1)
theorem dt_not {t : TT} {R : Bool → Ow → Prop} (h : DT B t ρ O fun b O1 => R (!b) O1) : DT B (tNot t) ρ O R := fun F H al σ Q b rp e q => h F H al σ _ b rp e fun F1 H1 al1 O1 k x1 r1 hk => q _ _ _ _ _ x1 r1 hk
theorem dt_yes {R : Bool → Ow → Prop} (h : R true O) : DT B tYes ρ O R := fun F H al σ Q b rp e q => q F H al O true (.refl _ _ _) rp h
theorem dt_mono {tt : TT} {R R' : Bool → Ow → Prop} (h : DT B tt ρ O R') (k : ∀ b O', R' b O' → R b O') : DT B tt ρ O R := fun F H al σ Q b r e q => h F H al σ Q b r e fun F' H' al' O' v x r' z => q F' H' al' O' v x r' (k v O' z)
theorem dx_if {t : TT} {ta tb : TE} (h : DT B t ρ O fun b O1 => Cs b (DX B ta ρ O1 R) (DX B tb ρ O1 R)) : DX B (tIf t ta tb) ρ O R := fun F H al σ Q b rp e q =>
  h F H al σ _ b rp e fun F1 H1 al1 O1 k x1 r1 hk => ite_of (fun z => hk.1 z F1 H1 al1 σ Q (B.cl b x1) r1 (e.ext x1) (q.step x1)) fun z => hk.2 z F1 H1 al1 σ Q (B.cl b x1) r1 (e.ext x1) (q.step x1)
theorem dx_andV {ta tb : TE} (h : DX B ta ρ O fun c O1 => IsB c fun b => Cs b (DX B tb ρ O1 R) (R (.d (.bool false)) O1)) : DX B (tAndV ta tb) ρ O R := fun F H al σ Q b rp e q =>
  h F H al σ _ b rp e fun F1 H1 al1 O1 v c x1 r1 c1 ⟨k, ek, hk⟩ => by
    subst ek
    cases c1
    exact ⟨k, rfl, ite_of (fun z => hk.1 z F1 H1 al1 σ Q (B.cl b x1) r1 (e.ext x1) (q.step x1)) fun z => q _ _ _ _ _ (.d (.bool false)) x1 r1 (DV.bl false) (hk.2 z)⟩
theorem dx_orV {ta tb : TE} (h : DX B ta ρ O fun c O1 => IsB c fun b => Cs b (R (.d (.bool true)) O1) (DX B tb ρ O1 R)) : DX B (tOrV ta tb) ρ O R := fun F H al σ Q b rp e q =>
  h F H al σ _ b rp e fun F1 H1 al1 O1 v c x1 r1 c1 ⟨k, ek, hk⟩ => by
    subst ek
    cases c1
    exact ⟨k, rfl, ite_of (fun z => q _ _ _ _ _ (.d (.bool true)) x1 r1 (DV.bl true) (hk.1 z)) fun z => hk.2 z F1 H1 al1 σ Q (B.cl b x1) r1 (e.ext x1) (q.step x1)⟩
theorem dx_notV {ta : TE} (h : DX B ta ρ O fun c O1 => IsB c fun b => R (.d (.bool (!b))) O1) : DX B (tNotV ta) ρ O R := fun F H al σ Q b rp e q =>
  h F H al σ _ b rp e fun F1 H1 al1 O1 v c x1 r1 c1 ⟨k, ek, hk⟩ => by
    subst ek
    cases c1
    exact ⟨k, rfl, q _ _ _ _ _ (.d (.bool _)) x1 r1 (DV.bl _) hk⟩
/-- a < b < c -/
theorem dx_chain {r r' : R2} {ta tb tc : TE} (h : DX B ta ρ O fun x O1 => DX B tb ρ O1 fun y O2 => D2 B r x y O2 fun z O3 => IsB z fun k => Cs k (DX B tc ρ O3 fun w O4 => D2 B r' y w O4 R) (R (.d (.bool false)) O3)) : DX B (tChain r r' ta tb tc) ρ O R := fun F H al σ Q b rp e q =>
  h F H al σ _ b rp e fun F1 H1 al1 O1 v x x1 r1 c1 h1 => h1 F1 H1 al1 σ _ (B.cl b x1) r1 (e.ext x1) fun F2 H2 al2 O2 u y x2 r2 c2 h2 =>
    h2 F2 H2 al2 v u _ (B.cl (B.cl b x1) x2) r2 (c1.ext x2) c2 fun F3 H3 al3 O3 z cz x3 r3 c3 ⟨k, ek, hk⟩ => by
      subst ek
      cases c3
      have b3 := B.cl (B.cl (B.cl b x1) x2) x3
      refine ⟨k, rfl, ite_of (fun z => ?_) fun z => q _ _ _ _ _ (.d (.bool false)) ((x1.trans x2).trans x3) r3 (DV.bl false) (hk.2 z)⟩
      exact hk.1 z F3 H3 al3 σ _ b3 r3 (((e.ext x1).ext x2).ext x3) fun F4 H4 al4 O4 w cw x4 r4 c4 h4 => h4 F4 H4 al4 u w Q (B.cl b3 x4) r4 ((c2.ext x3).ext x4) c4 (q.step (((x1.trans x2).trans x3).trans x4))
theorem dt_tru_dummy : True := trivial
/-! ### arguments, calls -/
theorem da_nil {R : List Ce → Ow → Prop} (h : R [] O) : DA B tNil ρ O R := fun F H al σ Q b rp e q => q F H al O [] [] (.refl _ _ _) rp .nil h
theorem da_cons {ta : TE} {tr : TA} {R : List Ce → Ow → Prop} (h : DX B ta ρ O fun c O1 => DA B tr ρ O1 fun cs O2 => R (c :: cs) O2) : DA B (tCons ta tr) ρ O R := fun F H al σ Q b rp e q =>
  h F H al σ _ b rp e fun F1 H1 al1 O1 v x x1 r1 c1 h1 => h1 F1 H1 al1 σ _ (B.cl b x1) r1 (e.ext x1) fun F2 H2 al2 O2 vs cs x2 r2 c2 h2 => q _ _ _ _ _ _ (x1.trans x2) r2 (.cons (c1.ext x2) c2) h2
theorem dx_cb {r : List V → Hp → VK → Prop} {t : TA} (h : DA B t ρ O fun cs O1 => DC B r cs O1 R) : DX B (tCB r t) ρ O R := fun F H al σ Q b rp e q =>
  h F H al σ _ b rp e fun F1 H1 al1 O1 vs cs x1 r1 c1 h1 => h1 F1 H1 al1 vs Q (B.cl b x1) r1 c1 (q.step x1)
/-- data cells -/
def AllD (cs : List Ce) (P : List D → Prop) : Prop := ∃ ds : List D, cs = ds.map .d ∧ P ds
theorem allD_nil {P : List D → Prop} (h : P []) : AllD [] P := ⟨[], rfl, h⟩
theorem allD_cons {d : D} {cs : List Ce} {P : List D → Prop} (h : AllD cs fun ds => P (d :: ds)) : AllD (.d d :: cs) P := let ⟨ds, e, k⟩ := h; ⟨d :: ds, by rw [e]; rfl, k⟩
theorem CeRs.ds {F : Hp} {al : List Addr} : ∀ {ds : List D} {vs : List V}, CeRs F al vs (ds.map .d) → DVs F vs ds
  | [], _, .nil => .nil
  | _ :: _, _, .cons h r => .cons h (CeRs.ds r)
theorem CeRs.of_ds {F : Hp} {al : List Addr} : ∀ {ds : List D} {vs : List V}, DVs F vs ds → CeRs F al vs (ds.map .d)
  | [], _, .nil => .nil
  | _ :: _, _, .cons h r => .cons h (CeRs.of_ds r)
theorem DV.lst_new {F : Hp} {p : Addr} {vs : List V} {ds : List D} (hn : F p = none) (h : ds.length ≤ sizeLine) (r : DVs F vs ds) : DV (upd F p (.lst vs)) (.ref p) (.list ds) := .lst upd_same h (r.mono (same_upd (Same.refl _) hn))
theorem DV.tup_new {F : Hp} {p : Addr} {vs : List V} {ds : List D} (hn : F p = none) (h : ds.length ≤ sizeLine) (r : DVs F vs ds) : DV (upd F p (.tup vs)) (.ref p) (.tuple ds) := .tup upd_same h (r.mono (same_upd (Same.refl _) hn))
theorem Rep.freeF {F H : Hp} {al : List Addr} {O : Ow} (r : Rep F H al O) {p : Addr} (hp : H p = none) : F p = none := Same.free r.sub hp
/-- a new list, a new tuple of data -/
theorem kx_lst {F H : Hp} {al : List Addr} {Q : VK} {vs : List V} {ds : List D} (rp : Rep F H al O) (q : Kx F H al R Q) (r : DVs F vs ds) (hl : ds.length ≤ sizeLine) (h : R (.d (.list ds)) O) : ∀ p, H p = none → Q (.ref p) (upd H p (.lst vs)) := fun p hp =>
  q _ _ _ _ _ (.d (.list ds)) (.laid rp hp) (rp.laid hp) (DV.lst_new (rp.freeF hp) hl r) h
theorem kx_tup {F H : Hp} {al : List Addr} {Q : VK} {vs : List V} {ds : List D} (rp : Rep F H al O) (q : Kx F H al R Q) (r : DVs F vs ds) (hl : ds.length ≤ sizeLine) (h : R (.d (.tuple ds)) O) : ∀ p, H p = none → Q (.ref p) (upd H p (.tup vs)) := fun p hp =>
  q _ _ _ _ _ (.d (.tuple ds)) (.laid rp hp) (rp.laid hp) (DV.tup_new (rp.freeF hp) hl r) h
theorem dx_tup {t : TA} (h : DA B t ρ O fun cs O1 => AllD cs fun ds => ds.length ≤ sizeLine ∧ R (.d (.tuple ds)) O1) : DX B (tTup t) ρ O R := fun F H al σ Q b rp e q =>
  h F H al σ _ b rp e fun F1 H1 al1 O1 vs cs x1 r1 c1 ⟨ds, ed, hl, hk⟩ => by
    subst ed
    have rr := CeRs.ds c1
    exact ⟨by rw [rr.length]; exact hl, kx_tup r1 (q.step x1) rr hl hk⟩
theorem dx_lst {t : TA} (h : DA B t ρ O fun cs O1 => AllD cs fun ds => ds.length ≤ sizeLine ∧ R (.d (.list ds)) O1) : DX B (tLst t) ρ O R := fun F H al σ Q b rp e q =>
  h F H al σ _ b rp e fun F1 H1 al1 O1 vs cs x1 r1 c1 ⟨ds, ed, hl, hk⟩ => by
    subst ed
    have rr := CeRs.ds c1
    exact ⟨by rw [rr.length]; exact hl, kx_lst r1 (q.step x1) rr hl hk⟩
/-! ### a new owned cell -/
/-- the address of a new object that is in no cell; cells that are dead may bear it: they are given another one -/
theorem Rep.own_new {F H : Hp} {al : List Addr} {O : Ow} {p : Addr} {o : HO} {b : Ob} (rp : Rep F H al O) (hp : H p = none) (hb : ObR F (upd H p o) (al ++ [p]) p b) : Rep F (upd H p o) (al ++ [p]) (O ++ [some b]) := by
  refine ⟨same_upd rp.sub hp, ?_, by simp [rp.len], fun a m => ?_, fun k b' e => ?_⟩
  · exact List.nodup_append.mpr ⟨rp.nd, by simp, fun x hx y hy z => by simp at hy; subst hy; subst z; exact rp.fresh hp hx⟩
  · rcases List.mem_append.mp m with m | m
    · exact upd_some (rp.there a m)
    · simp at m; subst m; rw [upd_same]; simp
  · by_cases hk : k < O.length
    · rw [List.getElem?_append_left hk] at e
      obtain ⟨a, h1, h2, h3⟩ := rp.own k b' e
      have hne : a ≠ p := fun z => rp.fresh hp (z ▸ List.mem_of_getElem? h1)
      refine ⟨a, by rw [List.getElem?_append_left (by rw [rp.len]; exact hk)]; exact h1, h2, h3.mono (Same.refl _) (fun k x q => ?_) fun o q => by rw [upd_ne hne]; exact q⟩
      rw [List.getElem?_append_left (List.getElem?_eq_some_iff.mp q).1]; exact q
    · have hk' : k = O.length := by
        have := (List.getElem?_eq_some_iff.mp e).1
        simp at this; omega
      subst hk'
      rw [List.getElem?_append_right (Nat.le_refl _)] at e
      simp at e
      subst e
      refine ⟨p, by rw [List.getElem?_append_right (by rw [rp.len]; exact Nat.le_refl _), rp.len]; simp, rp.freeF hp, hb⟩
theorem Ext.own_new {F H : Hp} {al : List Addr} {p : Addr} {o : HO} (hp : H p = none) : Ext F H al F (upd H p o) (al ++ [p]) :=
  ⟨Same.refl _, ⟨[p], rfl⟩, fun a u e _ => by rw [upd_ne (ne_of_none e hp)]; exact e, fun a e h m => by
    rcases List.mem_append.mp m with m | m
    · exact h m
    · simp at m; subst m; exact e hp, fun _ _ _ n => n⟩
end
end DL
/-! DL, part c: statements, targets, walks, comprehensions, loops, promises. -/
namespace DL
open PySem L2 PySem.Spec
set_option autoImplicit false
section
variable {B : Bs} {ρ : En} {O : Ow} {R : RX} {A : AE}
/-! ### statements -/
theorem KD.withNx {F H : Hp} {al : List Addr} {A : AE} {D : L2.Ends} (k : KD F H al A D) {N : En → Ow → Prop} {n : L2.St → Hp → Prop} (h : Ke F H al N n) : KD F H al { A with nx := N } { D with nx := n } := ⟨h, k.rt, k.bk, k.ct⟩
theorem KD.loop {F H : Hp} {al : List Addr} {A : AE} {D : L2.Ends} (k : KD F H al A D) {N : En → Ow → Prop} {n : L2.St → Hp → Prop} (h : Ke F H al N n) : KD F H al { A with nx := N, ct := N, bk := A.nx } { D with nx := n, ct := n, bk := D.nx } := ⟨h, k.rt, k.nx, h⟩
theorem ds_mono {t : TS} {A' : AE} (h : DS B t ρ O A') (nx : ∀ r o, A'.nx r o → A.nx r o) (rt : ∀ c o, A'.rt c o → A.rt c o) (bk : ∀ r o, A'.bk r o → A.bk r o) (ct : ∀ r o, A'.ct r o → A.ct r o) : DS B t ρ O A := fun F H al σ D b rp e k =>
  h F H al σ D b rp e ⟨fun F' H' al' O' s r x y z w => k.nx F' H' al' O' s r x y z (nx _ _ w), fun F' H' al' O' s r x y z w => k.rt F' H' al' O' s r x y z (rt _ _ w), fun F' H' al' O' s r x y z w => k.bk F' H' al' O' s r x y z (bk _ _ w), fun F' H' al' O' s r x y z w => k.ct F' H' al' O' s r x y z (ct _ _ w)⟩
theorem ds_next (h : A.nx ρ O) : DS B tNext ρ O A := fun F H al σ D b rp e k => k.nx F H al O σ ρ (.refl _ _ _) rp e h
theorem ds_break (h : A.bk ρ O) : DS B tBreak ρ O A := fun F H al σ D b rp e k => k.bk F H al O σ ρ (.refl _ _ _) rp e h
theorem ds_cont (h : A.ct ρ O) : DS B tCont ρ O A := fun F H al σ D b rp e k => k.ct F H al O σ ρ (.refl _ _ _) rp e h
theorem ds_seq {t u : TS} (h : DS B t ρ O { A with nx := fun ρ' O' => DS B u ρ' O' A }) : DS B (tSeq t u) ρ O A := fun F H al σ D b rp e k =>
  h F H al σ _ b rp e (k.withNx fun F' H' al' O' s r x y z w => w F' H' al' s D (B.cl b x) y z (k.step x))
/-- .. by what holds between the two -/
theorem ds_seqM {t u : TS} (M : En → Ow → Prop) (h : DS B t ρ O { A with nx := M }) (g : ∀ ρ' O', M ρ' O' → DS B u ρ' O' A) : DS B (tSeq t u) ρ O A :=
  ds_seq (ds_mono h g (fun _ _ z => z) (fun _ _ z => z) fun _ _ z => z)
def DG (B : Bs) (g : TG) (c : Ce) (ρ : En) (O : Ow) (R : En → Ow → Prop) : Prop := ∀ (F H : Hp) (al : List Addr) (v : V) (σ : L2.St) (Q : L2.St → Hp → Prop), B.p F H al → Rep F H al O → CeR F al v c → EnR F al σ ρ → Ke F H al R Q → g v σ H Q
theorem ds_asgG {te : TE} {g : TG} (h : DX B te ρ O fun c O' => DG B g c ρ O' A.nx) : DS B (tAsg te g) ρ O A := fun F H al σ D b rp e k =>
  h F H al σ _ b rp e fun F' H' al' O' v c x y z w => w F' H' al' v σ D.nx (B.cl b x) y z (e.ext x) (k.step x).nx
theorem dg_name {i : Nat} {c : Ce} {R : En → Ow → Prop} (h : R (ρ.set i (some c)) O) : DG B (gName i) c ρ O R := fun F H al v σ Q b rp cr e k => k F H al O _ _ (.refl _ _ _) rp (e.set i cr) h
theorem ds_asg {te : TE} {i : Nat} (h : DX B te ρ O fun c O' => A.nx (ρ.set i (some c)) O') : DS B (tAsg te (gName i)) ρ O A := ds_asgG (dx_mono h fun c O' z => dg_name z)
theorem ds_drop {te : TE} (h : DX B te ρ O fun _ O' => A.nx ρ O') : DS B (tDrop te) ρ O A := fun F H al σ D b rp e k =>
  h F H al σ _ b rp e fun F' H' al' O' v c x y z w => k.nx F' H' al' O' σ ρ x y (e.ext x) w
theorem ds_ret {te : TE} (h : DX B te ρ O A.rt) : DS B (tRet te) ρ O A := fun F H al σ D b rp e k => h F H al σ _ b rp e k.rt
theorem ds_retN (h : A.rt (.d .none) O) : DS B tRetN ρ O A := fun F H al σ D b rp e k => k.rt F H al O .non (.d .none) (.refl _ _ _) rp DV.non h
theorem ds_if {c : TT} {t u : TS} (h : DT B c ρ O fun b O' => Cs b (DS B t ρ O' A) (DS B u ρ O' A)) : DS B (tIfS c t u) ρ O A := fun F H al σ D b rp e k =>
  h F H al σ _ b rp e fun F1 H1 al1 O1 d x1 r1 hk => ite_of (fun z => hk.1 z F1 H1 al1 σ D (B.cl b x1) r1 (e.ext x1) (k.step x1)) fun z => hk.2 z F1 H1 al1 σ D (B.cl b x1) r1 (e.ext x1) (k.step x1)
theorem ds_aug {i : Nat} {te : TE} {ti : TIp} {c : Ce} (hi : ρ[i]? = some (some c)) (h : DX B te ρ O fun y O1 => D2 B ti c y O1 fun z O2 => A.nx (ρ.set i (some z)) O2) : DS B (tAug i te ti) ρ O A := fun F H al σ D b rp e k => by
  obtain ⟨v, hv, rv⟩ := e.get i c hi
  exact ⟨v, hv, h F H al σ _ b rp e fun F1 H1 al1 O1 u y x1 r1 c1 h1 => h1 F1 H1 al1 v u _ (B.cl b x1) r1 (rv.ext x1) c1 fun F2 H2 al2 O2 w z x2 r2 c2 h2 => k.nx _ _ _ _ _ _ (x1.trans x2) r2 (((e.ext x1).ext x2).set i c2) h2⟩
/-- while, by an invariant with a measure -/
theorem ds_while {c : TT} {tb : TS} (I : Nat → En → Ow → Prop) (m : Nat) (h0 : I m ρ O)
    (h : ∀ m ρ2 O2, I m ρ2 O2 → DT B c ρ2 O2 fun b O3 => Cs b (DS B tb ρ2 O3 { A with nx := fun ρ' O' => ∃ m', m' < m ∧ I m' ρ' O', ct := fun ρ' O' => ∃ m', m' < m ∧ I m' ρ' O', bk := A.nx }) (A.nx ρ2 O3)) : DS B (tWhile c tb) ρ O A := fun F H al σ D b rp e k => by
  refine ⟨fun m σ' H' => ∃ F' al' O' ρ', Ext F H al F' H' al' ∧ Rep F' H' al' O' ∧ EnR F' al' σ' ρ' ∧ I m ρ' O', ⟨m, F, al, O, ρ, .refl _ _ _, rp, e, h0⟩, ?_⟩
  rintro m σ1 H1 ⟨F1, al1, O1, ρ1, x1, r1, e1, i1⟩
  refine h m ρ1 O1 i1 F1 H1 al1 σ1 _ (B.cl b x1) r1 e1 fun F2 H2 al2 O2 d x2 r2 hk => ite_of (fun z => ?_) fun z => k.nx _ _ _ _ _ _ (x1.trans x2) r2 (e1.ext x2) (hk.2 z)
  refine ⟨fun σ' H' => ∃ m', m' < m ∧ ∃ F' al' O' ρ', Ext F H al F' H' al' ∧ Rep F' H' al' O' ∧ EnR F' al' σ' ρ' ∧ I m' ρ' O', fun σ' H' ⟨m', l, q⟩ => ⟨m', l, q⟩, ?_⟩
  refine hk.1 z F2 H2 al2 σ1 _ (B.cl (B.cl b x1) x2) r2 (e1.ext x2) ((k.step (x1.trans x2)).loop fun F' H' al' O' s r x y z' w => ?_)
  obtain ⟨m', l, w⟩ := w
  exact ⟨m', l, F', al', O', r, (x1.trans x2).trans x, y, z', w⟩
/-! ### targets of data -/
def setsV (σ : L2.St) : List (Nat × V) → L2.St
  | [] => σ
  | p :: r => setsV (σ.set p.1 (some p.2)) r
def setsD (ρ : En) : List (Nat × D) → En
  | [] => ρ
  | p :: r => setsD (ρ.set p.1 (some (.d p.2))) r
abbrev Ws (F : Hp) : List (Nat × V) → List (Nat × D) → Prop := Paired fun p q => p.1 = q.1 ∧ DV F p.2 q.2
def GD (g : TG) (x : D) (as : List (Nat × D)) : Prop := ∀ (F H : Hp) (v : V) (σ : L2.St) (Q : L2.St → Hp → Prop), Same F H → DV F v x → (∀ ws, Ws F ws as → Q (setsV σ ws) H) → g v σ H Q
theorem gd_name {i : Nat} {x : D} : GD (gName i) x [(i, x)] := fun F H v σ Q s r k => k [(i, v)] (.cons ⟨rfl, r⟩ .nil)
def GDs (g : TGs) (xs : List D) (as : List (Nat × D)) : Prop := ∀ (F H : Hp) (vs : List V) (σ : L2.St) (Q : L2.St → Hp → Prop), Same F H → DVs F vs xs → (∀ ws, Ws F ws as → Q (setsV σ ws) H) → g vs σ H Q
theorem setsV_app (σ : L2.St) : ∀ a b : List (Nat × V), setsV σ (a ++ b) = setsV (setsV σ a) b := fun a b => by
  induction a generalizing σ with
  | nil => rfl
  | cons p r ih => exact ih _
theorem Ws.app {F : Hp} {a : List (Nat × V)} {b : List (Nat × D)} {c : List (Nat × V)} {d : List (Nat × D)} (x : Ws F a b) (y : Ws F c d) : Ws F (a ++ c) (b ++ d) := by
  induction x with
  | nil => exact y
  | cons h _ ih => exact .cons h ih
theorem gds_nil : GDs gNil [] [] := fun F H vs σ Q s r k => by
  cases r
  exact ⟨rfl, k [] .nil⟩
theorem gds_cons {g : TG} {gs : TGs} {x : D} {xs : List D} {as bs : List (Nat × D)} (h : GD g x as) (hs : GDs gs xs bs) : GDs (gCons g gs) (x :: xs) (as ++ bs) := fun F H vs σ Q s r k => by
  cases r with
  | cons r1 r2 =>
    refine ⟨_, _, rfl, h F H _ σ _ s r1 fun ws hw => hs F H _ _ _ s r2 fun ws2 hw2 => ?_⟩
    rw [← setsV_app]
    exact k _ (Ws.app hw hw2)
theorem gd_tup {K : PySem.W.Frag} {n : Nat} {gs : TGs} {xs : List D} {as : List (Nat × D)} (hs : GDs gs xs as) (hn : xs.length = n) : GD (gTup K n gs) (.tuple xs) as := fun F H v σ Q s r k => by
  cases r with
  | tup q l r => exact ⟨_, _, rfl, SqT.of (s _ _ q), by rw [r.length, hn], hs F H _ σ Q s r k⟩
theorem EnR.sets {F : Hp} {al : List Addr} {ws : List (Nat × V)} {as : List (Nat × D)} {σ : L2.St} {ρ : En} (e : EnR F al σ ρ) (w : Ws F ws as) : EnR F al (setsV σ ws) (setsD ρ as) := by
  induction w generalizing σ ρ with
  | nil => exact e
  | @cons p q ps qs h r ih =>
    refine ih (σ := σ.set p.1 (some p.2)) (ρ := ρ.set q.1 (some (.d q.2))) ?_
    have h1 : p.1 = q.1 := h.1
    rw [h1]
    exact e.set q.1 (c := .d q.2) h.2
theorem DG.gd {g : TG} {x : D} {as : List (Nat × D)} {R : En → Ow → Prop} (h : GD g x as) (k : R (setsD ρ as) O) : DG B g (.d x) ρ O R := fun F H al v σ Q b rp cr e q => h F H v σ Q rp.sub cr fun ws hw => q F H al O _ _ (.refl _ _ _) rp (e.sets hw) k
/-! ### walks -/
structure WalkD (J : It) (F : Hp) (ds : List D) : Prop where
  stop : ∀ H, Same F H → J.stop ds.length H
  go : ∀ (i : Nat) (H : Hp), i < ds.length → Same F H → J.go i H
  yld : ∀ (i : Nat) (F' H : Hp) (x : V) (H' : Hp), i < ds.length → Same F F' → Same F' H → J.yld i H x H' →
    ∃ (F2 : Hp) (d : D), ds[i]? = some d ∧ Same F' F2 ∧ Same F2 H' ∧ Same H H' ∧ (∀ a, H a ≠ none → F' a = none → F2 a = none) ∧ DV F2 x d
theorem Rep.turn {F H F2 H2 : Hp} {al : List Addr} (rp : Rep F H al O) (s1 : Same F F2) (s2 : Same F2 H2) (s3 : Same H H2) (n : ∀ a, H a ≠ none → F a = none → F2 a = none) : Rep F2 H2 al O ∧ Ext F H al F2 H2 al := by
  refine ⟨⟨s2, rp.nd, rp.len, fun a m => ?_, fun k b e => ?_⟩, ⟨s1, ⟨[], by simp⟩, fun a o e _ => s3 a o e, fun _ _ h => h, fun a e _ f => n a e f⟩⟩
  · obtain ⟨o, q⟩ := Option.ne_none_iff_exists'.mp (rp.there a m)
    exact ne_none_of (s3 _ _ q)
  · obtain ⟨a, h1, h2, h3⟩ := rp.own k b e
    exact ⟨a, h1, n a h3.some h2, h3.mono s1 (fun _ _ q => q) fun o q => s3 _ _ q⟩
def DI (B : Bs) (wi : TI) (ρ : En) (O : Ow) (R : List D → Ow → Prop) : Prop := ∀ (F H : Hp) (al : List Addr) (σ : L2.St) (Rh : It → Hp → Prop), B.p F H al → Rep F H al O → EnR F al σ ρ →
  (∀ (F' H' : Hp) (al' : List Addr) (O' : Ow) (J : It) (ds : List D), Ext F H al F' H' al' → Rep F' H' al' O' → WalkD J F' ds → ds.length ≤ sizeLine → R ds O' → Rh J H') → wi σ H Rh
/-- the slots of a comprehension's own names are forgotten -/
def wipeE (ρ : En) : List Nat → En
  | [] => ρ
  | v :: vs => (wipeE ρ vs).set v none
theorem wipe_get {α : Type} (σ : List (Option α)) (w : List (Option α) → List Nat → List (Option α)) (w0 : ∀ σ, w σ [] = σ) (w1 : ∀ σ v vs, w σ (v :: vs) = (w σ vs).set v none) (vs : List Nat) (i : Nat) : (w σ vs)[i]? = if i ∈ vs then (σ[i]?).map fun _ => none else σ[i]? := by
  induction vs with
  | nil => rw [w0]; simp
  | cons v vs ih =>
    rw [w1, List.getElem?_set]
    by_cases h : v = i
    · subst h
      rw [if_pos rfl]
      have hl : (w σ vs).length = σ.length := by
        clear ih
        induction vs with
        | nil => rw [w0]
        | cons u us ih => rw [w1, List.length_set, ih]
      rw [hl, if_pos (List.mem_cons_self)]
      by_cases hv : v < σ.length
      · rw [if_pos hv, List.getElem?_eq_getElem hv]; rfl
      · rw [if_neg hv, List.getElem?_eq_none (by omega)]; rfl
    · rw [if_neg h, ih]
      by_cases hm : i ∈ vs
      · rw [if_pos hm, if_pos (List.mem_cons_of_mem _ hm)]
      · rw [if_neg hm, if_neg (by simp only [List.mem_cons, not_or]; exact ⟨fun z => h z.symm, hm⟩)]
theorem wipe_len {α : Type} (σ : List (Option α)) (w : List (Option α) → List Nat → List (Option α)) (w0 : ∀ σ, w σ [] = σ) (w1 : ∀ σ v vs, w σ (v :: vs) = (w σ vs).set v none) (vs : List Nat) : (w σ vs).length = σ.length := by
  induction vs with
  | nil => rw [w0]
  | cons u us ih => rw [w1, List.length_set, ih]
theorem EnR.wipe {F : Hp} {al : List Addr} {σ : L2.St} (e : EnR F al σ ρ) (vs : List Nat) : EnR F al (L2.wipe σ vs) (wipeE ρ vs) := by
  refine ⟨?_, fun i c h => ?_⟩
  · rw [wipe_len σ L2.wipe (fun _ => rfl) (fun _ _ _ => rfl), wipe_len ρ wipeE (fun _ => rfl) (fun _ _ _ => rfl), e.len]
  · rw [wipe_get ρ wipeE (fun _ => rfl) (fun _ _ _ => rfl)] at h
    rw [wipe_get σ L2.wipe (fun _ => rfl) (fun _ _ _ => rfl)]
    by_cases hm : i ∈ vs
    · rw [if_pos hm] at h
      cases q : ρ[i]? with
      | none => rw [q] at h; cases h
      | some z => rw [q] at h; cases h
    · rw [if_neg hm] at h ⊢
      exact e.get i c h
theorem wipe_sets (σ : L2.St) (vs : List Nat) : ∀ (ws : List (Nat × V)), (∀ p ∈ ws, p.1 ∈ vs) → ∀ τ : L2.St, L2.wipe τ vs = L2.wipe σ vs → L2.wipe (setsV τ ws) vs = L2.wipe σ vs
  | [], _, τ, h => h
  | p :: r, hp, τ, h => by
    refine wipe_sets σ vs r (fun q m => hp q (List.mem_cons_of_mem _ m)) _ ?_
    rw [← h]
    apply List.ext_getElem?
    intro i
    rw [wipe_get _ L2.wipe (fun _ => rfl) (fun _ _ _ => rfl), wipe_get _ L2.wipe (fun _ => rfl) (fun _ _ _ => rfl)]
    by_cases hm : i ∈ vs
    · rw [if_pos hm, if_pos hm, List.getElem?_set]
      by_cases q : p.1 = i
      · rw [if_pos q]
        by_cases l : p.1 < τ.length
        · rw [if_pos l, List.getElem?_eq_getElem (by rw [← q]; exact l)]; rfl
        · rw [if_neg l, List.getElem?_eq_none (by rw [← q]; omega)]
          try rfl
      · rw [if_neg q]
    · rw [if_neg hm, if_neg hm, List.getElem?_set_ne fun z => hm (by rw [← z]; exact hp p List.mem_cons_self)]
theorem wipe_wipe (σ : L2.St) (vs : List Nat) : L2.wipe (L2.wipe σ vs) vs = L2.wipe σ vs := by
  apply List.ext_getElem?
  intro i
  rw [wipe_get _ L2.wipe (fun _ => rfl) (fun _ _ _ => rfl), wipe_get σ L2.wipe (fun _ => rfl) (fun _ _ _ => rfl)]
  by_cases hm : i ∈ vs
  · rw [if_pos hm, if_pos hm, Option.map_map]; rfl
  · rw [if_neg hm, if_neg hm]
theorem Ws.mem {F : Hp} {vs : List Nat} {ws : List (Nat × V)} {as : List (Nat × D)} (w : Ws F ws as) (h : ∀ p ∈ as, p.1 ∈ vs) : ∀ p ∈ ws, p.1 ∈ vs := by
  induction w with
  | nil => intro p m; cases m
  | cons a b ih =>
    intro p m
    rcases List.mem_cons.mp m with e | m
    · subst e; rw [a.1]; exact h _ List.mem_cons_self
    · exact ih (fun q m => h q (List.mem_cons_of_mem _ m)) p m
/-- a value that is data -/
def IsD (c : Ce) (P : D → Prop) : Prop := ∃ x, c = .d x ∧ P x
theorem isD {x : D} {P : D → Prop} (h : P x) : IsD (.d x) P := ⟨x, rfl, h⟩
/-- [te for g in wi if tt] -/
theorem dx_lc {wi : TI} {g : TG} {tt : TT} {te : TE} {vs : List Nat} (h : DI B wi ρ O fun ds O1 => ∃ I : Nat → List D → Ow → Prop, I 0 [] O1 ∧
      (∀ (i : Nat) (d : D) (acc : List D) (O2 : Ow), ds[i]? = some d → acc.length ≤ i → I i acc O2 → ∃ as, GD g d as ∧ (∀ p ∈ as, p.1 ∈ vs) ∧
        DT Bs.any tt (setsD (wipeE ρ vs) as) O2 fun b O3 => Cs b (DX Bs.any te (setsD (wipeE ρ vs) as) O3 fun c O4 => IsD c fun x => I (i + 1) (acc ++ [x]) O4) (I (i + 1) acc O3)) ∧
      (∀ (acc : List D) (O2 : Ow), acc.length ≤ ds.length → I ds.length acc O2 → R (.d (.list acc)) O2)) : DX B (tLc wi g tt te vs) ρ O R := fun F H al σ Q b rp e k => by
  refine h F H al σ _ b rp e fun F1 H1 al1 O1 J ds x1 r1 w hlen ⟨I, i0, step, fin⟩ => ?_
  intro Dl hD
  have e1 := e.ext x1
  refine ⟨fun i m H' => m = ds.length - i ∧ i ≤ ds.length ∧ ∃ F' al' O' acc accV, Ext F1 H1 al1 F' H' al' ∧ Rep F' H' al' O' ∧ DVs F' accV acc ∧ H' Dl = some (.lst accV) ∧ F' Dl = none ∧ Dl ∉ al' ∧ acc.length ≤ i ∧ I i acc O',
    ⟨ds.length, by simp, Nat.zero_le _, F1, al1, O1, [], [], ?_, r1.beside hD, .nil, upd_same, r1.freeF hD, r1.fresh hD, Nat.le_refl _, i0⟩, ?_⟩
  · exact ⟨Same.refl _, ⟨[], by simp⟩, fun a o q _ => by rw [upd_ne (ne_of_none q hD)]; exact q, fun _ _ z => z, fun _ _ _ z => z⟩
  rintro i m H' ⟨rfl, hi, F', al', O', acc, accV, x2, r2, dv, hDl, hF, hal, hai, inv⟩
  by_cases hlt : i < ds.length
  · right
    refine ⟨w.go i H' hlt (x2.sub.trans r2.sub), fun H'' => i + 1 ≤ ds.length ∧ ∃ F' al' O' acc accV, Ext F1 H1 al1 F' H'' al' ∧ Rep F' H'' al' O' ∧ DVs F' accV acc ∧ H'' Dl = some (.lst accV) ∧ F' Dl = none ∧ Dl ∉ al' ∧ acc.length ≤ i + 1 ∧ I (i + 1) acc O',
      fun H'' q => ⟨ds.length - (i + 1), by omega, rfl, q⟩, fun x H3 hy => ?_⟩
    obtain ⟨F3, d, hd, s1, s2, s3, n3, dx⟩ := w.yld i F' H' x H3 hlt x2.sub r2.sub hy
    obtain ⟨r3, x3⟩ := r2.turn s1 s2 s3 n3
    obtain ⟨as, hg, hvs, ht⟩ := step i d acc O' hd hai inv
    refine hg F3 H3 x _ _ s2 dx fun ws hw => ⟨wipe_sets σ vs ws (hw.mem hvs) _ (wipe_wipe σ vs), ?_⟩
    have e3 : EnR F3 al' (setsV (L2.wipe σ vs) ws) (setsD (wipeE ρ vs) as) := (((e1.ext x2).ext x3).wipe vs).sets hw
    have hD3 := s3 _ _ hDl
    have hF3 : F3 Dl = none := n3 Dl (ne_none_of hDl) hF
    refine ht F3 H3 al' _ _ trivial r3 e3 fun F4 H4 al4 O4 bb x4 r4 hb => ite_of (fun z => ?_) fun z => ?_
    · refine hb.1 z F4 H4 al4 _ _ trivial r4 (e3.ext x4) fun F5 H5 al5 O5 y c x5 r5 c5 ⟨dd, ec, inv5⟩ => ?_
      subst ec
      have x45 := x4.trans x5
      have hD5 := x45.keep Dl _ hD3 hal
      have hal5 := x45.out Dl (ne_none_of hD3) hal
      have hF5 := x45.noF Dl (ne_none_of hD3) hal hF3
      have dv5 : DVs F5 accV acc := (dv.mono s1).mono x45.sub
      refine ⟨accV, hD5, ?_, hlt, F5, al5, O5, acc ++ [dd], accV ++ [y], ?_, r5.poke hal5 hF5, dv5.append (.cons c5 .nil), upd_same, hF5, hal5, by simp; omega, inv5⟩
      · have := dv.length; omega
      · have xx := (x2.trans x3).trans x45
        exact ⟨xx.sub, xx.grow, fun a o q m => by rw [upd_ne (ne_of_none q hD)]; exact xx.keep a o q m, xx.out, xx.noF⟩
    · exact ⟨hlt, F4, al4, O4, acc, accV, (x2.trans x3).trans x4, r4, (dv.mono s1).mono x4.sub, x4.keep Dl _ hD3 hal, x4.noF Dl (ne_none_of hD3) hal hF3, x4.out Dl (ne_none_of hD3) hal, by omega, hb.2 z⟩
  · left
    have hie : i = ds.length := by omega
    subst hie
    refine ⟨w.stop H' (x2.sub.trans r2.sub), k (upd F' Dl (.lst accV)) H' al' O' (.ref Dl) (.d (.list acc)) ?_ (r2.freeze hal hF hDl) ?_ (fin acc O' hai inv)⟩
    · have xx := x1.trans x2
      have hHD : H Dl = none := by
        cases q : H Dl with
        | none => rfl
        | some o =>
          by_cases m : Dl ∈ al
          · obtain ⟨be, rfl⟩ := xx.grow
            exact absurd (List.mem_append_left _ m) hal
          · rw [x1.keep _ _ q m] at hD; cases hD
      refine ⟨fun a o q => ?_, xx.grow, xx.keep, xx.out, fun a q m n => ?_⟩
      · have : a ≠ Dl := fun z => by subst z; have q' := rp.sub _ _ q; rw [hHD] at q'; cases q'
        rw [upd_ne this]; exact xx.sub a o q
      · have : a ≠ Dl := fun z => by subst z; exact q hHD
        rw [upd_ne this]; exact xx.noF a q m n
    · exact DV.lst upd_same (by omega) (dv.mono (same_upd (Same.refl _) hF))
/-- for g in wi: tb -/
theorem ds_for {wi : TI} {g : TG} {tb : TS} (h : DI B wi ρ O fun ds O1 => ∃ I : Nat → En → Ow → Prop, I 0 ρ O1 ∧
      (∀ (i : Nat) (d : D) (ρ2 : En) (O2 : Ow), ds[i]? = some d → I i ρ2 O2 → ∃ as, GD g d as ∧ DS B tb (setsD ρ2 as) O2 { A with nx := I (i + 1), ct := I (i + 1), bk := A.nx }) ∧
      (∀ (ρ2 : En) (O2 : Ow), I ds.length ρ2 O2 → A.nx ρ2 O2)) : DS B (tFor wi g tb) ρ O A := fun F H al σ D0 b rp e k => by
  refine h F H al σ _ b rp e fun F1 H1 al1 O1 J ds x1 r1 w hlen ⟨I, i0, step, fin⟩ => ?_
  refine ⟨fun i m σ' H' => m = ds.length - i ∧ i ≤ ds.length ∧ ∃ F' al' O' ρ', Ext F1 H1 al1 F' H' al' ∧ Rep F' H' al' O' ∧ EnR F' al' σ' ρ' ∧ I i ρ' O',
    ⟨ds.length, by simp, Nat.zero_le _, F1, al1, O1, ρ, .refl _ _ _, r1, e.ext x1, i0⟩, ?_⟩
  rintro i m σ' H' ⟨rfl, hi, F', al', O', ρ', x2, r2, e2, inv⟩
  by_cases hlt : i < ds.length
  · right
    refine ⟨w.go i H' hlt (x2.sub.trans r2.sub), fun σ'' H'' => i + 1 ≤ ds.length ∧ ∃ F' al' O' ρ', Ext F1 H1 al1 F' H'' al' ∧ Rep F' H'' al' O' ∧ EnR F' al' σ'' ρ' ∧ I (i + 1) ρ' O',
      fun σ'' H'' q => ⟨ds.length - (i + 1), by omega, rfl, q⟩, fun x H3 hy => ?_⟩
    obtain ⟨F3, d, hd, s1, s2, s3, n3, dx⟩ := w.yld i F' H' x H3 hlt x2.sub r2.sub hy
    obtain ⟨r3, x3⟩ := r2.turn s1 s2 s3 n3
    obtain ⟨as, hg, hb⟩ := step i d ρ' O' hd inv
    refine hg F3 H3 x _ _ s2 dx fun ws hw => ?_
    have x123 := (x1.trans x2).trans x3
    refine hb F3 H3 al' _ _ (B.cl b x123) r3 ((e2.ext x3).sets hw) ((k.step x123).loop fun F4 H4 al4 O4 s r x4 r4 e4 i4 => ?_)
    exact ⟨hlt, F4, al4, O4, r, (x2.trans x3).trans x4, r4, e4, i4⟩
  · left
    have hie : i = ds.length := by omega
    subst hie
    exact ⟨w.stop H' (x2.sub.trans r2.sub), k.nx F' H' al' O' σ' ρ' (x1.trans x2) r2 e2 (fin ρ' O' inv)⟩
end
end DL
/-! DL, part d: promises; operations by values; walks. -/
namespace DL
open PySem L2 PySem.Spec
set_option autoImplicit false
/-! ### promises -/
def XdR (F H : Hp) (d : Option Addr) (fs : List (Str × D)) : Prop := fs = [] ∨ ∃ (a : Addr) (ws : List (Str × V)), d = some a ∧ H a = some (.xd ws) ∧ Paired (fun (p : Str × V) (q : Str × D) => p.1 = q.1 ∧ DV F p.2 q.2) ws fs
abbrev XP := Value → List (Str × D) → Ow → Prop
abbrev ASp := List Ce → Ow → RX → XP → Prop
def Kxx (F H : Hp) (al : List Addr) (X : XP) (E : XK) : Prop := ∀ (F' H' : Hp) (al' : List Addr) (O' : Ow) (cls : Value) (d : Option Addr) (fs : List (Str × D)), Ext F H al F' H' al' → Rep F' H' al' O' → XdR F' H' d fs → X cls fs O' → E cls d H'
def spA (n : Nat) (S : ASp) : Sp := fun vs H Q E => vs.length = n ∧ ∃ (F : Hp) (al : List Addr) (O : Ow) (cs : List Ce) (R : RX) (X : XP), Rep F H al O ∧ CeRs F al vs cs ∧ S cs O R X ∧ Kx F H al R Q ∧ Kxx F H al X E
def EX (B : Bs) (X : XP) (E : XK) : Prop := ∀ (F H : Hp) (al : List Addr) (O : Ow) (cls : Value) (d : Option Addr) (fs : List (Str × D)), B.p F H al → Rep F H al O → XdR F H d fs → X cls fs O → E cls d H
abbrev X0 : XP := fun _ _ _ => False
theorem ex0 {B : Bs} {E : XK} : EX B X0 E := fun _ _ _ _ _ _ _ _ _ _ z => z.elim
theorem CeRs.length {F : Hp} {al : List Addr} {vs : List V} {cs : List Ce} (h : CeRs F al vs cs) : vs.length = cs.length := Paired.length h
section
variable {B : Bs} {ρ : En} {O : Ow} {R : RX} {A : AE}
theorem dx_callX {n : Nat} {S : ASp} {X : XP} {E : XK} {t : TA} (hE : EX B X E) (h : DA B t ρ O fun cs O1 => cs.length = n ∧ S cs O1 R X) : DX B (tCall (spA n S) [] E t) ρ O R := fun F H al σ Q b rp e q =>
  h F H al σ _ b rp e fun F1 H1 al1 O1 vs cs x1 r1 c1 ⟨hn, hs⟩ => by
    show spA n S (vs ++ []) H1 Q E
    rw [List.append_nil]
    exact ⟨by rw [c1.length, hn], F1, al1, O1, cs, R, X, r1, c1, hs, q.step x1, fun F' H' al' O' cls d fs x r z w => hE F' H' al' O' cls d fs (B.cl (B.cl b x1) x) r z w⟩
theorem dx_call {n : Nat} {S : ASp} {E : XK} {t : TA} (h : DA B t ρ O fun cs O1 => cs.length = n ∧ S cs O1 R X0) : DX B (tCall (spA n S) [] E t) ρ O R := dx_callX ex0 h
def startE (N : List Str) (cs : List Ce) : En := cs.map some ++ List.replicate (N.length - cs.length) none
theorem enr_start {F : Hp} {al : List Addr} {N : List Str} {vs : List V} {cs : List Ce} (h : CeRs F al vs cs) : EnR F al (L2.start N vs) (startE N cs) := by
  have hl := h.length
  refine ⟨by unfold L2.start startE; simp [hl], fun i c e => ?_⟩
  unfold startE at e
  unfold L2.start
  by_cases hi : i < cs.length
  · rw [List.getElem?_append_left (by simpa using hi), List.getElem?_map] at e
    rw [List.getElem?_append_left (by rw [List.length_map, hl]; exact hi), List.getElem?_map]
    cases q : cs[i]? with
    | none => rw [q] at e; cases e
    | some c' =>
      rw [q] at e
      cases e
      clear hl hi
      induction h generalizing i with
      | nil => simp at q
      | @cons a b as bs r t ih =>
        cases i with
        | zero =>
          simp at q
          subst q
          exact ⟨a, rfl, r⟩
        | succ i =>
          obtain ⟨v, h1, h2⟩ := ih i (by simpa using q)
          exact ⟨v, by simpa using h1, h2⟩
  · rw [List.getElem?_append_right (by simpa using hi), List.getElem?_replicate] at e
    split at e <;> cases e
/-- a def's body -/
theorem body_of {n : Nat} {N : List Str} {S : ASp} {t : XK → TS} (h : ∀ (B : Bs) (cs : List Ce) (O : Ow) (R : RX) (X : XP) (E : XK), EX B X E → cs.length = n → S cs O R X → DS B (t E) (startE N cs) O { nx := fun _ O' => R (.d .none) O', rt := R })
    (vs : List V) (H : Hp) (Q : VK) (E : XK) (hs : spA n S vs H Q E) : t E { nx := fun _ H' => Q .non H', rt := Q } (L2.start N vs) H := by
  obtain ⟨hn, F, al, O, cs, R, X, rp, cr, s, kq, kx⟩ := hs
  refine h (Bs.from F H al) cs O R X E (fun F' H' al' O' cls d fs x r z w => kx F' H' al' O' cls d fs x r z w) (by rw [← cr.length, hn]) s F H al _ _ (Ext.refl _ _ _) rp (enr_start cr) ⟨fun F' H' al' O' σ' ρ' x r e w => kq F' H' al' O' .non (.d .none) x r DV.non w, kq, fun F' H' al' O' σ' ρ' x r e w => w.elim, fun F' H' al' O' σ' ρ' x r e w => w.elim⟩
theorem spA_len {n : Nat} {S : ASp} {ps : List Str} (hp : ps.length = n) (vs : List V) (H : Hp) (Q : VK) (E : XK) (h : spA n S vs H Q E) : vs.length = ps.length := by rw [h.1, hp]
/-! ### views -/
def Vw (O : Ow) (c : Ce) (x : D) : Prop := c = .d x ∨ ∃ (k : Nat) (ds : List D), c = .o k ∧ O[k]? = some (some (.lst ds)) ∧ ds.length ≤ sizeLine ∧ x = .list ds
theorem Vw.d {x : D} : Vw O (.d x) x := .inl rfl
theorem Vw.o {k : Nat} {ds : List D} (h : O[k]? = some (some (.lst ds))) (hl : ds.length ≤ sizeLine) : Vw O (.o k) (.list ds) := .inr ⟨k, ds, rfl, h, hl, rfl⟩
theorem Vw.dv {F H : Hp} {al : List Addr} {v : V} {c : Ce} {x : D} (rp : Rep F H al O) (cr : CeR F al v c) (w : Vw O c x) : DV H v x := by
  rcases w with rfl | ⟨k, ds, rfl, h, hl, rfl⟩
  · exact DV.mono rp.sub cr
  · obtain ⟨a, h1, h2⟩ := cr
    obtain ⟨a', g1, g2, vs, g3, g4⟩ := rp.own k _ h
    rw [h1] at g1
    cases g1
    subst h2
    exact .lst g3 hl (g4.mono rp.sub)
theorem Vw.list {F H : Hp} {al : List Addr} {v : V} {c : Ce} {ds : List D} (rp : Rep F H al O) (cr : CeR F al v c) (w : Vw O c (.list ds)) : ∃ (a : Addr) (vs : List V), v = .ref a ∧ H a = some (.lst vs) ∧ DVs F vs ds ∧ ds.length ≤ sizeLine := by
  rcases w with rfl | ⟨k, ds', rfl, h, hl, e⟩
  · cases cr with
    | lst q l r => exact ⟨_, _, rfl, rp.sub _ _ q, r, l⟩
  · cases e
    obtain ⟨a, h1, h2⟩ := cr
    obtain ⟨a', g1, g2, vs, g3, g4⟩ := rp.own k _ h
    rw [h1] at g1
    cases g1
    exact ⟨a, vs, h2, g3, g4, hl⟩
theorem dv_tup {F H : Hp} {v : V} {ds : List D} (s : Same F H) (cr : DV F v (.tuple ds)) : ∃ (a : Addr) (vs : List V), v = .ref a ∧ H a = some (.tup vs) ∧ DVs F vs ds ∧ ds.length ≤ sizeLine := by
  cases cr with
  | tup q l r => exact ⟨_, _, rfl, s _ _ q, r, l⟩
theorem kx_here {F H : Hp} {al : List Addr} {Q : VK} {v : V} {c : Ce} (rp : Rep F H al O) (q : Kx F H al R Q) (cr : CeR F al v c) (h : R c O) : Q v H := q F H al O v c (.refl _ _ _) rp cr h
/-! ### operators -/
theorem d2_or {r r' : R2} {x y : Ce} (h : D2 B r x y O R) : D2 B (fun x y H Q => r x y H Q ∨ r' x y H Q) x y O R := fun F H al v u Q b rp cx cy q => .inl (h F H al v u Q b rp cx cy q)
theorem d2_or' {r r' : R2} {x y : Ce} (h : D2 B r' x y O R) : D2 B (fun x y H Q => r x y H Q ∨ r' x y H Q) x y O R := fun F H al v u Q b rp cx cy q => .inr (h F H al v u Q b rp cx cy q)
theorem d2_I0 {g : Int → Int → V} {x y : Ce} {i j : Int} {d : D} (hx : x = .d (.int i)) (hy : y = .d (.int j)) (hd : ∀ F, DV F (g i j) d) (k : R (.d d) O) : D2 B (rI0 g) x y O R := fun F H al v u Q b rp cx cy q => by
  subst hx hy
  cases cx
  cases cy
  exact ⟨i, j, rfl, rfl, kx_here rp q (c := .d d) (hd F) k⟩
theorem d2_I {C : Int → Int → Prop} {g : Int → Int → V} {x y : Ce} {i j : Int} {d : D} (hx : x = .d (.int i)) (hy : y = .d (.int j)) (hc : C i j) (hd : ∀ F, DV F (g i j) d) (k : R (.d d) O) : D2 B (rI C g) x y O R := fun F H al v u Q b rp cx cy q => by
  subst hx hy
  cases cx
  cases cy
  exact ⟨i, j, rfl, rfl, hc, kx_here rp q (c := .d d) (hd F) k⟩
/-- + -/
def rAddA (K : PySem.W.Frag) : R2 := fun x y H Q => rI0 (fun i j => .int (i + j)) x y H Q ∨ (fun x y H Q => (fun x y H Q => ∃ i j, x = .str i ∧ y = .str j ∧ i.length + j.length ≤ sizeLine ∧ Q (.str (i ++ j)) H) x y H Q ∨ (fun x y H Q => rCat x y H Q ∨ rCatA K x y H Q) x y H Q) x y H Q
theorem op_addA {X : Cx} : OpR X (binaryOp .Add) (rAddA X.K) := op_add.or (op_add_str.or (op_cat.or op_catA))
theorem d2_add {K : PySem.W.Frag} {x y : Ce} {i j : Int} (hx : x = .d (.int i)) (hy : y = .d (.int j)) (k : R (.d (.int (i + j))) O) : D2 B (rAddA K) x y O R := d2_or (d2_I0 hx hy (fun _ => .int _) k)
theorem d2_addS {K : PySem.W.Frag} {x y : Ce} {i j : Str} (hx : x = .d (.str i)) (hy : y = .d (.str j)) (hl : i.length + j.length ≤ sizeLine) (k : R (.d (.str (i ++ j))) O) : D2 B (rAddA K) x y O R := d2_or' (d2_or fun F H al v u Q b rp cx cy q => by
  subst hx hy
  cases cx
  cases cy
  exact ⟨i, j, rfl, rfl, hl, kx_here rp q (c := .d (.str (i ++ j))) (DV.str _ (by rw [Str.length_append]; exact hl)) k⟩)
theorem d2_addL {K : PySem.W.Frag} {x y : Ce} {as bs : List D} (hx : Vw O x (.list as)) (hy : Vw O y (.list bs)) (hl : as.length + bs.length ≤ sizeLine) (k : R (.d (.list (as ++ bs))) O) : D2 B (rAddA K) x y O R := d2_or' (d2_or' (d2_or fun F H al v u Q b rp cx cy q => by
  obtain ⟨a, vs, rfl, h1, r1, l1⟩ := Vw.list rp cx hx
  obtain ⟨b', ws, rfl, h2, r2, l2⟩ := Vw.list rp cy hy
  refine ⟨a, b', vs, ws, rfl, rfl, h1, h2, by rw [r1.length, r2.length]; exact hl, kx_lst rp q (r1.append r2) (by rw [List.length_append]; exact hl) k⟩))
theorem d2_addT {K : PySem.W.Frag} {x y : Ce} {as bs : List D} (hx : x = .d (.tuple as)) (hy : y = .d (.tuple bs)) (hl : as.length + bs.length ≤ sizeLine) (k : R (.d (.tuple (as ++ bs))) O) : D2 B (rAddA K) x y O R := d2_or' (d2_or' (d2_or' fun F H al v u Q b rp cx cy q => by
  subst hx hy
  obtain ⟨a, vs, rfl, h1, r1, l1⟩ := dv_tup rp.sub cx
  obtain ⟨b', ws, rfl, h2, r2, l2⟩ := dv_tup rp.sub cy
  refine ⟨a, b', vs, ws, rfl, rfl, SqT.of h1, SqT.of h2, by rw [r1.length, r2.length]; exact hl, fun e => ?_, fun e e2 => ?_, fun e e2 => kx_tup rp q (r1.append r2) (by rw [List.length_append]; exact hl) k⟩
  · subst e
    cases r1
    exact kx_here rp q (c := .d (.tuple bs)) cy k
  · subst e2
    cases r2
    exact kx_here rp q (c := .d (.tuple as)) cx (by rw [List.append_nil] at k; exact k)))
/-- - -/
theorem d2_sub {x y : Ce} {i j : Int} (hx : x = .d (.int i)) (hy : y = .d (.int j)) (k : R (.d (.int (i - j))) O) : D2 B (rI0 fun i j => .int (i - j)) x y O R := d2_I0 hx hy (fun _ => .int _) k
/-- * -/
def rMulA : R2 := fun x y H Q => rI CMul (fun i j => .int (i * j)) x y H Q ∨ (fun x y H Q => rI CMulW (fun i j => .int (i * j)) x y H Q ∨ rRep x y H Q) x y H Q
theorem op_mulA {X : Cx} : OpR X (binaryOp .Mult) rMulA := op_mul.or (op_mulW.or op_rep)
theorem d2_mul {x y : Ce} {i j : Int} (hx : x = .d (.int i)) (hy : y = .d (.int j)) (hc : CMul i j) (k : R (.d (.int (i * j))) O) : D2 B rMulA x y O R := d2_or (d2_I hx hy hc (fun _ => .int _) k)
theorem d2_mulW {x y : Ce} {i j : Int} (hx : x = .d (.int i)) (hy : y = .d (.int j)) (hc : CMulW i j) (k : R (.d (.int (i * j))) O) : D2 B rMulA x y O R := d2_or' (d2_or (d2_I hx hy hc (fun _ => .int _) k))
theorem dvs_rep {F : Hp} {vs : List V} {ds : List D} (r : DVs F vs ds) : ∀ n, DVs F (List.replicate n vs).flatten (List.replicate n ds).flatten
  | 0 => .nil
  | n + 1 => by
    rw [List.replicate_succ, List.replicate_succ, List.flatten_cons, List.flatten_cons]
    exact r.append (dvs_rep r n)
theorem d2_rep {x y : Ce} {ds : List D} {n : Int} (hx : Vw O x (.list ds)) (hy : y = .d (.int n)) (h1 : -(2 ^ 63) ≤ n) (h2 : n < 2 ^ 63) (hl : ds.length * n.toNat ≤ sizeLine) (k : R (.d (.list (List.replicate n.toNat ds).flatten)) O) : D2 B rMulA x y O R := d2_or' (d2_or' fun F H al v u Q b rp cx cy q => by
  subst hy
  obtain ⟨a, vs, rfl, g1, r1, l1⟩ := Vw.list rp cx hx
  cases cy
  refine ⟨a, n, vs, rfl, rfl, g1, h1, h2, by rw [r1.length]; exact hl, kx_lst rp q (dvs_rep r1 _) ?_ k⟩
  rw [List.length_flatten, List.map_replicate, List.sum_replicate_nat, Nat.mul_comm]
  exact hl)
/-- // and % -/
def rFdA : R2 := fun x y H Q => rI CDiv (fun i j => .int (i / j)) x y H Q ∨ rI CDivW (fun i j => .int (i / j)) x y H Q
theorem op_fdA {X : Cx} : OpR X (binaryOp .FloorDiv) rFdA := op_fdiv.or op_fdivW
theorem d2_fd {x y : Ce} {i j : Int} (hx : x = .d (.int i)) (hy : y = .d (.int j)) (hc : CDiv i j) (k : R (.d (.int (i / j))) O) : D2 B rFdA x y O R := d2_or (d2_I hx hy hc (fun _ => .int _) k)
theorem d2_fdW {x y : Ce} {i j : Int} (hx : x = .d (.int i)) (hy : y = .d (.int j)) (hc : CDivW i j) (k : R (.d (.int (i / j))) O) : D2 B rFdA x y O R := d2_or' (d2_I hx hy hc (fun _ => .int _) k)
theorem d2_mod {x y : Ce} {i j : Int} (hx : x = .d (.int i)) (hy : y = .d (.int j)) (hc : 0 < j) (k : R (.d (.int (i % j))) O) : D2 B (rI (fun _ j => 0 < j) fun i j => .int (i % j)) x y O R := d2_I hx hy hc (fun _ => .int _) k
theorem d2_pow {x y : Ce} {i j : Int} (hx : x = .d (.int i)) (hy : y = .d (.int j)) (hc : CPow i j) (k : R (.d (.int (i ^ j.toNat))) O) : D2 B (rI CPow fun i j => .int (i ^ j.toNat)) x y O R := d2_I hx hy hc (fun _ => .int _) k
theorem d2_shl {x y : Ce} {i j : Int} (hx : x = .d (.int i)) (hy : y = .d (.int j)) (hc : CPow i j) (k : R (.d (.int (i * 2 ^ j.toNat))) O) : D2 B (rI CPow fun i j => .int (i * 2 ^ j.toNat)) x y O R := d2_I hx hy hc (fun _ => .int _) k
theorem d2_shr {x y : Ce} {i j : Int} (hx : x = .d (.int i)) (hy : y = .d (.int j)) (hc : 0 ≤ j) (k : R (.d (.int (i / 2 ^ j.toNat))) O) : D2 B (rI (fun _ j => 0 ≤ j) fun i j => .int (i / 2 ^ j.toNat)) x y O R := d2_I hx hy hc (fun _ => .int _) k
theorem d2_band {x y : Ce} {i j : Int} (hx : x = .d (.int i)) (hy : y = .d (.int j)) (k : R (.d (.int (Builtin.bitAnd i j))) O) : D2 B (rI0 fun i j => .int (Builtin.bitAnd i j)) x y O R := d2_I0 hx hy (fun _ => .int _) k
theorem d2_lt {x y : Ce} {i j : Int} (hx : x = .d (.int i)) (hy : y = .d (.int j)) (k : R (.d (.bool (decide (i < j)))) O) : D2 B (rI0 fun i j => .bl (decide (i < j))) x y O R := d2_I0 hx hy (fun _ => .bl _) k
theorem d2_le {x y : Ce} {i j : Int} (hx : x = .d (.int i)) (hy : y = .d (.int j)) (k : R (.d (.bool (decide (i ≤ j)))) O) : D2 B (rI0 fun i j => .bl (decide (i ≤ j))) x y O R := d2_I0 hx hy (fun _ => .bl _) k
theorem d2_gt {x y : Ce} {i j : Int} (hx : x = .d (.int i)) (hy : y = .d (.int j)) (k : R (.d (.bool (decide (j < i)))) O) : D2 B (rI0 fun i j => .bl (decide (j < i))) x y O R := d2_I0 hx hy (fun _ => .bl _) k
theorem d2_ge {x y : Ce} {i j : Int} (hx : x = .d (.int i)) (hy : y = .d (.int j)) (k : R (.d (.bool (decide (j ≤ i)))) O) : D2 B (rI0 fun i j => .bl (decide (j ≤ i))) x y O R := d2_I0 hx hy (fun _ => .bl _) k
/-- == of data -/
theorem d2_eq {K : PySem.W.Frag} {x y : Ce} {d e : D} (hx : Vw O x d) (hy : Vw O y e) (sd : SeqAt.shaped d = true) (se : SeqAt.shaped e = true) (k : R (.d (.bool (PyData.eqv d e))) O) : D2 B (rEqD K) x y O R := fun F H al v u Q b rp cx cy q =>
  ⟨d, e, (hx.dv rp cx).dp, (hy.dv rp cy).dp, sd, se, kx_here rp q (c := .d (.bool (PyData.eqv d e))) (DV.bl _) k⟩
theorem d2_ne {K : PySem.W.Frag} {x y : Ce} {d e : D} (hx : Vw O x d) (hy : Vw O y e) (sd : SeqAt.shaped d = true) (se : SeqAt.shaped e = true) (k : R (.d (.bool (!PyData.eqv d e))) O) : D2 B (rNeD K) x y O R := fun F H al v u Q b rp cx cy q =>
  ⟨d, e, (hx.dv rp cx).dp, (hy.dv rp cy).dp, sd, se, kx_here rp q (c := .d (.bool (!PyData.eqv d e))) (DV.bl _) k⟩
/-- == of scalars, of data -/
def rEqA (K : PySem.W.Frag) : R2 := fun x y H Q => rEq x y H Q ∨ rEqD K x y H Q
theorem op_eqA {X : Cx} (hu : X.A.units + 64 < cLine) : OpR X (compareOp .Eq) (rEqA X.K) := op_eq.or (op_eqD hu)
def rNeA (K : PySem.W.Frag) : R2 := fun x y H Q => rNe x y H Q ∨ rNeD K x y H Q
theorem op_neA {X : Cx} (hu : X.A.units + 64 < cLine) : OpR X (compareOp .NotEq) (rNeA X.K) := op_ne.or (op_neD hu)
theorem d2_eqI {K : PySem.W.Frag} {x y : Ce} {i j : Int} (hx : x = .d (.int i)) (hy : y = .d (.int j)) (k : R (.d (.bool (decide (i = j)))) O) : D2 B (rEqA K) x y O R := d2_or fun F H al v u Q b rp cx cy q => by
  subst hx hy
  cases cx
  cases cy
  have e : decide (V.int i = V.int j) = decide (i = j) := by by_cases h : i = j <;> simp [h]
  refine ⟨rfl, ?_⟩
  rw [e]
  exact kx_here rp q (c := .d (.bool (decide (i = j)))) (DV.bl _) k
theorem d2_eqS {K : PySem.W.Frag} {x y : Ce} {i j : Str} (hx : x = .d (.str i)) (hy : y = .d (.str j)) (k : R (.d (.bool (decide (i = j)))) O) : D2 B (rEqA K) x y O R := d2_or fun F H al v u Q b rp cx cy q => by
  subst hx hy
  cases cx
  cases cy
  have e : decide (V.str i = V.str j) = decide (i = j) := by by_cases h : i = j <;> simp [h]
  refine ⟨rfl, ?_⟩
  rw [e]
  exact kx_here rp q (c := .d (.bool (decide (i = j)))) (DV.bl _) k
theorem d2_eqB {K : PySem.W.Frag} {x y : Ce} {i j : Bool} (hx : x = .d (.bool i)) (hy : y = .d (.bool j)) (k : R (.d (.bool (decide (i = j)))) O) : D2 B (rEqA K) x y O R := d2_or fun F H al v u Q b rp cx cy q => by
  subst hx hy
  cases cx
  cases cy
  have e : decide (V.bl i = V.bl j) = decide (i = j) := by by_cases h : i = j <;> simp [h]
  refine ⟨rfl, ?_⟩
  rw [e]
  exact kx_here rp q (c := .d (.bool (decide (i = j)))) (DV.bl _) k
theorem d2_neI {K : PySem.W.Frag} {x y : Ce} {i j : Int} (hx : x = .d (.int i)) (hy : y = .d (.int j)) (k : R (.d (.bool (!decide (i = j)))) O) : D2 B (rNeA K) x y O R := d2_or fun F H al v u Q b rp cx cy q => by
  subst hx hy
  cases cx
  cases cy
  have e : decide (V.int i = V.int j) = decide (i = j) := by by_cases h : i = j <;> simp [h]
  refine ⟨rfl, ?_⟩
  rw [e]
  exact kx_here rp q (c := .d (.bool (!decide (i = j)))) (DV.bl _) k
theorem d2_neS {K : PySem.W.Frag} {x y : Ce} {i j : Str} (hx : x = .d (.str i)) (hy : y = .d (.str j)) (k : R (.d (.bool (!decide (i = j)))) O) : D2 B (rNeA K) x y O R := d2_or fun F H al v u Q b rp cx cy q => by
  subst hx hy
  cases cx
  cases cy
  have e : decide (V.str i = V.str j) = decide (i = j) := by by_cases h : i = j <;> simp [h]
  refine ⟨rfl, ?_⟩
  rw [e]
  exact kx_here rp q (c := .d (.bool (!decide (i = j)))) (DV.bl _) k
theorem d2_eqD {K : PySem.W.Frag} {x y : Ce} {d e : D} (hx : Vw O x d) (hy : Vw O y e) (sd : SeqAt.shaped d = true) (se : SeqAt.shaped e = true) (k : R (.d (.bool (PyData.eqv d e))) O) : D2 B (rEqA K) x y O R := d2_or' (d2_eq hx hy sd se k)
theorem d2_neD {K : PySem.W.Frag} {x y : Ce} {d e : D} (hx : Vw O x d) (hy : Vw O y e) (sd : SeqAt.shaped d = true) (se : SeqAt.shaped e = true) (k : R (.d (.bool (!PyData.eqv d e))) O) : D2 B (rNeA K) x y O R := d2_or' (d2_ne hx hy sd se k)
/-- is None -/
def isNone : D → Bool
  | .none => true
  | _ => false
theorem DV.isN {F : Hp} {v : V} {d : D} (h : DV F v d) : decide (v = .non) = isNone d := by
  cases h <;> first | rfl | exact decide_eq_false (fun z => nomatch z)
theorem d2_isN {x y : Ce} {d : D} (hx : x = .d d) (hy : y = .d .none) (k : R (.d (.bool (isNone d))) O) : D2 B (fun x y H Q => y = .non ∧ Q (.bl (decide (x = .non))) H) x y O R := fun F H al v u Q b rp cx cy q => by
  subst hx hy
  cases cy
  refine ⟨rfl, ?_⟩
  rw [DV.isN cx]
  exact kx_here rp q (c := .d (.bool (isNone d))) (DV.bl _) k
theorem d2_notN {x y : Ce} {d : D} (hx : x = .d d) (hy : y = .d .none) (k : R (.d (.bool (!isNone d))) O) : D2 B (fun x y H Q => y = .non ∧ Q (.bl (!decide (x = .non))) H) x y O R := fun F H al v u Q b rp cx cy q => by
  subst hx hy
  cases cy
  refine ⟨rfl, ?_⟩
  rw [DV.isN cx]
  exact kx_here rp q (c := .d (.bool (!isNone d))) (DV.bl _) k
/-- x in l: data of any depth in a list, flat data in a list or tuple -/
theorem d2_inD {K : PySem.W.Frag} {x y : Ce} {d : D} {ds : List D} (hx : Vw O x d) (hy : Vw O y (.list ds)) (sd : SeqAt.shaped d = true) (se : SeqAt.shaped (.list ds) = true) (k : R (.d (.bool (ds.any fun z => PyData.eqv z d))) O) : D2 B (rInD K) x y O R := fun F H al v u Q b rp cx cy q =>
  ⟨d, ds, (hx.dv rp cx).dp, (hy.dv rp cy).dp, sd, se, kx_here rp q (c := .d (.bool (ds.any fun z => PyData.eqv z d))) (DV.bl _) k⟩
theorem d2_notInD {K : PySem.W.Frag} {x y : Ce} {d : D} {ds : List D} (hx : Vw O x d) (hy : Vw O y (.list ds)) (sd : SeqAt.shaped d = true) (se : SeqAt.shaped (.list ds) = true) (k : R (.d (.bool (!ds.any fun z => PyData.eqv z d))) O) : D2 B (rNotInD K) x y O R := fun F H al v u Q b rp cx cy q =>
  ⟨d, ds, (hx.dv rp cx).dp, (hy.dv rp cy).dp, sd, se, kx_here rp q (c := .d (.bool (!ds.any fun z => PyData.eqv z d))) (DV.bl _) k⟩
def flatD : D → Bool
  | .list _ => false
  | .tuple _ => false
  | .dict _ => false
  | _ => true
theorem DV.flat {F : Hp} {v : V} {d : D} (h : DV F v d) (f : flatD d = true) : flatV v = true := by
  cases h <;> first | rfl | cases f
theorem DVs.flat {F : Hp} : ∀ {vs : List V} {ds : List D}, DVs F vs ds → ds.all flatD = true → vs.all flatV = true
  | _, _, .nil, _ => rfl
  | _, _, .cons h r, f => by
    rw [List.all_cons, Bool.and_eq_true] at f ⊢
    exact ⟨h.flat f.1, DVs.flat r f.2⟩
/-- == of flat data -/
def eqF : D → D → Bool := fun a b => match a, b with
  | .none, .none => true
  | .int i, .int j => i == j
  | .bool a, .bool b => a == b
  | .int i, .bool b => i == (if b then 1 else 0)
  | .bool b, .int i => (if b then 1 else 0) == i
  | .str x, .str y => x == y
  | _, _ => false
theorem isB' : True := trivial
end
end DL
/-! DL, part e: places, slices, built-ins, methods, walks, stores. -/
namespace DL
open PySem L2 PySem.Spec
set_option autoImplicit false
section
variable {B : Bs} {ρ : En} {O : Ow} {R : RX} {A : AE} {K : PySem.W.Frag}
/-- another value (a type, a class) -/
theorem dx_raw {v : V} (k : R (.v v) O) : DX B (tC v) ρ O R := fun F H al σ Q b r e q => q F H al O v (.v v) (.refl _ _ _) r rfl k
/-! ### x in y -/
theorem eqv_flat {F : Hp} {v u : V} {d e : D} (h1 : DV F v d) (h2 : DV F u e) (f1 : flatD d = true) (f2 : flatD e = true) : eqV v u = PyData.eqv d e := by
  cases h1 <;> first
    | exact absurd f1 Bool.false_ne_true
    | (cases h2 <;> first
        | exact absurd f2 Bool.false_ne_true
        | simp only [eqV, PyData.eqv]
        | rfl)
theorem inV_flat {F : Hp} {v : V} {d : D} (h1 : DV F v d) (f1 : flatD d = true) : ∀ {vs : List V} {ds : List D}, DVs F vs ds → ds.all flatD = true → inV v vs = ds.any fun z => PyData.eqv z d
  | _, _, .nil, _ => rfl
  | _, _, .cons h r, f => by
    rw [List.all_cons, Bool.and_eq_true] at f
    have ih := inV_flat h1 f1 r f.2
    unfold inV at ih ⊢
    rw [List.any_cons, List.any_cons, ih, eqv_flat h h1 f.1 f1]
/-- x in a list or tuple of flat data; a sign in a text; a text in a text -/
def rInA (K : PySem.W.Frag) : R2 := fun x y H Q => rIn K false x y H Q ∨ (fun x y H Q => (fun x y H Q => ∃ (c : Nat) (z : Str), x = .str ⟨#[c]⟩ ∧ y = .str z ∧ Q (.bl (decide (c ∈ z.cps.toList))) H) x y H Q ∨ (fun x y H Q => rInD K x y H Q ∨ (fun x y H Q => ∃ i j, x = .str i ∧ y = .str j ∧ Q (.bl (!(Builtin.Str.occurrences j i 0 j.length 1).isEmpty)) H) x y H Q) x y H Q) x y H Q
theorem op_inA {X : Cx} (hu : X.A.units + 65 < cLine) : OpR X (compareOp .In) (rInA X.K) := op_in_seq.or (op_in_sign.or ((op_inD hu).or op_in_str))
theorem rinT {H : Hp} {v u : V} {d : D} {ds : List D} (neg : Bool) {Q : VK} (hd : DV H v d) (hu : ∃ (a : Addr) (vs : List V), u = .ref a ∧ (SqL K H a vs ∨ SqT K H a vs) ∧ DVs H vs ds) (f1 : flatD d = true) (f2 : ds.all flatD = true) (k : Q (.bl (if neg then !(ds.any fun z => PyData.eqv z d) else ds.any fun z => PyData.eqv z d)) H) : rIn K neg v u H Q := by
  obtain ⟨a, vs, rfl, hs, r⟩ := hu
  exact ⟨a, vs, rfl, hs, hd.flat f1, r.flat f2, by rw [inV_flat hd f1 r f2]; exact k⟩
theorem d2_inL {x y : Ce} {d : D} {ds : List D} (hx : Vw O x d) (hy : Vw O y (.list ds)) (f1 : flatD d = true) (f2 : ds.all flatD = true) (k : R (.d (.bool (ds.any fun z => PyData.eqv z d))) O) : D2 B (rInA K) x y O R := d2_or fun F H al v u Q b rp cx cy q => by
  obtain ⟨a, vs, e, h1, r1, l1⟩ := Vw.list rp cy hy
  exact rinT false (hx.dv rp cx) ⟨a, vs, e, .inl (SqL.of h1), r1.mono rp.sub⟩ f1 f2 (kx_here rp q (c := .d (.bool (ds.any fun z => PyData.eqv z d))) (DV.bl _) k)
theorem d2_inT {x y : Ce} {d : D} {ds : List D} (hx : Vw O x d) (hy : y = .d (.tuple ds)) (f1 : flatD d = true) (f2 : ds.all flatD = true) (k : R (.d (.bool (ds.any fun z => PyData.eqv z d))) O) : D2 B (rInA K) x y O R := d2_or fun F H al v u Q b rp cx cy q => by
  subst hy
  obtain ⟨a, vs, e, h1, r1, l1⟩ := dv_tup rp.sub cy
  exact rinT false (hx.dv rp cx) ⟨a, vs, e, .inr (SqT.of h1), r1.mono rp.sub⟩ f1 f2 (kx_here rp q (c := .d (.bool (ds.any fun z => PyData.eqv z d))) (DV.bl _) k)
theorem d2_inSign {x y : Ce} {c : Nat} {z : Str} (hx : x = .d (.str ⟨#[c]⟩)) (hy : y = .d (.str z)) (k : R (.d (.bool (decide (c ∈ z.cps.toList)))) O) : D2 B (rInA K) x y O R := d2_or' (d2_or fun F H al v u Q b rp cx cy q => by
  subst hx hy
  cases cx
  cases cy
  exact ⟨c, z, rfl, rfl, kx_here rp q (c := .d (.bool (decide (c ∈ z.cps.toList)))) (DV.bl _) k⟩)
theorem d2_inDeep {x y : Ce} {d : D} {ds : List D} (hx : Vw O x d) (hy : Vw O y (.list ds)) (sd : SeqAt.shaped d = true) (se : SeqAt.shaped (.list ds) = true) (k : R (.d (.bool (ds.any fun z => PyData.eqv z d))) O) : D2 B (rInA K) x y O R := d2_or' (d2_or' (d2_or (d2_inD hx hy sd se k)))
theorem d2_inStr {x y : Ce} {i j : Str} (hx : x = .d (.str i)) (hy : y = .d (.str j)) (k : R (.d (.bool (!(Builtin.Str.occurrences j i 0 j.length 1).isEmpty))) O) : D2 B (rInA K) x y O R := d2_or' (d2_or' (d2_or' fun F H al v u Q b rp cx cy q => by
  subst hx hy
  cases cx
  cases cy
  exact ⟨i, j, rfl, rfl, kx_here rp q (c := .d (.bool (!(Builtin.Str.occurrences j i 0 j.length 1).isEmpty))) (DV.bl _) k⟩))
def rNotInA (K : PySem.W.Frag) : R2 := fun x y H Q => rIn K true x y H Q ∨ (fun x y H Q => rNotInD K x y H Q ∨ (fun x y H Q => ∃ (c : Nat) (z : Str), x = .str ⟨#[c]⟩ ∧ y = .str z ∧ Q (.bl (!decide (c ∈ z.cps.toList))) H) x y H Q) x y H Q
theorem op_notInA {X : Cx} (hu : X.A.units + 65 < cLine) : OpR X (compareOp .NotIn) (rNotInA X.K) := op_notIn_seq.or ((op_notInD hu).or op_notIn_sign)
theorem d2_notInL {x y : Ce} {d : D} {ds : List D} (hx : Vw O x d) (hy : Vw O y (.list ds)) (f1 : flatD d = true) (f2 : ds.all flatD = true) (k : R (.d (.bool (!ds.any fun z => PyData.eqv z d))) O) : D2 B (rNotInA K) x y O R := d2_or fun F H al v u Q b rp cx cy q => by
  obtain ⟨a, vs, e, h1, r1, l1⟩ := Vw.list rp cy hy
  exact rinT true (hx.dv rp cx) ⟨a, vs, e, .inl (SqL.of h1), r1.mono rp.sub⟩ f1 f2 (kx_here rp q (c := .d (.bool (!ds.any fun z => PyData.eqv z d))) (DV.bl _) k)
theorem d2_notInT {x y : Ce} {d : D} {ds : List D} (hx : Vw O x d) (hy : y = .d (.tuple ds)) (f1 : flatD d = true) (f2 : ds.all flatD = true) (k : R (.d (.bool (!ds.any fun z => PyData.eqv z d))) O) : D2 B (rNotInA K) x y O R := d2_or fun F H al v u Q b rp cx cy q => by
  subst hy
  obtain ⟨a, vs, e, h1, r1, l1⟩ := dv_tup rp.sub cy
  exact rinT true (hx.dv rp cx) ⟨a, vs, e, .inr (SqT.of h1), r1.mono rp.sub⟩ f1 f2 (kx_here rp q (c := .d (.bool (!ds.any fun z => PyData.eqv z d))) (DV.bl _) k)
theorem d2_notInDeep {x y : Ce} {d : D} {ds : List D} (hx : Vw O x d) (hy : Vw O y (.list ds)) (sd : SeqAt.shaped d = true) (se : SeqAt.shaped (.list ds) = true) (k : R (.d (.bool (!ds.any fun z => PyData.eqv z d))) O) : D2 B (rNotInA K) x y O R := d2_or' (d2_or (d2_notInD hx hy sd se k))
/-! ### places -/
theorem atI_dv {F : Hp} {vs : List V} {ds : List D} {i : Int} {d : D} (r : DVs F vs ds) (h : atI ds i = some d) : ∃ v, atI vs i = some v ∧ DV F v d := by
  unfold atI at h ⊢
  rw [r.length]
  cases e : ixN ds.length i with
  | none => rw [e] at h; cases h
  | some j =>
    rw [e] at h
    exact r.get h
theorem d2_ixL {x y : Ce} {ds : List D} {i : Int} {d : D} (hx : Vw O x (.list ds)) (hy : y = .d (.int i)) (hi : atI ds i = some d) (k : R (.d d) O) : D2 B (rIx K) x y O R := fun F H al v u Q b rp cx cy q => by
  subst hy
  obtain ⟨a, vs, rfl, h1, r1, l1⟩ := Vw.list rp cx hx
  obtain ⟨w, h2, h3⟩ := atI_dv r1 hi
  cases cy
  exact .inl ⟨a, vs, i, w, rfl, rfl, SqL.of h1, h2, kx_here rp q (c := .d d) h3 k⟩
theorem d2_ixT {x y : Ce} {ds : List D} {i : Int} {d : D} (hx : x = .d (.tuple ds)) (hy : y = .d (.int i)) (hi : atI ds i = some d) (k : R (.d d) O) : D2 B (rIx K) x y O R := fun F H al v u Q b rp cx cy q => by
  subst hx hy
  obtain ⟨a, vs, rfl, h1, r1, l1⟩ := dv_tup rp.sub cx
  obtain ⟨w, h2, h3⟩ := atI_dv r1 hi
  cases cy
  exact .inr (.inl ⟨a, vs, i, w, rfl, rfl, SqT.of h1, h2, kx_here rp q (c := .d d) h3 k⟩)
theorem d2_ixS {x y : Ce} {z : Str} {i : Int} {c : Nat} (hx : x = .d (.str z)) (hy : y = .d (.int i)) (hi : atI z.cps.toList i = some c) (k : R (.d (.str ⟨#[c]⟩)) O) : D2 B (rIx K) x y O R := fun F H al v u Q b rp cx cy q => by
  subst hx hy
  cases cx with
  | str _ hl =>
    cases cy
    exact .inr (.inr ⟨z, i, c, rfl, rfl, hl, hi, kx_here rp q (c := .d (.str ⟨#[c]⟩)) (DV.str _ (by show 1 ≤ sizeLine; rw [sizeLine_eq]; decide)) k⟩)
/-! ### slices -/
def DO (B : Bs) (to : TO) (ρ : En) (O : Ow) (R : Option Int → Ow → Prop) : Prop := ∀ (F H : Hp) (al : List Addr) (σ : L2.St) (Q : Option Int → Hp → Prop), B.p F H al → Rep F H al O → EnR F al σ ρ → (∀ (F' H' : Hp) (al' : List Addr) (O' : Ow) (o : Option Int), Ext F H al F' H' al' → Rep F' H' al' O' → R o O' → Q o H') → to σ H Q
theorem do_none {R : Option Int → Ow → Prop} (h : R none O) : DO B tNoPart ρ O R := fun F H al σ Q b rp e q => q F H al O none (.refl _ _ _) rp h
theorem do_some {te : TE} {R : Option Int → Ow → Prop} (h : DX B te ρ O fun c O1 => ∃ i, c = .d (.int i) ∧ R (some i) O1) : DO B (tPart te) ρ O R := fun F H al σ Q b rp e q =>
  h F H al σ _ b rp e fun F1 H1 al1 O1 v c x1 r1 c1 ⟨i, ec, hk⟩ => by
    subst ec
    cases c1
    exact ⟨i, rfl, q _ _ _ _ _ x1 r1 hk⟩
def D3 (B : Bs) (r : V → Option Int → Option Int → Hp → VK → Prop) (x : Ce) (lo hi : Option Int) (O : Ow) (R : RX) : Prop := ∀ (F H : Hp) (al : List Addr) (v : V) (Q : VK), B.p F H al → Rep F H al O → CeR F al v x → Kx F H al R Q → r v lo hi H Q
theorem dx_sl {r : V → Option Int → Option Int → Hp → VK → Prop} {te : TE} {tl th : TO} (h : DX B te ρ O fun x O1 => DO B tl ρ O1 fun lo O2 => DO B th ρ O2 fun hi O3 => D3 B r x lo hi O3 R) : DX B (tSl r te tl th) ρ O R := fun F H al σ Q b rp e q =>
  h F H al σ _ b rp e fun F1 H1 al1 O1 v x x1 r1 c1 h1 => h1 F1 H1 al1 σ _ (B.cl b x1) r1 (e.ext x1) fun F2 H2 al2 O2 lo x2 r2 h2 => h2 F2 H2 al2 σ _ (B.cl (B.cl b x1) x2) r2 ((e.ext x1).ext x2) fun F3 H3 al3 O3 hi x3 r3 h3 =>
    h3 F3 H3 al3 v Q (B.cl (B.cl (B.cl b x1) x2) x3) r3 ((c1.ext x2).ext x3) (q.step ((x1.trans x2).trans x3))
def cutD {α : Type} (xs : List α) (lo hi : Option Int) : List α := (xs.drop (HT.sIx xs.length 0 lo)).take (HT.sIx xs.length xs.length hi - HT.sIx xs.length 0 lo)
theorem cutD_length {α : Type} (xs : List α) (lo hi : Option Int) : (cutD xs lo hi).length ≤ xs.length := by
  unfold cutD
  rw [List.length_take, List.length_drop]
  omega
theorem dvs_cut {F : Hp} {vs : List V} {ds : List D} (r : DVs F vs ds) (lo hi : Option Int) : DVs F (cutV vs lo hi) (cutD ds lo hi) := by
  unfold cutV cutD
  rw [r.length]
  exact (r.drop _).take _
def rSlX (K : PySem.W.Frag) : V → Option Int → Option Int → Hp → VK → Prop := fun x lo hi H Q => rSlL K x lo hi H Q ∨ (fun x lo hi H Q => rSlA K x lo hi H Q ∨ rSlS x lo hi H Q) x lo hi H Q
theorem sl_X {X : Cx} : SlR X (DL.rSlX X.K) := sl_list.or (sl_tupA.or sl_str)
theorem d3_list {x : Ce} {ds : List D} {lo hi : Option Int} (hx : Vw O x (.list ds)) (k : R (.d (.list (cutD ds lo hi))) O) : D3 B (DL.rSlX K) x lo hi O R := fun F H al v Q b rp cx q => by
  obtain ⟨a, vs, rfl, h1, r1, l1⟩ := Vw.list rp cx hx
  exact .inl ⟨a, vs, rfl, SqL.of h1, kx_lst rp q (dvs_cut r1 lo hi) (Nat.le_trans (cutD_length _ _ _) l1) k⟩
theorem d3_tup {x : Ce} {ds : List D} {lo hi : Option Int} (hx : x = .d (.tuple ds)) (k : R (.d (.tuple (cutD ds lo hi))) O) : D3 B (DL.rSlX K) x lo hi O R := fun F H al v Q b rp cx q => by
  subst hx
  obtain ⟨a, vs, rfl, h1, r1, l1⟩ := dv_tup rp.sub cx
  refine .inr (.inl ⟨a, vs, rfl, SqT.of h1, fun hw => ?_, fun _ => kx_tup rp q (dvs_cut r1 lo hi) (Nat.le_trans (cutD_length _ _ _) l1) k⟩)
  have e : cutD ds lo hi = ds := by
    unfold cutD
    rw [r1.length] at hw
    rw [hw.1, hw.2]
    simp
  rw [e] at k
  exact kx_here rp q (c := .d (.tuple ds)) cx k
theorem d3_str {x : Ce} {z : Str} {lo hi : Option Int} (hx : x = .d (.str z)) (k : R (.d (.str (cutS z lo hi))) O) : D3 B (DL.rSlX K) x lo hi O R := fun F H al v Q b rp cx q => by
  subst hx
  cases cx with
  | str _ hl => exact .inr (.inr ⟨z, rfl, hl, kx_here rp q (c := .d (.str (cutS z lo hi))) (DV.str _ (Nat.le_trans (cutS_length z lo hi) hl)) k⟩)
/-- xs[::-1] -/
theorem dx_revL {te : TE} (h : DX B te ρ O fun x O1 => ∃ ds, Vw O1 x (.list ds) ∧ R (.d (.list ds.reverse)) O1) : DX B (tRevL K te) ρ O R := fun F H al σ Q b rp e q =>
  h F H al σ _ b rp e fun F1 H1 al1 O1 v c x1 r1 c1 ⟨ds, hx, hk⟩ => by
    obtain ⟨a, vs, rfl, h1, rr, l1⟩ := Vw.list r1 c1 hx
    exact ⟨a, vs, rfl, SqL.of h1, kx_lst r1 (q.step x1) rr.reverse (by rw [List.length_reverse]; exact l1) hk⟩
/-! ### built-ins -/
theorem dc_or {r r' : List V → Hp → VK → Prop} {xs : List Ce} (h : DC B r xs O R) : DC B (fun xs H Q => r xs H Q ∨ r' xs H Q) xs O R := fun F H al vs Q b rp c q => .inl (h F H al vs Q b rp c q)
theorem dc_or' {r r' : List V → Hp → VK → Prop} {xs : List Ce} (h : DC B r' xs O R) : DC B (fun xs H Q => r xs H Q ∨ r' xs H Q) xs O R := fun F H al vs Q b rp c q => .inr (h F H al vs Q b rp c q)
theorem cers1 {F : Hp} {al : List Addr} {vs : List V} {c : Ce} (h : CeRs F al vs [c]) : ∃ v, vs = [v] ∧ CeR F al v c := by
  cases h with
  | cons a b => cases b; exact ⟨_, rfl, a⟩
theorem cers2 {F : Hp} {al : List Addr} {vs : List V} {c c' : Ce} (h : CeRs F al vs [c, c']) : ∃ v v', vs = [v, v'] ∧ CeR F al v c ∧ CeR F al v' c' := by
  cases h with
  | cons a b =>
    obtain ⟨v', e, r⟩ := cers1 b
    subst e
    exact ⟨_, _, rfl, a, r⟩
def rLen (K : PySem.W.Frag) : List V → Hp → VK → Prop := fun xs H Q => ∃ x n, xs = [x] ∧ LenV K x H n ∧ Q (.int n) H
theorem call_lenA {X : Cx} : CallR X (.builtin "len") (DL.rLen X.K) := call_len
theorem dc_lenL {x : Ce} {ds : List D} (hx : Vw O x (.list ds)) (k : R (.d (.int ds.length)) O) : DC B (DL.rLen K) [x] O R := fun F H al vs Q b rp c q => by
  obtain ⟨v, rfl, cr⟩ := cers1 c
  obtain ⟨a, ws, rfl, h1, r1, l1⟩ := Vw.list rp cr hx
  refine ⟨_, ws.length, rfl, .inl ⟨ws, SqL.of h1, rfl⟩, ?_⟩
  rw [r1.length]
  exact kx_here rp q (c := .d (.int ds.length)) (DV.int _) k
theorem dc_lenT {x : Ce} {ds : List D} (hx : x = .d (.tuple ds)) (k : R (.d (.int ds.length)) O) : DC B (DL.rLen K) [x] O R := fun F H al vs Q b rp c q => by
  subst hx
  obtain ⟨v, rfl, cr⟩ := cers1 c
  obtain ⟨a, ws, rfl, h1, r1, l1⟩ := dv_tup rp.sub cr
  refine ⟨_, ws.length, rfl, .inr ⟨ws, SqT.of h1, rfl⟩, ?_⟩
  rw [r1.length]
  exact kx_here rp q (c := .d (.int ds.length)) (DV.int _) k
theorem dc_lenS {x : Ce} {z : Str} (hx : x = .d (.str z)) (k : R (.d (.int z.length)) O) : DC B (DL.rLen K) [x] O R := fun F H al vs Q b rp c q => by
  subst hx
  obtain ⟨v, rfl, cr⟩ := cers1 c
  cases cr with
  | str _ hl => exact ⟨_, z.length, rfl, ⟨hl, rfl⟩, kx_here rp q (c := .d (.int z.length)) (DV.int _) k⟩
def rInt : List V → Hp → VK → Prop := fun xs H Q => (fun xs H Q => (∃ i, xs = [.int i] ∧ Q (.int i) H) ∨ ∃ k, xs = [.bl k] ∧ Q (.int (if k then 1 else 0)) H) xs H Q ∨ (fun xs H Q => ∃ a n, xs = [.str a] ∧ PySem.intText? a = some n ∧ a.length ≤ 640 ∧ Q (.int n) H) xs H Q
theorem call_intA {X : Cx} : CallR X (.type "int") rInt := call_int1.or call_int_str
theorem dc_int {x : Ce} {i : Int} (hx : x = .d (.int i)) (k : R (.d (.int i)) O) : DC B rInt [x] O R := fun F H al vs Q b rp c q => by
  subst hx
  obtain ⟨v, rfl, cr⟩ := cers1 c
  cases cr
  exact .inl (.inl ⟨i, rfl, kx_here rp q (c := .d (.int i)) (DV.int _) k⟩)
theorem dc_intB {x : Ce} {i : Bool} (hx : x = .d (.bool i)) (k : R (.d (.int (if i then 1 else 0))) O) : DC B rInt [x] O R := fun F H al vs Q b rp c q => by
  subst hx
  obtain ⟨v, rfl, cr⟩ := cers1 c
  cases cr
  exact .inl (.inr ⟨i, rfl, kx_here rp q (c := .d (.int (if i then 1 else 0))) (DV.int _) k⟩)
theorem dc_intS {x : Ce} {z : Str} {n : Int} (hx : x = .d (.str z)) (hn : PySem.intText? z = some n) (hl : z.length ≤ 640) (k : R (.d (.int n)) O) : DC B rInt [x] O R := fun F H al vs Q b rp c q => by
  subst hx
  obtain ⟨v, rfl, cr⟩ := cers1 c
  cases cr
  exact .inr ⟨z, n, rfl, hn, hl, kx_here rp q (c := .d (.int n)) (DV.int _) k⟩
def rStrI : List V → Hp → VK → Prop := fun xs H Q => ∃ i, xs = [.int i] ∧ i.natAbs.log2 < 1920 ∧ Q (.str (toString i)) H
theorem call_strA {X : Cx} : CallR X (.type "str") rStrI := call_str_int
theorem dc_str {x : Ce} {i : Int} (hx : x = .d (.int i)) (hi : i.natAbs.log2 < 1920) (hl : (PySem.Str.ofString (toString i)).length ≤ sizeLine) (k : R (.d (.str (toString i))) O) : DC B rStrI [x] O R := fun F H al vs Q b rp c q => by
  subst hx
  obtain ⟨v, rfl, cr⟩ := cers1 c
  cases cr
  exact ⟨i, rfl, hi, kx_here rp q (c := .d (.str (toString i))) (DV.str _ hl) k⟩
def rList (K : PySem.W.Frag) : List V → Hp → VK → Prop := fun xs H Q => ∃ p ys, xs = [.ref p] ∧ (SqL K H p ys ∨ SqT K H p ys) ∧ ∀ l, H l = none → Q (.ref l) (upd H l (.lst ys))
theorem call_listA {X : Cx} : CallR X (.type "list") (rList X.K) := call_list_of
theorem dc_listL {x : Ce} {ds : List D} (hx : Vw O x (.list ds)) (k : R (.d (.list ds)) O) : DC B (rList K) [x] O R := fun F H al vs Q b rp c q => by
  obtain ⟨v, rfl, cr⟩ := cers1 c
  obtain ⟨a, ws, rfl, h1, r1, l1⟩ := Vw.list rp cr hx
  exact ⟨a, ws, rfl, .inl (SqL.of h1), kx_lst rp q r1 l1 k⟩
theorem dc_listT {x : Ce} {ds : List D} (hx : x = .d (.tuple ds)) (k : R (.d (.list ds)) O) : DC B (rList K) [x] O R := fun F H al vs Q b rp c q => by
  subst hx
  obtain ⟨v, rfl, cr⟩ := cers1 c
  obtain ⟨a, ws, rfl, h1, r1, l1⟩ := dv_tup rp.sub cr
  exact ⟨a, ws, rfl, .inr (SqT.of h1), kx_lst rp q r1 l1 k⟩
def rTuple (K : PySem.W.Frag) : List V → Hp → VK → Prop := fun xs H Q => ∃ p ys, xs = [.ref p] ∧ ((SqL K H p ys ∧ ∀ l, H l = none → Q (.ref l) (upd H l (.tup ys))) ∨ (SqT K H p ys ∧ Q (.ref p) H))
theorem call_tupleA {X : Cx} : CallR X (.type "tuple") (rTuple X.K) := call_tuple_of
theorem dc_tupleL {x : Ce} {ds : List D} (hx : Vw O x (.list ds)) (k : R (.d (.tuple ds)) O) : DC B (rTuple K) [x] O R := fun F H al vs Q b rp c q => by
  obtain ⟨v, rfl, cr⟩ := cers1 c
  obtain ⟨a, ws, rfl, h1, r1, l1⟩ := Vw.list rp cr hx
  exact ⟨a, ws, rfl, .inl ⟨SqL.of h1, kx_tup rp q r1 l1 k⟩⟩
theorem dc_tupleT {x : Ce} {ds : List D} (hx : x = .d (.tuple ds)) (k : R (.d (.tuple ds)) O) : DC B (rTuple K) [x] O R := fun F H al vs Q b rp c q => by
  subst hx
  obtain ⟨v, rfl, cr⟩ := cers1 c
  obtain ⟨a, ws, rfl, h1, r1, l1⟩ := dv_tup rp.sub cr
  exact ⟨a, ws, rfl, .inr ⟨SqT.of h1, kx_here rp q (c := .d (.tuple ds)) cr k⟩⟩
theorem dc_sum {x : Ce} {is : List Int} (hx : Vw O x (.list (is.map .int))) (k : R (.d (.int is.sum)) O) : DC B (rSum K) [x] O R := fun F H al vs Q b rp c q => by
  obtain ⟨v, rfl, cr⟩ := cers1 c
  obtain ⟨a, ws, rfl, h1, r1, l1⟩ := Vw.list rp cr hx
  have e := DVs.ints r1
  subst e
  exact ⟨a, is, rfl, SqL.of h1, kx_here rp q (c := .d (.int is.sum)) (DV.int _) k⟩
theorem dc_max {x : Ce} {is : List Int} (hx : Vw O x (.list (is.map .int))) (h0 : 0 < is.length) (k : ∀ m, m ∈ is → (∀ y, y ∈ is → y ≤ m) → R (.d (.int m)) O) : DC B (rMax K) [x] O R := fun F H al vs Q b rp c q => by
  obtain ⟨v, rfl, cr⟩ := cers1 c
  obtain ⟨a, ws, rfl, h1, r1, l1⟩ := Vw.list rp cr hx
  have e := DVs.ints r1
  subst e
  exact ⟨a, is, rfl, SqL.of h1, h0, fun m z z' => kx_here rp q (c := .d (.int m)) (DV.int _) (k m z z')⟩
theorem dc_min {x : Ce} {is : List Int} (hx : Vw O x (.list (is.map .int))) (h0 : 0 < is.length) (k : ∀ m, m ∈ is → (∀ y, y ∈ is → m ≤ y) → R (.d (.int m)) O) : DC B (rMin K) [x] O R := fun F H al vs Q b rp c q => by
  obtain ⟨v, rfl, cr⟩ := cers1 c
  obtain ⟨a, ws, rfl, h1, r1, l1⟩ := Vw.list rp cr hx
  have e := DVs.ints r1
  subst e
  exact ⟨a, is, rfl, SqL.of h1, h0, fun m z z' => kx_here rp q (c := .d (.int m)) (DV.int _) (k m z z')⟩
theorem dc_all {x : Ce} {bs : List Bool} (hx : Vw O x (.list (bs.map .bool))) (k : R (.d (.bool (bs.all id))) O) : DC B (rAll K) [x] O R := fun F H al vs Q b rp c q => by
  obtain ⟨v, rfl, cr⟩ := cers1 c
  obtain ⟨a, ws, rfl, h1, r1, l1⟩ := Vw.list rp cr hx
  have e := DVs.bools r1
  subst e
  exact ⟨a, bs, rfl, SqL.of h1, kx_here rp q (c := .d (.bool (bs.all id))) (DV.bl _) k⟩
theorem dc_any {x : Ce} {bs : List Bool} (hx : Vw O x (.list (bs.map .bool))) (k : R (.d (.bool (bs.any id))) O) : DC B (rAny K) [x] O R := fun F H al vs Q b rp c q => by
  obtain ⟨v, rfl, cr⟩ := cers1 c
  obtain ⟨a, ws, rfl, h1, r1, l1⟩ := Vw.list rp cr hx
  have e := DVs.bools r1
  subst e
  exact ⟨a, bs, rfl, SqL.of h1, kx_here rp q (c := .d (.bool (bs.any id))) (DV.bl _) k⟩
def rMin2 : List V → Hp → VK → Prop := fun xs H Q => ∃ i j, xs = [.int i, .int j] ∧ Q (.int (if j < i then j else i)) H
theorem call_min2A {X : Cx} (hc : X.calm = true) : CallR X (.builtin "min") rMin2 := call_min2 hc
def rMax2 : List V → Hp → VK → Prop := fun xs H Q => ∃ i j, xs = [.int i, .int j] ∧ Q (.int (if j > i then j else i)) H
theorem call_max2A {X : Cx} (hc : X.calm = true) : CallR X (.builtin "max") rMax2 := call_max2 hc
theorem dc_min2 {x y : Ce} {i j : Int} (hx : x = .d (.int i)) (hy : y = .d (.int j)) (k : R (.d (.int (if j < i then j else i))) O) : DC B rMin2 [x, y] O R := fun F H al vs Q b rp c q => by
  subst hx hy
  obtain ⟨v, u, rfl, c1, c2⟩ := cers2 c
  cases c1
  cases c2
  exact ⟨i, j, rfl, kx_here rp q (c := .d (.int (if j < i then j else i))) (DV.int _) k⟩
theorem dc_max2 {x y : Ce} {i j : Int} (hx : x = .d (.int i)) (hy : y = .d (.int j)) (k : R (.d (.int (if j > i then j else i))) O) : DC B rMax2 [x, y] O R := fun F H al vs Q b rp c q => by
  subst hx hy
  obtain ⟨v, u, rfl, c1, c2⟩ := cers2 c
  cases c1
  cases c2
  exact ⟨i, j, rfl, kx_here rp q (c := .d (.int (if j > i then j else i))) (DV.int _) k⟩
theorem dc_sorted {x : Ce} {is : List Int} (hx : Vw O x (.list (is.map .int))) (k : ∀ ns : List Int, ns.Perm is → ns.Pairwise (· ≤ ·) → R (.d (.list (ns.map .int))) O) : DC B (rSortedI K) [x] O R := fun F H al vs Q b rp c q => by
  obtain ⟨v, rfl, cr⟩ := cers1 c
  obtain ⟨a, ws, rfl, h1, r1, l1⟩ := Vw.list rp cr hx
  have e := DVs.ints r1
  subst e
  refine ⟨a, is, rfl, SqL.of h1, fun ns p hp hs hn => ?_⟩
  exact kx_lst rp q (DVs.of_ints ns) (by rw [List.length_map, hp.length_eq, ← List.length_map (f := PyData.int)]; exact l1) (k ns hp hs) p hn
/-! ### isinstance -/
def tyD : D → String
  | .none => "NoneType"
  | .bool _ => "bool"
  | .int _ => "int"
  | .str _ => "str"
  | .list _ => "list"
  | .tuple _ => "tuple"
  | .dict _ => "dict"
theorem DV.ty {H : Hp} {v : V} {d : D} (h : DV H v d) : TyX K H v (.type (tyD d)) := by
  cases h with
  | non => exact .base .non
  | bl b => exact .base (.bl b)
  | int i => exact .base (.int i)
  | str x _ => exact .base (.str x)
  | lst e _ _ => exact .base (.lst e)
  | tup e _ _ => exact .base (.tup e)
theorem dc_isi {x : Ce} {d : D} {T : String} {r : Bool} (hx : Vw O x d) (ht : kitB (tyD d) T = some r) (k : R (.d (.bool r)) O) : DC B (rIsi K) [x, .v (.ty T)] O R := fun F H al vs Q b rp c q => by
  obtain ⟨v, u, rfl, c1, c2⟩ := cers2 c
  have e : u = .ty T := c2
  subst e
  exact ⟨v, .ty T, _, _, r, rfl, .ty T, (hx.dv rp c1).ty, kit_ty ht, kx_here rp q (c := .d (.bool r)) (DV.bl _) k⟩
def isInt : D → Bool
  | .int _ => true
  | .bool _ => true
  | _ => false
def isBool : D → Bool
  | .bool _ => true
  | _ => false
def isStr : D → Bool
  | .str _ => true
  | _ => false
def isList : D → Bool
  | .list _ => true
  | _ => false
def isTuple : D → Bool
  | .tuple _ => true
  | _ => false
theorem kit_int (d : D) : kitB (tyD d) "int" = some (isInt d) := by cases d <;> (first | decide +kernel | (simp only [tyD, isInt]; decide +kernel))
theorem kit_bool (d : D) : kitB (tyD d) "bool" = some (isBool d) := by cases d <;> (simp only [tyD, isBool]; decide +kernel)
theorem kit_str (d : D) : kitB (tyD d) "str" = some (isStr d) := by cases d <;> (simp only [tyD, isStr]; decide +kernel)
theorem kit_list (d : D) : kitB (tyD d) "list" = some (isList d) := by cases d <;> (simp only [tyD, isList]; decide +kernel)
theorem kit_tuple (d : D) : kitB (tyD d) "tuple" = some (isTuple d) := by cases d <;> (simp only [tyD, isTuple]; decide +kernel)
/-! ### methods -/
/-- of a text -/
theorem dx_m1 {r : V → List V → Hp → VK → Prop} {to te : TE} (h : DX B to ρ O fun x O1 => (∃ z, x = .d (.str z)) ∧ DX B te ρ O1 fun y O2 => DM B r x [y] O2 R) : DX B (tM1 r to te) ρ O R := fun F H al σ Q b rp e q =>
  h F H al σ _ b rp e fun F1 H1 al1 O1 v c x1 r1 c1 ⟨⟨z, ez⟩, h1⟩ => by
    subst ez
    refine ⟨by cases c1; exact ⟨z, rfl⟩, h1 F1 H1 al1 σ _ (B.cl b x1) r1 (e.ext x1) fun F2 H2 al2 O2 u y x2 r2 c2 h2 => ?_⟩
    exact h2 F2 H2 al2 v [u] Q (B.cl (B.cl b x1) x2) r2 (c1.ext x2) (.cons c2 .nil) (q.step (x1.trans x2))
def rSplit : V → List V → Hp → VK → Prop := fun x xs H Q => ∃ a b, x = .str a ∧ xs = [.str b] ∧ (b.length == 0) = false ∧ a.length + 2 ≤ sizeLine ∧ rNewStrs (Txt.split a b) H Q
theorem mt_splitA {X : Cx} : MtR X "str.split" rSplit := mt_split
theorem dm_split {x y : Ce} {a b : Str} (hx : x = .d (.str a)) (hy : y = .d (.str b)) (hb : (b.length == 0) = false) (ha : a.length + 2 ≤ sizeLine) (hs : ∀ z ∈ Txt.split a b, z.length ≤ sizeLine) (hl : (Txt.split a b).length ≤ sizeLine) (k : R (.d (.list ((Txt.split a b).map .str))) O) : DM B rSplit x [y] O R := fun F H al v vs Q bb rp cx cy q => by
  subst hx hy
  obtain ⟨u, rfl, cu⟩ := cers1 cy
  cases cx
  cases cu
  exact ⟨a, b, rfl, rfl, hb, ha, kx_lst rp q (DVs.of_strs _ hs) (by rw [List.length_map]; exact hl) k⟩
def rJoin (K : PySem.W.Frag) : V → List V → Hp → VK → Prop := fun x xs H Q => ∃ a p, ∃ ys : List Str, x = .str a ∧ xs = [.ref p] ∧ (SqL K H p (ys.map V.str) ∨ SqT K H p (ys.map V.str)) ∧ (ys.map (·.length)).sum + ys.length * a.length ≤ 16777216 ∧ Q (.str (Txt.join a ys)) H
theorem mt_joinA {X : Cx} : MtR X "str.join" (rJoin X.K) := mt_join
theorem dm_join {x y : Ce} {a : Str} {ys : List Str} (hx : x = .d (.str a)) (hy : Vw O y (.list (ys.map .str))) (hl : (ys.map (·.length)).sum + ys.length * a.length ≤ 16777216) (hr : (Txt.join a ys).length ≤ sizeLine) (k : R (.d (.str (Txt.join a ys))) O) : DM B (rJoin K) x [y] O R := fun F H al v vs Q bb rp cx cy q => by
  subst hx
  obtain ⟨u, rfl, cu⟩ := cers1 cy
  cases cx
  obtain ⟨p, ws, rfl, h1, r1, l1⟩ := Vw.list rp cu hy
  have e := DVs.strs r1
  subst e
  exact ⟨a, p, ys, rfl, rfl, .inl (SqL.of h1), hl, kx_here rp q (c := .d (.str (Txt.join a ys))) (DV.str _ hr) k⟩
/-- of a list -/
theorem dx_bmL {r : V → List V → Hp → VK → Prop} {to : TE} {t : TA} (h : DX B to ρ O fun x O1 => (∃ ds, Vw O1 x (.list ds)) ∧ DA B t ρ O1 fun ys O2 => DM B r x ys O2 R) : DX B (tBM K "list" r to t) ρ O R := fun F H al σ Q b rp e q =>
  h F H al σ _ b rp e fun F1 H1 al1 O1 v c x1 r1 c1 ⟨⟨ds, hv⟩, h1⟩ => by
    obtain ⟨a, vs, ev, g1, rr, l1⟩ := Vw.list r1 c1 hv
    subst ev
    refine ⟨.inl ⟨rfl, vs, SqL.of g1⟩, h1 F1 H1 al1 σ _ (B.cl b x1) r1 (e.ext x1) fun F2 H2 al2 O2 us ys x2 r2 c2 h2 => ?_⟩
    exact h2 F2 H2 al2 _ us Q (B.cl (B.cl b x1) x2) r2 (c1.ext x2) c2 (q.step (x1.trans x2))
theorem dx_bmL0 {r : V → List V → Hp → VK → Prop} {to : TE} (h : DX B to ρ O fun x O1 => (∃ ds, Vw O1 x (.list ds)) ∧ DM B r x [] O1 R) : DX B (tBM0 K "list" r to) ρ O R := fun F H al σ Q b rp e q =>
  h F H al σ _ b rp e fun F1 H1 al1 O1 v c x1 r1 c1 ⟨⟨ds, hv⟩, h1⟩ => by
    obtain ⟨a, vs, ev, g1, rr, l1⟩ := Vw.list r1 c1 hv
    subst ev
    exact ⟨.inl ⟨rfl, vs, SqL.of g1⟩, h1 F1 H1 al1 _ [] Q (B.cl b x1) r1 c1 .nil (q.step x1)⟩
/-- an owned list's object is changed -/
theorem Rep.own_set {F H : Hp} {al : List Addr} {k : Nat} {a : Addr} {b b' : Ob} {o : HO} (rp : Rep F H al O) (hk : O[k]? = some (some b)) (ha : al[k]? = some a) (hF : F a = none) (hb : ObR F (upd H a o) al a b') : Rep F (upd H a o) al (O.set k (some b')) ∧ Ext F H al F (upd H a o) al := by
  have hne : ∀ j c, j ≠ k → al[j]? = some c → c ≠ a := fun j c hj hc z => by
    subst z
    have h1 := (List.getElem?_eq_some_iff.mp hc)
    have h2 := (List.getElem?_eq_some_iff.mp ha)
    exact hj ((List.getElem_inj rp.nd).mp (h1.2.trans h2.2.symm))
  refine ⟨⟨fun b u e => ?_, rp.nd, by simp [rp.len], fun x m => upd_some (rp.there x m), fun j c e => ?_⟩, ⟨Same.refl _, ⟨[], by simp⟩, fun x u e m => ?_, fun _ _ h => h, fun _ _ _ n => n⟩⟩
  · have hn : b ≠ a := fun z => by rw [z, hF] at e; cases e
    rw [upd_ne hn]; exact rp.sub b u e
  · rw [List.getElem?_set] at e
    by_cases hj : k = j
    · subst hj
      rw [if_pos rfl, if_pos (List.getElem?_eq_some_iff.mp hk).1] at e
      cases e
      exact ⟨a, ha, hF, hb⟩
    · rw [if_neg hj] at e
      obtain ⟨c', h1, h2, h3⟩ := rp.own j c e
      have hn := hne j c' (fun z => hj z.symm) h1
      exact ⟨c', h1, h2, h3.mono (Same.refl _) (fun _ _ q => q) fun o q => by rw [upd_ne hn]; exact q⟩
  · have hn : x ≠ a := fun z => m (z ▸ List.mem_of_getElem? ha)
    rw [upd_ne hn]; exact e
theorem Rep.own_get {F H : Hp} {al : List Addr} {k : Nat} {v : V} {ds : List D} (rp : Rep F H al O) (hk : O[k]? = some (some (.lst ds))) (cr : CeR F al v (.o k)) : ∃ (a : Addr) (vs : List V), v = .ref a ∧ al[k]? = some a ∧ F a = none ∧ H a = some (.lst vs) ∧ DVs F vs ds := by
  obtain ⟨a, h1, h2⟩ := cr
  obtain ⟨a', g1, g2, vs, g3, g4⟩ := rp.own k _ hk
  rw [h1] at g1
  cases g1
  exact ⟨a, vs, h2, h1, g2, g3, g4⟩
theorem dm_append {k : Nat} {ds : List D} {y : Ce} {d : D} (hk : O[k]? = some (some (.lst ds))) (hy : y = .d d) (hl : ds.length < sizeLine) (h : R (.d .none) (O.set k (some (.lst (ds ++ [d]))))) : DM B rAppend (.o k) [y] O R := fun F H al v vs Q bb rp cx cy q => by
  subst hy
  obtain ⟨u, rfl, cu⟩ := cers1 cy
  obtain ⟨a, ws, rfl, h1, h2, h3, h4⟩ := rp.own_get hk cx
  obtain ⟨r2, x2⟩ := rp.own_set (b' := .lst (ds ++ [d])) (o := .lst (ws ++ [u])) hk h1 h2 ⟨_, upd_same, h4.append (.cons cu .nil)⟩
  exact ⟨a, ws, u, rfl, rfl, h3, by rw [h4.length]; exact hl, q _ _ _ _ .non (.d .none) x2 r2 DV.non h⟩
theorem dm_extend {k : Nat} {ds es : List D} {y : Ce} (hk : O[k]? = some (some (.lst ds))) (hy : Vw O y (.list es)) (hl : ds.length + es.length ≤ sizeLine) (h : R (.d .none) (O.set k (some (.lst (ds ++ es))))) : DM B rExtend (.o k) [y] O R := fun F H al v vs Q bb rp cx cy q => by
  obtain ⟨u, rfl, cu⟩ := cers1 cy
  obtain ⟨a, ws, rfl, h1, h2, h3, h4⟩ := rp.own_get hk cx
  obtain ⟨a2, ws2, rfl, g1, g2, g3⟩ := Vw.list rp cu hy
  obtain ⟨r2, x2⟩ := rp.own_set (b' := .lst (ds ++ es)) (o := .lst (ws ++ ws2)) hk h1 h2 ⟨_, upd_same, h4.append g2⟩
  exact ⟨a, a2, ws, ws2, rfl, rfl, h3, g1, by rw [h4.length, g2.length]; exact hl, q _ _ _ _ .non (.d .none) x2 r2 DV.non h⟩
/-- found += words -/
theorem d2_ext {k : Nat} {ds es : List D} {y : Ce} (hk : O[k]? = some (some (.lst ds))) (hy : Vw O y (.list es)) (hl : ds.length + es.length ≤ sizeLine) (h : R (.o k) (O.set k (some (.lst (ds ++ es))))) : D2 B rExt2 (.o k) y O R := fun F H al v u Q bb rp cx cu q => by
  obtain ⟨a, ws, rfl, h1, h2, h3, h4⟩ := rp.own_get hk cx
  obtain ⟨a2, ws2, rfl, g1, g2, g3⟩ := Vw.list rp cu hy
  obtain ⟨r2, x2⟩ := rp.own_set (b' := .lst (ds ++ es)) (o := .lst (ws ++ ws2)) hk h1 h2 ⟨_, upd_same, h4.append g2⟩
  exact ⟨a, a2, ws, ws2, rfl, rfl, h3, g1, by rw [h4.length, g2.length]; exact hl, q _ _ _ _ (.ref a) (.o k) x2 r2 ⟨a, h1, rfl⟩ h⟩
def rIAddA : R2 := fun x y H Q => rI0 (fun i j => .int (i + j)) x y H Q ∨ rExt2 x y H Q
theorem iop_addA {X : Cx} : OpR X (inplaceOp .Add) rIAddA := iop_add.or iop_ext
theorem d2_iadd {x y : Ce} {i j : Int} (hx : x = .d (.int i)) (hy : y = .d (.int j)) (k : R (.d (.int (i + j))) O) : D2 B rIAddA x y O R := d2_or (d2_I0 hx hy (fun _ => .int _) k)
theorem d2_iext {k : Nat} {ds es : List D} {x y : Ce} (hx : x = .o k) (hk : O[k]? = some (some (.lst ds))) (hy : Vw O y (.list es)) (hl : ds.length + es.length ≤ sizeLine) (h : R (.o k) (O.set k (some (.lst (ds ++ es))))) : D2 B rIAddA x y O R := by
  subst hx
  exact d2_or' (d2_ext hk hy hl h)
/-- o[i] = v -/
theorem dg_sub {to ti : TE} {c : Ce} {R : En → Ow → Prop} (h : DX B to ρ O fun x O1 => DX B ti ρ O1 fun y O2 => ∃ (k : Nat) (ds : List D) (i : Int) (j : Nat) (d : D), x = .o k ∧ O2[k]? = some (some (.lst ds)) ∧ y = .d (.int i) ∧ ixN ds.length i = some j ∧ c = .d d ∧ R ρ (O2.set k (some (.lst (ds.set j d))))) : DG B (gSub to ti rSetL) c ρ O R := fun F H al v σ Q b rp cr e q =>
  h F H al σ _ b rp e fun F1 H1 al1 O1 o x x1 r1 c1 h1 => h1 F1 H1 al1 σ _ (B.cl b x1) r1 (e.ext x1) fun F2 H2 al2 O2 u y x2 r2 c2 ⟨k, ds, i, j, d, ex, hk, ey, hi, ec, hR⟩ => by
    subst ex ey ec
    obtain ⟨a, ws, rfl, h1, h2, h3, h4⟩ := r2.own_get hk (c1.ext x2)
    cases c2
    have cv : DV F2 v d := DV.mono (x1.trans x2).sub cr
    obtain ⟨r3, x3⟩ := r2.own_set (b' := .lst (ds.set j d)) (o := .lst (ws.set j v)) hk h1 h2 ⟨_, upd_same, h4.set cv j⟩
    exact ⟨a, ws, i, j, rfl, rfl, h3, by rw [h4.length]; exact hi, q _ _ _ _ _ _ ((x1.trans x2).trans x3) r3 (((e.ext x1).ext x2).ext x3) hR⟩
/-- a new list, owned -/
theorem dx_lstO {t : TA} (h : DA B t ρ O fun cs O1 => AllD cs fun ds => ds.length ≤ sizeLine ∧ R (.o O1.length) (O1 ++ [some (.lst ds)])) : DX B (tLst t) ρ O R := fun F H al σ Q b rp e q =>
  h F H al σ _ b rp e fun F1 H1 al1 O1 vs cs x1 r1 c1 ⟨ds, ed, hl, hk⟩ => by
    subst ed
    have rr := CeRs.ds c1
    refine ⟨by rw [rr.length]; exact hl, fun p hp => ?_⟩
    refine q _ _ _ _ (.ref p) (.o O1.length) (x1.trans (Ext.own_new hp)) (r1.own_new hp (b := .lst ds) ⟨vs, upd_same, rr⟩) ⟨p, ?_, rfl⟩ hk
    rw [List.getElem?_append_right (by rw [r1.len]; exact Nat.le_refl _), r1.len]
    simp
/-- the rest of the cells is forgotten -/
theorem Rep.forget {F H : Hp} {al : List Addr} {O' : Ow} (rp : Rep F H al O) (h : ∀ (k : Nat) b, O'[k]? = some (some b) → O[k]? = some (some b)) (hl : O'.length = O.length) : Rep F H al O' := ⟨rp.sub, rp.nd, by rw [rp.len, hl], rp.there, fun k b e => rp.own k b (h k b e)⟩
/-- an owned list is frozen -/
theorem dx_fz {te : TE} (h : DX B te ρ O fun x O1 => ∃ (k : Nat) (ds : List D), x = .o k ∧ O1[k]? = some (some (.lst ds)) ∧ ds.length ≤ sizeLine ∧ R (.d (.list ds)) (O1.set k none)) : DX B te ρ O R := fun F H al σ Q b rp e q =>
  h F H al σ _ b rp e fun F1 H1 al1 O1 v x x1 r1 c1 ⟨k, ds, ex, hk, hl, hR⟩ => by
    subst ex
    obtain ⟨a, ws, rfl, h1, h2, h3, h4⟩ := r1.own_get hk c1
    have hs : Same F1 (upd F1 a (.lst ws)) := same_upd (Same.refl _) h2
    refine q (upd F1 a (.lst ws)) H1 al1 (O1.set k none) (.ref a) (.d (.list ds)) (x1.trans ⟨hs, ⟨[], by simp⟩, fun _ _ e _ => e, fun _ _ m => m, fun y _ m n => ?_⟩) ⟨fun y u z => ?_, r1.nd, by simp [r1.len], r1.there, fun j c z => ?_⟩ (DV.lst upd_same hl (h4.mono hs)) hR
    · have : y ≠ a := fun z => m (z ▸ List.mem_of_getElem? h1)
      rw [upd_ne this]; exact n
    · by_cases hy : y = a
      · subst hy; rw [upd_same] at z; cases z; exact h3
      · rw [upd_ne hy] at z; exact r1.sub y u z
    · rw [List.getElem?_set] at z
      by_cases hj : k = j
      · subst hj
        rw [if_pos rfl] at z
        split at z <;> cases z
      · rw [if_neg hj] at z
        obtain ⟨c', g1, g2, g3⟩ := r1.own j c z
        have hn : c' ≠ a := fun w => by
          subst w
          have z1 := (List.getElem?_eq_some_iff.mp g1)
          have z2 := (List.getElem?_eq_some_iff.mp h1)
          exact hj ((List.getElem_inj r1.nd).mp (z2.2.trans z1.2.symm))
        exact ⟨c', g1, by rw [upd_ne hn]; exact g2, g3.mono hs (fun _ _ q => q) fun o q => q⟩
end
end DL
/-! DL, part f: what a for and a comprehension walk. -/
namespace DL
open PySem L2 PySem.Spec
set_option autoImplicit false
section
variable {B : Bs} {ρ : En} {O : Ow} {R : RX} {A : AE} {K : PySem.W.Frag}
theorem di_of {tl : TE} {R : List D → Ow → Prop} {wi : TI} {P : Ce → Ow → List D → Prop} (h : DX B tl ρ O fun c O1 => ∃ ds, P c O1 ds ∧ R ds O1)
    (w : ∀ (σ : L2.St) (H : Hp) (Rh : It → Hp → Prop), (tl σ H fun v H1 => ∃ J, (∃ (F1 : Hp) (al1 : List Addr) (O1 : Ow) (c : Ce) (ds : List D), Rep F1 H1 al1 O1 ∧ CeR F1 al1 v c ∧ P c O1 ds) → True ∧ Rh J H1) → True) : True := trivial
theorem walk_list {F : Hp} {a : Addr} {xs : List V} {ds : List D} (e : F a = some (.lst xs)) (r : DVs F xs ds) : WalkD (Itl K a) F ds := by
  refine ⟨fun H s => ⟨xs, SqL.of (s _ _ e), by rw [r.length]; exact Nat.le_refl _⟩, fun i H hi s => ?_, fun i F' H x H' hi s1 s2 hy => ?_⟩
  · obtain ⟨v, h1, h2⟩ := r.get (List.getElem?_eq_getElem hi)
    exact ⟨xs, v, SqL.of (s _ _ e), h1⟩
  · obtain ⟨rfl, hy⟩ := hy
    obtain ⟨v, h1, h2⟩ := r.get (List.getElem?_eq_getElem hi)
    have hx := hy xs (SqL.of (s2 _ _ (s1 _ _ e)))
    rw [h1] at hx
    cases hx
    exact ⟨F', _, List.getElem?_eq_getElem hi, Same.refl _, s2, Same.refl _, fun _ _ n => n, h2.mono s1⟩
theorem walk_tup {F : Hp} {a : Addr} {xs : List V} {ds : List D} (e : F a = some (.tup xs)) (r : DVs F xs ds) : WalkD (Itt K a) F ds := by
  refine ⟨fun H s => ⟨xs, SqT.of (s _ _ e), by rw [r.length]; exact Nat.le_refl _⟩, fun i H hi s => ?_, fun i F' H x H' hi s1 s2 hy => ?_⟩
  · obtain ⟨v, h1, h2⟩ := r.get (List.getElem?_eq_getElem hi)
    exact ⟨xs, v, SqT.of (s _ _ e), h1⟩
  · obtain ⟨rfl, hy⟩ := hy
    obtain ⟨v, h1, h2⟩ := r.get (List.getElem?_eq_getElem hi)
    have hx := hy xs (SqT.of (s2 _ _ (s1 _ _ e)))
    rw [h1] at hx
    cases hx
    exact ⟨F', _, List.getElem?_eq_getElem hi, Same.refl _, s2, Same.refl _, fun _ _ n => n, h2.mono s1⟩
theorem di_list {tl : TE} {R : List D → Ow → Prop} (h : DX B tl ρ O fun c O1 => ∃ ds, c = .d (.list ds) ∧ R ds O1) : DI B (iList K tl) ρ O R := fun F H al σ Rh b rp e q =>
  h F H al σ _ b rp e fun F1 H1 al1 O1 v c x1 r1 c1 ⟨ds, ec, hR⟩ => by
    subst ec
    cases c1 with
    | lst q1 l r => exact ⟨_, rfl, ⟨_, SqL.of (r1.sub _ _ q1)⟩, q F1 H1 al1 O1 _ ds x1 r1 (walk_list q1 r) l hR⟩
theorem di_tup {tl : TE} {R : List D → Ow → Prop} (h : DX B tl ρ O fun c O1 => ∃ ds, c = .d (.tuple ds) ∧ R ds O1) : DI B (iTup K tl) ρ O R := fun F H al σ Rh b rp e q =>
  h F H al σ _ b rp e fun F1 H1 al1 O1 v c x1 r1 c1 ⟨ds, ec, hR⟩ => by
    subst ec
    cases c1 with
    | tup q1 l r => exact ⟨_, rfl, ⟨_, SqT.of (r1.sub _ _ q1)⟩, q F1 H1 al1 O1 _ ds x1 r1 (walk_tup q1 r) l hR⟩
/-- the ints lo, lo + 1, .. (n of them) -/
def rgD (lo : Int) (n : Nat) : List D := (List.range n).map fun i => .int (lo + (i : Nat))
theorem rgD_length (lo : Int) (n : Nat) : (rgD lo n).length = n := by unfold rgD; simp
theorem rgD_get {lo : Int} {n i : Nat} (h : i < n) : (rgD lo n)[i]? = some (.int (lo + (i : Nat))) := by
  unfold rgD
  rw [List.getElem?_map, List.getElem?_range h]
  rfl
theorem walk_range {F : Hp} (lo : Int) (n : Nat) : WalkD (Itr lo n) F (rgD lo n) := by
  refine ⟨fun H s => by rw [rgD_length]; exact Nat.le_refl _, fun i H hi s => by rw [rgD_length] at hi; exact hi, fun i F' H x H' hi s1 s2 hy => ?_⟩
  rw [rgD_length] at hi
  obtain ⟨rfl, rfl⟩ := hy
  exact ⟨F', _, rgD_get hi, Same.refl _, s2, Same.refl _, fun _ _ n => n, .int _⟩
theorem di_rng1 {ta : TA} {R : List D → Ow → Prop} (h : DA B ta ρ O fun cs O1 => ∃ j : Int, cs = [.d (.int j)] ∧ j ≤ 16777216 ∧ -(2 ^ 62) ≤ j ∧ R (rgD 0 j.toNat) O1) : DI B (iRng1 ta) ρ O R := fun F H al σ Rh b rp e q =>
  h F H al σ _ b rp e fun F1 H1 al1 O1 vs cs x1 r1 c1 ⟨j, ec, hj, hj0, hR⟩ => by
    subst ec
    obtain ⟨v, rfl, cv⟩ := cers1 c1
    cases cv
    exact ⟨j, rfl, hj0, by omega, q F1 H1 al1 O1 _ _ x1 r1 (walk_range 0 j.toNat) (by rw [rgD_length, sizeLine_eq]; omega) hR⟩
theorem di_rng2 {ta : TA} {R : List D → Ow → Prop} (h : DA B ta ρ O fun cs O1 => ∃ i j : Int, cs = [.d (.int i), .d (.int j)] ∧ (-(2 ^ 62) ≤ i ∧ i < 2 ^ 62 ∧ -(2 ^ 62) ≤ j ∧ j < 2 ^ 62) ∧ (j - i).toNat ≤ 16777216 ∧ R (rgD i (j - i).toNat) O1) : DI B (iRng2 ta) ρ O R := fun F H al σ Rh b rp e q =>
  h F H al σ _ b rp e fun F1 H1 al1 O1 vs cs x1 r1 c1 ⟨i, j, ec, hj, hj0, hR⟩ => by
    subst ec
    obtain ⟨v, u, rfl, cv, cu⟩ := cers2 c1
    cases cv
    cases cu
    exact ⟨i, j, rfl, hj, q F1 H1 al1 O1 _ _ x1 r1 (walk_range i (j - i).toNat) (by rw [rgD_length, sizeLine_eq]; exact hj0) hR⟩
/-- pairs of the turn's number and the item -/
def enD (ds : List D) : List D := (List.range ds.length).map fun i => .tuple [.int (i : Nat), ds.getD i .none]
theorem enD_length (ds : List D) : (enD ds).length = ds.length := by unfold enD; simp
theorem enD_get {ds : List D} {i : Nat} {d : D} (h : ds[i]? = some d) : (enD ds)[i]? = some (.tuple [.int (i : Nat), d]) := by
  have hi := (List.getElem?_eq_some_iff.mp h).1
  unfold enD
  rw [List.getElem?_map, List.getElem?_range hi]
  show some (PyData.tuple [.int (i : Nat), ds.getD i .none]) = _
  rw [List.getD_eq_getElem?_getD, h]
  rfl
theorem two_le : ∀ x y : D, [x, y].length ≤ sizeLine := fun _ _ => by rw [sizeLine_eq]; show 2 ≤ 16777216; decide
theorem yld_tup {F' H H' : Hp} {T : Addr} {x y : V} {d e : D} (s2 : Same F' H) (hT : H T = none) (hd : DV F' x d) (he : DV F' y e) : Same F' (upd F' T (.tup [x, y])) ∧ Same (upd F' T (.tup [x, y])) (upd H T (.tup [x, y])) ∧ Same H (upd H T (.tup [x, y])) ∧ (∀ a, H a ≠ none → F' a = none → upd F' T (.tup [x, y]) a = none) ∧ DV (upd F' T (.tup [x, y])) (.ref T) (.tuple [d, e]) := by
  have hF : F' T = none := Same.free s2 hT
  refine ⟨same_upd (Same.refl _) hF, same_upd2 s2, same_upd (Same.refl _) hT, fun a h n => ?_, DV.tup_new hF (two_le d e) (.cons hd (.cons he .nil))⟩
  rw [upd_ne (fun z => by rw [z] at h; exact h hT)]
  exact n
theorem walk_enum {F : Hp} {a : Addr} {xs : List V} {ds : List D} (e : F a = some (.lst xs)) (r : DVs F xs ds) : WalkD (Ite K a) F (enD ds) := by
  refine ⟨fun H s => ⟨xs, SqL.of (s _ _ e), by rw [enD_length, r.length]; exact Nat.le_refl _⟩, fun i H hi s => ?_, fun i F' H x H' hi s1 s2 hy => ?_⟩
  · rw [enD_length] at hi
    obtain ⟨v, h1, h2⟩ := r.get (List.getElem?_eq_getElem hi)
    exact ⟨xs, v, SqL.of (s _ _ e), h1⟩
  · rw [enD_length] at hi
    obtain ⟨T, y, rfl, hT, rfl, hy⟩ := hy
    obtain ⟨v, h1, h2⟩ := r.get (List.getElem?_eq_getElem hi)
    have hx := hy xs (SqL.of (s2 _ _ (s1 _ _ e)))
    rw [h1] at hx
    cases hx
    obtain ⟨q1, q2, q3, q4, q5⟩ := yld_tup (H' := H) s2 hT (.int (i : Nat)) (h2.mono s1)
    exact ⟨_, _, enD_get (List.getElem?_eq_getElem hi), q1, q2, q3, q4, q5⟩
theorem di_enum {ta : TA} {R : List D → Ow → Prop} (h : DA B ta ρ O fun cs O1 => ∃ ds, cs = [.d (.list ds)] ∧ R (enD ds) O1) : DI B (iEnum K ta) ρ O R := fun F H al σ Rh b rp e q =>
  h F H al σ _ b rp e fun F1 H1 al1 O1 vs cs x1 r1 c1 ⟨ds, ec, hR⟩ => by
    subst ec
    obtain ⟨v, rfl, cv⟩ := cers1 c1
    cases cv with
    | lst q1 l r => exact ⟨_, _, rfl, SqL.of (r1.sub _ _ q1), q F1 H1 al1 O1 _ _ x1 r1 (walk_enum q1 r) (by rw [enD_length]; exact l) hR⟩
/-- pairs of two rows' items -/
def zpD (ds es : List D) : List D := List.zipWith (fun d e => .tuple [d, e]) ds es
theorem zpD_get {ds es : List D} {i : Nat} {d e : D} (h : ds[i]? = some d) (h' : es[i]? = some e) : (zpD ds es)[i]? = some (.tuple [d, e]) := by
  unfold zpD
  rw [List.getElem?_zipWith, h, h']
theorem zpD_length (ds es : List D) : (zpD ds es).length = min ds.length es.length := List.length_zipWith
theorem walk_zip {F : Hp} {a b : Addr} {xs ys : List V} {ds es : List D} (e : F a = some (.lst xs)) (r : DVs F xs ds) (e' : F b = some (.lst ys)) (r' : DVs F ys es) : WalkD (Itz K a b) F (zpD ds es) := by
  refine ⟨fun H s => ⟨xs, ys, SqL.of (s _ _ e), SqL.of (s _ _ e'), by rw [zpD_length, r.length, r'.length]; omega⟩, fun i H hi s => ?_, fun i F' H x H' hi s1 s2 hy => ?_⟩
  · rw [zpD_length] at hi
    have hd : i < ds.length := by omega
    have he : i < es.length := by omega
    obtain ⟨v, h1, h2⟩ := r.get (List.getElem?_eq_getElem hd)
    obtain ⟨u, g1, g2⟩ := r'.get (List.getElem?_eq_getElem he)
    exact ⟨xs, ys, v, u, SqL.of (s _ _ e), SqL.of (s _ _ e'), h1, g1⟩
  · rw [zpD_length] at hi
    have hd : i < ds.length := by omega
    have he : i < es.length := by omega
    obtain ⟨T, y, z, rfl, hT, rfl, hy, hz⟩ := hy
    obtain ⟨v, h1, h2⟩ := r.get (List.getElem?_eq_getElem hd)
    obtain ⟨u, g1, g2⟩ := r'.get (List.getElem?_eq_getElem he)
    have hx := hy xs (SqL.of (s2 _ _ (s1 _ _ e)))
    rw [h1] at hx
    cases hx
    have hx := hz ys (SqL.of (s2 _ _ (s1 _ _ e')))
    rw [g1] at hx
    cases hx
    obtain ⟨q1, q2, q3, q4, q5⟩ := yld_tup (H' := H) s2 hT (h2.mono s1) (g2.mono s1)
    exact ⟨_, _, zpD_get (List.getElem?_eq_getElem hd) (List.getElem?_eq_getElem he), q1, q2, q3, q4, q5⟩
theorem walk_zipT {F : Hp} {a b : Addr} {xs ys : List V} {ds es : List D} (e : F a = some (.tup xs)) (r : DVs F xs ds) (e' : F b = some (.tup ys)) (r' : DVs F ys es) : WalkD (RZ.ItzT K a b) F (zpD ds es) := by
  refine ⟨fun H s => ⟨xs, ys, SqT.of (s _ _ e), SqT.of (s _ _ e'), by rw [zpD_length, r.length, r'.length]; omega⟩, fun i H hi s => ?_, fun i F' H x H' hi s1 s2 hy => ?_⟩
  · rw [zpD_length] at hi
    have hd : i < ds.length := by omega
    have he : i < es.length := by omega
    obtain ⟨v, h1, h2⟩ := r.get (List.getElem?_eq_getElem hd)
    obtain ⟨u, g1, g2⟩ := r'.get (List.getElem?_eq_getElem he)
    exact ⟨xs, ys, v, u, SqT.of (s _ _ e), SqT.of (s _ _ e'), h1, g1⟩
  · rw [zpD_length] at hi
    have hd : i < ds.length := by omega
    have he : i < es.length := by omega
    obtain ⟨T, y, z, rfl, hT, rfl, hy, hz⟩ := hy
    obtain ⟨v, h1, h2⟩ := r.get (List.getElem?_eq_getElem hd)
    obtain ⟨u, g1, g2⟩ := r'.get (List.getElem?_eq_getElem he)
    have hx := hy xs (SqT.of (s2 _ _ (s1 _ _ e)))
    rw [h1] at hx
    cases hx
    have hx := hz ys (SqT.of (s2 _ _ (s1 _ _ e')))
    rw [g1] at hx
    cases hx
    obtain ⟨q1, q2, q3, q4, q5⟩ := yld_tup (H' := H) s2 hT (h2.mono s1) (g2.mono s1)
    exact ⟨_, _, zpD_get (List.getElem?_eq_getElem hd) (List.getElem?_eq_getElem he), q1, q2, q3, q4, q5⟩
/-- a text, sign by sign -/
def sgD (z : Str) : List D := z.cps.toList.map fun c => .str ⟨#[c]⟩
theorem one_le (c : Nat) : (⟨#[c]⟩ : Str).length ≤ sizeLine := by rw [sizeLine_eq]; show 1 ≤ 16777216; decide
theorem walk_str {F : Hp} (z : Str) : WalkD (Its z) F (sgD z) := by
  have hl : (sgD z).length = z.cps.size := by unfold sgD; simp
  refine ⟨fun H s => by rw [hl]; exact Nat.le_refl _, fun i H hi s => by rw [hl] at hi; exact hi, fun i F' H x H' hi s1 s2 hy => ?_⟩
  obtain ⟨rfl, c, hc, rfl⟩ := hy
  refine ⟨F', .str ⟨#[c]⟩, ?_, Same.refl _, s2, Same.refl _, fun _ _ n => n, .str _ (one_le c)⟩
  unfold sgD
  rw [List.getElem?_map, Array.getElem?_toList, hc]
  rfl
theorem di_str {te : TE} {R : List D → Ow → Prop} (h : DX B te ρ O fun c O1 => ∃ z, c = .d (.str z) ∧ R (sgD z) O1) : DI B (iStr te) ρ O R := fun F H al σ Rh b rp e q =>
  h F H al σ _ b rp e fun F1 H1 al1 O1 v c x1 r1 c1 ⟨z, ec, hR⟩ => by
    subst ec
    cases c1 with
    | str _ l => exact ⟨z, rfl, q F1 H1 al1 O1 _ _ x1 r1 (walk_str z) (by unfold sgD; rw [List.length_map, Array.length_toList]; exact l) hR⟩
end
end DL
/-! DL, part z: zip of a list or tuple with a list or tuple, in any mix. -/
namespace DL
open PySem L2 PySem.Spec
set_option autoImplicit false
/-- a list (k) or a tuple (not k) -/
def SqA (k : Bool) (K : PySem.W.Frag) (H : Hp) (a : Addr) (xs : List V) : Prop := if k then SqL K H a xs else SqT K H a xs
def ItA (k : Bool) (h : Heap) (it a : Addr) (i : Nat) : Prop := if k then h.IsListIter it a i else h.IsTupleIter it a i
def ArA (k : Bool) (h : Heap) (a : Addr) (its : Array Value) : Prop := if k then h.IsList a its else h.IsTuple a its
theorem Inv.sqA {X : Cx} {pins : List (Addr × Obj)} {σ : L2.St} {H : Hp} {s : Shared} {k : Bool} {a : Addr} {xs : List V} (I : Inv X pins σ H s) (h : SqA k X.K H a xs) : ∃ its : List Value, Vals xs its ∧ ArA k s.heap a its.toArray := by
  cases k with
  | true =>
    obtain ⟨its, r, p, _⟩ := I.list h
    exact ⟨its, r, p.isList⟩
  | false =>
    obtain ⟨its, r, p, _⟩ := I.tuple h
    exact ⟨its, r, p⟩
theorem Inv.sqA_inj {X : Cx} {pins : List (Addr × Obj)} {σ : L2.St} {H : Hp} {s : Shared} {k : Bool} {a : Addr} {xs ys : List V} (I : Inv X pins σ H s) (h : SqA k X.K H a xs) (h' : SqA k X.K H a ys) : xs = ys := by
  cases k with
  | true => exact I.list_inj h h'
  | false => exact I.tuple_inj h h'
theorem ItA.keep {k : Bool} {h h' : Heap} {it a : Addr} {i : Nat} (x : ItA k h it a i) (e : ∀ o, h.get? it = some o → h'.get? it = some o) : ItA k h' it a i := by
  cases k with
  | true => exact Heap.IsListIter.at x e
  | false => exact Heap.IsTupleIter.at x e
theorem ItA.obj {k : Bool} {h : Heap} {it a : Addr} {i : Nat} (x : ItA k h it a i) : ∃ o, h.get? it = some o ∧ ∀ v, o.data ≠ .cell v := by
  cases k with
  | true =>
    obtain ⟨o, e, _, d⟩ := x
    exact ⟨o, e, fun v q => by rw [d] at q; cases q⟩
  | false =>
    obtain ⟨o, e, _, d⟩ := x
    exact ⟨o, e, fun v q => by rw [d] at q; cases q⟩
theorem ArA.ne {k : Bool} {h : Heap} {it a b : Addr} {i : Nat} {j : Bool} {its : Array Value} (x : ItA j h it b i) (y : ArA k h a its) : a ≠ it := fun z => by
  subst z
  have hx : ∃ o vs, h.get? a = some o ∧ o.data = .fields vs := by
    cases j with
    | true => obtain ⟨o, e, _, d⟩ := x; exact ⟨o, _, e, d⟩
    | false => obtain ⟨o, e, _, d⟩ := x; exact ⟨o, _, e, d⟩
  have hy : ∃ o vs n, h.get? a = some o ∧ o.data = .seq vs n := by
    cases k with
    | true => obtain ⟨o, e, _, n, d⟩ := y; exact ⟨o, _, n, e, d⟩
    | false => obtain ⟨o, e, _, n, d⟩ := y; exact ⟨o, _, n, e, d⟩
  obtain ⟨o, vs, e, d⟩ := hx
  obtain ⟨o', ws, n, e', d'⟩ := hy
  rw [e] at e'
  cases e'
  rw [d] at d'
  cases d'
theorem ArA.lt {k : Bool} {h : Heap} {a : Addr} {its : Array Value} (y : ArA k h a its) : a < h.objs.size := by
  cases k with
  | true => obtain ⟨o, e, _⟩ := y; exact Heap.lt_size e
  | false => obtain ⟨o, e, _⟩ := y; exact Heap.lt_size e
theorem drawsA {prog : Program} {w : World} {A : Around} (hh : A.handled = none) (k : Bool) (it a : Addr) (hne : a ≠ it) (items : Array Value) :
    Draws prog w A it [it, a] items.size (fun i v => items[i]? = some v) (fun i h => ItA k h it a i ∧ ArA k h a items) := by
  cases k with
  | true => exact Draws.list hh it a hne items
  | false => exact Draws.tuple hh it a hne items
/-- the addresses of a zip's cells -/
structure ZApart (z TI TO i1 i2 : Addr) : Prop where
  TIz : TI ≠ z
  TOz : TO ≠ z
  TITO : TI ≠ TO
  TIi1 : TI ≠ i1
  TIi2 : TI ≠ i2
  TOi1 : TO ≠ i1
  TOi2 : TO ≠ i2
  zi1 : z ≠ i1
  zi2 : z ≠ i2
  i12 : i1 ≠ i2
def ItzA (k1 k2 : Bool) (K : PySem.W.Frag) (a b : Addr) : It :=
  ⟨fun i H => ∃ (xs ys : List V) (x y : V), SqA k1 K H a xs ∧ SqA k2 K H b ys ∧ xs[i]? = some x ∧ ys[i]? = some y,
    fun i H v H' => ∃ T x y, v = .ref T ∧ H T = none ∧ H' = upd H T (.tup [x, y]) ∧ (∀ xs, SqA k1 K H a xs → xs[i]? = some x) ∧ ∀ ys, SqA k2 K H b ys → ys[i]? = some y,
    fun i H => ∃ xs ys : List V, SqA k1 K H a xs ∧ SqA k2 K H b ys ∧ i = min xs.length ys.length⟩
def ZSt (k1 k2 : Bool) (z TI TO i1 i2 a b : Addr) (i : Nat) (h : Heap) : Prop := IsZip h z TI TO .none ∧ IsTupOf2 h TI (.ref i1) (.ref i2) ∧ (∃ x y, IsTupOf2 h TO x y) ∧ ItA k1 h i1 a i ∧ ItA k2 h i2 b i
section
variable {P : Program} {w : World} {K : PySem.W.Frag}
/-- what the library says of such a zip, where its two rows stand -/
theorem zwalk {A : Around} (hh : A.handled = none) {k1 k2 : Bool} {z TI TO i1 i2 a b : Addr} (S : ZApart z TI TO i1 i2) {xs ys : Array Value} (ha1 : a ≠ i1) (ha2 : a ≠ i2) (hb1 : b ≠ i1) (hb2 : b ≠ i2) (haz : a ≠ z) (hbz : b ≠ z) (haT : a ≠ TO) (hbT : b ≠ TO) :
    WalksT P w A z (z :: TI :: TO :: ([i1, a] ++ [i2, b])) [z, TO, i1, i2] (min xs.size ys.size) (fun i vals => ∃ x1 x2, xs[i]? = some x1 ∧ ys[i]? = some x2 ∧ vals = #[x1, x2])
      (fun i h => IsZip h z TI TO .none ∧ IsTupOf2 h TI (.ref i1) (.ref i2) ∧ (∃ a1 a2, IsTupOf2 h TO a1 a2) ∧ (ItA k1 h i1 a i ∧ ArA k1 h a xs) ∧ (ItA k2 h i2 b i ∧ ArA k2 h b ys))
      (fun i T h => IsZip h z TI TO (rawInt T) ∧ IsTupOf2 h TI (.ref i1) (.ref i2) ∧ (∃ a1 a2, IsTupOf2 h TO a1 a2) ∧ (ItA k1 h i1 a (i + 1) ∧ ArA k1 h a xs) ∧ (ItA k2 h i2 b (i + 1) ∧ ArA k2 h b ys) ∧ T ≠ z ∧ T ≠ TO ∧ T ≠ i1 ∧ T ≠ i2) := by
  have hin : A.in1.handled = none := hh
  refine WalksT.zipD2 (fp1 := [i1, a]) (fp2 := [i2, b]) ?_ (drawsA hin k1 i1 a ha1 xs) (drawsA hin k2 i2 b hb2 ys)
  have n2 : ∀ {x y c : Addr}, c ≠ x → y ≠ c → c ∉ [x, y] := fun h1 h2 m => by
    simp only [List.mem_cons, List.not_mem_nil, or_false] at m
    rcases m with m | m
    · exact h1 m
    · exact h2 m.symm
  exact ⟨S.TIz, S.TOz, S.TITO, S.TIi1, by simp, n2 S.zi1 haz, n2 S.TOi1 haT, S.TIi2, by simp, n2 S.zi2 hbz, n2 S.TOi2 hbT, n2 S.i12 hb1, n2 S.i12.symm ha2⟩
theorem mem45 {z TI TO i1 i2 c : Addr} (m : c ∈ [z, TO, i1, i2]) : c ∈ [z, TI, TO, i1, i2] := by
  simp only [List.mem_cons, List.not_mem_nil, or_false] at m ⊢
  rcases m with m | m | m | m
  · exact .inl m
  · exact .inr (.inr (.inl m))
  · exact .inr (.inr (.inr (.inl m)))
  · exact .inr (.inr (.inr (.inr m)))
theorem ar_ne_fields {k : Bool} {h : Heap} {a b : Addr} {its : Array Value} {c : Value} {vs : Array Value} (y : ArA k h a its) (e : h.get? b = some { cls := c, data := .fields vs }) : a ≠ b := fun z => by
  subst z
  cases k with
  | true => obtain ⟨o, e', _, n, d⟩ := y; rw [e] at e'; cases e'; cases d
  | false => obtain ⟨o, e', _, n, d⟩ := y; rw [e] at e'; cases e'; cases d
theorem turn_zipA {elts : List Expr} {kk : Nat} {tpos : Pos} {k1 k2 : Bool} {z TI TO i1 i2 a b : Addr} (S : ZApart z TI TO i1 i2) (hTa : a ≠ TO) (hTb : b ≠ TO) :
    Turn P w K (.Tuple elts kk tpos) (ItzA k1 k2 K a b) [z, TI, TO, i1, i2] z (ZSt k1 k2 z TI TO i1 i2 a b) where
  mem := by simp
  obj := fun i h st c hc => by
    obtain ⟨hz, hTI, ⟨x, y, hTO⟩, h1, h2⟩ := st
    have e' : c = z ∨ c = TI ∨ c = TO ∨ c = i1 ∨ c = i2 := by simpa using hc
    rcases e' with rfl | rfl | rfl | rfl | rfl
    · exact ⟨_, hz, fun v q => nomatch q⟩
    · exact ⟨_, hTI, fun v q => nomatch q⟩
    · exact ⟨_, hTO, fun v q => nomatch q⟩
    · exact h1.obj
    · exact h2.obj
  keep := fun i h h' st k => by
    obtain ⟨hz, hTI, ⟨x, y, hTO⟩, h1, h2⟩ := st
    exact ⟨k z (by simp) _ hz, k TI (by simp) _ hTI, ⟨x, y, k TO (by simp) _ hTO⟩, h1.keep fun o q => k i1 (by simp) o q, h2.keep fun o q => k i2 (by simp) o q⟩
  item := by
    intro X hP hw hK hc i pins s σ H E I hf st hg
    subst hP hw hK
    obtain ⟨hz, hTI, hTO, h1, h2⟩ := st
    obtain ⟨xs, ys, x, y, hqx, hqy, hx, hy⟩ := hg
    obtain ⟨its, rv, p⟩ := Inv.sqA I hqx
    obtain ⟨its2, rv2, p2⟩ := Inv.sqA I hqy
    obtain ⟨u, hu, ru⟩ := rv.get hx
    obtain ⟨u2, hu2, ru2⟩ := rv2.get hy
    have W := zwalk (P := X.prog) (w := X.w) (I.ok.hd hc) (k1 := k1) (k2 := k2) S (xs := its.toArray) (ys := its2.toArray) (ArA.ne h1 p) (ArA.ne h2 p) (ArA.ne h1 p2) (ArA.ne h2 p2) (ar_ne_fields p hz) (ar_ne_fields p2 hz) hTa hTb
    have hi : i < min its.toArray.size its2.toArray.size := by
      have l1 := (List.getElem?_eq_some_iff.mp hu).1
      have l2 := (List.getElem?_eq_some_iff.mp hu2).1
      simp only [List.size_toArray]
      omega
    refine W.item i s _ E hi ⟨hz, hTI, hTO, ⟨h1, p⟩, ⟨h2, p2⟩⟩ fun T vals h' tk ⟨x1, x2, e1, e2, ev⟩ hT hIs hMid hk => ?_
    refine ⟨_, rfl, ?_⟩
    have hap := W.apart i T h' hMid
    refine W.go elts kk tpos i T { s with heap := h', toks := tk } _ _ hMid fun h2' st2 hk2 => ?_
    obtain ⟨z1, z2, z3, ⟨z4, _⟩, z5, _⟩ := st2
    have e1' : x1 = u := by
      have : its.toArray[i]? = some u := by simpa using hu
      rw [this] at e1; exact (Option.some.inj e1).symm
    have e2' : x2 = u2 := by
      have : its2.toArray[i]? = some u2 := by simpa using hu2
      rw [this] at e2; exact (Option.some.inj e2).symm
    subst e1' e2' ev
    obtain ⟨oT, hoT, cT, nT, dT⟩ := hIs
    have hoT2 := hk2 T oT hap hoT
    have new : ObjOk X.prog X.w (upd H T (.tup [x, y])) h2' T (.tup [x, y]) := ⟨by show 2 ≤ sizeLine; decide, [x1, x2], .cons ru (.cons ru2 .nil), ⟨oT, hoT2, cT, nT, dT⟩⟩
    have I1 : Inv X pins σ (upd H T (.tup [x, y])) { s with heap := h2', toks := tk } :=
      I.turnedNew (t' := tk) (ch := [z, TI, TO, i1, i2]) (fun c o hb q => hk2 c o (fun m => hb (mem45 m)) (hk c o (fun m => hb (mem45 m)) q)) hf hT new
    refine ⟨.ref T, _, I1, rfl, ⟨T, x, y, rfl, I.hok.fresh hT, rfl, fun l hl => by rw [Inv.sqA_inj I hl hqx]; exact hx, fun l hl => by rw [Inv.sqA_inj I hl hqy]; exact hy⟩, ⟨z1, z2, z3, z4, z5⟩, fun c hcm => ?_⟩
    have hcT : c ≠ T := fun q => by
      subst q
      have hc0 := (hf c hcm).1
      have hlt : c < s.heap.objs.size := by
        obtain ⟨o, ho, _⟩ : ∃ o, s.heap.get? c = some o ∧ True := by
          have e' : c = z ∨ c = TI ∨ c = TO ∨ c = i1 ∨ c = i2 := by simpa using hcm
          obtain ⟨t1, t2, hTO'⟩ := hTO
          rcases e' with e | e | e | e | e
          · rw [e]; exact ⟨_, hz, trivial⟩
          · rw [e]; exact ⟨_, hTI, trivial⟩
          · rw [e]; exact ⟨_, hTO', trivial⟩
          · rw [e]; obtain ⟨o, q, _⟩ := h1.obj; exact ⟨o, q, trivial⟩
          · rw [e]; obtain ⟨o, q, _⟩ := h2.obj; exact ⟨o, q, trivial⟩
        exact Heap.lt_size ho
      exact absurd (Nat.lt_of_lt_of_le hlt hT) (Nat.lt_irrefl _)
    rw [upd_ne hcT]
    exact (hf c hcm).1
  done := by
    intro X hP hw hK hc i pins s σ H E I hf st hg
    subst hP hw hK
    obtain ⟨hz, hTI, hTO, h1, h2⟩ := st
    obtain ⟨xs, ys, hqx, hqy, hend⟩ := hg
    obtain ⟨its, rv, p⟩ := Inv.sqA I hqx
    obtain ⟨its2, rv2, p2⟩ := Inv.sqA I hqy
    have W := zwalk (P := X.prog) (w := X.w) (I.ok.hd hc) (k1 := k1) (k2 := k2) S (xs := its.toArray) (ys := its2.toArray) (ArA.ne h1 p) (ArA.ne h2 p) (ArA.ne h1 p2) (ArA.ne h2 p2) (ar_ne_fields p hz) (ar_ne_fields p2 hz) hTa hTb
    have hi : i = min its.toArray.size its2.toArray.size := by
      have l1 := rv.length
      have l2 := rv2.length
      simp only [List.size_toArray]
      omega
    subst hi
    refine W.done s _ E ⟨hz, hTI, hTO, ⟨h1, p⟩, ⟨h2, p2⟩⟩ fun h' tk hk => ⟨rfl, ?_⟩
    exact I.turnedL (t' := tk) (ch := [z, TI, TO, i1, i2]) (fun c o hb q => hk c o (fun m => hb (mem45 m)) q) hf
  self := fun A i s Q E st h => wpAny_pyIter_zip st.1 h
end
/-- zip(x, y), each a list or a tuple -/
def iZipX (K : PySem.W.Frag) (ta : TA) : TI := fun σ H R => ta σ H fun vs H1 => ∃ (k1 k2 : Bool) (a b : Addr) (xs ys : List V), vs = [.ref a, .ref b] ∧ SqA k1 K H1 a xs ∧ SqA k2 K H1 b ys ∧ R (ItzA k1 k2 K a b) H1
theorem begA (k : Bool) (a : Addr) (items : Array Value) : ∃ o, Begins (.ref a) o (fun h => ArA k h a items) ∧ ∀ h it, h.get? it = some o → ItA k h it a 0 := by
  cases k with
  | true => exact ⟨_, begins_list a items, fun h it e => ⟨_, e, rfl, rfl⟩⟩
  | false => exact ⟨_, begins_tuple a items, fun h it e => ⟨_, e, rfl, rfl⟩⟩
theorem pi_zipX {X : Cx} {e e2 : Expr} {ta : TA} {p pos tpos : Pos} {elts : List Expr} {kk : Nat} (hg : Gl X "zip") (hm : X.mg "zip" = none) (ha : PA X [e, e2] ta)
    (hs : starEach [e, e2] X.env = (false, eval e X.env) :: starEach [e2] X.env := by rfl) (hpl : (backTo pos (starEach [e2] X.env)).any (·.1) = false := by rfl) :
    PI X (.Tuple elts kk tpos) (.Call (.Name "zip" p) [e, e2] [] pos) (iZipX X.K ta) := by
  refine ⟨fun pins s σ H R I h => ?_⟩
  refine PyProof.Rows.Call_ (ld_blt I hg hm PyProof.Rows.boot_zip (PyProof.Rows.callWith_type1 (thn (ha.run pos pins s σ H _ I h) fun us s1 hh => ?_) hs hpl))
  obtain ⟨vs, H1, I1, r1, k1, k2, a, b, xs, ys, ex, hqx, hqy, q⟩ := hh
  subst ex
  cases r1 with
  | cons r rr =>
    cases rr with
    | cons r' rr =>
      cases rr
      cases r
      cases r'
      obtain ⟨its, rv, p1⟩ := Inv.sqA I1 hqx
      obtain ⟨its2, rv2, p2⟩ := Inv.sqA I1 hqy
      obtain ⟨o1, B1, g1⟩ := begA k1 a its.toArray
      obtain ⟨o2, B2, g2⟩ := begA k2 b its2.toArray
      have la : a < s1.heap.objs.size := ArA.lt p1
      have lb : b < s1.heap.objs.size := ArA.lt p2
      refine zip_begins2 B1 B2 p1 p2 fun h' hz hTI hTO h1 h2 hsz hk => wpAny_pyIter_zip hz ?_
      have I2 : Inv X pins σ H1 { s1 with heap := h' } := I1.kept (t' := s1.toks) hk
      have ne : ∀ i j : Nat, i ≠ j → (s1.heap.objs.size + i : Nat) ≠ s1.heap.objs.size + j := fun i j h z => h (by omega)
      have ne0 : ∀ j : Nat, j ≠ 0 → (s1.heap.objs.size + j : Nat) ≠ s1.heap.objs.size := fun j h z => h (by omega)
      have S : ZApart (s1.heap.objs.size + 4) (s1.heap.objs.size + 2) (s1.heap.objs.size + 3) s1.heap.objs.size (s1.heap.objs.size + 1) :=
        ⟨ne 2 4 (by decide), ne 3 4 (by decide), ne 2 3 (by decide), ne0 2 (by decide), ne 2 1 (by decide), ne0 3 (by decide), ne 3 1 (by decide), ne0 4 (by decide), ne 4 1 (by decide), (ne0 1 (by decide)).symm⟩
      refine ⟨s1.heap.objs.size + 4, [s1.heap.objs.size + 4, s1.heap.objs.size + 2, s1.heap.objs.size + 3, s1.heap.objs.size, s1.heap.objs.size + 1], _, _, H1, rfl, I2, turn_zipA S (Nat.ne_of_lt (Nat.lt_of_lt_of_le la (Nat.le_add_right _ _))) (Nat.ne_of_lt (Nat.lt_of_lt_of_le lb (Nat.le_add_right _ _))), ⟨hz, hTI, ⟨_, _, hTO⟩, g1 _ _ h1, g2 _ _ h2⟩, fun c hcm => ?_, q⟩
      have e' : c = s1.heap.objs.size + 4 ∨ c = s1.heap.objs.size + 2 ∨ c = s1.heap.objs.size + 3 ∨ c = s1.heap.objs.size ∨ c = s1.heap.objs.size + 1 := by simpa using hcm
      have hle : s1.heap.objs.size ≤ c := by
        rcases e' with z | z | z | z | z
        · rw [z]; exact Nat.le_add_right _ _
        · rw [z]; exact Nat.le_add_right _ _
        · rw [z]; exact Nat.le_add_right _ _
        · rw [z]; exact Nat.le_refl _
        · rw [z]; exact Nat.le_add_right _ _
      exact I1.fpOk hle (I1.hok.fresh hle)
section
variable {B : Bs} {ρ : En} {O : Ow}
/-- a row of data: a list or a tuple -/
def rowD (k : Bool) (ds : List D) : D := if k then .list ds else .tuple ds
theorem row_get {F : Hp} {v : V} {k : Bool} {ds : List D} (h : DV F v (rowD k ds)) : ∃ (a : Addr) (xs : List V), v = .ref a ∧ (∀ H K, Same F H → SqA k K H a xs) ∧ DVs F xs ds ∧ ds.length ≤ sizeLine := by
  cases k with
  | true =>
    cases (show DV F v (.list ds) from h) with
    | lst q l r => exact ⟨_, _, rfl, fun H K s => SqL.of (s _ _ q), r, l⟩
  | false =>
    cases (show DV F v (.tuple ds) from h) with
    | tup q l r => exact ⟨_, _, rfl, fun H K s => SqT.of (s _ _ q), r, l⟩
theorem walk_zipA {K : PySem.W.Frag} {F : Hp} {k1 k2 : Bool} {a b : Addr} {xs ys : List V} {ds es : List D} (e : ∀ H K, Same F H → SqA k1 K H a xs) (r : DVs F xs ds) (e' : ∀ H K, Same F H → SqA k2 K H b ys) (r' : DVs F ys es) : WalkD (ItzA k1 k2 K a b) F (zpD ds es) := by
  refine ⟨fun H s => ⟨xs, ys, e H K s, e' H K s, by rw [zpD_length, r.length, r'.length]⟩, fun i H hi s => ?_, fun i F' H x H' hi s1 s2 hy => ?_⟩
  · rw [zpD_length] at hi
    have hd : i < ds.length := by omega
    have he : i < es.length := by omega
    obtain ⟨v, h1, h2⟩ := r.get (List.getElem?_eq_getElem hd)
    obtain ⟨u, g1, g2⟩ := r'.get (List.getElem?_eq_getElem he)
    exact ⟨xs, ys, v, u, e H K s, e' H K s, h1, g1⟩
  · rw [zpD_length] at hi
    have hd : i < ds.length := by omega
    have he : i < es.length := by omega
    obtain ⟨T, y, z, rfl, hT, rfl, hy, hz⟩ := hy
    obtain ⟨v, h1, h2⟩ := r.get (List.getElem?_eq_getElem hd)
    obtain ⟨u, g1, g2⟩ := r'.get (List.getElem?_eq_getElem he)
    have hx := hy xs (e H K (s1.trans s2))
    rw [h1] at hx
    cases hx
    have hx := hz ys (e' H K (s1.trans s2))
    rw [g1] at hx
    cases hx
    obtain ⟨q1, q2, q3, q4, q5⟩ := yld_tup (H' := H) s2 hT (h2.mono s1) (g2.mono s1)
    exact ⟨_, _, zpD_get (List.getElem?_eq_getElem hd) (List.getElem?_eq_getElem he), q1, q2, q3, q4, q5⟩
theorem di_zip {K : PySem.W.Frag} {ta : TA} {R : List D → Ow → Prop} (h : DA B ta ρ O fun cs O1 => ∃ k1 k2 ds es, cs = [.d (rowD k1 ds), .d (rowD k2 es)] ∧ R (zpD ds es) O1) : DI B (iZipX K ta) ρ O R := fun F H al σ Rh b rp e q =>
  h F H al σ _ b rp e fun F1 H1 al1 O1 vs cs x1 r1 c1 ⟨k1, k2, ds, es, ec, hR⟩ => by
    subst ec
    obtain ⟨v, u, rfl, cv, cu⟩ := cers2 c1
    obtain ⟨a, xs, rfl, g1, g2, g3⟩ := row_get cv
    obtain ⟨b', ys, rfl, g1', g2', g3'⟩ := row_get cu
    exact ⟨k1, k2, a, b', xs, ys, rfl, g1 _ _ r1.sub, g1' _ _ r1.sub, q F1 H1 al1 O1 _ _ x1 r1 (walk_zipA g1 g2 g1' g2') (by rw [zpD_length]; omega) hR⟩
end
end DL
/-! DL, part g: defs that keep a promise, called by their names; a law's own start. -/
namespace DL
open PySem L2 PySem.Spec
set_option autoImplicit false
abbrev FnP (K : PySem.W.Frag) (x : Str) (st : Stmt) (f : Addr) (fd : FuncData) : Prop := FunD K x x (defArgs st) (defBody st) (defScope st) [] [] f fd
/-- a def that may be called by its name -/
structure Cl (P : Program) (w : World) (K : PySem.W.Frag) (mg : Str → Option Value) (base : Heap) (x : Str) (k n : Nat) (S : ASp) : Prop where
  ex : ∃ (f : Addr) (fd : FuncData) (ps : List Str), FnOk P w K mg base CX0 k f fd ps (spA n S) ∧ mg x = some (.ref f) ∧ PySem.W.keepIn K (.ref f) = true ∧ Binds K fd ps []
/-- a def as the top has left it -/
structure Df (K : PySem.W.Frag) (mg : Str → Option Value) (x : Str) (st : Stmt) : Prop where
  ex : ∃ (f : Addr) (fd : FuncData), FnP K x st f fd ∧ mg x = some (.ref f)
section
variable {P : Program} {w : World} {K : PySem.W.Frag} {mg : Str → Option Value} {base : Heap}
theorem cl_of {x : Str} {st : Stmt} {N ps : List Str} {n k : Nat} {S : ASp} (Fd : Df K mg x st) (sc : FnScope N ps (defScope st)) (hp : ps.length = n)
    (hb : ∀ (dV kV doc pm : Value) (an : Option Addr) (cdv ct : Value) (us : List Value), dV = .none → us.length = ps.length → bindArgs (PySem.W.fnOf x x (defArgs st) (defBody st) (defScope st) dV kV doc pm an cdv ct) ⟨us, []⟩ = pure (ps.zip us))
    (q : ∀ (f : Addr) (cdv : Value) (A : Around) (outer : List Env) (s : Shared) (H : Hp) (E : XK) (B : Bs) (cs : List Ce) (O : Ow) (R : RX) (X : XP), Room k (A.deeper (PyProof.Rows.envOfC x (defScope st) s.heap.objs.size f cdv)) → EX B X E → cs.length = n → S cs O R X →
      ∃ t, PSs (cxOf CX0 P w K mg base N x (defScope st) f cdv A outer s H E).nox (defBody st) t ∧ DS B t (startE N cs) O { nx := fun _ O' => R (.d .none) O', rt := R }) : Cl P w K mg base x (k + 1) n S := by
  obtain ⟨f, fd, F, hm⟩ := Fd.ex
  refine ⟨f, fd, ps, F.ok sc (spA_len hp) fun cdv A outer s H vs Q E hr hs => ?_, hm, F.kp, ?_⟩
  · obtain ⟨hn, F0, al, O, cs, R, X, rp, cr, s1, kq, kx⟩ := hs
    obtain ⟨t, ht, hd⟩ := q f cdv A outer s H E (Bs.from F0 H al) cs O R X hr (fun F' H' al' O' cls d fs x r z w => kx F' H' al' O' cls d fs x r z w) (by rw [← cr.length, hn]) s1
    exact ⟨t, ht.nox, hd F0 H al _ _ (Ext.refl _ _ _) rp (enr_start cr) ⟨fun F' H' al' O' σ' ρ' x r e w => kq F' H' al' O' .non (.d .none) x r DV.non w, kq, fun F' H' al' O' σ' ρ' x r e w => w.elim, fun F' H' al' O' σ' ρ' x r e w => w.elim⟩⟩
  · obtain ⟨oc, od, dV, kV, doc, pm, an, cdv, ct, osl, rfl, lk, hcd, hD, _⟩ := F.ex
    have e : dV = .none := by
      rcases hD with ⟨_, e⟩ | ⟨h, _⟩
      · exact e
      · exact absurd rfl h
    exact .all fun us hl => hb dV kV doc pm an cdv ct us e hl
theorem Cl.mono {x : Str} {k j n : Nat} {S : ASp} (c : Cl P w K mg base x k n S) (h : k ≤ j) : Cl P w K mg base x j n S := by
  obtain ⟨f, fd, ps, F, r⟩ := c.ex
  exact ⟨f, fd, ps, F.mono h, r⟩
theorem Cl.imp {x : Str} {k n : Nat} {S S' : ASp} (c : Cl P w K mg base x k n S) (h : ∀ cs O R X, S' cs O R X → S cs O R X) : Cl P w K mg base x k n S' := by
  obtain ⟨f, fd, ps, F, r⟩ := c.ex
  exact ⟨f, fd, ps, F.imp fun vs H Q E ⟨a, F0, al, O, cs, R, X, b, c, d, e⟩ => ⟨a, F0, al, O, cs, R, X, b, c, h _ _ _ _ d, e⟩, r⟩
end
section
variable {X : Cx} {x : Str} {p pos : Pos} {e : Expr} {es : List Expr} {t : TA} {k j n : Nat} {S : ASp}
theorem pe_cl (c : Cl X.prog X.w X.K X.mg X.base x k n S) (hr : Room j X.A) (hk : k ≤ j) (hg : Gl X x) (ha : PA X (e :: es) t)
    (hdb : (x == ("__debug__" : Str)) = false := by decide) (he : starEach (e :: es) X.env = (false, eval e X.env) :: starEach es X.env := by rfl) (hpl : (backTo pos (starEach es X.env)).any (·.1) = false := by rfl) :
    PE X (.Call (.Name x p) (e :: es) [] pos) (tCall (spA n S) [] E0 t) := by
  obtain ⟨f, fd, ps, F, hm, kp, b⟩ := c.ex
  exact pe_call F (hr.mono hk) hg hm kp b .nil pass0 ha hdb he hpl
end
section
variable {B : Bs} {ρ : En} {O : Ow} {R : RX} {A : AE} {K : PySem.W.Frag}
theorem dx_isN {ta : TE} (h : DX B ta ρ O fun c O1 => ∃ d, c = .d d ∧ R (.d (.bool (isNone d))) O1) : DX B (tIsN ta) ρ O R := fun F H al σ Q b rp e q =>
  h F H al σ _ b rp e fun F1 H1 al1 O1 v c x1 r1 c1 ⟨d, ed, hk⟩ => by
    subst ed
    show Q (.bl (decide (v = .non))) H1
    rw [DV.isN c1]
    exact q _ _ _ _ _ (.d (.bool (isNone d))) x1 r1 (DV.bl _) hk
theorem dx_notN {ta : TE} (h : DX B ta ρ O fun c O1 => ∃ d, c = .d d ∧ R (.d (.bool (!isNone d))) O1) : DX B (tNotN ta) ρ O R := fun F H al σ Q b rp e q =>
  h F H al σ _ b rp e fun F1 H1 al1 O1 v c x1 r1 c1 ⟨d, ed, hk⟩ => by
    subst ed
    show Q (.bl (!decide (v = .non))) H1
    rw [DV.isN c1]
    exact q _ _ _ _ _ (.d (.bool (!isNone d))) x1 r1 (DV.bl _) hk
theorem dx_neg {ta : TE} (h : DX B ta ρ O fun c O1 => ∃ i, c = .d (.int i) ∧ R (.d (.int (-i))) O1) : DX B (tUn (rU fun i => .int (-i)) ta) ρ O R := fun F H al σ Q b rp e q =>
  h F H al σ _ b rp e fun F1 H1 al1 O1 v c x1 r1 c1 ⟨i, ed, hk⟩ => by
    subst ed
    cases c1
    exact ⟨i, rfl, q _ _ _ _ _ (.d (.int (-i))) x1 r1 (DV.int _) hk⟩
/-- list(range(n)) -/
theorem dx_lstRg1 {ta : TE} (h : DX B ta ρ O fun c O1 => ∃ n : Nat, c = .d (.int n) ∧ n ≤ 16777216 ∧ R (.d (.list (rgD 0 n))) O1) : DX B (tLstRg (tRg1 ta)) ρ O R := fun F H al σ Q b rp e q =>
  h F H al σ _ b rp e fun F1 H1 al1 O1 v c x1 r1 c1 ⟨n, ed, hn, hk⟩ => by
    subst ed
    cases c1
    refine ⟨n, rfl, ⟨by omega, by omega, by omega, by omega, by omega⟩, ?_⟩
    have hr : DVs F1 (rgV 0 n) (rgD 0 n) := by
      have e1 : rgV 0 (n : Int) = ((List.range n).map fun i => (0 : Int) + (i : Nat)).map V.int := by unfold rgV; simp
      have e2 : rgD 0 n = ((List.range n).map fun i => (0 : Int) + (i : Nat)).map PyData.int := by unfold rgD; simp
      rw [e1, e2]
      exact DVs.of_ints _
    exact kx_lst r1 (q.step x1) hr (by rw [rgD_length, sizeLine_eq]; exact hn) hk
/-- the script's slice (the script is locked; it is told apart from data) -/
theorem d3_raw {a : Addr} {ns : List Int} {lo hi : Option Int} (hB : ∀ (F H : Hp) (al : List Addr), B.p F H al → Rep F H al O → SqL K H a (ns.map V.int)) (hl : ns.length ≤ sizeLine) (k : R (.d (.list (cutD (ns.map .int) lo hi))) O) : D3 B (DL.rSlX K) (.v (.ref a)) lo hi O R := fun F H al v Q b rp cx q => by
  have e : v = .ref a := cx
  subst e
  exact .inl ⟨a, _, rfl, hB F H al b rp, kx_lst rp q (dvs_cut (DVs.of_ints ns) lo hi) (Nat.le_trans (cutD_length _ _ _) (by rw [List.length_map]; exact hl)) k⟩
end
/-- a law's body: the script stands at a -/
theorem law_of {K : PySem.W.Frag} {t : TS} {N : List Str} {a : Addr} {ns : List Int} {H : Hp} {Q : VK} (hS : SqL K H a (ns.map V.int))
    (h : ∀ B : Bs, (∀ (F H : Hp) (al : List Addr) (O : Ow), B.p F H al → Rep F H al O → SqL K H a (ns.map V.int)) → DS B t (startE N [.v (.ref a)]) [] { nx := fun _ _ => False, rt := fun c _ => c = .d (.bool true) }) (hQ : ∀ H', Q (.bl true) H') : t { nx := fun _ H' => Q .non H', rt := Q } (L2.start N [.ref a]) H := by
  refine h (Bs.from H H []) (fun F1 H1 al O b rp => Same.seq (b.sub.trans rp.sub) hS) H H [] _ _ (Ext.refl _ _ _) ⟨Same.refl _, List.nodup_nil, rfl, fun _ m => (nomatch m), fun k b e => by simp at e⟩ (enr_start (.cons rfl .nil)) ⟨fun _ _ _ _ _ _ _ _ _ w => w.elim, fun F' H' al' O' v c x r cr e => ?_, fun _ _ _ _ _ _ _ _ _ w => w.elim, fun _ _ _ _ _ _ _ _ _ w => w.elim⟩
  subst e
  cases cr
  exact hQ H'
end DL
/-! DL, part h: comprehensions of two clauses; the common forms of the walks. -/
namespace DL
open PySem L2 PySem.Spec
set_option autoImplicit false
/-- a list that grows at p, beside all cells -/
def Gw (F1 H1 : Hp) (al1 : List Addr) (p : Addr) (F H : Hp) (al : List Addr) (O : Ow) (acc : List D) : Prop :=
  Ext F1 H1 al1 F H al ∧ Rep F H al O ∧ F p = none ∧ p ∉ al ∧ ∃ accV, H p = some (.lst accV) ∧ DVs F accV acc
section
variable {B : Bs} {ρ : En} {O : Ow} {R : RX} {A : AE} {F1 H1 F H : Hp} {al1 al : List Addr} {p : Addr} {acc : List D}
theorem Gw.start (rp : Rep F1 H1 al1 O) (hp : H1 p = none) : Gw F1 H1 al1 p F1 (upd H1 p (.lst [])) al1 O [] :=
  ⟨⟨Same.refl _, ⟨[], by simp⟩, fun a o q _ => by rw [upd_ne (ne_of_none q hp)]; exact q, fun _ _ z => z, fun _ _ _ z => z⟩, rp.beside hp, rp.freeF hp, rp.fresh hp, [], upd_same, .nil⟩
theorem Gw.go (g : Gw F1 H1 al1 p F H al O acc) {F' H' : Hp} {al' : List Addr} {O' : Ow} (x : Ext F H al F' H' al') (rp : Rep F' H' al' O') : Gw F1 H1 al1 p F' H' al' O' acc := by
  obtain ⟨x0, r0, hF, hal, accV, hH, dv⟩ := g
  exact ⟨x0.trans x, rp, x.noF p (ne_none_of hH) hal hF, x.out p (ne_none_of hH) hal, accV, x.keep p _ hH hal, dv.mono x.sub⟩
theorem Gw.put (g : Gw F1 H1 al1 p F H al O acc) (hp : H1 p = none) {y : V} {d : D} (h : DV F y d) : ∃ accV, H p = some (.lst accV) ∧ accV.length = acc.length ∧ Gw F1 H1 al1 p F (upd H p (.lst (accV ++ [y]))) al O (acc ++ [d]) := by
  obtain ⟨x0, r0, hF, hal, accV, hH, dv⟩ := g
  exact ⟨accV, hH, dv.length, ⟨x0.sub, x0.grow, fun a o q m => by rw [upd_ne (ne_of_none q hp)]; exact x0.keep a o q m, x0.out, x0.noF⟩, r0.poke hal hF, hF, hal, accV ++ [y], upd_same, dv.append (.cons h .nil)⟩
theorem Gw.fin (g : Gw F1 H1 al1 p F H al O acc) (hp : H1 p = none) (hl : acc.length ≤ sizeLine) {R : RX} {Q : VK} (k : Kx F1 H1 al1 R Q) (h : R (.d (.list acc)) O) : Q (.ref p) H := by
  obtain ⟨x0, r0, hF, hal, accV, hH, dv⟩ := g
  refine k (upd F p (.lst accV)) H al O (.ref p) (.d (.list acc)) ⟨fun a o q => ?_, x0.grow, x0.keep, x0.out, fun a q m n => ?_⟩ (r0.freeze hal hF hH) (DV.lst upd_same hl (dv.mono (same_upd (Same.refl _) hF))) h
  · have : a ≠ p := fun z => by subst z; have := x0.sub a o q; rw [hF] at this; cases this
    rw [upd_ne this]; exact x0.sub a o q
  · have : a ≠ p := fun z => by subst z; exact q hp
    rw [upd_ne this]; exact x0.noF a q m n
theorem dx_lc2 {wi wi1 : TI} {g g1 : TG} {tt tt1 : TT} {te : TE} {vs vs1 : List Nat} (h : DI B wi ρ O fun ds O1 => ∃ I : Nat → List D → Ow → Prop, I 0 [] O1 ∧
      (∀ (i : Nat) (d : D) (acc : List D) (O2 : Ow), ds[i]? = some d → I i acc O2 → ∃ as, GD g d as ∧ (∀ p ∈ as, p.1 ∈ vs) ∧
        DT Bs.any tt (setsD (wipeE ρ vs) as) O2 fun b O3 => Cs b (DI Bs.any wi1 (setsD (wipeE ρ vs) as) O3 fun es O4 => ∃ I1 : Nat → List D → Ow → Prop, I1 0 acc O4 ∧
          (∀ (j : Nat) (e : D) (acc2 : List D) (O5 : Ow), es[j]? = some e → I1 j acc2 O5 → ∃ bs, GD g1 e bs ∧ (∀ p ∈ bs, p.1 ∈ vs1) ∧
            DT Bs.any tt1 (setsD (wipeE (setsD (wipeE ρ vs) as) vs1) bs) O5 fun b O6 => Cs b (DX Bs.any te (setsD (wipeE (setsD (wipeE ρ vs) as) vs1) bs) O6 fun c O7 => IsD c fun x => acc2.length < sizeLine ∧ I1 (j + 1) (acc2 ++ [x]) O7) (I1 (j + 1) acc2 O6)) ∧
          (∀ (acc2 : List D) (O5 : Ow), I1 es.length acc2 O5 → I (i + 1) acc2 O5)) (I (i + 1) acc O3)) ∧
      (∀ (acc : List D) (O2 : Ow), I ds.length acc O2 → acc.length ≤ sizeLine ∧ R (.d (.list acc)) O2)) : DX B (tLc2 wi g tt wi1 g1 tt1 te vs vs1) ρ O R := fun F H al σ Q b rp e k => by
  refine h F H al σ _ b rp e fun F1 H1 al1 O1 J ds x1 r1 w hlen ⟨I, i0, step, fin⟩ => ?_
  intro Dl hD
  have e1 := e.ext x1
  refine ⟨fun i m H' => m = ds.length - i ∧ i ≤ ds.length ∧ ∃ F' al' O' acc, Gw F1 H1 al1 Dl F' H' al' O' acc ∧ I i acc O', ⟨ds.length, by simp, Nat.zero_le _, F1, al1, O1, [], .start r1 hD, i0⟩, ?_⟩
  rintro i m H' ⟨rfl, hi, F', al', O', acc, gw, inv⟩
  by_cases hlt : i < ds.length
  · right
    refine ⟨w.go i H' hlt (gw.1.sub.trans gw.2.1.sub), fun H'' => i + 1 ≤ ds.length ∧ ∃ F' al' O' acc, Gw F1 H1 al1 Dl F' H'' al' O' acc ∧ I (i + 1) acc O', fun H'' q => ⟨ds.length - (i + 1), by omega, rfl, q⟩, fun x H3 hy => ?_⟩
    obtain ⟨F3, d, hd, s1, s2, s3, n3, dx⟩ := w.yld i F' H' x H3 hlt gw.1.sub gw.2.1.sub hy
    obtain ⟨r3, x3⟩ := gw.2.1.turn s1 s2 s3 n3
    have gw3 := gw.go x3 r3
    obtain ⟨as, hg, hvs, ht⟩ := step i d acc O' hd inv
    refine hg F3 H3 x _ _ s2 dx fun ws hw => ⟨wipe_sets σ vs ws (hw.mem hvs) _ (wipe_wipe σ vs), ?_⟩
    have e3 : EnR F3 al' (setsV (L2.wipe σ vs) ws) (setsD (wipeE ρ vs) as) := ((e1.ext gw3.1).wipe vs).sets hw
    refine ht F3 H3 al' _ _ trivial r3 e3 fun F4 H4 al4 O4 bb x4 r4 hb => ite_of (fun z => ?_) fun z => ⟨hlt, F4, al4, O4, acc, gw3.go x4 r4, hb.2 z⟩
    refine hb.1 z F4 H4 al4 _ _ trivial r4 (e3.ext x4) fun F5 H5 al5 O5 J1 es x5 r5 w1 hlen1 ⟨I1, i10, step1, fin1⟩ => ?_
    have gw5 := (gw3.go x4 r4).go x5 r5
    have e5 := (e3.ext x4).ext x5
    refine ⟨fun j m H' => m = es.length - j ∧ j ≤ es.length ∧ ∃ F' al' O' acc, Same F5 F' ∧ Gw F1 H1 al1 Dl F' H' al' O' acc ∧ I1 j acc O' ∧ EnR F' al' (setsV (L2.wipe σ vs) ws) (setsD (wipeE ρ vs) as), ⟨es.length, by simp, Nat.zero_le _, F5, al5, O5, acc, Same.refl _, gw5, i10, e5⟩, ?_⟩
    rintro j m2 H6 ⟨rfl, hj, F6, al6, O6, acc6, ss, gw6, inv6, e6⟩
    by_cases hlt1 : j < es.length
    · right
      refine ⟨w1.go j H6 hlt1 (ss.trans gw6.2.1.sub), fun H'' => j + 1 ≤ es.length ∧ ∃ F' al' O' acc, Same F5 F' ∧ Gw F1 H1 al1 Dl F' H'' al' O' acc ∧ I1 (j + 1) acc O' ∧ EnR F' al' (setsV (L2.wipe σ vs) ws) (setsD (wipeE ρ vs) as),
        fun H'' q => ⟨es.length - (j + 1), by omega, rfl, q⟩, fun x' H7 hy' => ?_⟩
      obtain ⟨F7, d', hd', t1, t2, t3, n7, dx'⟩ := w1.yld j F6 H6 x' H7 hlt1 ss gw6.2.1.sub hy'
      obtain ⟨r7, x7⟩ := gw6.2.1.turn t1 t2 t3 n7
      have gw7 := gw6.go x7 r7
      have e7 := e6.ext x7
      obtain ⟨bs, hg1, hvs1, ht1⟩ := step1 j d' acc6 O6 hd' inv6
      refine hg1 F7 H7 x' _ _ t2 dx' fun ws1 hw1 => ⟨wipe_sets _ vs1 ws1 (hw1.mem hvs1) _ (wipe_wipe _ vs1), ?_⟩
      have e8 := (e7.wipe vs1).sets hw1
      refine ht1 F7 H7 al6 _ _ trivial r7 e8 fun F9 H9 al9 O9 b9 x9 r9 hb9 => ite_of (fun z9 => ?_) fun z9 => ⟨hlt1, F9, al9, O9, acc6, (ss.trans t1).trans x9.sub, gw7.go x9 r9, hb9.2 z9, e7.ext x9⟩
      refine hb9.1 z9 F9 H9 al9 _ _ trivial r9 (e8.ext x9) fun Fa Ha ala Oa y c xa ra ca ⟨dd, ec, hla, inva⟩ => ?_
      subst ec
      obtain ⟨accV, q1, q2, q3⟩ := ((gw7.go x9 r9).go xa ra).put hD ca
      exact ⟨accV, q1, by rw [q2]; exact hla, hlt1, Fa, ala, Oa, acc6 ++ [dd], ((ss.trans t1).trans x9.sub).trans xa.sub, q3, inva, (e7.ext x9).ext xa⟩
    · left
      have hje : j = es.length := by omega
      subst hje
      exact ⟨w1.stop H6 (ss.trans gw6.2.1.sub), hlt, F6, al6, O6, acc6, gw6, fin1 acc6 O6 inv6⟩
  · left
    have hie : i = ds.length := by omega
    subst hie
    obtain ⟨hl, hR⟩ := fin acc O' inv
    exact ⟨w.stop H' (gw.1.sub.trans gw.2.1.sub), gw.fin hD hl (k.step x1) hR⟩
end
end DL
namespace DL
open PySem L2 PySem.Spec
section
variable {B : Bs} {ρ : En} {O : Ow} {R : RX} {A : AE}
/-- [te for g in wi], each element by a function of the item -/
theorem dx_lcMap {wi : TI} {g : TG} {te : TE} {vs : List Nat} (f : D → D) (h : DI B wi ρ O fun ds O1 => (∀ d ∈ ds, ∃ as, GD g d as ∧ (∀ p ∈ as, p.1 ∈ vs) ∧ DX Bs.any te (setsD (wipeE ρ vs) as) O1 fun c O2 => c = .d (f d) ∧ O2 = O1) ∧ R (.d (.list (ds.map f))) O1) : DX B (tLc wi g tYes te vs) ρ O R := by
  refine dx_lc fun F H al σ Rh b rp e q => h F H al σ Rh b rp e fun F' H' al' O' J ds x r w hl ⟨h1, h2⟩ => q F' H' al' O' J ds x r w hl ⟨fun i acc O2 => acc = (ds.take i).map f ∧ O2 = O', ⟨rfl, rfl⟩, fun i d acc O2 hd hi ⟨ha, ho⟩ => ?_, fun acc O2 _ ⟨ha, ho⟩ => ?_⟩
  · subst ha ho
    obtain ⟨as, g1, g2, g3⟩ := h1 d (List.mem_of_getElem? hd)
    refine ⟨as, g1, g2, dt_yes (Cs.t (dx_mono g3 fun c O' ⟨ec, eo⟩ => ?_))⟩
    subst ec eo
    refine isD ⟨?_, rfl⟩
    have e : ds.take (i + 1) = ds.take i ++ [d] := by
      rw [List.take_add_one, hd]; rfl
    rw [e, List.map_append]
    rfl
  · subst ha ho
    rw [List.take_length]
    exact h2
/-- [te for g in wi if tt] -/
theorem dx_lcFlt {wi : TI} {g : TG} {tt : TT} {te : TE} {vs : List Nat} (p : D → Bool) (f : D → D) (h : DI B wi ρ O fun ds O1 => (∀ d ∈ ds, ∃ as, GD g d as ∧ (∀ p ∈ as, p.1 ∈ vs) ∧ DT Bs.any tt (setsD (wipeE ρ vs) as) O1 fun b O2 => b = p d ∧ O2 = O1 ∧ (b = true → DX Bs.any te (setsD (wipeE ρ vs) as) O1 fun c O2 => c = .d (f d) ∧ O2 = O1)) ∧ R (.d (.list ((ds.filter p).map f))) O1) : DX B (tLc wi g tt te vs) ρ O R := by
  refine dx_lc fun F H al σ Rh b rp e q => h F H al σ Rh b rp e fun F' H' al' O' J ds x r w hl ⟨h1, h2⟩ => q F' H' al' O' J ds x r w hl ⟨fun i acc O2 => acc = ((ds.take i).filter p).map f ∧ O2 = O', ⟨rfl, rfl⟩, fun i d acc O2 hd hi ⟨ha, ho⟩ => ?_, fun acc O2 _ ⟨ha, ho⟩ => ?_⟩
  · subst ha ho
    obtain ⟨as, g1, g2, g3⟩ := h1 d (List.mem_of_getElem? hd)
    have e : ds.take (i + 1) = ds.take i ++ [d] := by
      rw [List.take_add_one, hd]; rfl
    refine ⟨as, g1, g2, dt_mono g3 fun b O' ⟨eb, eo, k⟩ => ?_⟩
    subst eo
    refine ⟨fun hb => dx_mono (k hb) fun c O' ⟨ec, eo⟩ => ?_, fun hb => ⟨?_, rfl⟩⟩
    · subst ec eo
      refine isD ⟨?_, rfl⟩
      rw [e, List.filter_append, List.map_append, List.filter_cons, ← eb, hb]
      rfl
    · rw [e, List.filter_append, List.map_append, List.filter_cons, ← eb, hb]
      simp
  · subst ha ho
    rw [List.take_length]
    exact h2
/-- all of bools that are all True, told by the items -/
theorem dc_allMap {K : PySem.W.Frag} {ds : List D} {p : D → Bool} (k : R (.d (.bool (ds.all p))) O) : DC B (rAll K) [.d (.list (ds.map fun d => .bool (p d)))] O R := by
  have e : ds.map (fun d => PyData.bool (p d)) = (ds.map p).map PyData.bool := by simp
  rw [e]
  refine dc_all Vw.d ?_
  have e2 : (ds.map p).all id = ds.all p := by rw [List.all_map]; rfl
  rw [e2]
  exact k
theorem dc_anyMap {K : PySem.W.Frag} {ds : List D} {p : D → Bool} (k : R (.d (.bool (ds.any p))) O) : DC B (rAny K) [.d (.list (ds.map fun d => .bool (p d)))] O R := by
  have e : ds.map (fun d => PyData.bool (p d)) = (ds.map p).map PyData.bool := by simp
  rw [e]
  refine dc_any Vw.d ?_
  have e2 : (ds.map p).any id = ds.any p := by rw [List.any_map]; rfl
  rw [e2]
  exact k
end
/-! ### equal data -/
theorem shaped_int (i : Int) : SeqAt.shaped (.int i) = true := by simp [SeqAt.shaped, PyData.canLay0, PyData.depth]
theorem shaped_str {x : Str} (h : PyData.strOk x = true) : SeqAt.shaped (.str x) = true := by simp [SeqAt.shaped, PyData.canLay0, PyData.depth, h]
def flatN : D → Bool
  | .none => true
  | .bool _ => true
  | .int _ => true
  | _ => false
theorem shaped_bool (x : Bool) : SeqAt.shaped (.bool x) = true := by simp [SeqAt.shaped, PyData.canLay0, PyData.depth]
theorem shaped_none : SeqAt.shaped .none = true := by simp [SeqAt.shaped, PyData.canLay0, PyData.depth]
theorem lay_flat : ∀ ds : List D, ds.all flatN = true → PyData.canLayAll0 ds = true ∧ PyData.depthAll ds = 0
  | [], _ => by simp [PyData.canLayAll0, PyData.depthAll]
  | d :: ds, h => by
    rw [List.all_cons, Bool.and_eq_true] at h
    obtain ⟨h1, h2⟩ := lay_flat ds h.2
    cases d <;> first | exact absurd h.1 Bool.false_ne_true | simp [PyData.canLayAll0, PyData.depthAll, PyData.canLay0, PyData.depth, h1, h2]
theorem shaped_list {ds : List D} (h : ds.all flatN = true) : SeqAt.shaped (.list ds) = true := by
  obtain ⟨h1, h2⟩ := lay_flat ds h
  simp [SeqAt.shaped, PyData.canLay0, PyData.depth, h1, h2]
theorem shaped_tuple {ds : List D} (h : ds.all flatN = true) : SeqAt.shaped (.tuple ds) = true := by
  obtain ⟨h1, h2⟩ := lay_flat ds h
  simp [SeqAt.shaped, PyData.canLay0, PyData.depth, h1, h2]
theorem flatN_ints (is : List Int) : (is.map PyData.int).all flatN = true := by rw [List.all_map, List.all_eq_true]; intro x _; rfl
theorem flatN_bools (is : List Bool) : (is.map PyData.bool).all flatN = true := by rw [List.all_map, List.all_eq_true]; intro x _; rfl
theorem flat_ints (is : List Int) : (is.map PyData.int).all flatD = true := by rw [List.all_map, List.all_eq_true]; intro x _; rfl
theorem flat_bools (is : List Bool) : (is.map PyData.bool).all flatD = true := by rw [List.all_map, List.all_eq_true]; intro x _; rfl
theorem flat_strs (is : List Str) : (is.map PyData.str).all flatD = true := by rw [List.all_map, List.all_eq_true]; intro x _; rfl
theorem eqvAll_ints : ∀ is js : List Int, PyData.eqvAll (is.map .int) (js.map .int) = decide (is = js)
  | [], [] => by simp [PyData.eqvAll]
  | [], j :: js => by simp [PyData.eqvAll]
  | i :: is, [] => by simp [PyData.eqvAll]
  | i :: is, j :: js => by
    simp only [List.map_cons, PyData.eqvAll, PyData.eqv, eqvAll_ints is js]
    by_cases h : i = j
    · subst h; simp
    · simp [h]
theorem eqv_ints (is js : List Int) : PyData.eqv (.list (is.map .int)) (.list (js.map .int)) = decide (is = js) := by
  rw [PyData.eqv]; exact eqvAll_ints is js
theorem eqv_int (i j : Int) : PyData.eqv (.int i) (.int j) = decide (i = j) := by
  rw [PyData.eqv]; by_cases h : i = j <;> simp [h]
theorem eqv_str (x y : Str) : PyData.eqv (.str x) (.str y) = decide (x = y) := by
  rw [PyData.eqv]; by_cases h : x = y <;> simp [h]
theorem eqv_bool (x y : Bool) : PyData.eqv (.bool x) (.bool y) = decide (x = y) := by
  rw [PyData.eqv]; cases x <;> cases y <;> rfl
end DL
namespace DL
open PySem L2 PySem.Spec
set_option autoImplicit false
section
variable {B : Bs} {ρ : En} {O : Ow} {R : RX}
theorem getElem?_take_succ {α : Type} {l : List α} {i : Nat} {x : α} (h : l[i]? = some x) : l.take (i + 1) = l.take i ++ [x] := by
  rw [List.take_add_one, h]; rfl
theorem flatMap_take_len {α β : Type} (f : α → List β) (l : List α) (i : Nat) : ((l.take i).flatMap f).length ≤ (l.flatMap f).length := by
  have e : l.flatMap f = (l.take i).flatMap f ++ (l.drop i).flatMap f := by
    rw [← List.flatMap_append, List.take_append_drop]
  rw [e, List.length_append]; omega
theorem dx_lc2Map {wi wi1 : TI} {g g1 : TG} {te : TE} {vs vs1 : List Nat} (es : D → List D) (f : D → D → D)
    (h : DI B wi ρ O fun ds O1 => (∀ d ∈ ds, ∃ as, GD g d as ∧ (∀ p ∈ as, p.1 ∈ vs) ∧
        DI Bs.any wi1 (setsD (wipeE ρ vs) as) O1 fun es' O2 => es' = es d ∧ O2 = O1 ∧
          ∀ e ∈ es d, ∃ bs, GD g1 e bs ∧ (∀ p ∈ bs, p.1 ∈ vs1) ∧
            DX Bs.any te (setsD (wipeE (setsD (wipeE ρ vs) as) vs1) bs) O1 fun c O3 => c = .d (f d e) ∧ O3 = O1) ∧
      (ds.flatMap fun d => (es d).map (f d)).length ≤ sizeLine ∧ R (.d (.list (ds.flatMap fun d => (es d).map (f d)))) O1) :
    DX B (tLc2 wi g tYes wi1 g1 tYes te vs vs1) ρ O R := by
  refine dx_lc2 ?_
  intro F H al σ Q b rp e q
  refine h F H al σ Q b rp e fun F1 H1 al1 O1 J ds x1 r1 w hlen ⟨hd, hl, hR⟩ => q F1 H1 al1 O1 J ds x1 r1 w hlen ?_
  refine ⟨fun i acc O2 => O2 = O1 ∧ acc = (ds.take i).flatMap fun d => (es d).map (f d), ⟨rfl, by simp⟩, fun i d acc O2 hi hI => ?_, fun acc O2 hI => ?_⟩
  · obtain ⟨rfl, rfl⟩ := hI
    obtain ⟨as, h1, h2, h3⟩ := hd d (List.mem_of_getElem? hi)
    refine ⟨as, h1, h2, dt_yes (Cs.t ?_)⟩
    intro F H al σ Q b rp e q
    refine h3 F H al σ Q b rp e fun F1 H1 al1 O4 J es' x1 r1 w hlen ⟨e1, e2, h4⟩ => q F1 H1 al1 O4 J es' x1 r1 w hlen ?_
    subst e1 e2
    have ht : (ds.take (i + 1)).flatMap (fun d => (es d).map (f d)) = (ds.take i).flatMap (fun d => (es d).map (f d)) ++ (es d).map (f d) := by
      rw [getElem?_take_succ hi, List.flatMap_append]; simp
    refine ⟨fun j acc2 O5 => O5 = O4 ∧ acc2 = (ds.take i).flatMap (fun d => (es d).map (f d)) ++ ((es d).take j).map (f d), ⟨rfl, by simp⟩, fun j e acc2 O5 hj hI => ?_, fun acc2 O5 hI => ?_⟩
    · obtain ⟨rfl, rfl⟩ := hI
      obtain ⟨bs, g1, g2, g3⟩ := h4 e (List.mem_of_getElem? hj)
      refine ⟨bs, g1, g2, dt_yes (Cs.t ?_)⟩
      intro F H al σ Q b rp e' q
      refine g3 F H al σ Q b rp e' fun F5 H5 al5 O7 v c x5 r5 c5 hc => ?_
      obtain ⟨rfl, rfl⟩ := hc
      refine q F5 H5 al5 _ v _ x5 r5 c5 ⟨_, rfl, ?_, rfl, ?_⟩
      · have := flatMap_take_len (fun d => (es d).map (f d)) ds (i + 1)
        rw [ht] at this
        have hj2 : j < (es d).length := (List.getElem?_eq_some_iff.mp hj).1
        simp only [List.length_append, List.length_map, List.length_take] at this ⊢
        omega
      · rw [getElem?_take_succ hj, List.map_append, List.append_assoc]; rfl
    · obtain ⟨rfl, rfl⟩ := hI
      refine ⟨rfl, ?_⟩
      rw [ht, List.take_length]
  · obtain ⟨rfl, rfl⟩ := hI
    rw [List.take_length]
    exact ⟨hl, hR⟩
end
section
variable {B : Bs} {O : Ow} {R : RX}
theorem len_and {ds : List D} {q : Prop} (h : ds.length ≤ 64) (k : q) : ds.length ≤ sizeLine ∧ q := ⟨Nat.le_trans h (by decide), k⟩
theorem join_le (sep : Str) (l : List Str) : (Txt.join sep l).length ≤ (l.map (·.length)).sum + l.length * sep.length := by
  show (Builtin.Str.glued sep l).length ≤ _
  rw [StrLaws.glued_eq_join]
  induction l with
  | nil => exact Nat.zero_le _
  | cons a r ih =>
    cases r with
    | nil => simp [Str.join]
    | cons b r =>
      have e : Str.join sep (a :: b :: r) = a ++ sep ++ Str.join sep (b :: r) := rfl
      rw [e, Str.length_append, Str.length_append, List.map_cons, List.sum_cons, List.length_cons, Nat.add_mul]
      omega
/-- the digits of a whole number -/
def strI (i : Int) : Str := toString i
theorem log_small {i : Int} (h : i.natAbs ≤ 1000000) : i.natAbs.log2 < 1920 := by
  by_cases z : i.natAbs = 0
  · rw [z]; decide
  · exact (Nat.log2_lt z).mpr (Nat.lt_of_le_of_lt h (by decide))
theorem dc_strI {x : Ce} {i : Int} (hx : x = .d (.int i)) (hi : i.natAbs ≤ 1000000) (k : R (.d (.str (strI i))) O) : DC B rStrI [x] O R :=
  dc_str hx (log_small hi) (int_text_fits (log_small hi)) k
/-- the size of a row of words -/
def wl (ws : List Str) : Nat := (ws.map (·.length)).sum + ws.length
theorem wl_app (a b : List Str) : wl (a ++ b) = wl a + wl b := by
  unfold wl; rw [List.map_append, List.sum_append, List.length_append]; omega
theorem wl_cons (a : Str) (b : List Str) : wl (a :: b) = a.length + 1 + wl b := by
  unfold wl; simp; omega
theorem wl_nil : wl [] = 0 := rfl
theorem wl_len (a : List Str) : a.length ≤ wl a := by unfold wl; omega
theorem wl_join {sep : Str} (h : sep.length ≤ 1) (l : List Str) : (Txt.join sep l).length ≤ wl l := by
  refine Nat.le_trans (join_le sep l) ?_
  unfold wl
  have := Nat.mul_le_mul_left l.length h
  omega
theorem wl_flat {α : Type} (f : α → List Str) (m : Nat) (l : List α) (h : ∀ a ∈ l, wl (f a) ≤ m) : wl (l.flatMap f) ≤ l.length * m := by
  induction l with
  | nil => simp [wl]
  | cons a r ih =>
    rw [List.flatMap_cons, wl_app, List.length_cons, Nat.add_mul]
    have := h a List.mem_cons_self
    have := ih fun b hb => h b (List.mem_cons_of_mem _ hb)
    omega
theorem wl_map {α : Type} (f : α → Str) (m : Nat) (l : List α) (h : ∀ a ∈ l, (f a).length ≤ m) : wl (l.map f) ≤ l.length * (m + 1) := by
  induction l with
  | nil => simp [wl]
  | cons a r ih =>
    rw [List.map_cons, wl_cons, List.length_cons, Nat.add_mul]
    have := h a List.mem_cons_self
    have := ih fun b hb => h b (List.mem_cons_of_mem _ hb)
    omega
theorem strI_len {i : Int} (h : i.natAbs ≤ 1000000) : (strI i).length ≤ 8 := by
  have := int_text_length_le10 (a := i) (k := 7) (by decide) (by omega)
  unfold strI
  exact Nat.le_trans (Nat.le_of_eq (PySem.ofString_length (toString i))) this
theorem dm_joinW {K : PySem.W.Frag} {x y : Ce} {a : Str} {ys : List Str} (hx : x = .d (.str a)) (hy : Vw O y (.list (ys.map .str))) (ha : a.length ≤ 1) (hl : wl ys ≤ 10000000) (k : R (.d (.str (Txt.join a ys))) O) : DM B (rJoin K) x [y] O R := by
  refine dm_join hx hy ?_ ?_ k
  · have := Nat.mul_le_mul_left ys.length ha
    unfold wl at hl
    omega
  · have := wl_join ha ys
    unfold sizeLine
    omega
theorem dm_joinE {K : PySem.W.Frag} {x y : Ce} {a : Str} {ds : List D} (ys : List Str) (hx : x = .d (.str a)) (hy : y = .d (.list ds)) (hd : ds = ys.map .str) (ha : a.length ≤ 1) (hl : wl ys ≤ 10000000) (k : R (.d (.str (Txt.join a ys))) O) : DM B (rJoin K) x [y] O R := by
  subst hd hy
  exact dm_joinW hx Vw.d ha hl k
theorem wl_mem {ws : List Str} {x : Str} (h : x ∈ ws) : x.length + 1 ≤ wl ws := by
  induction ws with
  | nil => cases h
  | cons a r ih =>
    rw [wl_cons]
    cases h with
    | head => omega
    | tail _ h => have := ih h; omega
/-- whole numbers with commas -/
def commasI (vs : List Int) : Str := if vs = [] then "-" else Txt.join "," (vs.map strI)
theorem commas_len {vs : List Int} (h : ∀ v ∈ vs, v.natAbs ≤ 1000000) : (commasI vs).length ≤ vs.length * 9 + 1 := by
  unfold commasI
  split
  · have : ("-" : Str).length = 1 := by decide
    omega
  · have h1 := wl_join (sep := ",") (by decide) (vs.map strI)
    have h2 := wl_map strI 8 vs fun a ha => strI_len (h a ha)
    omega
end
end DL
namespace DL
open PySem L2 PySem.Spec
set_option autoImplicit false
/-- the owned cells as a def has left them: as many, and no new object among them -/
structure Lk (O O1 : Ow) : Prop where
  len : O1.length = O.length
  ins : ∀ (k : Nat) (C : Addr) (fs : List (Str × Ce)), O1[k]? = some (some (.ins C fs)) → O[k]? = some (some (.ins C fs))
theorem Lk.refl (O : Ow) : Lk O O := ⟨rfl, fun _ _ _ h => h⟩
theorem Lk.trans {O O1 O2 : Ow} (x : Lk O O1) (y : Lk O1 O2) : Lk O O2 := ⟨y.len.trans x.len, fun k C fs h => x.ins k C fs (y.ins k C fs h)⟩
theorem Lk.lst {O : Ow} (j : Nat) (ds : List D) : Lk O (O.set j (some (.lst ds))) := ⟨List.length_set, fun k C fs h => by
  rw [List.getElem?_set] at h
  split at h
  · split at h <;> cases h
  · exact h⟩
theorem Lk.non {O : Ow} (j : Nat) : Lk O (O.set j none) := ⟨List.length_set, fun k C fs h => by
  rw [List.getElem?_set] at h
  split at h
  · split at h <;> cases h
  · exact h⟩
theorem ins_lt {F : Hp} {al : List Addr} {ws : List (Str × V)} {fs : List (Str × Ce)} (pr : Paired (fun (p : Str × V) (q : Str × Ce) => p.1 = q.1 ∧ CeR F al p.2 q.2) ws fs) : ∀ p ∈ fs, ∀ j, p.2 = .o j → j < al.length := by
  induction pr with
  | nil => intro p hp; cases hp
  | cons h t ih =>
    intro p hp j e
    cases hp with
    | head =>
      have h2 := h.2
      rw [e] at h2
      obtain ⟨a, ha, _⟩ := h2
      exact (List.getElem?_eq_some_iff.mp ha).1
    | tail _ hp => exact ih p hp j e
theorem ins_cut {F : Hp} {al be : List Addr} {ws : List (Str × V)} {fs : List (Str × Ce)} (pr : Paired (fun (p : Str × V) (q : Str × Ce) => p.1 = q.1 ∧ CeR F (al ++ be) p.2 q.2) ws fs) : (∀ p ∈ fs, ∀ j, p.2 = .o j → j < al.length) → Paired (fun (p : Str × V) (q : Str × Ce) => p.1 = q.1 ∧ CeR F al p.2 q.2) ws fs := by
  induction pr with
  | nil => exact fun _ => .nil
  | @cons p q' ps qs h t ih =>
    intro hin
    refine .cons ⟨h.1, ?_⟩ (ih fun p hp => hin p (List.mem_cons_of_mem _ hp))
    have h2 := h.2
    have h3 := hin q' List.mem_cons_self
    cases e : q'.2 with
    | d x => rw [e] at h2; exact h2
    | v x => rw [e] at h2; exact h2
    | o j =>
      rw [e] at h2
      obtain ⟨a, ha, hv⟩ := h2
      rw [List.getElem?_append_left (h3 j e)] at ha
      exact ⟨a, ha, hv⟩
theorem Rep.trim {F H F' H' : Hp} {al al' : List Addr} {O O1 T : Ow} (r0 : Rep F H al O) (x : Ext F H al F' H' al') (r : Rep F' H' al' (O1 ++ T)) (l : Lk O O1) : Ext F H al F' H' al ∧ Rep F' H' al O1 := by
  have hl : O1.length = al.length := by rw [l.len, r0.len]
  obtain ⟨be, hbe⟩ := x.grow
  subst hbe
  refine ⟨⟨x.sub, ⟨[], by simp⟩, x.keep, fun a _ h => h, x.noF⟩, ⟨r.sub, (List.nodup_append.mp r.nd).1, hl.symm, fun a ha => r.there a (List.mem_append_left _ ha), fun k b hk => ?_⟩⟩
  have hk1 : k < O1.length := (List.getElem?_eq_some_iff.mp hk).1
  obtain ⟨a, ha, hF, ho⟩ := r.own k b (by rw [List.getElem?_append_left hk1]; exact hk)
  rw [List.getElem?_append_left (by omega)] at ha
  refine ⟨a, ha, hF, ?_⟩
  cases b with
  | lst xs => exact ho
  | dk kvs => exact ho
  | ins C fs =>
    obtain ⟨dx, ws, q, pr⟩ := ho
    obtain ⟨a0, _, _, ho0⟩ := r0.own k _ (l.ins k C fs hk)
    obtain ⟨_, ws0, _, pr0⟩ := ho0
    exact ⟨dx, ws, q, ins_cut pr (ins_lt pr0)⟩
/-- what a def gives back when its own cells are left behind -/
def Tr (O : Ow) (R : RX) : RX := fun c O' => ∃ (d : D) (O1 T : Ow), c = .d d ∧ O' = O1 ++ T ∧ Lk O O1 ∧ R (.d d) O1
theorem Tr.here {O : Ow} {R : RX} {d : D} (h : R (.d d) O) : Tr O R (.d d) O := ⟨d, O, [], rfl, by simp, .refl O, h⟩
theorem Tr.app {O T : Ow} {R : RX} {d : D} (h : R (.d d) O) : Tr O R (.d d) (O ++ T) := ⟨d, O, T, rfl, rfl, .refl O, h⟩
theorem Tr.of {O O1 T O' : Ow} {R : RX} {d : D} (e : O' = O1 ++ T) (l : Lk O O1) (h : R (.d d) O1) : Tr O R (.d d) O' := ⟨d, O1, T, rfl, e, l, h⟩
section
variable {P : Program} {w : World} {K : PySem.W.Frag} {mg : Str → Option Value} {base : Heap}
theorem cl_ofT {x : Str} {st : Stmt} {N ps : List Str} {n k : Nat} {S : ASp} (Fd : Df K mg x st) (sc : FnScope N ps (defScope st)) (hp : ps.length = n)
    (hb : ∀ (dV kV doc pm : Value) (an : Option Addr) (cdv ct : Value) (us : List Value), dV = .none → us.length = ps.length → bindArgs (PySem.W.fnOf x x (defArgs st) (defBody st) (defScope st) dV kV doc pm an cdv ct) ⟨us, []⟩ = pure (ps.zip us))
    (q : ∀ (f : Addr) (cdv : Value) (A : Around) (outer : List Env) (s : Shared) (H : Hp) (E : XK) (B : Bs) (cs : List Ce) (O : Ow) (R : RX) (X : XP), Room k (A.deeper (PyProof.Rows.envOfC x (defScope st) s.heap.objs.size f cdv)) → EX B X E → cs.length = n → S cs O R X →
      ∃ t, PSs (cxOf CX0 P w K mg base N x (defScope st) f cdv A outer s H E).nox (defBody st) t ∧ DS B t (startE N cs) O { nx := fun _ O' => Tr O R (.d .none) O', rt := Tr O R }) : Cl P w K mg base x (k + 1) n S := by
  obtain ⟨f, fd, F, hm⟩ := Fd.ex
  refine ⟨f, fd, ps, F.ok sc (spA_len hp) fun cdv A outer s H vs Q E hr hs => ?_, hm, F.kp, ?_⟩
  · obtain ⟨hn, F0, al, O, cs, R, X, rp, cr, s1, kq, kx⟩ := hs
    obtain ⟨t, ht, hd⟩ := q f cdv A outer s H E (Bs.from F0 H al) cs O R X hr (fun F' H' al' O' cls d fs x r z w => kx F' H' al' O' cls d fs x r z w) (by rw [← cr.length, hn]) s1
    refine ⟨t, ht.nox, hd F0 H al _ _ (Ext.refl _ _ _) rp (enr_start cr) ⟨fun F' H' al' O' σ' ρ' x r e w => ?_, fun F' H' al' O' v c x r z w => ?_, fun F' H' al' O' σ' ρ' x r e w => w.elim, fun F' H' al' O' σ' ρ' x r e w => w.elim⟩⟩
    · obtain ⟨d, O1, T, e1, rfl, l, w⟩ := w
      cases e1
      obtain ⟨x1, r1⟩ := rp.trim x r l
      exact kq F' H' al O1 .non (.d .none) x1 r1 DV.non w
    · obtain ⟨d, O1, T, rfl, rfl, l, w⟩ := w
      obtain ⟨x1, r1⟩ := rp.trim x r l
      exact kq F' H' al O1 v (.d d) x1 r1 z w
  · obtain ⟨oc, od, dV, kV, doc, pm, an, cdv, ct, osl, rfl, lk, hcd, hD, _⟩ := F.ex
    have e : dV = .none := by
      rcases hD with ⟨_, e⟩ | ⟨h, _⟩
      · exact e
      · exact absurd rfl h
    exact .all fun us hl => hb dV kV doc pm an cdv ct us e hl
end
end DL
namespace DL
open PySem L2 PySem.Spec
section
variable {B : Bs} {ρ : En} {O : Ow} {R : RX}
/-- a row put together anew, owned -/
theorem d2_addLO {K : PySem.W.Frag} {x y : Ce} {as bs : List D} (hx : Vw O x (.list as)) (hy : Vw O y (.list bs)) (hl : as.length + bs.length ≤ sizeLine) (k : R (.o O.length) (O ++ [some (.lst (as ++ bs))])) : D2 B (rAddA K) x y O R := d2_or' (d2_or' (d2_or fun F H al v u Q b rp cx cy q => by
  obtain ⟨a, vs, rfl, h1, r1, l1⟩ := Vw.list rp cx hx
  obtain ⟨b', ws, rfl, h2, r2, l2⟩ := Vw.list rp cy hy
  refine ⟨a, b', vs, ws, rfl, rfl, h1, h2, by rw [r1.length, r2.length]; exact hl, fun p hp => ?_⟩
  refine q _ _ _ _ (.ref p) (.o O.length) (Ext.own_new hp) (rp.own_new hp (b := .lst (as ++ bs)) ⟨vs ++ ws, upd_same, r1.append r2⟩) ⟨p, ?_, rfl⟩ k
  rw [List.getElem?_append_right (by rw [rp.len]; exact Nat.le_refl _), rp.len]
  simp))
end
end DL
/-! printed by gen.py: the defs' readings and derivations -/
namespace K79
open PySem L2 PySem.Spec DL
set_option autoImplicit false
def top (i : Nat) : Stmt := PySem.Challenge.pw_leastreasons_k79_forms_written.main.body.getD i (.Pass ⟨0, 0, 0, 0⟩)
theorem u65 {k : Nat} {A : Around} (hr : Room k A) : A.units + 65 < cLine := by have := hr.un; omega
theorem boo_all : bootBuiltins ("all" : Str) = some (.builtin "all") := by decide +kernel
theorem boo_bool : bootBuiltins ("bool" : Str) = some (.type "bool") := by decide +kernel
theorem boo_int : bootBuiltins ("int" : Str) = some (.type "int") := by decide +kernel
theorem boo_isinstance : bootBuiltins ("isinstance" : Str) = some (.builtin "isinstance") := by decide +kernel
theorem boo_len : bootBuiltins ("len" : Str) = some (.builtin "len") := by decide +kernel
theorem boo_list : bootBuiltins ("list" : Str) = some (.type "list") := by decide +kernel
theorem boo_min : bootBuiltins ("min" : Str) = some (.builtin "min") := by decide +kernel
theorem boo_range : bootBuiltins ("range" : Str) = some (.type "range") := by decide +kernel
theorem boo_str : bootBuiltins ("str" : Str) = some (.type "str") := by decide +kernel
theorem boo_tuple : bootBuiltins ("tuple" : Str) = some (.type "tuple") := by decide +kernel
theorem boo_zip : bootBuiltins ("zip" : Str) = some (.type "zip") := by decide +kernel
/-- what the top's names stand for -/
structure Tx (mg : Str → Option Value) : Prop where
  b_all : mg "all" = none
  b_bool : mg "bool" = none
  b_int : mg "int" = none
  b_isinstance : mg "isinstance" = none
  b_len : mg "len" = none
  b_list : mg "list" = none
  b_min : mg "min" = none
  b_range : mg "range" = none
  b_str : mg "str" = none
  b_tuple : mg "tuple" = none
  b_zip : mg "zip" = none
  c_MOST_FIELDS : ∃ u, mg "MOST_FIELDS" = some u ∧ RelV (.int 24) u
  c_MOST_VALUES : ∃ u, mg "MOST_VALUES" = some u ∧ RelV (.int 6) u
  c_SMALL : ∃ u, mg "SMALL" = some u ∧ RelV (.int 1024) u
section
variable {P : Program} {w : World} {K : PySem.W.Frag} {mg : Str → Option Value} {base : Heap}
/-! is_whole: 0 value -/
abbrev s_is_whole : Stmt := top 8
abbrev n_is_whole : List Str := ["value"]
theorem sc_is_whole : FnScope n_is_whole ["value"] (defScope s_is_whole) := C8.fnScope_by (by decide +kernel)
def t_is_whole (K : PySem.W.Frag) : TS :=
  (tRet (tAndV (tCB (rIsi K) (tCons (tVar 0) (tCons (tC (.ty "int")) tNil))) (tNotV (tCB (rIsi K) (tCons (tVar 0) (tCons (tC (.ty "bool")) tNil))))))
theorem der_is_whole (T : Tx mg) {k : Nat} {f : Addr} {cdv : Value} {A : Around} {outer : List Env} {s : Shared} {H : Hp} {E : XK}
    (hr : Room k (A.deeper (PyProof.Rows.envOfC "is_whole" (defScope s_is_whole) s.heap.objs.size f cdv))) : PSs (cxOf CX0 P w K mg base n_is_whole "is_whole" (defScope s_is_whole) f cdv A outer s H E).nox (defBody s_is_whole) (t_is_whole K) := by
  have nd := sc_is_whole.nd
  exact (pss_one (ps_ret (pe_and (pe_callB call_isi (by rfl) T.b_isinstance boo_isinstance (pa_cons (pv 0) (pa_cons (pe_bltn (v := .ty "int") (by rfl) T.b_int boo_int rfl) pa_nil))) (pe_one (pe_not (pe_callB call_isi (by rfl) T.b_isinstance boo_isinstance (pa_cons (pv 0) (pa_cons (pe_bltn (v := .ty "bool") (by rfl) T.b_bool boo_bool rfl) pa_nil))))))))
/-! is_below: 0 value, 1 bound -/
abbrev s_is_below : Stmt := top 9
abbrev n_is_below : List Str := ["value", "bound"]
theorem sc_is_below : FnScope n_is_below ["value", "bound"] (defScope s_is_below) := C8.fnScope_by (by decide +kernel)
def t_is_below (K : PySem.W.Frag) (S_is_whole : ASp) : TS :=
  (tRet (tAndV (tCall (spA 1 S_is_whole) [] E0 (tCons (tVar 0) tNil)) (tChain (rI0 fun i j => .bl (decide (i ≤ j))) (rI0 fun i j => .bl (decide (i < j))) (tC (.int 0)) (tVar 0) (tVar 1))))
theorem der_is_below (T : Tx mg) {k : Nat} {S_is_whole : ASp} {j_is_whole : Nat} (c_is_whole : Cl P w K mg base "is_whole" j_is_whole 1 S_is_whole) (h_is_whole : j_is_whole ≤ k) {f : Addr} {cdv : Value} {A : Around} {outer : List Env} {s : Shared} {H : Hp} {E : XK}
    (hr : Room k (A.deeper (PyProof.Rows.envOfC "is_below" (defScope s_is_below) s.heap.objs.size f cdv))) : PSs (cxOf CX0 P w K mg base n_is_below "is_below" (defScope s_is_below) f cdv A outer s H E).nox (defBody s_is_below) (t_is_below K S_is_whole) := by
  have nd := sc_is_below.nd
  exact (pss_one (ps_ret (pe_and (pe_cl c_is_whole hr h_is_whole (by rfl) (pa_cons (pv 0) pa_nil)) (pe_one (pe_chain op_le op_lt pe_int (pv 0) (pv 1))))))
/-! is_sizes: 0 value, 1 size -/
abbrev s_is_sizes : Stmt := top 10
abbrev n_is_sizes : List Str := ["value", "size"]
theorem sc_is_sizes : FnScope n_is_sizes ["value"] (defScope s_is_sizes) := C8.fnScope_by (by decide +kernel)
def t_is_sizes (K : PySem.W.Frag) (S_is_below : ASp) : TS :=
  (tSeq (tIfS (tOr (tNot (tB (tCB (rIsi K) (tCons (tVar 0) (tCons (tC (.ty "list")) tNil))))) (tTest (tOp (rI0 fun i j => .bl (decide (j < i))) (tCB (DL.rLen K) (tCons (tVar 0) tNil)) (tC (.int 24))))) (tRet (tC (.bl false))) tNext) (tRet (tCB (rAll K) (tCons (tLc (iList K (tVar 0)) (gName 1) tYes (tAndV (tCall (spA 2 S_is_below) [] E0 (tCons (tVar 1) (tCons (tOp (rAddA K) (tC (.int 6)) (tC (.int 1))) tNil))) (tOp (rI0 fun i j => .bl (decide (j < i))) (tVar 1) (tC (.int 1)))) [1]) tNil))))
theorem der_is_sizes (T : Tx mg) {k : Nat} {S_is_below : ASp} {j_is_below : Nat} (c_is_below : Cl P w K mg base "is_below" j_is_below 2 S_is_below) (h_is_below : j_is_below ≤ k) {f : Addr} {cdv : Value} {A : Around} {outer : List Env} {s : Shared} {H : Hp} {E : XK}
    (hr : Room k (A.deeper (PyProof.Rows.envOfC "is_sizes" (defScope s_is_sizes) s.heap.objs.size f cdv))) : PSs (cxOf CX0 P w K mg base n_is_sizes "is_sizes" (defScope s_is_sizes) f cdv A outer s H E).nox (defBody s_is_sizes) (t_is_sizes K S_is_below) := by
  have nd := sc_is_sizes.nd
  exact (pss_cons (ps_if (PW.pt (pw_or (pt_not (pt_val (pe_callB call_isi (by rfl) T.b_isinstance boo_isinstance (pa_cons (pv 0) (pa_cons (pe_bltn (v := .ty "list") (by rfl) T.b_list boo_list rfl) pa_nil))))) (pw_or1 (pt_cmpR op_gt (pe_callB DL.call_lenA (by rfl) T.b_len boo_len (pa_cons (pv 0) pa_nil)) (C8.pe_gc (by rfl) T.c_MOST_FIELDS) (nomark _))))) (pss_one (ps_ret pe_bl)) pss_nil) (pss_one (ps_ret (pe_callB (cr_all rfl) (by rfl) T.b_all boo_all (pa_cons (pe_lc (own := [("size", 1)]) rfl nd (pi_list (pv 0)) (blkOk_by (by kernel_rfl)) (fun _ _ _ _ _ => (pg_name (i := 1) nd rfl (by first | exact Or.inl rfl | exact Or.inr rfl))) (fun _ _ _ _ _ => pts_nil) (fun _ _ _ _ _ => (pe_and (pe_cl c_is_below hr h_is_below (by rfl) (pa_cons (pv 1) (pa_cons (pe_op op_addA (C8.pe_gc (by rfl) T.c_MOST_VALUES) pe_int) pa_nil))) (pe_one (pe_cmpR op_gt (pv 1) pe_int (nomark _)))))) pa_nil)))))
/-! need_sizes: 0 sizes -/
abbrev s_need_sizes : Stmt := top 11
abbrev n_need_sizes : List Str := ["sizes"]
theorem sc_need_sizes : FnScope n_need_sizes ["sizes"] (defScope s_need_sizes) := C8.fnScope_by (by decide +kernel)
def t_need_sizes (K : PySem.W.Frag) (S_is_sizes : ASp) : TS :=
  (tIfS (tNot (tB (tCall (spA 1 S_is_sizes) [] E0 (tCons (tVar 0) tNil)))) tNever tNext)
theorem der_need_sizes (T : Tx mg) {k : Nat} {S_is_sizes : ASp} {j_is_sizes : Nat} (c_is_sizes : Cl P w K mg base "is_sizes" j_is_sizes 1 S_is_sizes) (h_is_sizes : j_is_sizes ≤ k) {f : Addr} {cdv : Value} {A : Around} {outer : List Env} {s : Shared} {H : Hp} {E : XK}
    (hr : Room k (A.deeper (PyProof.Rows.envOfC "need_sizes" (defScope s_need_sizes) s.heap.objs.size f cdv))) : PSs (cxOf CX0 P w K mg base n_need_sizes "need_sizes" (defScope s_need_sizes) f cdv A outer s H E).nox (defBody s_need_sizes) (t_need_sizes K S_is_sizes) := by
  have nd := sc_need_sizes.nd
  exact (pss_one (ps_if (pt_not (pt_val (pe_cl c_is_sizes hr h_is_sizes (by rfl) (pa_cons (pv 0) pa_nil)))) (pss_one ps_never) pss_nil))
/-! product: 0 sizes, 1 found, 2 size -/
abbrev s_product : Stmt := top 12
abbrev n_product : List Str := ["sizes", "found", "size"]
theorem sc_product : FnScope n_product ["sizes"] (defScope s_product) := C8.fnScope_by (by decide +kernel)
def t_product (K : PySem.W.Frag) : TS :=
  (tSeq (tAsg (tC (.int 1)) (gName 1)) (tSeq (tFor (iList K (tVar 0)) (gName 2) (tAsg (tOp rMulA (tVar 1) (tVar 2)) (gName 1))) (tRet (tVar 1))))
theorem der_product (T : Tx mg) {k : Nat} {f : Addr} {cdv : Value} {A : Around} {outer : List Env} {s : Shared} {H : Hp} {E : XK}
    (hr : Room k (A.deeper (PyProof.Rows.envOfC "product" (defScope s_product) s.heap.objs.size f cdv))) : PSs (cxOf CX0 P w K mg base n_product "product" (defScope s_product) f cdv A outer s H E).nox (defBody s_product) (t_product K) := by
  have nd := sc_product.nd
  exact (pss_cons (ps_set (i := 1) nd rfl (by first | exact Or.inl rfl | exact Or.inr rfl) pe_int) (pss_cons (ps_for PassesOwn.never rfl (pi_list (pv 0)) (pg_name (i := 2) nd rfl (by first | exact Or.inl rfl | exact Or.inr rfl)) (pss_one (ps_set (i := 1) nd rfl (by first | exact Or.inl rfl | exact Or.inr rfl) (pe_op op_mulA (pv 1) (pv 2))))) (pss_one (ps_ret (pv 1)))))
/-! is_values: 0 size, 1 value, 2 at, 3 part -/
abbrev s_is_values : Stmt := top 14
abbrev n_is_values : List Str := ["size", "value", "at", "part"]
theorem sc_is_values : FnScope n_is_values ["size", "value"] (defScope s_is_values) := C8.fnScope_by (by decide +kernel)
def t_is_values (K : PySem.W.Frag) (S_is_below : ASp) : TS :=
  (tSeq (tIfS (tOr (tNot (tB (tCB (rIsi K) (tCons (tVar 1) (tCons (tC (.ty "tuple")) tNil))))) (tNot (tB (tCB (rAll K) (tCons (tLc (iTup K (tVar 1)) (gName 3) tYes (tCall (spA 2 S_is_below) [] E0 (tCons (tVar 3) (tCons (tVar 0) tNil))) [3]) tNil))))) (tRet (tC (.bl false))) tNext) (tRet (tCB (rAll K) (tCons (tLc (iRng1 (tCons (tOp (rI0 fun i j => .int (i - j)) (tCB (DL.rLen K) (tCons (tVar 1) tNil)) (tC (.int 1))) tNil)) (gName 2) tYes (tOp (rI0 fun i j => .bl (decide (i < j))) (tOp (rIx K) (tVar 1) (tVar 2)) (tOp (rIx K) (tVar 1) (tOp (rAddA K) (tVar 2) (tC (.int 1))))) [2]) tNil))))
theorem der_is_values (T : Tx mg) {k : Nat} {S_is_below : ASp} {j_is_below : Nat} (c_is_below : Cl P w K mg base "is_below" j_is_below 2 S_is_below) (h_is_below : j_is_below ≤ k) {f : Addr} {cdv : Value} {A : Around} {outer : List Env} {s : Shared} {H : Hp} {E : XK}
    (hr : Room k (A.deeper (PyProof.Rows.envOfC "is_values" (defScope s_is_values) s.heap.objs.size f cdv))) : PSs (cxOf CX0 P w K mg base n_is_values "is_values" (defScope s_is_values) f cdv A outer s H E).nox (defBody s_is_values) (t_is_values K S_is_below) := by
  have nd := sc_is_values.nd
  exact (pss_cons (ps_if (PW.pt (pw_or (pt_not (pt_val (pe_callB call_isi (by rfl) T.b_isinstance boo_isinstance (pa_cons (pv 1) (pa_cons (pe_bltn (v := .ty "tuple") (by rfl) T.b_tuple boo_tuple rfl) pa_nil))))) (pw_or1 (pt_not (pt_val (pe_callB (cr_all rfl) (by rfl) T.b_all boo_all (pa_cons (pe_lc (own := [("part", 3)]) rfl nd (pi_tup (pv 1)) (blkOk_by (by kernel_rfl)) (fun _ _ _ _ _ => (pg_name (i := 3) nd rfl (by first | exact Or.inl rfl | exact Or.inr rfl))) (fun _ _ _ _ _ => pts_nil) (fun _ _ _ _ _ => (pe_cl c_is_below hr h_is_below (by rfl) (pa_cons (pv 3) (pa_cons (pv 0) pa_nil))))) pa_nil))))))) (pss_one (ps_ret pe_bl)) pss_nil) (pss_one (ps_ret (pe_callB (cr_all rfl) (by rfl) T.b_all boo_all (pa_cons (pe_lc (own := [("at", 2)]) rfl nd (pi_range1 (by rfl) T.b_range (pa_cons (pe_op op_sub (pe_callB DL.call_lenA (by rfl) T.b_len boo_len (pa_cons (pv 1) pa_nil)) pe_int) pa_nil)) (blkOk_by (by kernel_rfl)) (fun _ _ _ _ _ => (pg_name (i := 2) nd rfl (by first | exact Or.inl rfl | exact Or.inr rfl))) (fun _ _ _ _ _ => pts_nil) (fun _ _ _ _ _ => (pe_cmpR op_lt (pe_ix ix_seq (pv 1) (pv 2) (fun _ _ => rfl)) (pe_ix ix_seq (pv 1) (pe_op op_addA (pv 2) pe_int) (fun _ _ => rfl)) (nomark _)))) pa_nil)))))
/-! is_condition: 0 sizes, 1 value -/
abbrev s_is_condition : Stmt := top 15
abbrev n_is_condition : List Str := ["sizes", "value"]
theorem sc_is_condition : FnScope n_is_condition ["sizes", "value"] (defScope s_is_condition) := C8.fnScope_by (by decide +kernel)
def t_is_condition (K : PySem.W.Frag) (S_is_values : ASp) (S_is_below : ASp) : TS :=
  (tSeq (tIfS (tOr (tNot (tB (tCB (rIsi K) (tCons (tVar 1) (tCons (tC (.ty "tuple")) tNil))))) (tOr (tTest (tOp (rNeA K) (tCB (DL.rLen K) (tCons (tVar 1) tNil)) (tC (.int 2)))) (tNot (tB (tCall (spA 2 S_is_below) [] E0 (tCons (tOp (rIx K) (tVar 1) (tC (.int 0))) (tCons (tCB (DL.rLen K) (tCons (tVar 0) tNil)) tNil))))))) (tRet (tC (.bl false))) tNext) (tRet (tCall (spA 2 S_is_values) [] E0 (tCons (tOp (rIx K) (tVar 0) (tOp (rIx K) (tVar 1) (tC (.int 0)))) (tCons (tOp (rIx K) (tVar 1) (tC (.int 1))) tNil)))))
theorem der_is_condition (T : Tx mg) {k : Nat} {S_is_values : ASp} {j_is_values : Nat} (c_is_values : Cl P w K mg base "is_values" j_is_values 2 S_is_values) (h_is_values : j_is_values ≤ k) {S_is_below : ASp} {j_is_below : Nat} (c_is_below : Cl P w K mg base "is_below" j_is_below 2 S_is_below) (h_is_below : j_is_below ≤ k) {f : Addr} {cdv : Value} {A : Around} {outer : List Env} {s : Shared} {H : Hp} {E : XK}
    (hr : Room k (A.deeper (PyProof.Rows.envOfC "is_condition" (defScope s_is_condition) s.heap.objs.size f cdv))) : PSs (cxOf CX0 P w K mg base n_is_condition "is_condition" (defScope s_is_condition) f cdv A outer s H E).nox (defBody s_is_condition) (t_is_condition K S_is_values S_is_below) := by
  have nd := sc_is_condition.nd
  exact (pss_cons (ps_if (PW.pt (pw_or (pt_not (pt_val (pe_callB call_isi (by rfl) T.b_isinstance boo_isinstance (pa_cons (pv 1) (pa_cons (pe_bltn (v := .ty "tuple") (by rfl) T.b_tuple boo_tuple rfl) pa_nil))))) (pw_or (pt_cmpR (op_neA hr.units) (pe_callB DL.call_lenA (by rfl) T.b_len boo_len (pa_cons (pv 1) pa_nil)) pe_int (nomark _)) (pw_or1 (pt_not (pt_val (pe_cl c_is_below hr h_is_below (by rfl) (pa_cons (pe_ix ix_seq (pv 1) pe_int (fun _ _ => rfl)) (pa_cons (pe_callB DL.call_lenA (by rfl) T.b_len boo_len (pa_cons (pv 0) pa_nil)) pa_nil))))))))) (pss_one (ps_ret pe_bl)) pss_nil) (pss_one (ps_ret (pe_cl c_is_values hr h_is_values (by rfl) (pa_cons (pe_ix ix_seq (pv 0) (pe_ix ix_seq (pv 1) pe_int (fun _ _ => rfl)) (fun _ _ => rfl)) (pa_cons (pe_ix ix_seq (pv 1) pe_int (fun _ _ => rfl)) pa_nil))))))
/-! is_conditions: 0 sizes, 1 value, 2 at, 3 part -/
abbrev s_is_conditions : Stmt := top 16
abbrev n_is_conditions : List Str := ["sizes", "value", "at", "part"]
theorem sc_is_conditions : FnScope n_is_conditions ["sizes", "value"] (defScope s_is_conditions) := C8.fnScope_by (by decide +kernel)
def t_is_conditions (K : PySem.W.Frag) (S_is_condition : ASp) : TS :=
  (tSeq (tIfS (tOr (tNot (tB (tCB (rIsi K) (tCons (tVar 1) (tCons (tC (.ty "tuple")) tNil))))) (tNot (tB (tCB (rAll K) (tCons (tLc (iTup K (tVar 1)) (gName 3) tYes (tCall (spA 2 S_is_condition) [] E0 (tCons (tVar 0) (tCons (tVar 3) tNil))) [3]) tNil))))) (tRet (tC (.bl false))) tNext) (tRet (tCB (rAll K) (tCons (tLc (iRng1 (tCons (tOp (rI0 fun i j => .int (i - j)) (tCB (DL.rLen K) (tCons (tVar 1) tNil)) (tC (.int 1))) tNil)) (gName 2) tYes (tOp (rI0 fun i j => .bl (decide (i < j))) (tOp (rIx K) (tOp (rIx K) (tVar 1) (tVar 2)) (tC (.int 0))) (tOp (rIx K) (tOp (rIx K) (tVar 1) (tOp (rAddA K) (tVar 2) (tC (.int 1)))) (tC (.int 0)))) [2]) tNil))))
theorem der_is_conditions (T : Tx mg) {k : Nat} {S_is_condition : ASp} {j_is_condition : Nat} (c_is_condition : Cl P w K mg base "is_condition" j_is_condition 2 S_is_condition) (h_is_condition : j_is_condition ≤ k) {f : Addr} {cdv : Value} {A : Around} {outer : List Env} {s : Shared} {H : Hp} {E : XK}
    (hr : Room k (A.deeper (PyProof.Rows.envOfC "is_conditions" (defScope s_is_conditions) s.heap.objs.size f cdv))) : PSs (cxOf CX0 P w K mg base n_is_conditions "is_conditions" (defScope s_is_conditions) f cdv A outer s H E).nox (defBody s_is_conditions) (t_is_conditions K S_is_condition) := by
  have nd := sc_is_conditions.nd
  exact (pss_cons (ps_if (PW.pt (pw_or (pt_not (pt_val (pe_callB call_isi (by rfl) T.b_isinstance boo_isinstance (pa_cons (pv 1) (pa_cons (pe_bltn (v := .ty "tuple") (by rfl) T.b_tuple boo_tuple rfl) pa_nil))))) (pw_or1 (pt_not (pt_val (pe_callB (cr_all rfl) (by rfl) T.b_all boo_all (pa_cons (pe_lc (own := [("part", 3)]) rfl nd (pi_tup (pv 1)) (blkOk_by (by kernel_rfl)) (fun _ _ _ _ _ => (pg_name (i := 3) nd rfl (by first | exact Or.inl rfl | exact Or.inr rfl))) (fun _ _ _ _ _ => pts_nil) (fun _ _ _ _ _ => (pe_cl c_is_condition hr h_is_condition (by rfl) (pa_cons (pv 0) (pa_cons (pv 3) pa_nil))))) pa_nil))))))) (pss_one (ps_ret pe_bl)) pss_nil) (pss_one (ps_ret (pe_callB (cr_all rfl) (by rfl) T.b_all boo_all (pa_cons (pe_lc (own := [("at", 2)]) rfl nd (pi_range1 (by rfl) T.b_range (pa_cons (pe_op op_sub (pe_callB DL.call_lenA (by rfl) T.b_len boo_len (pa_cons (pv 1) pa_nil)) pe_int) pa_nil)) (blkOk_by (by kernel_rfl)) (fun _ _ _ _ _ => (pg_name (i := 2) nd rfl (by first | exact Or.inl rfl | exact Or.inr rfl))) (fun _ _ _ _ _ => pts_nil) (fun _ _ _ _ _ => (pe_cmpR op_lt (pe_ix ix_seq (pe_ix ix_seq (pv 1) (pv 2) (fun _ _ => rfl)) pe_int (fun _ _ => rfl)) (pe_ix ix_seq (pe_ix ix_seq (pv 1) (pe_op op_addA (pv 2) pe_int) (fun _ _ => rfl)) pe_int (fun _ _ => rfl)) (nomark _)))) pa_nil)))))
/-! is_rule: 0 sizes, 1 value -/
abbrev s_is_rule : Stmt := top 17
abbrev n_is_rule : List Str := ["sizes", "value"]
theorem sc_is_rule : FnScope n_is_rule ["sizes", "value"] (defScope s_is_rule) := C8.fnScope_by (by decide +kernel)
def t_is_rule (K : PySem.W.Frag) (S_is_conditions : ASp) : TS :=
  (tSeq (tIfS (tOr (tNot (tB (tCB (rIsi K) (tCons (tVar 1) (tCons (tC (.ty "tuple")) tNil))))) (tOr (tTest (tOp (rNeA K) (tCB (DL.rLen K) (tCons (tVar 1) tNil)) (tC (.int 2)))) (tNot (tB (tCB (rIsi K) (tCons (tOp (rIx K) (tVar 1) (tC (.int 1))) (tCons (tC (.ty "bool")) tNil))))))) (tRet (tC (.bl false))) tNext) (tRet (tCall (spA 2 S_is_conditions) [] E0 (tCons (tVar 0) (tCons (tOp (rIx K) (tVar 1) (tC (.int 0))) tNil)))))
theorem der_is_rule (T : Tx mg) {k : Nat} {S_is_conditions : ASp} {j_is_conditions : Nat} (c_is_conditions : Cl P w K mg base "is_conditions" j_is_conditions 2 S_is_conditions) (h_is_conditions : j_is_conditions ≤ k) {f : Addr} {cdv : Value} {A : Around} {outer : List Env} {s : Shared} {H : Hp} {E : XK}
    (hr : Room k (A.deeper (PyProof.Rows.envOfC "is_rule" (defScope s_is_rule) s.heap.objs.size f cdv))) : PSs (cxOf CX0 P w K mg base n_is_rule "is_rule" (defScope s_is_rule) f cdv A outer s H E).nox (defBody s_is_rule) (t_is_rule K S_is_conditions) := by
  have nd := sc_is_rule.nd
  exact (pss_cons (ps_if (PW.pt (pw_or (pt_not (pt_val (pe_callB call_isi (by rfl) T.b_isinstance boo_isinstance (pa_cons (pv 1) (pa_cons (pe_bltn (v := .ty "tuple") (by rfl) T.b_tuple boo_tuple rfl) pa_nil))))) (pw_or (pt_cmpR (op_neA hr.units) (pe_callB DL.call_lenA (by rfl) T.b_len boo_len (pa_cons (pv 1) pa_nil)) pe_int (nomark _)) (pw_or1 (pt_not (pt_val (pe_callB call_isi (by rfl) T.b_isinstance boo_isinstance (pa_cons (pe_ix ix_seq (pv 1) pe_int (fun _ _ => rfl)) (pa_cons (pe_bltn (v := .ty "bool") (by rfl) T.b_bool boo_bool rfl) pa_nil))))))))) (pss_one (ps_ret pe_bl)) pss_nil) (pss_one (ps_ret (pe_cl c_is_conditions hr h_is_conditions (by rfl) (pa_cons (pv 0) (pa_cons (pe_ix ix_seq (pv 1) pe_int (fun _ _ => rfl)) pa_nil))))))
/-! is_weights: 0 sizes, 1 value, 2 row, 3 weight, 4 size -/
abbrev s_is_weights : Stmt := top 18
abbrev n_is_weights : List Str := ["sizes", "value", "row", "weight", "size"]
theorem sc_is_weights : FnScope n_is_weights ["sizes", "value"] (defScope s_is_weights) := C8.fnScope_by (by decide +kernel)
def t_is_weights (K : PySem.W.Frag) (S_is_whole : ASp) : TS :=
  (tSeq (tIfS (tOr (tNot (tB (tCB (rIsi K) (tCons (tVar 1) (tCons (tC (.ty "tuple")) tNil))))) (tTest (tOp (rNeA K) (tCB (DL.rLen K) (tCons (tVar 1) tNil)) (tCB (DL.rLen K) (tCons (tVar 0) tNil))))) (tRet (tC (.bl false))) tNext) (tSeq (tIfS (tNot (tB (tCB (rAll K) (tCons (tLc (iZipX K (tCons (tVar 1) (tCons (tVar 0) tNil))) (gTup K 2 (gCons (gName 2) (gCons (gName 4) gNil))) tYes (tAndV (tCB (rIsi K) (tCons (tVar 2) (tCons (tC (.ty "tuple")) tNil))) (tOp (rEqA K) (tCB (DL.rLen K) (tCons (tVar 2) tNil)) (tVar 4))) [2, 4]) tNil)))) (tRet (tC (.bl false))) tNext) (tRet (tCB (rAll K) (tCons (tLc2 (iTup K (tVar 1)) (gName 2) tYes (iTup K (tVar 2)) (gName 3) tYes (tCall (spA 1 S_is_whole) [] E0 (tCons (tVar 3) tNil)) [2, 3] [3]) tNil)))))
theorem der_is_weights (T : Tx mg) {k : Nat} {S_is_whole : ASp} {j_is_whole : Nat} (c_is_whole : Cl P w K mg base "is_whole" j_is_whole 1 S_is_whole) (h_is_whole : j_is_whole ≤ k) {f : Addr} {cdv : Value} {A : Around} {outer : List Env} {s : Shared} {H : Hp} {E : XK}
    (hr : Room k (A.deeper (PyProof.Rows.envOfC "is_weights" (defScope s_is_weights) s.heap.objs.size f cdv))) : PSs (cxOf CX0 P w K mg base n_is_weights "is_weights" (defScope s_is_weights) f cdv A outer s H E).nox (defBody s_is_weights) (t_is_weights K S_is_whole) := by
  have nd := sc_is_weights.nd
  exact (pss_cons (ps_if (PW.pt (pw_or (pt_not (pt_val (pe_callB call_isi (by rfl) T.b_isinstance boo_isinstance (pa_cons (pv 1) (pa_cons (pe_bltn (v := .ty "tuple") (by rfl) T.b_tuple boo_tuple rfl) pa_nil))))) (pw_or1 (pt_cmpR (op_neA hr.units) (pe_callB DL.call_lenA (by rfl) T.b_len boo_len (pa_cons (pv 1) pa_nil)) (pe_callB DL.call_lenA (by rfl) T.b_len boo_len (pa_cons (pv 0) pa_nil)) (nomark _))))) (pss_one (ps_ret pe_bl)) pss_nil) (pss_cons (ps_if (pt_not (pt_val (pe_callB (cr_all rfl) (by rfl) T.b_all boo_all (pa_cons (pe_lc (own := [("row", 2), ("size", 4)]) rfl nd (pi_zipX (by rfl) T.b_zip (pa_cons (pv 1) (pa_cons (pv 0) pa_nil))) (blkOk_by (by kernel_rfl)) (fun _ _ _ _ _ => (pg_tup rfl (pgs_cons (pg_name (i := 2) nd rfl (by first | exact Or.inl rfl | exact Or.inr rfl)) (pgs_cons (pg_name (i := 4) nd rfl (by first | exact Or.inl rfl | exact Or.inr rfl)) pgs_nil)))) (fun _ _ _ _ _ => pts_nil) (fun _ _ _ _ _ => (pe_and (pe_callB call_isi (by rfl) T.b_isinstance boo_isinstance (pa_cons (pv 2) (pa_cons (pe_bltn (v := .ty "tuple") (by rfl) T.b_tuple boo_tuple rfl) pa_nil))) (pe_one (pe_cmpR (op_eqA hr.units) (pe_callB DL.call_lenA (by rfl) T.b_len boo_len (pa_cons (pv 2) pa_nil)) (pv 4) (nomark _)))))) pa_nil)))) (pss_one (ps_ret pe_bl)) pss_nil) (pss_one (ps_ret (pe_callB (cr_all rfl) (by rfl) T.b_all boo_all (pa_cons (pe_lc2 (own := [("row", 2), ("weight", 3)]) (vs1 := [3]) rfl nd (pi_tup (pv 1)) (blkOk_by (by kernel_rfl)) (by decide) (fun _ _ _ _ _ => (pg_name (i := 2) nd rfl (by first | exact Or.inl rfl | exact Or.inr rfl))) (fun _ _ _ _ _ => pts_nil) (fun _ _ _ _ _ => (pi_tup (pv 2))) (fun _ _ _ _ _ => (pg_name (i := 3) nd rfl (by first | exact Or.inl rfl | exact Or.inr rfl))) (fun _ _ _ _ _ => pts_nil) (fun _ _ _ _ _ => (pe_cl c_is_whole hr h_is_whole (by rfl) (pa_cons (pv 3) pa_nil)))) pa_nil))))))
/-! is_results: 0 sizes, 1 value, 2 result -/
abbrev s_is_results : Stmt := top 19
abbrev n_is_results : List Str := ["sizes", "value", "result"]
theorem sc_is_results : FnScope n_is_results ["sizes", "value"] (defScope s_is_results) := C8.fnScope_by (by decide +kernel)
def t_is_results (K : PySem.W.Frag) (S_product : ASp) : TS :=
  (tSeq (tIfS (tOr (tTest (tOp (rI0 fun i j => .bl (decide (j < i))) (tCall (spA 1 S_product) [] E0 (tCons (tVar 0) tNil)) (tC (.int 1024)))) (tOr (tNot (tB (tCB (rIsi K) (tCons (tVar 1) (tCons (tC (.ty "tuple")) tNil))))) (tTest (tOp (rNeA K) (tCB (DL.rLen K) (tCons (tVar 1) tNil)) (tCall (spA 1 S_product) [] E0 (tCons (tVar 0) tNil)))))) (tRet (tC (.bl false))) tNext) (tRet (tCB (rAll K) (tCons (tLc (iTup K (tVar 1)) (gName 2) tYes (tCB (rIsi K) (tCons (tVar 2) (tCons (tC (.ty "bool")) tNil))) [2]) tNil))))
theorem der_is_results (T : Tx mg) {k : Nat} {S_product : ASp} {j_product : Nat} (c_product : Cl P w K mg base "product" j_product 1 S_product) (h_product : j_product ≤ k) {f : Addr} {cdv : Value} {A : Around} {outer : List Env} {s : Shared} {H : Hp} {E : XK}
    (hr : Room k (A.deeper (PyProof.Rows.envOfC "is_results" (defScope s_is_results) s.heap.objs.size f cdv))) : PSs (cxOf CX0 P w K mg base n_is_results "is_results" (defScope s_is_results) f cdv A outer s H E).nox (defBody s_is_results) (t_is_results K S_product) := by
  have nd := sc_is_results.nd
  exact (pss_cons (ps_if (PW.pt (pw_or (pt_cmpR op_gt (pe_cl c_product hr h_product (by rfl) (pa_cons (pv 0) pa_nil)) (C8.pe_gc (by rfl) T.c_SMALL) (nomark _)) (pw_or (pt_not (pt_val (pe_callB call_isi (by rfl) T.b_isinstance boo_isinstance (pa_cons (pv 1) (pa_cons (pe_bltn (v := .ty "tuple") (by rfl) T.b_tuple boo_tuple rfl) pa_nil))))) (pw_or1 (pt_cmpR (op_neA hr.units) (pe_callB DL.call_lenA (by rfl) T.b_len boo_len (pa_cons (pv 1) pa_nil)) (pe_cl c_product hr h_product (by rfl) (pa_cons (pv 0) pa_nil)) (nomark _)))))) (pss_one (ps_ret pe_bl)) pss_nil) (pss_one (ps_ret (pe_callB (cr_all rfl) (by rfl) T.b_all boo_all (pa_cons (pe_lc (own := [("result", 2)]) rfl nd (pi_tup (pv 1)) (blkOk_by (by kernel_rfl)) (fun _ _ _ _ _ => (pg_name (i := 2) nd rfl (by first | exact Or.inl rfl | exact Or.inr rfl))) (fun _ _ _ _ _ => pts_nil) (fun _ _ _ _ _ => (pe_callB call_isi (by rfl) T.b_isinstance boo_isinstance (pa_cons (pv 2) (pa_cons (pe_bltn (v := .ty "bool") (by rfl) T.b_bool boo_bool rfl) pa_nil))))) pa_nil)))))
/-! is_all_forms: 0 sizes, 1 value, 2 part -/
abbrev s_is_all_forms : Stmt := top 20
abbrev n_is_all_forms : List Str := ["sizes", "value", "part"]
theorem sc_is_all_forms : FnScope n_is_all_forms ["sizes", "value"] (defScope s_is_all_forms) := C8.fnScope_by (by decide +kernel)
def t_is_all_forms (K : PySem.W.Frag) (S_fits : ASp) : TS :=
  (tRet (tAndV (tCB (rIsi K) (tCons (tVar 1) (tCons (tC (.ty "tuple")) tNil))) (tCB (rAll K) (tCons (tLc (iTup K (tVar 1)) (gName 2) tYes (tCall (spA 2 S_fits) [] E0 (tCons (tVar 0) (tCons (tVar 2) tNil))) [2]) tNil))))
theorem der_is_all_forms (T : Tx mg) {k : Nat} {S_fits : ASp} {j_fits : Nat} (c_fits : Cl P w K mg base "fits" j_fits 2 S_fits) (h_fits : j_fits ≤ k) {f : Addr} {cdv : Value} {A : Around} {outer : List Env} {s : Shared} {H : Hp} {E : XK}
    (hr : Room k (A.deeper (PyProof.Rows.envOfC "is_all_forms" (defScope s_is_all_forms) s.heap.objs.size f cdv))) : PSs (cxOf CX0 P w K mg base n_is_all_forms "is_all_forms" (defScope s_is_all_forms) f cdv A outer s H E).nox (defBody s_is_all_forms) (t_is_all_forms K S_fits) := by
  have nd := sc_is_all_forms.nd
  exact (pss_one (ps_ret (pe_and (pe_callB call_isi (by rfl) T.b_isinstance boo_isinstance (pa_cons (pv 1) (pa_cons (pe_bltn (v := .ty "tuple") (by rfl) T.b_tuple boo_tuple rfl) pa_nil))) (pe_one (pe_callB (cr_all rfl) (by rfl) T.b_all boo_all (pa_cons (pe_lc (own := [("part", 2)]) rfl nd (pi_tup (pv 1)) (blkOk_by (by kernel_rfl)) (fun _ _ _ _ _ => (pg_name (i := 2) nd rfl (by first | exact Or.inl rfl | exact Or.inr rfl))) (fun _ _ _ _ _ => pts_nil) (fun _ _ _ _ _ => (pe_cl c_fits hr h_fits (by rfl) (pa_cons (pv 0) (pa_cons (pv 2) pa_nil))))) pa_nil))))))
/-! is_branches: 0 sizes, 1 field, 2 value -/
abbrev s_is_branches : Stmt := top 21
abbrev n_is_branches : List Str := ["sizes", "field", "value"]
theorem sc_is_branches : FnScope n_is_branches ["sizes", "field", "value"] (defScope s_is_branches) := C8.fnScope_by (by decide +kernel)
def t_is_branches (K : PySem.W.Frag) (S_is_below : ASp) (S_is_all_forms : ASp) : TS :=
  (tRet (tAndV (tCall (spA 2 S_is_below) [] E0 (tCons (tVar 1) (tCons (tCB (DL.rLen K) (tCons (tVar 0) tNil)) tNil))) (tAndV (tCall (spA 2 S_is_all_forms) [] E0 (tCons (tVar 0) (tCons (tVar 2) tNil))) (tOp (rEqA K) (tCB (DL.rLen K) (tCons (tVar 2) tNil)) (tOp (rIx K) (tVar 0) (tVar 1))))))
theorem der_is_branches (T : Tx mg) {k : Nat} {S_is_below : ASp} {j_is_below : Nat} (c_is_below : Cl P w K mg base "is_below" j_is_below 2 S_is_below) (h_is_below : j_is_below ≤ k) {S_is_all_forms : ASp} {j_is_all_forms : Nat} (c_is_all_forms : Cl P w K mg base "is_all_forms" j_is_all_forms 2 S_is_all_forms) (h_is_all_forms : j_is_all_forms ≤ k) {f : Addr} {cdv : Value} {A : Around} {outer : List Env} {s : Shared} {H : Hp} {E : XK}
    (hr : Room k (A.deeper (PyProof.Rows.envOfC "is_branches" (defScope s_is_branches) s.heap.objs.size f cdv))) : PSs (cxOf CX0 P w K mg base n_is_branches "is_branches" (defScope s_is_branches) f cdv A outer s H E).nox (defBody s_is_branches) (t_is_branches K S_is_below S_is_all_forms) := by
  have nd := sc_is_branches.nd
  exact (pss_one (ps_ret (pe_and (pe_cl c_is_below hr h_is_below (by rfl) (pa_cons (pv 1) (pa_cons (pe_callB DL.call_lenA (by rfl) T.b_len boo_len (pa_cons (pv 0) pa_nil)) pa_nil))) (pe_and (pe_cl c_is_all_forms hr h_is_all_forms (by rfl) (pa_cons (pv 0) (pa_cons (pv 2) pa_nil))) (pe_one (pe_cmpR (op_eqA hr.units) (pe_callB DL.call_lenA (by rfl) T.b_len boo_len (pa_cons (pv 2) pa_nil)) (pe_ix ix_seq (pv 0) (pv 1) (fun _ _ => rfl)) (nomark _)))))))
/-! fits_two: 0 sizes, 1 word, 2 part -/
abbrev s_fits_two : Stmt := top 22
abbrev n_fits_two : List Str := ["sizes", "word", "part"]
theorem sc_fits_two : FnScope n_fits_two ["sizes", "word", "part"] (defScope s_fits_two) := C8.fnScope_by (by decide +kernel)
def t_fits_two (K : PySem.W.Frag) (S_is_all_forms : ASp) (S_fits : ASp) (S_is_results : ASp) : TS :=
  (tSeq (tIfS (tTest (tOp (rEqA K) (tVar 1) (tC (.str ("say" : Str))))) (tRet (tCB (rIsi K) (tCons (tVar 2) (tCons (tC (.ty "bool")) tNil)))) tNext) (tSeq (tIfS (tTest (tOp (rEqA K) (tVar 1) (tC (.str ("table" : Str))))) (tRet (tCall (spA 2 S_is_results) [] E0 (tCons (tVar 0) (tCons (tVar 2) tNil)))) tNext) (tSeq (tIfS (tTest (tOp (rEqA K) (tVar 1) (tC (.str ("not" : Str))))) (tRet (tCall (spA 2 S_fits) [] E0 (tCons (tVar 0) (tCons (tVar 2) tNil)))) tNext) (tRet (tAndV (tOp (rInA K) (tVar 1) (tTup (tCons (tC (.str ("and" : Str))) (tCons (tC (.str ("or" : Str))) (tCons (tC (.str ("odd" : Str))) tNil))))) (tCall (spA 2 S_is_all_forms) [] E0 (tCons (tVar 0) (tCons (tVar 2) tNil))))))))
theorem der_fits_two (T : Tx mg) {k : Nat} {S_is_all_forms : ASp} {j_is_all_forms : Nat} (c_is_all_forms : Cl P w K mg base "is_all_forms" j_is_all_forms 2 S_is_all_forms) (h_is_all_forms : j_is_all_forms ≤ k) {S_fits : ASp} {j_fits : Nat} (c_fits : Cl P w K mg base "fits" j_fits 2 S_fits) (h_fits : j_fits ≤ k) {S_is_results : ASp} {j_is_results : Nat} (c_is_results : Cl P w K mg base "is_results" j_is_results 2 S_is_results) (h_is_results : j_is_results ≤ k) {f : Addr} {cdv : Value} {A : Around} {outer : List Env} {s : Shared} {H : Hp} {E : XK}
    (hr : Room k (A.deeper (PyProof.Rows.envOfC "fits_two" (defScope s_fits_two) s.heap.objs.size f cdv))) : PSs (cxOf CX0 P w K mg base n_fits_two "fits_two" (defScope s_fits_two) f cdv A outer s H E).nox (defBody s_fits_two) (t_fits_two K S_is_all_forms S_fits S_is_results) := by
  have nd := sc_fits_two.nd
  exact (pss_cons (ps_if (pt_cmpR (op_eqA hr.units) (pv 1) pe_str (nomark _)) (pss_one (ps_ret (pe_callB call_isi (by rfl) T.b_isinstance boo_isinstance (pa_cons (pv 2) (pa_cons (pe_bltn (v := .ty "bool") (by rfl) T.b_bool boo_bool rfl) pa_nil))))) pss_nil) (pss_cons (ps_if (pt_cmpR (op_eqA hr.units) (pv 1) pe_str (nomark _)) (pss_one (ps_ret (pe_cl c_is_results hr h_is_results (by rfl) (pa_cons (pv 0) (pa_cons (pv 2) pa_nil))))) pss_nil) (pss_cons (ps_if (pt_cmpR (op_eqA hr.units) (pv 1) pe_str (nomark _)) (pss_one (ps_ret (pe_cl c_fits hr h_fits (by rfl) (pa_cons (pv 0) (pa_cons (pv 2) pa_nil))))) pss_nil) (pss_one (ps_ret (pe_and (pe_cmpR (op_inA (u65 hr)) (pv 1) (pe_tup (pa_cons pe_str (pa_cons pe_str (pa_cons pe_str pa_nil)))) (by with_unfolding_all rfl)) (pe_one (pe_cl c_is_all_forms hr h_is_all_forms (by rfl) (pa_cons (pv 0) (pa_cons (pv 2) pa_nil))))))))))
/-! fits_three: 0 sizes, 1 word, 2 first, 3 second, 4 is_list, 5 rule -/
abbrev s_fits_three : Stmt := top 23
abbrev n_fits_three : List Str := ["sizes", "word", "first", "second", "is_list", "rule"]
theorem sc_fits_three : FnScope n_fits_three ["sizes", "word", "first", "second"] (defScope s_fits_three) := C8.fnScope_by (by decide +kernel)
def t_fits_three (K : PySem.W.Frag) (S_is_weights : ASp) (S_is_whole : ASp) (S_is_rule : ASp) (S_is_branches : ASp) (S_is_condition : ASp) : TS :=
  (tSeq (tIfS (tTest (tOp (rEqA K) (tVar 1) (tC (.str ("is" : Str))))) (tRet (tCall (spA 2 S_is_condition) [] E0 (tCons (tVar 0) (tCons (tTup (tCons (tVar 2) (tCons (tVar 3) tNil))) tNil)))) tNext) (tSeq (tIfS (tTest (tOp (rEqA K) (tVar 1) (tC (.str ("tree" : Str))))) (tRet (tCall (spA 3 S_is_branches) [] E0 (tCons (tVar 0) (tCons (tVar 2) (tCons (tVar 3) tNil))))) tNext) (tSeq (tIfS (tTest (tOp (rEqA K) (tVar 1) (tC (.str ("rules" : Str))))) (tSeq (tAsg (tAndV (tCB (rIsi K) (tCons (tVar 2) (tCons (tC (.ty "tuple")) tNil))) (tCB (rAll K) (tCons (tLc (iTup K (tVar 2)) (gName 5) tYes (tCall (spA 2 S_is_rule) [] E0 (tCons (tVar 0) (tCons (tVar 5) tNil))) [5]) tNil))) (gName 4)) (tRet (tAndV (tVar 4) (tCB (rIsi K) (tCons (tVar 3) (tCons (tC (.ty "bool")) tNil)))))) tNext) (tRet (tAndV (tOp (rEqA K) (tVar 1) (tC (.str ("card" : Str)))) (tAndV (tCall (spA 2 S_is_weights) [] E0 (tCons (tVar 0) (tCons (tVar 2) tNil))) (tCall (spA 1 S_is_whole) [] E0 (tCons (tVar 3) tNil))))))))
theorem der_fits_three (T : Tx mg) {k : Nat} {S_is_weights : ASp} {j_is_weights : Nat} (c_is_weights : Cl P w K mg base "is_weights" j_is_weights 2 S_is_weights) (h_is_weights : j_is_weights ≤ k) {S_is_whole : ASp} {j_is_whole : Nat} (c_is_whole : Cl P w K mg base "is_whole" j_is_whole 1 S_is_whole) (h_is_whole : j_is_whole ≤ k) {S_is_rule : ASp} {j_is_rule : Nat} (c_is_rule : Cl P w K mg base "is_rule" j_is_rule 2 S_is_rule) (h_is_rule : j_is_rule ≤ k) {S_is_branches : ASp} {j_is_branches : Nat} (c_is_branches : Cl P w K mg base "is_branches" j_is_branches 3 S_is_branches) (h_is_branches : j_is_branches ≤ k) {S_is_condition : ASp} {j_is_condition : Nat} (c_is_condition : Cl P w K mg base "is_condition" j_is_condition 2 S_is_condition) (h_is_condition : j_is_condition ≤ k) {f : Addr} {cdv : Value} {A : Around} {outer : List Env} {s : Shared} {H : Hp} {E : XK}
    (hr : Room k (A.deeper (PyProof.Rows.envOfC "fits_three" (defScope s_fits_three) s.heap.objs.size f cdv))) : PSs (cxOf CX0 P w K mg base n_fits_three "fits_three" (defScope s_fits_three) f cdv A outer s H E).nox (defBody s_fits_three) (t_fits_three K S_is_weights S_is_whole S_is_rule S_is_branches S_is_condition) := by
  have nd := sc_fits_three.nd
  exact (pss_cons (ps_if (pt_cmpR (op_eqA hr.units) (pv 1) pe_str (nomark _)) (pss_one (ps_ret (pe_cl c_is_condition hr h_is_condition (by rfl) (pa_cons (pv 0) (pa_cons (pe_tup (pa_cons (pv 2) (pa_cons (pv 3) pa_nil))) pa_nil))))) pss_nil) (pss_cons (ps_if (pt_cmpR (op_eqA hr.units) (pv 1) pe_str (nomark _)) (pss_one (ps_ret (pe_cl c_is_branches hr h_is_branches (by rfl) (pa_cons (pv 0) (pa_cons (pv 2) (pa_cons (pv 3) pa_nil)))))) pss_nil) (pss_cons (ps_if (pt_cmpR (op_eqA hr.units) (pv 1) pe_str (nomark _)) (pss_cons (ps_set (i := 4) nd rfl (by first | exact Or.inl rfl | exact Or.inr rfl) (pe_and (pe_callB call_isi (by rfl) T.b_isinstance boo_isinstance (pa_cons (pv 2) (pa_cons (pe_bltn (v := .ty "tuple") (by rfl) T.b_tuple boo_tuple rfl) pa_nil))) (pe_one (pe_callB (cr_all rfl) (by rfl) T.b_all boo_all (pa_cons (pe_lc (own := [("rule", 5)]) rfl nd (pi_tup (pv 2)) (blkOk_by (by kernel_rfl)) (fun _ _ _ _ _ => (pg_name (i := 5) nd rfl (by first | exact Or.inl rfl | exact Or.inr rfl))) (fun _ _ _ _ _ => pts_nil) (fun _ _ _ _ _ => (pe_cl c_is_rule hr h_is_rule (by rfl) (pa_cons (pv 0) (pa_cons (pv 5) pa_nil))))) pa_nil))))) (pss_one (ps_ret (pe_and (pv 4) (pe_one (pe_callB call_isi (by rfl) T.b_isinstance boo_isinstance (pa_cons (pv 3) (pa_cons (pe_bltn (v := .ty "bool") (by rfl) T.b_bool boo_bool rfl) pa_nil)))))))) pss_nil) (pss_one (ps_ret (pe_and (pe_cmpR (op_eqA hr.units) (pv 1) pe_str (nomark _)) (pe_and (pe_cl c_is_weights hr h_is_weights (by rfl) (pa_cons (pv 0) (pa_cons (pv 2) pa_nil))) (pe_one (pe_cl c_is_whole hr h_is_whole (by rfl) (pa_cons (pv 3) pa_nil))))))))))
/-! fits: 0 sizes, 1 value -/
abbrev s_fits : Stmt := top 24
abbrev n_fits : List Str := ["sizes", "value"]
theorem sc_fits : FnScope n_fits ["sizes", "value"] (defScope s_fits) := C8.fnScope_by (by decide +kernel)
def t_fits (K : PySem.W.Frag) (S_fits_three : ASp) (S_fits_two : ASp) : TS :=
  (tSeq (tIfS (tOr (tNot (tB (tCB (rIsi K) (tCons (tVar 1) (tCons (tC (.ty "tuple")) tNil))))) (tOr (tTest (tOp (rNotInA K) (tCB (DL.rLen K) (tCons (tVar 1) tNil)) (tTup (tCons (tC (.int 2)) (tCons (tC (.int 3)) tNil))))) (tNot (tB (tCB (rIsi K) (tCons (tOp (rIx K) (tVar 1) (tC (.int 0))) (tCons (tC (.ty "str")) tNil))))))) (tRet (tC (.bl false))) tNext) (tSeq (tIfS (tTest (tOp (rEqA K) (tCB (DL.rLen K) (tCons (tVar 1) tNil)) (tC (.int 2)))) (tRet (tCall (spA 3 S_fits_two) [] E0 (tCons (tVar 0) (tCons (tOp (rIx K) (tVar 1) (tC (.int 0))) (tCons (tOp (rIx K) (tVar 1) (tC (.int 1))) tNil))))) tNext) (tRet (tCall (spA 4 S_fits_three) [] E0 (tCons (tVar 0) (tCons (tOp (rIx K) (tVar 1) (tC (.int 0))) (tCons (tOp (rIx K) (tVar 1) (tC (.int 1))) (tCons (tOp (rIx K) (tVar 1) (tC (.int 2))) tNil))))))))
theorem der_fits (T : Tx mg) {k : Nat} {S_fits_three : ASp} {j_fits_three : Nat} (c_fits_three : Cl P w K mg base "fits_three" j_fits_three 4 S_fits_three) (h_fits_three : j_fits_three ≤ k) {S_fits_two : ASp} {j_fits_two : Nat} (c_fits_two : Cl P w K mg base "fits_two" j_fits_two 3 S_fits_two) (h_fits_two : j_fits_two ≤ k) {f : Addr} {cdv : Value} {A : Around} {outer : List Env} {s : Shared} {H : Hp} {E : XK}
    (hr : Room k (A.deeper (PyProof.Rows.envOfC "fits" (defScope s_fits) s.heap.objs.size f cdv))) : PSs (cxOf CX0 P w K mg base n_fits "fits" (defScope s_fits) f cdv A outer s H E).nox (defBody s_fits) (t_fits K S_fits_three S_fits_two) := by
  have nd := sc_fits.nd
  exact (pss_cons (ps_if (PW.pt (pw_or (pt_not (pt_val (pe_callB call_isi (by rfl) T.b_isinstance boo_isinstance (pa_cons (pv 1) (pa_cons (pe_bltn (v := .ty "tuple") (by rfl) T.b_tuple boo_tuple rfl) pa_nil))))) (pw_or (pt_cmpR (op_notInA (u65 hr)) (pe_callB DL.call_lenA (by rfl) T.b_len boo_len (pa_cons (pv 1) pa_nil)) (pe_tup (pa_cons pe_int (pa_cons pe_int pa_nil))) (by with_unfolding_all rfl)) (pw_or1 (pt_not (pt_val (pe_callB call_isi (by rfl) T.b_isinstance boo_isinstance (pa_cons (pe_ix ix_seq (pv 1) pe_int (fun _ _ => rfl)) (pa_cons (pe_bltn (v := .ty "str") (by rfl) T.b_str boo_str rfl) pa_nil))))))))) (pss_one (ps_ret pe_bl)) pss_nil) (pss_cons (ps_if (pt_cmpR (op_eqA hr.units) (pe_callB DL.call_lenA (by rfl) T.b_len boo_len (pa_cons (pv 1) pa_nil)) pe_int (nomark _)) (pss_one (ps_ret (pe_cl c_fits_two hr h_fits_two (by rfl) (pa_cons (pv 0) (pa_cons (pe_ix ix_seq (pv 1) pe_int (fun _ _ => rfl)) (pa_cons (pe_ix ix_seq (pv 1) pe_int (fun _ _ => rfl)) pa_nil)))))) pss_nil) (pss_one (ps_ret (pe_cl c_fits_three hr h_fits_three (by rfl) (pa_cons (pv 0) (pa_cons (pe_ix ix_seq (pv 1) pe_int (fun _ _ => rfl)) (pa_cons (pe_ix ix_seq (pv 1) pe_int (fun _ _ => rfl)) (pa_cons (pe_ix ix_seq (pv 1) pe_int (fun _ _ => rfl)) pa_nil)))))))))
/-! need_form: 0 sizes, 1 form -/
abbrev s_need_form : Stmt := top 25
abbrev n_need_form : List Str := ["sizes", "form"]
theorem sc_need_form : FnScope n_need_form ["sizes", "form"] (defScope s_need_form) := C8.fnScope_by (by decide +kernel)
def t_need_form (K : PySem.W.Frag) (S_fits : ASp) : TS :=
  (tIfS (tNot (tB (tCall (spA 2 S_fits) [] E0 (tCons (tVar 0) (tCons (tVar 1) tNil))))) tNever tNext)
theorem der_need_form (T : Tx mg) {k : Nat} {S_fits : ASp} {j_fits : Nat} (c_fits : Cl P w K mg base "fits" j_fits 2 S_fits) (h_fits : j_fits ≤ k) {f : Addr} {cdv : Value} {A : Around} {outer : List Env} {s : Shared} {H : Hp} {E : XK}
    (hr : Room k (A.deeper (PyProof.Rows.envOfC "need_form" (defScope s_need_form) s.heap.objs.size f cdv))) : PSs (cxOf CX0 P w K mg base n_need_form "need_form" (defScope s_need_form) f cdv A outer s H E).nox (defBody s_need_form) (t_need_form K S_fits) := by
  have nd := sc_need_form.nd
  exact (pss_one (ps_if (pt_not (pt_val (pe_cl c_fits hr h_fits (by rfl) (pa_cons (pv 0) (pa_cons (pv 1) pa_nil))))) (pss_one ps_never) pss_nil))
/-! word_of: 0 result -/
abbrev s_word_of : Stmt := top 27
abbrev n_word_of : List Str := ["result"]
theorem sc_word_of : FnScope n_word_of ["result"] (defScope s_word_of) := C8.fnScope_by (by decide +kernel)
def t_word_of (K : PySem.W.Frag) : TS :=
  (tRet (tIf (tB (tVar 0)) (tC (.str ("yes" : Str))) (tC (.str ("no" : Str)))))
theorem der_word_of (T : Tx mg) {k : Nat} {f : Addr} {cdv : Value} {A : Around} {outer : List Env} {s : Shared} {H : Hp} {E : XK}
    (hr : Room k (A.deeper (PyProof.Rows.envOfC "word_of" (defScope s_word_of) s.heap.objs.size f cdv))) : PSs (cxOf CX0 P w K mg base n_word_of "word_of" (defScope s_word_of) f cdv A outer s H E).nox (defBody s_word_of) (t_word_of K) := by
  have nd := sc_word_of.nd
  exact (pss_one (ps_ret (pe_ifExp (pt_val (pv 0)) pe_str pe_str)))
/-! with_commas: 0 values, 1 value -/
abbrev s_with_commas : Stmt := top 28
abbrev n_with_commas : List Str := ["values", "value"]
theorem sc_with_commas : FnScope n_with_commas ["values"] (defScope s_with_commas) := C8.fnScope_by (by decide +kernel)
def t_with_commas (K : PySem.W.Frag) : TS :=
  (tRet (tIf (tTest (tOp (rNeA K) (tVar 0) (tTup tNil))) (tM1 (rJoin K) (tC (.str ("," : Str))) (tLc (iTup K (tVar 0)) (gName 1) tYes (tCB rStrI (tCons (tVar 1) tNil)) [1])) (tC (.str ("-" : Str)))))
theorem der_with_commas (T : Tx mg) {k : Nat} {f : Addr} {cdv : Value} {A : Around} {outer : List Env} {s : Shared} {H : Hp} {E : XK}
    (hr : Room k (A.deeper (PyProof.Rows.envOfC "with_commas" (defScope s_with_commas) s.heap.objs.size f cdv))) : PSs (cxOf CX0 P w K mg base n_with_commas "with_commas" (defScope s_with_commas) f cdv A outer s H E).nox (defBody s_with_commas) (t_with_commas K) := by
  have nd := sc_with_commas.nd
  exact (pss_one (ps_ret (pe_ifExp (pt_cmpR (op_neA hr.units) (pv 0) (pe_tup pa_nil) (nomark _)) (pe_m1 PySem.F.slot_str_join PySem.F.type_str_join mt_joinA pe_str (pe_lc (own := [("value", 1)]) rfl nd (pi_tup (pv 0)) (blkOk_by (by kernel_rfl)) (fun _ _ _ _ _ => (pg_name (i := 1) nd rfl (by first | exact Or.inl rfl | exact Or.inr rfl))) (fun _ _ _ _ _ => pts_nil) (fun _ _ _ _ _ => (pe_callTy call_strA (by rfl) T.b_str boo_str (pa_cons (pv 1) pa_nil))))) pe_str)))
/-! letters_of: 0 results, 1 result -/
abbrev s_letters_of : Stmt := top 29
abbrev n_letters_of : List Str := ["results", "result"]
theorem sc_letters_of : FnScope n_letters_of ["results"] (defScope s_letters_of) := C8.fnScope_by (by decide +kernel)
def t_letters_of (K : PySem.W.Frag) : TS :=
  (tRet (tM1 (rJoin K) (tC (.str ("" : Str))) (tLc (iTup K (tVar 0)) (gName 1) tYes (tIf (tB (tVar 1)) (tC (.str ("y" : Str))) (tC (.str ("n" : Str)))) [1])))
theorem der_letters_of (T : Tx mg) {k : Nat} {f : Addr} {cdv : Value} {A : Around} {outer : List Env} {s : Shared} {H : Hp} {E : XK}
    (hr : Room k (A.deeper (PyProof.Rows.envOfC "letters_of" (defScope s_letters_of) s.heap.objs.size f cdv))) : PSs (cxOf CX0 P w K mg base n_letters_of "letters_of" (defScope s_letters_of) f cdv A outer s H E).nox (defBody s_letters_of) (t_letters_of K) := by
  have nd := sc_letters_of.nd
  exact (pss_one (ps_ret (pe_m1 PySem.F.slot_str_join PySem.F.type_str_join mt_joinA pe_str (pe_lc (own := [("result", 1)]) rfl nd (pi_tup (pv 0)) (blkOk_by (by kernel_rfl)) (fun _ _ _ _ _ => (pg_name (i := 1) nd rfl (by first | exact Or.inl rfl | exact Or.inr rfl))) (fun _ _ _ _ _ => pts_nil) (fun _ _ _ _ _ => (pe_ifExp (pt_val (pv 1)) pe_str pe_str))))))
/-! words_of_rule: 0 rule, 1 inner, 2 conditions, 3 result, 4 field, 5 values -/
abbrev s_words_of_rule : Stmt := top 30
abbrev n_words_of_rule : List Str := ["rule", "inner", "conditions", "result", "field", "values"]
theorem sc_words_of_rule : FnScope n_words_of_rule ["rule"] (defScope s_words_of_rule) := C8.fnScope_by (by decide +kernel)
def t_words_of_rule (K : PySem.W.Frag) (S_word_of : ASp) (S_with_commas : ASp) : TS :=
  (tSeq (tAsg (tVar 0) (gTup K 2 (gCons (gName 2) (gCons (gName 3) gNil)))) (tSeq (tAsg (tLc (iTup K (tVar 2)) (gTup K 2 (gCons (gName 4) (gCons (gName 5) gNil))) tYes (tOp (rAddA K) (tOp (rAddA K) (tCB rStrI (tCons (tVar 4) tNil)) (tC (.str ("=" : Str)))) (tCall (spA 1 S_with_commas) [] E0 (tCons (tVar 5) tNil))) [4, 5]) (gName 1)) (tRet (tOp (rAddA K) (tOp (rAddA K) (tLst (tCons (tC (.str ("(" : Str))) tNil)) (tVar 1)) (tLst (tCons (tC (.str (")" : Str))) (tCons (tCall (spA 1 S_word_of) [] E0 (tCons (tVar 3) tNil)) tNil)))))))
theorem der_words_of_rule (T : Tx mg) {k : Nat} {S_word_of : ASp} {j_word_of : Nat} (c_word_of : Cl P w K mg base "word_of" j_word_of 1 S_word_of) (h_word_of : j_word_of ≤ k) {S_with_commas : ASp} {j_with_commas : Nat} (c_with_commas : Cl P w K mg base "with_commas" j_with_commas 1 S_with_commas) (h_with_commas : j_with_commas ≤ k) {f : Addr} {cdv : Value} {A : Around} {outer : List Env} {s : Shared} {H : Hp} {E : XK}
    (hr : Room k (A.deeper (PyProof.Rows.envOfC "words_of_rule" (defScope s_words_of_rule) s.heap.objs.size f cdv))) : PSs (cxOf CX0 P w K mg base n_words_of_rule "words_of_rule" (defScope s_words_of_rule) f cdv A outer s H E).nox (defBody s_words_of_rule) (t_words_of_rule K S_word_of S_with_commas) := by
  have nd := sc_words_of_rule.nd
  exact (pss_cons (ps_asg (pv 0) (pg_tup rfl (pgs_cons (pg_name (i := 2) nd rfl (by first | exact Or.inl rfl | exact Or.inr rfl)) (pgs_cons (pg_name (i := 3) nd rfl (by first | exact Or.inl rfl | exact Or.inr rfl)) pgs_nil)))) (pss_cons (by first | exact ps_setLc (i := 1) (own := [("field", 4), ("values", 5)]) rfl nd rfl rfl (sw_true rfl rfl rfl (by kernel_rfl)) (pi_tup (pv 2)) (blkOk_by (by kernel_rfl)) (fun _ _ _ _ _ => (pg_tup rfl (pgs_cons (pg_name (i := 4) nd rfl (by first | exact Or.inl rfl | exact Or.inr rfl)) (pgs_cons (pg_name (i := 5) nd rfl (by first | exact Or.inl rfl | exact Or.inr rfl)) pgs_nil)))) (fun _ _ _ _ _ => pts_nil) (fun _ _ _ _ _ => (pe_op op_addA (pe_op op_addA (pe_callTy call_strA (by rfl) T.b_str boo_str (pa_cons (pv 4) pa_nil)) pe_str) (pe_cl c_with_commas hr h_with_commas (by rfl) (pa_cons (pv 5) pa_nil)))) | exact ps_set (i := 1) nd rfl (by first | exact Or.inl rfl | exact Or.inr rfl) (pe_lc (own := [("field", 4), ("values", 5)]) rfl nd (pi_tup (pv 2)) (blkOk_by (by kernel_rfl)) (fun _ _ _ _ _ => (pg_tup rfl (pgs_cons (pg_name (i := 4) nd rfl (by first | exact Or.inl rfl | exact Or.inr rfl)) (pgs_cons (pg_name (i := 5) nd rfl (by first | exact Or.inl rfl | exact Or.inr rfl)) pgs_nil)))) (fun _ _ _ _ _ => pts_nil) (fun _ _ _ _ _ => (pe_op op_addA (pe_op op_addA (pe_callTy call_strA (by rfl) T.b_str boo_str (pa_cons (pv 4) pa_nil)) pe_str) (pe_cl c_with_commas hr h_with_commas (by rfl) (pa_cons (pv 5) pa_nil)))))) (pss_one (ps_ret (pe_op op_addA (pe_op op_addA (pe_lst (pa_cons pe_str pa_nil)) (pv 1)) (pe_lst (pa_cons pe_str (pa_cons (pe_cl c_word_of hr h_word_of (by rfl) (pa_cons (pv 3) pa_nil)) pa_nil))))))))
/-! words_of_all: 0 forms, 1 found, 2 form -/
abbrev s_words_of_all : Stmt := top 31
abbrev n_words_of_all : List Str := ["forms", "found", "form"]
theorem sc_words_of_all : FnScope n_words_of_all ["forms"] (defScope s_words_of_all) := C8.fnScope_by (by decide +kernel)
def t_words_of_all (K : PySem.W.Frag) (S_words_of : ASp) : TS :=
  (tSeq (tAsg (tLst (tCons (tC (.str ("(" : Str))) tNil)) (gName 1)) (tSeq (tFor (iTup K (tVar 0)) (gName 2) (tAug 1 (tCall (spA 1 S_words_of) [] E0 (tCons (tVar 2) tNil)) rIAddA)) (tRet (tOp (rAddA K) (tVar 1) (tLst (tCons (tC (.str (")" : Str))) tNil))))))
theorem der_words_of_all (T : Tx mg) {k : Nat} {S_words_of : ASp} {j_words_of : Nat} (c_words_of : Cl P w K mg base "words_of" j_words_of 1 S_words_of) (h_words_of : j_words_of ≤ k) {f : Addr} {cdv : Value} {A : Around} {outer : List Env} {s : Shared} {H : Hp} {E : XK}
    (hr : Room k (A.deeper (PyProof.Rows.envOfC "words_of_all" (defScope s_words_of_all) s.heap.objs.size f cdv))) : PSs (cxOf CX0 P w K mg base n_words_of_all "words_of_all" (defScope s_words_of_all) f cdv A outer s H E).nox (defBody s_words_of_all) (t_words_of_all K S_words_of) := by
  have nd := sc_words_of_all.nd
  exact (pss_cons (ps_set (i := 1) nd rfl (by first | exact Or.inl rfl | exact Or.inr rfl) (pe_lst (pa_cons pe_str pa_nil))) (pss_cons (ps_for PassesOwn.never rfl (pi_tup (pv 0)) (pg_name (i := 2) nd rfl (by first | exact Or.inl rfl | exact Or.inr rfl)) (pss_one (ps_aug (i := 1) nd rfl (by first | exact Or.inl rfl | exact Or.inr rfl) (pe_cl c_words_of hr h_words_of (by rfl) (pa_cons (pv 2) pa_nil)) (show PIp _ _ _ from iop_addA)))) (pss_one (ps_ret (pe_op op_addA (pv 1) (pe_lst (pa_cons pe_str pa_nil)))))))
/-! words_of: 0 form, 1 word, 2 inner, 3 rule, 4 part, 5 row -/
abbrev s_words_of : Stmt := top 32
abbrev n_words_of : List Str := ["form", "word", "inner", "rule", "part", "row"]
theorem sc_words_of : FnScope n_words_of ["form"] (defScope s_words_of) := C8.fnScope_by (by decide +kernel)
def t_words_of (K : PySem.W.Frag) (S_words_of : ASp) (S_words_of_all : ASp) (S_letters_of : ASp) (S_with_commas : ASp) (S_word_of : ASp) (S_words_of_rule : ASp) : TS :=
  (tSeq (tAsg (tOp (rIx K) (tVar 0) (tC (.int 0))) (gName 1)) (tSeq (tIfS (tTest (tOp (rEqA K) (tVar 1) (tC (.str ("say" : Str))))) (tRet (tLst (tCons (tCall (spA 1 S_word_of) [] E0 (tCons (tOp (rIx K) (tVar 0) (tC (.int 1))) tNil)) tNil))) tNext) (tSeq (tIfS (tTest (tOp (rEqA K) (tVar 1) (tC (.str ("is" : Str))))) (tRet (tLst (tCons (tC (.str ("is" : Str))) (tCons (tCB rStrI (tCons (tOp (rIx K) (tVar 0) (tC (.int 1))) tNil)) (tCons (tCall (spA 1 S_with_commas) [] E0 (tCons (tOp (rIx K) (tVar 0) (tC (.int 2))) tNil)) tNil))))) tNext) (tSeq (tIfS (tTest (tOp (rEqA K) (tVar 1) (tC (.str ("tree" : Str))))) (tRet (tOp (rAddA K) (tLst (tCons (tC (.str ("tree" : Str))) (tCons (tCB rStrI (tCons (tOp (rIx K) (tVar 0) (tC (.int 1))) tNil)) tNil))) (tCall (spA 1 S_words_of_all) [] E0 (tCons (tOp (rIx K) (tVar 0) (tC (.int 2))) tNil)))) tNext) (tSeq (tIfS (tTest (tOp (rEqA K) (tVar 1) (tC (.str ("rules" : Str))))) (tSeq (tAsg (tLc2 (iTup K (tOp (rIx K) (tVar 0) (tC (.int 1)))) (gName 3) tYes (iList K (tCall (spA 1 S_words_of_rule) [] E0 (tCons (tVar 3) tNil))) (gName 4) tYes (tVar 4) [3, 4] [4]) (gName 2)) (tRet (tOp (rAddA K) (tOp (rAddA K) (tLst (tCons (tC (.str ("rules" : Str))) (tCons (tC (.str ("(" : Str))) tNil))) (tVar 2)) (tLst (tCons (tC (.str (")" : Str))) (tCons (tCall (spA 1 S_word_of) [] E0 (tCons (tOp (rIx K) (tVar 0) (tC (.int 2))) tNil)) tNil)))))) tNext) (tSeq (tIfS (tTest (tOp (rEqA K) (tVar 1) (tC (.str ("card" : Str))))) (tRet (tOp (rAddA K) (tOp (rAddA K) (tLst (tCons (tC (.str ("card" : Str))) (tCons (tC (.str ("(" : Str))) tNil))) (tLc (iTup K (tOp (rIx K) (tVar 0) (tC (.int 1)))) (gName 5) tYes (tCall (spA 1 S_with_commas) [] E0 (tCons (tVar 5) tNil)) [5])) (tLst (tCons (tC (.str (")" : Str))) (tCons (tCB rStrI (tCons (tOp (rIx K) (tVar 0) (tC (.int 2))) tNil)) tNil))))) tNext) (tSeq (tIfS (tTest (tOp (rEqA K) (tVar 1) (tC (.str ("table" : Str))))) (tRet (tLst (tCons (tC (.str ("table" : Str))) (tCons (tCall (spA 1 S_letters_of) [] E0 (tCons (tOp (rIx K) (tVar 0) (tC (.int 1))) tNil)) tNil)))) tNext) (tRet (tIf (tTest (tOp (rEqA K) (tVar 1) (tC (.str ("not" : Str))))) (tOp (rAddA K) (tLst (tCons (tC (.str ("not" : Str))) tNil)) (tCall (spA 1 S_words_of) [] E0 (tCons (tOp (rIx K) (tVar 0) (tC (.int 1))) tNil))) (tOp (rAddA K) (tLst (tCons (tVar 1) tNil)) (tCall (spA 1 S_words_of_all) [] E0 (tCons (tOp (rIx K) (tVar 0) (tC (.int 1))) tNil))))))))))))
theorem der_words_of (T : Tx mg) {k : Nat} {S_words_of : ASp} {j_words_of : Nat} (c_words_of : Cl P w K mg base "words_of" j_words_of 1 S_words_of) (h_words_of : j_words_of ≤ k) {S_words_of_all : ASp} {j_words_of_all : Nat} (c_words_of_all : Cl P w K mg base "words_of_all" j_words_of_all 1 S_words_of_all) (h_words_of_all : j_words_of_all ≤ k) {S_letters_of : ASp} {j_letters_of : Nat} (c_letters_of : Cl P w K mg base "letters_of" j_letters_of 1 S_letters_of) (h_letters_of : j_letters_of ≤ k) {S_with_commas : ASp} {j_with_commas : Nat} (c_with_commas : Cl P w K mg base "with_commas" j_with_commas 1 S_with_commas) (h_with_commas : j_with_commas ≤ k) {S_word_of : ASp} {j_word_of : Nat} (c_word_of : Cl P w K mg base "word_of" j_word_of 1 S_word_of) (h_word_of : j_word_of ≤ k) {S_words_of_rule : ASp} {j_words_of_rule : Nat} (c_words_of_rule : Cl P w K mg base "words_of_rule" j_words_of_rule 1 S_words_of_rule) (h_words_of_rule : j_words_of_rule ≤ k) {f : Addr} {cdv : Value} {A : Around} {outer : List Env} {s : Shared} {H : Hp} {E : XK}
    (hr : Room k (A.deeper (PyProof.Rows.envOfC "words_of" (defScope s_words_of) s.heap.objs.size f cdv))) : PSs (cxOf CX0 P w K mg base n_words_of "words_of" (defScope s_words_of) f cdv A outer s H E).nox (defBody s_words_of) (t_words_of K S_words_of S_words_of_all S_letters_of S_with_commas S_word_of S_words_of_rule) := by
  have nd := sc_words_of.nd
  exact (pss_cons (ps_set (i := 1) nd rfl (by first | exact Or.inl rfl | exact Or.inr rfl) (pe_ix ix_seq (pv 0) pe_int (fun _ _ => rfl))) (pss_cons (ps_if (pt_cmpR (op_eqA hr.units) (pv 1) pe_str (nomark _)) (pss_one (ps_ret (pe_lst (pa_cons (pe_cl c_word_of hr h_word_of (by rfl) (pa_cons (pe_ix ix_seq (pv 0) pe_int (fun _ _ => rfl)) pa_nil)) pa_nil)))) pss_nil) (pss_cons (ps_if (pt_cmpR (op_eqA hr.units) (pv 1) pe_str (nomark _)) (pss_one (ps_ret (pe_lst (pa_cons pe_str (pa_cons (pe_callTy call_strA (by rfl) T.b_str boo_str (pa_cons (pe_ix ix_seq (pv 0) pe_int (fun _ _ => rfl)) pa_nil)) (pa_cons (pe_cl c_with_commas hr h_with_commas (by rfl) (pa_cons (pe_ix ix_seq (pv 0) pe_int (fun _ _ => rfl)) pa_nil)) pa_nil)))))) pss_nil) (pss_cons (ps_if (pt_cmpR (op_eqA hr.units) (pv 1) pe_str (nomark _)) (pss_one (ps_ret (pe_op op_addA (pe_lst (pa_cons pe_str (pa_cons (pe_callTy call_strA (by rfl) T.b_str boo_str (pa_cons (pe_ix ix_seq (pv 0) pe_int (fun _ _ => rfl)) pa_nil)) pa_nil))) (pe_cl c_words_of_all hr h_words_of_all (by rfl) (pa_cons (pe_ix ix_seq (pv 0) pe_int (fun _ _ => rfl)) pa_nil))))) pss_nil) (pss_cons (ps_if (pt_cmpR (op_eqA hr.units) (pv 1) pe_str (nomark _)) (pss_cons (by first | exact ps_setLc2 (i := 2) (own := [("rule", 3), ("part", 4)]) (vs1 := [4]) rfl nd rfl rfl (sw_true rfl rfl rfl (by kernel_rfl)) (pi_tup (pe_ix ix_seq (pv 0) pe_int (fun _ _ => rfl))) (blkOk_by (by kernel_rfl)) (by decide) (fun _ _ _ _ _ => (pg_name (i := 3) nd rfl (by first | exact Or.inl rfl | exact Or.inr rfl))) (fun _ _ _ _ _ => pts_nil) (fun _ _ _ _ _ => (pi_list (pe_cl c_words_of_rule hr h_words_of_rule (by rfl) (pa_cons (pv 3) pa_nil)))) (fun _ _ _ _ _ => (pg_name (i := 4) nd rfl (by first | exact Or.inl rfl | exact Or.inr rfl))) (fun _ _ _ _ _ => pts_nil) (fun _ _ _ _ _ => (pv 4)) | exact ps_set (i := 2) nd rfl (by first | exact Or.inl rfl | exact Or.inr rfl) (pe_lc2 (own := [("rule", 3), ("part", 4)]) (vs1 := [4]) rfl nd (pi_tup (pe_ix ix_seq (pv 0) pe_int (fun _ _ => rfl))) (blkOk_by (by kernel_rfl)) (by decide) (fun _ _ _ _ _ => (pg_name (i := 3) nd rfl (by first | exact Or.inl rfl | exact Or.inr rfl))) (fun _ _ _ _ _ => pts_nil) (fun _ _ _ _ _ => (pi_list (pe_cl c_words_of_rule hr h_words_of_rule (by rfl) (pa_cons (pv 3) pa_nil)))) (fun _ _ _ _ _ => (pg_name (i := 4) nd rfl (by first | exact Or.inl rfl | exact Or.inr rfl))) (fun _ _ _ _ _ => pts_nil) (fun _ _ _ _ _ => (pv 4)))) (pss_one (ps_ret (pe_op op_addA (pe_op op_addA (pe_lst (pa_cons pe_str (pa_cons pe_str pa_nil))) (pv 2)) (pe_lst (pa_cons pe_str (pa_cons (pe_cl c_word_of hr h_word_of (by rfl) (pa_cons (pe_ix ix_seq (pv 0) pe_int (fun _ _ => rfl)) pa_nil)) pa_nil))))))) pss_nil) (pss_cons (ps_if (pt_cmpR (op_eqA hr.units) (pv 1) pe_str (nomark _)) (pss_one (ps_ret (pe_op op_addA (pe_op op_addA (pe_lst (pa_cons pe_str (pa_cons pe_str pa_nil))) (pe_lc (own := [("row", 5)]) rfl nd (pi_tup (pe_ix ix_seq (pv 0) pe_int (fun _ _ => rfl))) (blkOk_by (by kernel_rfl)) (fun _ _ _ _ _ => (pg_name (i := 5) nd rfl (by first | exact Or.inl rfl | exact Or.inr rfl))) (fun _ _ _ _ _ => pts_nil) (fun _ _ _ _ _ => (pe_cl c_with_commas hr h_with_commas (by rfl) (pa_cons (pv 5) pa_nil))))) (pe_lst (pa_cons pe_str (pa_cons (pe_callTy call_strA (by rfl) T.b_str boo_str (pa_cons (pe_ix ix_seq (pv 0) pe_int (fun _ _ => rfl)) pa_nil)) pa_nil)))))) pss_nil) (pss_cons (ps_if (pt_cmpR (op_eqA hr.units) (pv 1) pe_str (nomark _)) (pss_one (ps_ret (pe_lst (pa_cons pe_str (pa_cons (pe_cl c_letters_of hr h_letters_of (by rfl) (pa_cons (pe_ix ix_seq (pv 0) pe_int (fun _ _ => rfl)) pa_nil)) pa_nil))))) pss_nil) (pss_one (ps_ret (pe_ifExp (pt_cmpR (op_eqA hr.units) (pv 1) pe_str (nomark _)) (pe_op op_addA (pe_lst (pa_cons pe_str pa_nil)) (pe_cl c_words_of hr h_words_of (by rfl) (pa_cons (pe_ix ix_seq (pv 0) pe_int (fun _ _ => rfl)) pa_nil))) (pe_op op_addA (pe_lst (pa_cons (pv 1) pa_nil)) (pe_cl c_words_of_all hr h_words_of_all (by rfl) (pa_cons (pe_ix ix_seq (pv 0) pe_int (fun _ _ => rfl)) pa_nil)))))))))))))
/-! write_form: 0 sizes, 1 form -/
abbrev s_write_form : Stmt := top 33
abbrev n_write_form : List Str := ["sizes", "form"]
theorem sc_write_form : FnScope n_write_form ["sizes", "form"] (defScope s_write_form) := C8.fnScope_by (by decide +kernel)
def t_write_form (K : PySem.W.Frag) (S_words_of : ASp) (S_need_form : ASp) (S_need_sizes : ASp) : TS :=
  (tSeq (tDrop (tCall (spA 1 S_need_sizes) [] E0 (tCons (tVar 0) tNil))) (tSeq (tDrop (tCall (spA 2 S_need_form) [] E0 (tCons (tVar 0) (tCons (tVar 1) tNil)))) (tRet (tM1 (rJoin K) (tC (.str (" " : Str))) (tCall (spA 1 S_words_of) [] E0 (tCons (tVar 1) tNil))))))
theorem der_write_form (T : Tx mg) {k : Nat} {S_words_of : ASp} {j_words_of : Nat} (c_words_of : Cl P w K mg base "words_of" j_words_of 1 S_words_of) (h_words_of : j_words_of ≤ k) {S_need_form : ASp} {j_need_form : Nat} (c_need_form : Cl P w K mg base "need_form" j_need_form 2 S_need_form) (h_need_form : j_need_form ≤ k) {S_need_sizes : ASp} {j_need_sizes : Nat} (c_need_sizes : Cl P w K mg base "need_sizes" j_need_sizes 1 S_need_sizes) (h_need_sizes : j_need_sizes ≤ k) {f : Addr} {cdv : Value} {A : Around} {outer : List Env} {s : Shared} {H : Hp} {E : XK}
    (hr : Room k (A.deeper (PyProof.Rows.envOfC "write_form" (defScope s_write_form) s.heap.objs.size f cdv))) : PSs (cxOf CX0 P w K mg base n_write_form "write_form" (defScope s_write_form) f cdv A outer s H E).nox (defBody s_write_form) (t_write_form K S_words_of S_need_form S_need_sizes) := by
  have nd := sc_write_form.nd
  exact (pss_cons (ps_expr (pe_cl c_need_sizes hr h_need_sizes (by rfl) (pa_cons (pv 0) pa_nil))) (pss_cons (ps_expr (pe_cl c_need_form hr h_need_form (by rfl) (pa_cons (pv 0) (pa_cons (pv 1) pa_nil)))) (pss_one (ps_ret (pe_m1 PySem.F.slot_str_join PySem.F.type_str_join mt_joinA pe_str (pe_cl c_words_of hr h_words_of (by rfl) (pa_cons (pv 1) pa_nil)))))))
/-! _law_bag: 0 cell, 1 rest -/
abbrev s__law_bag : Stmt := top 35
abbrev n__law_bag : List Str := ["cell", "rest"]
theorem sc__law_bag : FnScope n__law_bag ["cell"] (defScope s__law_bag) := C8.fnScope_by (by decide +kernel)
def t__law_bag (K : PySem.W.Frag) : TS :=
  (tSeq (tAsg (tC (.int 0)) (gName 1)) (tSeq (tIfS (tTest (tOp (rI0 fun i j => .bl (decide (j ≤ i))) (tVar 0) (tOp (rI CPow fun i j => .int (i ^ j.toNat)) (tC (.int 10)) (tC (.int 18))))) (tAsg (tOp (rI0 fun i j => .int (i - j)) (tVar 0) (tOp (rI CPow fun i j => .int (i ^ j.toNat)) (tC (.int 10)) (tC (.int 18)))) (gName 1)) tNext) (tRet (tLst (tCons (tVar 1) (tCons (tOp (rI (fun _ j => 0 < j) fun i j => .int (i % j)) (tCB rInt (tCons (tVar 0) tNil)) (tC (.int 1000000000000000003))) (tCons (tC (.int 0)) tNil)))))))
theorem der__law_bag (T : Tx mg) {k : Nat} {f : Addr} {cdv : Value} {A : Around} {outer : List Env} {s : Shared} {H : Hp} {E : XK}
    (hr : Room k (A.deeper (PyProof.Rows.envOfC "_law_bag" (defScope s__law_bag) s.heap.objs.size f cdv))) : PSs (cxOf CX0 P w K mg base n__law_bag "_law_bag" (defScope s__law_bag) f cdv A outer s H E).nox (defBody s__law_bag) (t__law_bag K) := by
  have nd := sc__law_bag.nd
  exact (pss_cons (ps_set (i := 1) nd rfl (by first | exact Or.inl rfl | exact Or.inr rfl) pe_int) (pss_cons (ps_if (pt_cmpR op_ge (pv 0) (pe_op op_pow pe_int pe_int) (nomark _)) (pss_one (ps_set (i := 1) nd rfl (by first | exact Or.inl rfl | exact Or.inr rfl) (pe_op op_sub (pv 0) (pe_op op_pow pe_int pe_int)))) pss_nil) (pss_one (ps_ret (pe_lst (pa_cons (pv 1) (pa_cons (pe_op op_mod (pe_callTy call_intA (by rfl) T.b_int boo_int (pa_cons (pv 0) pa_nil)) pe_int) (pa_cons pe_int pa_nil))))))))
/-! _law_draw: 0 bag, 1 many, 2 turn, 3 mixed, 4 digit -/
abbrev s__law_draw : Stmt := top 36
abbrev n__law_draw : List Str := ["bag", "many", "turn", "mixed", "digit"]
theorem sc__law_draw : FnScope n__law_draw ["bag", "many"] (defScope s__law_draw) := C8.fnScope_by (by decide +kernel)
def t__law_draw (K : PySem.W.Frag) : TS :=
  (tSeq (tIfS (tTest (tOp (rI0 fun i j => .bl (decide (j < i))) (tOp (rIx K) (tVar 0) (tC (.int 0))) (tC (.int 0)))) (tSeq (tAsg (tOp (rI (fun _ j => 0 < j) fun i j => .int (i % j)) (tCB rInt (tCons (tOp (rIx K) (tVar 0) (tC (.int 0))) tNil)) (tVar 1)) (gName 4)) (tSeq (tAsg (tOp rFdA (tOp (rIx K) (tVar 0) (tC (.int 0))) (tVar 1)) (gSub (tVar 0) (tC (.int 0)) rSetL)) (tRet (tVar 4)))) tNext) (tSeq (tAsg (tOp (rAddA K) (tOp (rIx K) (tVar 0) (tC (.int 2))) (tC (.int 1))) (gSub (tVar 0) (tC (.int 2)) rSetL)) (tSeq (tAsg (tOp (rIx K) (tVar 0) (tC (.int 2))) (gName 2)) (tSeq (tAsg (tOp (rAddA K) (tOp rMulA (tOp (rAddA K) (tOp (rIx K) (tVar 0) (tC (.int 1))) (tC (.int 7))) (tOp (rAddA K) (tOp (rAddA K) (tOp rMulA (tOp rMulA (tC (.int 31)) (tVar 2)) (tVar 2)) (tOp rMulA (tC (.int 104729)) (tVar 2))) (tC (.int 13)))) (tOp rMulA (tC (.int 17)) (tVar 2))) (gName 3)) (tSeq (tAsg (tOp rFdA (tOp (rI (fun _ j => 0 < j) fun i j => .int (i % j)) (tCB rInt (tCons (tOp (rAddA K) (tOp rMulA (tVar 3) (tVar 3)) (tOp rMulA (tC (.int 999983)) (tVar 3))) tNil)) (tC (.int 1000000000000000009))) (tC (.int 1009))) (gName 3)) (tRet (tOp (rI (fun _ j => 0 < j) fun i j => .int (i % j)) (tOp rFdA (tOp (rI (fun _ j => 0 < j) fun i j => .int (i % j)) (tCB rInt (tCons (tOp (rAddA K) (tOp (rAddA K) (tOp rMulA (tVar 3) (tVar 3)) (tOp rMulA (tC (.int 65537)) (tVar 3))) (tVar 2)) tNil)) (tC (.int 2147483629))) (tC (.int 16))) (tVar 1))))))))
theorem der__law_draw (T : Tx mg) {k : Nat} {f : Addr} {cdv : Value} {A : Around} {outer : List Env} {s : Shared} {H : Hp} {E : XK}
    (hr : Room k (A.deeper (PyProof.Rows.envOfC "_law_draw" (defScope s__law_draw) s.heap.objs.size f cdv))) : PSs (cxOf CX0 P w K mg base n__law_draw "_law_draw" (defScope s__law_draw) f cdv A outer s H E).nox (defBody s__law_draw) (t__law_draw K) := by
  have nd := sc__law_draw.nd
  exact (pss_cons (ps_if (pt_cmpR op_gt (pe_ix ix_seq (pv 0) pe_int (fun _ _ => rfl)) pe_int (nomark _)) (pss_cons (ps_set (i := 4) nd rfl (by first | exact Or.inl rfl | exact Or.inr rfl) (pe_op op_mod (pe_callTy call_intA (by rfl) T.b_int boo_int (pa_cons (pe_ix ix_seq (pv 0) pe_int (fun _ _ => rfl)) pa_nil)) (pv 1))) (pss_cons (ps_asg (pe_op op_fdA (pe_ix ix_seq (pv 0) pe_int (fun _ _ => rfl)) (pv 1)) (pg_sub (pv 0) pe_int set_list)) (pss_one (ps_ret (pv 4))))) pss_nil) (pss_cons (ps_asg (pe_op op_addA (pe_ix ix_seq (pv 0) pe_int (fun _ _ => rfl)) pe_int) (pg_sub (pv 0) pe_int set_list)) (pss_cons (ps_set (i := 2) nd rfl (by first | exact Or.inl rfl | exact Or.inr rfl) (pe_ix ix_seq (pv 0) pe_int (fun _ _ => rfl))) (pss_cons (ps_set (i := 3) nd rfl (by first | exact Or.inl rfl | exact Or.inr rfl) (pe_op op_addA (pe_op op_mulA (pe_op op_addA (pe_ix ix_seq (pv 0) pe_int (fun _ _ => rfl)) pe_int) (pe_op op_addA (pe_op op_addA (pe_op op_mulA (pe_op op_mulA pe_int (pv 2)) (pv 2)) (pe_op op_mulA pe_int (pv 2))) pe_int)) (pe_op op_mulA pe_int (pv 2)))) (pss_cons (ps_set (i := 3) nd rfl (by first | exact Or.inl rfl | exact Or.inr rfl) (pe_op op_fdA (pe_op op_mod (pe_callTy call_intA (by rfl) T.b_int boo_int (pa_cons (pe_op op_addA (pe_op op_mulA (pv 3) (pv 3)) (pe_op op_mulA pe_int (pv 3))) pa_nil)) pe_int) pe_int)) (pss_one (ps_ret (pe_op op_mod (pe_op op_fdA (pe_op op_mod (pe_callTy call_intA (by rfl) T.b_int boo_int (pa_cons (pe_op op_addA (pe_op op_addA (pe_op op_mulA (pv 3) (pv 3)) (pe_op op_mulA pe_int (pv 3))) (pv 2)) pa_nil)) pe_int) pe_int) (pv 1)))))))))
/-! _law_small_sheet: 0 bag, 1 most, 2 cases, 3 sheet, 4 many, 5 k, 6 size -/
abbrev s__law_small_sheet : Stmt := top 37
abbrev n__law_small_sheet : List Str := ["bag", "most", "cases", "sheet", "many", "k", "size"]
theorem sc__law_small_sheet : FnScope n__law_small_sheet ["bag", "most", "cases"] (defScope s__law_small_sheet) := C8.fnScope_by (by decide +kernel)
def t__law_small_sheet (K : PySem.W.Frag) (S__law_draw : ASp) : TS :=
  (tSeq (tAsg (tLst tNil) (gName 3)) (tSeq (tAsg (tC (.int 1)) (gName 4)) (tSeq (tFor (iRng1 (tCons (tCall (spA 2 S__law_draw) [] E0 (tCons (tVar 0) (tCons (tOp (rAddA K) (tVar 1) (tC (.int 1))) tNil))) tNil)) (gName 5) (tSeq (tAsg (tOp (rAddA K) (tC (.int 2)) (tCall (spA 2 S__law_draw) [] E0 (tCons (tVar 0) (tCons (tC (.int 5)) tNil)))) (gName 6)) (tSeq (tIfS (tTest (tOp (rI0 fun i j => .bl (decide (j < i))) (tOp rMulA (tVar 4) (tVar 6)) (tVar 2))) (tAsg (tC (.int 2)) (gName 6)) tNext) (tIfS (tTest (tOp (rI0 fun i j => .bl (decide (i ≤ j))) (tOp rMulA (tVar 4) (tVar 6)) (tVar 2))) (tSeq (tDrop (tBM K "list" rAppend (tVar 3) (tCons (tVar 6) tNil))) (tAsg (tOp rMulA (tVar 4) (tVar 6)) (gName 4))) tNext)))) (tRet (tVar 3)))))
theorem der__law_small_sheet (T : Tx mg) {k : Nat} {S__law_draw : ASp} {j__law_draw : Nat} (c__law_draw : Cl P w K mg base "_law_draw" j__law_draw 2 S__law_draw) (h__law_draw : j__law_draw ≤ k) {f : Addr} {cdv : Value} {A : Around} {outer : List Env} {s : Shared} {H : Hp} {E : XK}
    (hr : Room k (A.deeper (PyProof.Rows.envOfC "_law_small_sheet" (defScope s__law_small_sheet) s.heap.objs.size f cdv))) : PSs (cxOf CX0 P w K mg base n__law_small_sheet "_law_small_sheet" (defScope s__law_small_sheet) f cdv A outer s H E).nox (defBody s__law_small_sheet) (t__law_small_sheet K S__law_draw) := by
  have nd := sc__law_small_sheet.nd
  exact (pss_cons (ps_set (i := 3) nd rfl (by first | exact Or.inl rfl | exact Or.inr rfl) (pe_lst pa_nil)) (pss_cons (ps_set (i := 4) nd rfl (by first | exact Or.inl rfl | exact Or.inr rfl) pe_int) (pss_cons (ps_for PassesOwn.never rfl (pi_range1 (by rfl) T.b_range (pa_cons (pe_cl c__law_draw hr h__law_draw (by rfl) (pa_cons (pv 0) (pa_cons (pe_op op_addA (pv 1) pe_int) pa_nil))) pa_nil)) (pg_name (i := 5) nd rfl (by first | exact Or.inl rfl | exact Or.inr rfl)) (pss_cons (ps_set (i := 6) nd rfl (by first | exact Or.inl rfl | exact Or.inr rfl) (pe_op op_addA pe_int (pe_cl c__law_draw hr h__law_draw (by rfl) (pa_cons (pv 0) (pa_cons pe_int pa_nil))))) (pss_cons (ps_if (pt_cmpR op_gt (pe_op op_mulA (pv 4) (pv 6)) (pv 2) (nomark _)) (pss_one (ps_set (i := 6) nd rfl (by first | exact Or.inl rfl | exact Or.inr rfl) pe_int)) pss_nil) (pss_one (ps_if (pt_cmpR op_le (pe_op op_mulA (pv 4) (pv 6)) (pv 2) (nomark _)) (pss_cons (ps_expr (pe_bm PySem.F.plainAttrs_list PySem.F.slot_list_append PySem.F.type_list_append mt_append (pv 3) (pa_cons (pv 6) pa_nil))) (pss_one (ps_set (i := 4) nd rfl (by first | exact Or.inl rfl | exact Or.inr rfl) (pe_op op_mulA (pv 4) (pv 6))))) pss_nil))))) (pss_one (ps_ret (pv 3))))))
/-! _law_any_sheet: 0 bag, 1 k -/
abbrev s__law_any_sheet : Stmt := top 38
abbrev n__law_any_sheet : List Str := ["bag", "k"]
theorem sc__law_any_sheet : FnScope n__law_any_sheet ["bag"] (defScope s__law_any_sheet) := C8.fnScope_by (by decide +kernel)
def t__law_any_sheet (K : PySem.W.Frag) (S__law_draw : ASp) (S__law_small_sheet : ASp) : TS :=
  (tSeq (tIfS (tTest (tOp (rEqA K) (tCall (spA 2 S__law_draw) [] E0 (tCons (tVar 0) (tCons (tC (.int 3)) tNil))) (tC (.int 0)))) (tRet (tLc (iRng1 (tCons (tOp (rIx K) (tLst (tCons (tCall (spA 2 S__law_draw) [] E0 (tCons (tVar 0) (tCons (tC (.int 25)) tNil))) (tCons (tC (.int 24)) tNil))) (tCall (spA 2 S__law_draw) [] E0 (tCons (tVar 0) (tCons (tC (.int 2)) tNil)))) tNil)) (gName 1) tYes (tOp (rAddA K) (tC (.int 2)) (tCall (spA 2 S__law_draw) [] E0 (tCons (tVar 0) (tCons (tC (.int 5)) tNil)))) [1])) tNext) (tRet (tCall (spA 3 S__law_small_sheet) [] E0 (tCons (tVar 0) (tCons (tC (.int 10)) (tCons (tOp (rIx K) (tLst (tCons (tC (.int 60)) (tCons (tC (.int 1024)) tNil))) (tCall (spA 2 S__law_draw) [] E0 (tCons (tVar 0) (tCons (tC (.int 2)) tNil)))) tNil))))))
theorem der__law_any_sheet (T : Tx mg) {k : Nat} {S__law_draw : ASp} {j__law_draw : Nat} (c__law_draw : Cl P w K mg base "_law_draw" j__law_draw 2 S__law_draw) (h__law_draw : j__law_draw ≤ k) {S__law_small_sheet : ASp} {j__law_small_sheet : Nat} (c__law_small_sheet : Cl P w K mg base "_law_small_sheet" j__law_small_sheet 3 S__law_small_sheet) (h__law_small_sheet : j__law_small_sheet ≤ k) {f : Addr} {cdv : Value} {A : Around} {outer : List Env} {s : Shared} {H : Hp} {E : XK}
    (hr : Room k (A.deeper (PyProof.Rows.envOfC "_law_any_sheet" (defScope s__law_any_sheet) s.heap.objs.size f cdv))) : PSs (cxOf CX0 P w K mg base n__law_any_sheet "_law_any_sheet" (defScope s__law_any_sheet) f cdv A outer s H E).nox (defBody s__law_any_sheet) (t__law_any_sheet K S__law_draw S__law_small_sheet) := by
  have nd := sc__law_any_sheet.nd
  exact (pss_cons (ps_if (pt_cmpR (op_eqA hr.units) (pe_cl c__law_draw hr h__law_draw (by rfl) (pa_cons (pv 0) (pa_cons pe_int pa_nil))) pe_int (nomark _)) (pss_one (ps_ret (pe_lc (own := [("k", 1)]) rfl nd (pi_range1 (by rfl) T.b_range (pa_cons (pe_ix ix_seq (pe_lst (pa_cons (pe_cl c__law_draw hr h__law_draw (by rfl) (pa_cons (pv 0) (pa_cons pe_int pa_nil))) (pa_cons pe_int pa_nil))) (pe_cl c__law_draw hr h__law_draw (by rfl) (pa_cons (pv 0) (pa_cons pe_int pa_nil))) (fun _ _ => rfl)) pa_nil)) (blkOk_by (by kernel_rfl)) (fun _ _ _ _ _ => (pg_name (i := 1) nd rfl (by first | exact Or.inl rfl | exact Or.inr rfl))) (fun _ _ _ _ _ => pts_nil) (fun _ _ _ _ _ => (pe_op op_addA pe_int (pe_cl c__law_draw hr h__law_draw (by rfl) (pa_cons (pv 0) (pa_cons pe_int pa_nil)))))))) pss_nil) (pss_one (ps_ret (pe_cl c__law_small_sheet hr h__law_small_sheet (by rfl) (pa_cons (pv 0) (pa_cons pe_int (pa_cons (pe_ix ix_seq (pe_lst (pa_cons pe_int (pa_cons pe_int pa_nil))) (pe_cl c__law_draw hr h__law_draw (by rfl) (pa_cons (pv 0) (pa_cons pe_int pa_nil))) (fun _ _ => rfl)) pa_nil)))))))
/-! _law_cases: 0 sheet, 1 many, 2 size -/
abbrev s__law_cases : Stmt := top 39
abbrev n__law_cases : List Str := ["sheet", "many", "size"]
theorem sc__law_cases : FnScope n__law_cases ["sheet"] (defScope s__law_cases) := C8.fnScope_by (by decide +kernel)
def t__law_cases (K : PySem.W.Frag) : TS :=
  (tSeq (tAsg (tC (.int 1)) (gName 1)) (tSeq (tFor (iList K (tVar 0)) (gName 2) (tAsg (tOp rMulA (tVar 1) (tVar 2)) (gName 1))) (tRet (tVar 1))))
theorem der__law_cases (T : Tx mg) {k : Nat} {f : Addr} {cdv : Value} {A : Around} {outer : List Env} {s : Shared} {H : Hp} {E : XK}
    (hr : Room k (A.deeper (PyProof.Rows.envOfC "_law_cases" (defScope s__law_cases) s.heap.objs.size f cdv))) : PSs (cxOf CX0 P w K mg base n__law_cases "_law_cases" (defScope s__law_cases) f cdv A outer s H E).nox (defBody s__law_cases) (t__law_cases K) := by
  have nd := sc__law_cases.nd
  exact (pss_cons (ps_set (i := 1) nd rfl (by first | exact Or.inl rfl | exact Or.inr rfl) pe_int) (pss_cons (ps_for PassesOwn.never rfl (pi_list (pv 0)) (pg_name (i := 2) nd rfl (by first | exact Or.inl rfl | exact Or.inr rfl)) (pss_one (ps_set (i := 1) nd rfl (by first | exact Or.inl rfl | exact Or.inr rfl) (pe_op op_mulA (pv 1) (pv 2))))) (pss_one (ps_ret (pv 1)))))
/-! _law_commas: 0 values, 1 value -/
abbrev s__law_commas : Stmt := top 40
abbrev n__law_commas : List Str := ["values", "value"]
theorem sc__law_commas : FnScope n__law_commas ["values"] (defScope s__law_commas) := C8.fnScope_by (by decide +kernel)
def t__law_commas (K : PySem.W.Frag) : TS :=
  (tSeq (tIfS (tTest (tOp (rEqA K) (tCB (DL.rLen K) (tCons (tVar 0) tNil)) (tC (.int 0)))) (tRet (tC (.str ("-" : Str)))) tNext) (tRet (tM1 (rJoin K) (tC (.str ("," : Str))) (tLc (iTup K (tVar 0)) (gName 1) tYes (tCB rStrI (tCons (tVar 1) tNil)) [1]))))
theorem der__law_commas (T : Tx mg) {k : Nat} {f : Addr} {cdv : Value} {A : Around} {outer : List Env} {s : Shared} {H : Hp} {E : XK}
    (hr : Room k (A.deeper (PyProof.Rows.envOfC "_law_commas" (defScope s__law_commas) s.heap.objs.size f cdv))) : PSs (cxOf CX0 P w K mg base n__law_commas "_law_commas" (defScope s__law_commas) f cdv A outer s H E).nox (defBody s__law_commas) (t__law_commas K) := by
  have nd := sc__law_commas.nd
  exact (pss_cons (ps_if (pt_cmpR (op_eqA hr.units) (pe_callB DL.call_lenA (by rfl) T.b_len boo_len (pa_cons (pv 0) pa_nil)) pe_int (nomark _)) (pss_one (ps_ret pe_str)) pss_nil) (pss_one (ps_ret (pe_m1 PySem.F.slot_str_join PySem.F.type_str_join mt_joinA pe_str (pe_lc (own := [("value", 1)]) rfl nd (pi_tup (pv 0)) (blkOk_by (by kernel_rfl)) (fun _ _ _ _ _ => (pg_name (i := 1) nd rfl (by first | exact Or.inl rfl | exact Or.inr rfl))) (fun _ _ _ _ _ => pts_nil) (fun _ _ _ _ _ => (pe_callTy call_strA (by rfl) T.b_str boo_str (pa_cons (pv 1) pa_nil))))))))
/-! _law_words_of_rules: 0 rules, 1 words, 2 conditions, 3 result, 4 field, 5 values -/
abbrev s__law_words_of_rules : Stmt := top 41
abbrev n__law_words_of_rules : List Str := ["rules", "words", "conditions", "result", "field", "values"]
theorem sc__law_words_of_rules : FnScope n__law_words_of_rules ["rules"] (defScope s__law_words_of_rules) := C8.fnScope_by (by decide +kernel)
def t__law_words_of_rules (K : PySem.W.Frag) (S__law_commas : ASp) : TS :=
  (tSeq (tAsg (tLst (tCons (tC (.str ("(" : Str))) tNil)) (gName 1)) (tSeq (tFor (iTup K (tVar 0)) (gTup K 2 (gCons (gName 2) (gCons (gName 3) gNil))) (tSeq (tDrop (tBM K "list" rAppend (tVar 1) (tCons (tC (.str ("(" : Str))) tNil))) (tSeq (tFor (iTup K (tVar 2)) (gTup K 2 (gCons (gName 4) (gCons (gName 5) gNil))) (tDrop (tBM K "list" rAppend (tVar 1) (tCons (tOp (rAddA K) (tOp (rAddA K) (tCB rStrI (tCons (tVar 4) tNil)) (tC (.str ("=" : Str)))) (tCall (spA 1 S__law_commas) [] E0 (tCons (tVar 5) tNil))) tNil)))) (tAsg (tOp (rAddA K) (tVar 1) (tLst (tCons (tC (.str (")" : Str))) (tCons (tOp (rIx K) (tLst (tCons (tC (.str ("no" : Str))) (tCons (tC (.str ("yes" : Str))) tNil))) (tCB rInt (tCons (tVar 3) tNil))) tNil)))) (gName 1))))) (tRet (tOp (rAddA K) (tVar 1) (tLst (tCons (tC (.str (")" : Str))) tNil))))))
theorem der__law_words_of_rules (T : Tx mg) {k : Nat} {S__law_commas : ASp} {j__law_commas : Nat} (c__law_commas : Cl P w K mg base "_law_commas" j__law_commas 1 S__law_commas) (h__law_commas : j__law_commas ≤ k) {f : Addr} {cdv : Value} {A : Around} {outer : List Env} {s : Shared} {H : Hp} {E : XK}
    (hr : Room k (A.deeper (PyProof.Rows.envOfC "_law_words_of_rules" (defScope s__law_words_of_rules) s.heap.objs.size f cdv))) : PSs (cxOf CX0 P w K mg base n__law_words_of_rules "_law_words_of_rules" (defScope s__law_words_of_rules) f cdv A outer s H E).nox (defBody s__law_words_of_rules) (t__law_words_of_rules K S__law_commas) := by
  have nd := sc__law_words_of_rules.nd
  exact (pss_cons (ps_set (i := 1) nd rfl (by first | exact Or.inl rfl | exact Or.inr rfl) (pe_lst (pa_cons pe_str pa_nil))) (pss_cons (ps_for PassesOwn.never rfl (pi_tup (pv 0)) (pg_tup rfl (pgs_cons (pg_name (i := 2) nd rfl (by first | exact Or.inl rfl | exact Or.inr rfl)) (pgs_cons (pg_name (i := 3) nd rfl (by first | exact Or.inl rfl | exact Or.inr rfl)) pgs_nil))) (pss_cons (ps_expr (pe_bm PySem.F.plainAttrs_list PySem.F.slot_list_append PySem.F.type_list_append mt_append (pv 1) (pa_cons pe_str pa_nil))) (pss_cons (ps_for PassesOwn.never rfl (pi_tup (pv 2)) (pg_tup rfl (pgs_cons (pg_name (i := 4) nd rfl (by first | exact Or.inl rfl | exact Or.inr rfl)) (pgs_cons (pg_name (i := 5) nd rfl (by first | exact Or.inl rfl | exact Or.inr rfl)) pgs_nil))) (pss_one (ps_expr (pe_bm PySem.F.plainAttrs_list PySem.F.slot_list_append PySem.F.type_list_append mt_append (pv 1) (pa_cons (pe_op op_addA (pe_op op_addA (pe_callTy call_strA (by rfl) T.b_str boo_str (pa_cons (pv 4) pa_nil)) pe_str) (pe_cl c__law_commas hr h__law_commas (by rfl) (pa_cons (pv 5) pa_nil))) pa_nil))))) (pss_one (ps_set (i := 1) nd rfl (by first | exact Or.inl rfl | exact Or.inr rfl) (pe_op op_addA (pv 1) (pe_lst (pa_cons pe_str (pa_cons (pe_ix ix_seq (pe_lst (pa_cons pe_str (pa_cons pe_str pa_nil))) (pe_callTy call_intA (by rfl) T.b_int boo_int (pa_cons (pv 3) pa_nil)) (fun _ _ => rfl)) pa_nil))))))))) (pss_one (ps_ret (pe_op op_addA (pv 1) (pe_lst (pa_cons pe_str pa_nil)))))))
/-! _law_words: 0 form, 1 word, 2 words, 3 part, 4 result -/
abbrev s__law_words : Stmt := top 42
abbrev n__law_words : List Str := ["form", "word", "words", "part", "result"]
theorem sc__law_words : FnScope n__law_words ["form"] (defScope s__law_words) := C8.fnScope_by (by decide +kernel)
def t__law_words (K : PySem.W.Frag) (S__law_words : ASp) (S__law_commas : ASp) (S__law_words_of_rules : ASp) : TS :=
  (tSeq (tAsg (tOp (rIx K) (tVar 0) (tC (.int 0))) (gName 1)) (tSeq (tIfS (tTest (tOp (rEqA K) (tVar 1) (tC (.str ("say" : Str))))) (tRet (tLst (tCons (tOp (rIx K) (tLst (tCons (tC (.str ("no" : Str))) (tCons (tC (.str ("yes" : Str))) tNil))) (tCB rInt (tCons (tOp (rIx K) (tVar 0) (tC (.int 1))) tNil))) tNil))) tNext) (tSeq (tIfS (tTest (tOp (rEqA K) (tVar 1) (tC (.str ("is" : Str))))) (tRet (tLst (tCons (tC (.str ("is" : Str))) (tCons (tCB rStrI (tCons (tOp (rIx K) (tVar 0) (tC (.int 1))) tNil)) (tCons (tCall (spA 1 S__law_commas) [] E0 (tCons (tOp (rIx K) (tVar 0) (tC (.int 2))) tNil)) tNil))))) tNext) (tSeq (tIfS (tTest (tOp (rEqA K) (tVar 1) (tC (.str ("rules" : Str))))) (tRet (tOp (rAddA K) (tOp (rAddA K) (tLst (tCons (tC (.str ("rules" : Str))) tNil)) (tCall (spA 1 S__law_words_of_rules) [] E0 (tCons (tOp (rIx K) (tVar 0) (tC (.int 1))) tNil))) (tLst (tCons (tOp (rIx K) (tLst (tCons (tC (.str ("no" : Str))) (tCons (tC (.str ("yes" : Str))) tNil))) (tCB rInt (tCons (tOp (rIx K) (tVar 0) (tC (.int 2))) tNil))) tNil)))) tNext) (tSeq (tIfS (tTest (tOp (rEqA K) (tVar 1) (tC (.str ("card" : Str))))) (tRet (tOp (rAddA K) (tOp (rAddA K) (tLst (tCons (tC (.str ("card" : Str))) (tCons (tC (.str ("(" : Str))) tNil))) (tLc (iTup K (tOp (rIx K) (tVar 0) (tC (.int 1)))) (gName 3) tYes (tCall (spA 1 S__law_commas) [] E0 (tCons (tVar 3) tNil)) [3])) (tLst (tCons (tC (.str (")" : Str))) (tCons (tCB rStrI (tCons (tOp (rIx K) (tVar 0) (tC (.int 2))) tNil)) tNil))))) tNext) (tSeq (tIfS (tTest (tOp (rEqA K) (tVar 1) (tC (.str ("table" : Str))))) (tRet (tLst (tCons (tC (.str ("table" : Str))) (tCons (tM1 (rJoin K) (tC (.str ("" : Str))) (tLc (iTup K (tOp (rIx K) (tVar 0) (tC (.int 1)))) (gName 4) tYes (tOp (rIx K) (tLst (tCons (tC (.str ("n" : Str))) (tCons (tC (.str ("y" : Str))) tNil))) (tCB rInt (tCons (tVar 4) tNil))) [4])) tNil)))) tNext) (tSeq (tIfS (tTest (tOp (rEqA K) (tVar 1) (tC (.str ("not" : Str))))) (tRet (tOp (rAddA K) (tLst (tCons (tC (.str ("not" : Str))) tNil)) (tCall (spA 1 S__law_words) [] E0 (tCons (tOp (rIx K) (tVar 0) (tC (.int 1))) tNil)))) tNext) (tSeq (tAsg (tLst (tCons (tVar 1) (tCons (tC (.str ("(" : Str))) tNil))) (gName 2)) (tSeq (tIfS (tTest (tOp (rEqA K) (tVar 1) (tC (.str ("tree" : Str))))) (tAsg (tLst (tCons (tC (.str ("tree" : Str))) (tCons (tCB rStrI (tCons (tOp (rIx K) (tVar 0) (tC (.int 1))) tNil)) (tCons (tC (.str ("(" : Str))) tNil)))) (gName 2)) tNext) (tSeq (tFor (iTup K (tOp (rIx K) (tVar 0) (tOp (rI0 fun i j => .int (i - j)) (tCB (DL.rLen K) (tCons (tVar 0) tNil)) (tC (.int 1))))) (gName 3) (tAsg (tOp (rAddA K) (tVar 2) (tCall (spA 1 S__law_words) [] E0 (tCons (tVar 3) tNil))) (gName 2))) (tRet (tOp (rAddA K) (tVar 2) (tLst (tCons (tC (.str (")" : Str))) tNil))))))))))))))
theorem der__law_words (T : Tx mg) {k : Nat} {S__law_words : ASp} {j__law_words : Nat} (c__law_words : Cl P w K mg base "_law_words" j__law_words 1 S__law_words) (h__law_words : j__law_words ≤ k) {S__law_commas : ASp} {j__law_commas : Nat} (c__law_commas : Cl P w K mg base "_law_commas" j__law_commas 1 S__law_commas) (h__law_commas : j__law_commas ≤ k) {S__law_words_of_rules : ASp} {j__law_words_of_rules : Nat} (c__law_words_of_rules : Cl P w K mg base "_law_words_of_rules" j__law_words_of_rules 1 S__law_words_of_rules) (h__law_words_of_rules : j__law_words_of_rules ≤ k) {f : Addr} {cdv : Value} {A : Around} {outer : List Env} {s : Shared} {H : Hp} {E : XK}
    (hr : Room k (A.deeper (PyProof.Rows.envOfC "_law_words" (defScope s__law_words) s.heap.objs.size f cdv))) : PSs (cxOf CX0 P w K mg base n__law_words "_law_words" (defScope s__law_words) f cdv A outer s H E).nox (defBody s__law_words) (t__law_words K S__law_words S__law_commas S__law_words_of_rules) := by
  have nd := sc__law_words.nd
  exact (pss_cons (ps_set (i := 1) nd rfl (by first | exact Or.inl rfl | exact Or.inr rfl) (pe_ix ix_seq (pv 0) pe_int (fun _ _ => rfl))) (pss_cons (ps_if (pt_cmpR (op_eqA hr.units) (pv 1) pe_str (nomark _)) (pss_one (ps_ret (pe_lst (pa_cons (pe_ix ix_seq (pe_lst (pa_cons pe_str (pa_cons pe_str pa_nil))) (pe_callTy call_intA (by rfl) T.b_int boo_int (pa_cons (pe_ix ix_seq (pv 0) pe_int (fun _ _ => rfl)) pa_nil)) (fun _ _ => rfl)) pa_nil)))) pss_nil) (pss_cons (ps_if (pt_cmpR (op_eqA hr.units) (pv 1) pe_str (nomark _)) (pss_one (ps_ret (pe_lst (pa_cons pe_str (pa_cons (pe_callTy call_strA (by rfl) T.b_str boo_str (pa_cons (pe_ix ix_seq (pv 0) pe_int (fun _ _ => rfl)) pa_nil)) (pa_cons (pe_cl c__law_commas hr h__law_commas (by rfl) (pa_cons (pe_ix ix_seq (pv 0) pe_int (fun _ _ => rfl)) pa_nil)) pa_nil)))))) pss_nil) (pss_cons (ps_if (pt_cmpR (op_eqA hr.units) (pv 1) pe_str (nomark _)) (pss_one (ps_ret (pe_op op_addA (pe_op op_addA (pe_lst (pa_cons pe_str pa_nil)) (pe_cl c__law_words_of_rules hr h__law_words_of_rules (by rfl) (pa_cons (pe_ix ix_seq (pv 0) pe_int (fun _ _ => rfl)) pa_nil))) (pe_lst (pa_cons (pe_ix ix_seq (pe_lst (pa_cons pe_str (pa_cons pe_str pa_nil))) (pe_callTy call_intA (by rfl) T.b_int boo_int (pa_cons (pe_ix ix_seq (pv 0) pe_int (fun _ _ => rfl)) pa_nil)) (fun _ _ => rfl)) pa_nil))))) pss_nil) (pss_cons (ps_if (pt_cmpR (op_eqA hr.units) (pv 1) pe_str (nomark _)) (pss_one (ps_ret (pe_op op_addA (pe_op op_addA (pe_lst (pa_cons pe_str (pa_cons pe_str pa_nil))) (pe_lc (own := [("part", 3)]) rfl nd (pi_tup (pe_ix ix_seq (pv 0) pe_int (fun _ _ => rfl))) (blkOk_by (by kernel_rfl)) (fun _ _ _ _ _ => (pg_name (i := 3) nd rfl (by first | exact Or.inl rfl | exact Or.inr rfl))) (fun _ _ _ _ _ => pts_nil) (fun _ _ _ _ _ => (pe_cl c__law_commas hr h__law_commas (by rfl) (pa_cons (pv 3) pa_nil))))) (pe_lst (pa_cons pe_str (pa_cons (pe_callTy call_strA (by rfl) T.b_str boo_str (pa_cons (pe_ix ix_seq (pv 0) pe_int (fun _ _ => rfl)) pa_nil)) pa_nil)))))) pss_nil) (pss_cons (ps_if (pt_cmpR (op_eqA hr.units) (pv 1) pe_str (nomark _)) (pss_one (ps_ret (pe_lst (pa_cons pe_str (pa_cons (pe_m1 PySem.F.slot_str_join PySem.F.type_str_join mt_joinA pe_str (pe_lc (own := [("result", 4)]) rfl nd (pi_tup (pe_ix ix_seq (pv 0) pe_int (fun _ _ => rfl))) (blkOk_by (by kernel_rfl)) (fun _ _ _ _ _ => (pg_name (i := 4) nd rfl (by first | exact Or.inl rfl | exact Or.inr rfl))) (fun _ _ _ _ _ => pts_nil) (fun _ _ _ _ _ => (pe_ix ix_seq (pe_lst (pa_cons pe_str (pa_cons pe_str pa_nil))) (pe_callTy call_intA (by rfl) T.b_int boo_int (pa_cons (pv 4) pa_nil)) (fun _ _ => rfl))))) pa_nil))))) pss_nil) (pss_cons (ps_if (pt_cmpR (op_eqA hr.units) (pv 1) pe_str (nomark _)) (pss_one (ps_ret (pe_op op_addA (pe_lst (pa_cons pe_str pa_nil)) (pe_cl c__law_words hr h__law_words (by rfl) (pa_cons (pe_ix ix_seq (pv 0) pe_int (fun _ _ => rfl)) pa_nil))))) pss_nil) (pss_cons (ps_set (i := 2) nd rfl (by first | exact Or.inl rfl | exact Or.inr rfl) (pe_lst (pa_cons (pv 1) (pa_cons pe_str pa_nil)))) (pss_cons (ps_if (pt_cmpR (op_eqA hr.units) (pv 1) pe_str (nomark _)) (pss_one (ps_set (i := 2) nd rfl (by first | exact Or.inl rfl | exact Or.inr rfl) (pe_lst (pa_cons pe_str (pa_cons (pe_callTy call_strA (by rfl) T.b_str boo_str (pa_cons (pe_ix ix_seq (pv 0) pe_int (fun _ _ => rfl)) pa_nil)) (pa_cons pe_str pa_nil)))))) pss_nil) (pss_cons (ps_for PassesOwn.never rfl (pi_tup (pe_ix ix_seq (pv 0) (pe_op op_sub (pe_callB DL.call_lenA (by rfl) T.b_len boo_len (pa_cons (pv 0) pa_nil)) pe_int) (fun _ _ => rfl))) (pg_name (i := 3) nd rfl (by first | exact Or.inl rfl | exact Or.inr rfl)) (pss_one (ps_set (i := 2) nd rfl (by first | exact Or.inl rfl | exact Or.inr rfl) (pe_op op_addA (pv 2) (pe_cl c__law_words hr h__law_words (by rfl) (pa_cons (pv 3) pa_nil)))))) (pss_one (ps_ret (pe_op op_addA (pv 2) (pe_lst (pa_cons pe_str pa_nil)))))))))))))))
/-! _law_values: 0 bag, 1 size, 2 value -/
abbrev s__law_values : Stmt := top 43
abbrev n__law_values : List Str := ["bag", "size", "value"]
theorem sc__law_values : FnScope n__law_values ["bag", "size"] (defScope s__law_values) := C8.fnScope_by (by decide +kernel)
def t__law_values (K : PySem.W.Frag) (S__law_draw : ASp) : TS :=
  (tRet (tCB (rTuple K) (tCons (tLc (iRng1 (tCons (tVar 1) tNil)) (gName 2) (tTest (tOp (rI0 fun i j => .bl (decide (j < i))) (tCall (spA 2 S__law_draw) [] E0 (tCons (tVar 0) (tCons (tC (.int 3)) tNil))) (tC (.int 0)))) (tVar 2) [2]) tNil)))
theorem der__law_values (T : Tx mg) {k : Nat} {S__law_draw : ASp} {j__law_draw : Nat} (c__law_draw : Cl P w K mg base "_law_draw" j__law_draw 2 S__law_draw) (h__law_draw : j__law_draw ≤ k) {f : Addr} {cdv : Value} {A : Around} {outer : List Env} {s : Shared} {H : Hp} {E : XK}
    (hr : Room k (A.deeper (PyProof.Rows.envOfC "_law_values" (defScope s__law_values) s.heap.objs.size f cdv))) : PSs (cxOf CX0 P w K mg base n__law_values "_law_values" (defScope s__law_values) f cdv A outer s H E).nox (defBody s__law_values) (t__law_values K S__law_draw) := by
  have nd := sc__law_values.nd
  exact (pss_one (ps_ret (pe_callTy call_tupleA (by rfl) T.b_tuple boo_tuple (pa_cons (pe_lc (own := [("value", 2)]) rfl nd (pi_range1 (by rfl) T.b_range (pa_cons (pv 1) pa_nil)) (blkOk_by (by kernel_rfl)) (fun _ _ _ _ _ => (pg_name (i := 2) nd rfl (by first | exact Or.inl rfl | exact Or.inr rfl))) (fun _ _ _ _ _ => (pts_one (pt_cmpR op_gt (pe_cl c__law_draw hr h__law_draw (by rfl) (pa_cons (pv 0) (pa_cons pe_int pa_nil))) pe_int (nomark _)))) (fun _ _ _ _ _ => (pv 2))) pa_nil))))
/-! _law_rule: 0 bag, 1 sheet, 2 conditions, 3 field, 4 k -/
abbrev s__law_rule : Stmt := top 44
abbrev n__law_rule : List Str := ["bag", "sheet", "conditions", "field", "k"]
theorem sc__law_rule : FnScope n__law_rule ["bag", "sheet"] (defScope s__law_rule) := C8.fnScope_by (by decide +kernel)
def t__law_rule (K : PySem.W.Frag) (S__law_draw : ASp) (S__law_values : ASp) : TS :=
  (tSeq (tAsg (tLst tNil) (gName 2)) (tSeq (tAsg (tCall (spA 2 S__law_draw) [] E0 (tCons (tVar 0) (tCons (tC (.int 4)) tNil))) (gName 3)) (tSeq (tFor (iRng1 (tCons (tCall (spA 2 S__law_draw) [] E0 (tCons (tVar 0) (tCons (tC (.int 7)) tNil))) tNil)) (gName 4) (tSeq (tIfS (tTest (tOp (rI0 fun i j => .bl (decide (i < j))) (tVar 3) (tCB (DL.rLen K) (tCons (tVar 1) tNil)))) (tDrop (tBM K "list" rAppend (tVar 2) (tCons (tTup (tCons (tVar 3) (tCons (tCall (spA 2 S__law_values) [] E0 (tCons (tVar 0) (tCons (tOp (rIx K) (tVar 1) (tVar 3)) tNil))) tNil))) tNil))) tNext) (tAsg (tOp (rAddA K) (tOp (rAddA K) (tVar 3) (tC (.int 1))) (tCall (spA 2 S__law_draw) [] E0 (tCons (tVar 0) (tCons (tC (.int 5)) tNil)))) (gName 3)))) (tRet (tTup (tCons (tCB (rTuple K) (tCons (tVar 2) tNil)) (tCons (tOp (rEqA K) (tCall (spA 2 S__law_draw) [] E0 (tCons (tVar 0) (tCons (tC (.int 2)) tNil))) (tC (.int 1))) tNil)))))))
theorem der__law_rule (T : Tx mg) {k : Nat} {S__law_draw : ASp} {j__law_draw : Nat} (c__law_draw : Cl P w K mg base "_law_draw" j__law_draw 2 S__law_draw) (h__law_draw : j__law_draw ≤ k) {S__law_values : ASp} {j__law_values : Nat} (c__law_values : Cl P w K mg base "_law_values" j__law_values 2 S__law_values) (h__law_values : j__law_values ≤ k) {f : Addr} {cdv : Value} {A : Around} {outer : List Env} {s : Shared} {H : Hp} {E : XK}
    (hr : Room k (A.deeper (PyProof.Rows.envOfC "_law_rule" (defScope s__law_rule) s.heap.objs.size f cdv))) : PSs (cxOf CX0 P w K mg base n__law_rule "_law_rule" (defScope s__law_rule) f cdv A outer s H E).nox (defBody s__law_rule) (t__law_rule K S__law_draw S__law_values) := by
  have nd := sc__law_rule.nd
  exact (pss_cons (ps_set (i := 2) nd rfl (by first | exact Or.inl rfl | exact Or.inr rfl) (pe_lst pa_nil)) (pss_cons (ps_set (i := 3) nd rfl (by first | exact Or.inl rfl | exact Or.inr rfl) (pe_cl c__law_draw hr h__law_draw (by rfl) (pa_cons (pv 0) (pa_cons pe_int pa_nil)))) (pss_cons (ps_for PassesOwn.never rfl (pi_range1 (by rfl) T.b_range (pa_cons (pe_cl c__law_draw hr h__law_draw (by rfl) (pa_cons (pv 0) (pa_cons pe_int pa_nil))) pa_nil)) (pg_name (i := 4) nd rfl (by first | exact Or.inl rfl | exact Or.inr rfl)) (pss_cons (ps_if (pt_cmpR op_lt (pv 3) (pe_callB DL.call_lenA (by rfl) T.b_len boo_len (pa_cons (pv 1) pa_nil)) (nomark _)) (pss_one (ps_expr (pe_bm PySem.F.plainAttrs_list PySem.F.slot_list_append PySem.F.type_list_append mt_append (pv 2) (pa_cons (pe_tup (pa_cons (pv 3) (pa_cons (pe_cl c__law_values hr h__law_values (by rfl) (pa_cons (pv 0) (pa_cons (pe_ix ix_seq (pv 1) (pv 3) (fun _ _ => rfl)) pa_nil))) pa_nil))) pa_nil)))) pss_nil) (pss_one (ps_set (i := 3) nd rfl (by first | exact Or.inl rfl | exact Or.inr rfl) (pe_op op_addA (pe_op op_addA (pv 3) pe_int) (pe_cl c__law_draw hr h__law_draw (by rfl) (pa_cons (pv 0) (pa_cons pe_int pa_nil)))))))) (pss_one (ps_ret (pe_tup (pa_cons (pe_callTy call_tupleA (by rfl) T.b_tuple boo_tuple (pa_cons (pv 2) pa_nil)) (pa_cons (pe_cmpR (op_eqA hr.units) (pe_cl c__law_draw hr h__law_draw (by rfl) (pa_cons (pv 0) (pa_cons pe_int pa_nil))) pe_int (nomark _)) pa_nil))))))))
/-! _law_inner_form: 0 bag, 1 sheet, 2 cases, 3 room, 4 word, 5 field, 6 many, 7 weights, 8 size, 9 k, 10 value -/
abbrev s__law_inner_form : Stmt := top 45
abbrev n__law_inner_form : List Str := ["bag", "sheet", "cases", "room", "word", "field", "many", "weights", "size", "k", "value"]
theorem sc__law_inner_form : FnScope n__law_inner_form ["bag", "sheet", "cases", "room"] (defScope s__law_inner_form) := C8.fnScope_by (by decide +kernel)
def t__law_inner_form (K : PySem.W.Frag) (S__law_draw : ASp) (S__law_rule : ASp) (S__law_values : ASp) : TS :=
  (tSeq (tAsg (tCall (spA 2 S__law_draw) [] E0 (tCons (tVar 0) (tCons (tC (.int 7)) tNil))) (gName 4)) (tSeq (tIfS (tAnd (tTest (tOp (rEqA K) (tVar 4) (tC (.int 1)))) (tTest (tOp (rNeA K) (tVar 1) (tLst tNil)))) (tSeq (tAsg (tCall (spA 2 S__law_draw) [] E0 (tCons (tVar 0) (tCons (tCB (DL.rLen K) (tCons (tVar 1) tNil)) tNil))) (gName 5)) (tRet (tTup (tCons (tC (.str ("is" : Str))) (tCons (tVar 5) (tCons (tCall (spA 2 S__law_values) [] E0 (tCons (tVar 0) (tCons (tOp (rIx K) (tVar 1) (tVar 5)) tNil))) tNil)))))) tNext) (tSeq (tIfS (tTest (tOp (rEqA K) (tVar 4) (tC (.int 2)))) (tSeq (tAsg (tOp (rIx K) (tLst (tCons (tCall (spA 2 S__law_draw) [] E0 (tCons (tVar 0) (tCons (tC (.int 4)) tNil))) (tCons (tC (.int 12)) tNil))) (tCB rInt (tCons (tOp (rEqA K) (tCall (spA 2 S__law_draw) [] E0 (tCons (tVar 0) (tCons (tC (.int 6)) tNil))) (tC (.int 0))) tNil))) (gName 6)) (tRet (tTup (tCons (tC (.str ("rules" : Str))) (tCons (tCB (rTuple K) (tCons (tLc (iRng1 (tCons (tVar 6) tNil)) (gName 9) tYes (tCall (spA 2 S__law_rule) [] E0 (tCons (tVar 0) (tCons (tVar 1) tNil))) [9]) tNil)) (tCons (tOp (rEqA K) (tCall (spA 2 S__law_draw) [] E0 (tCons (tVar 0) (tCons (tC (.int 2)) tNil))) (tC (.int 1))) tNil)))))) tNext) (tSeq (tIfS (tTest (tOp (rEqA K) (tVar 4) (tC (.int 3)))) (tSeq (tAsg (tCB (rTuple K) (tCons (tLc (iList K (tVar 1)) (gName 8) tYes (tCB (rTuple K) (tCons (tLc (iRng1 (tCons (tVar 8) tNil)) (gName 10) tYes (tOp (rI0 fun i j => .int (i - j)) (tCall (spA 2 S__law_draw) [] E0 (tCons (tVar 0) (tCons (tC (.int 101)) tNil))) (tC (.int 50))) [10]) tNil)) [8]) tNil)) (gName 7)) (tRet (tTup (tCons (tC (.str ("card" : Str))) (tCons (tVar 7) (tCons (tOp (rIx K) (tLst (tCons (tOp (rI0 fun i j => .int (i - j)) (tCall (spA 2 S__law_draw) [] E0 (tCons (tVar 0) (tCons (tC (.int 101)) tNil))) (tC (.int 50))) (tCons (tOp (rI0 fun i j => .int (i - j)) (tCall (spA 2 S__law_draw) [] E0 (tCons (tVar 0) (tCons (tC (.int 4001)) tNil))) (tC (.int 2000))) tNil))) (tCall (spA 2 S__law_draw) [] E0 (tCons (tVar 0) (tCons (tC (.int 2)) tNil)))) tNil)))))) tNext) (tSeq (tIfS (tAnd (tTest (tOp (rEqA K) (tVar 4) (tC (.int 4)))) (tTest (tOp (rI0 fun i j => .bl (decide (i ≤ j))) (tVar 2) (tCB rMin2 (tCons (tC (.int 1024)) (tCons (tCB rInt (tCons (tVar 3) tNil)) tNil)))))) (tRet (tTup (tCons (tC (.str ("table" : Str))) (tCons (tCB (rTuple K) (tCons (tLc (iRng1 (tCons (tVar 2) tNil)) (gName 9) tYes (tOp (rEqA K) (tCall (spA 2 S__law_draw) [] E0 (tCons (tVar 0) (tCons (tC (.int 2)) tNil))) (tC (.int 1))) [9]) tNil)) tNil)))) tNext) (tRet (tTup (tCons (tC (.str ("say" : Str))) (tCons (tOp (rEqA K) (tCall (spA 2 S__law_draw) [] E0 (tCons (tVar 0) (tCons (tC (.int 2)) tNil))) (tC (.int 1))) tNil)))))))))
theorem der__law_inner_form (T : Tx mg) {k : Nat} {S__law_draw : ASp} {j__law_draw : Nat} (c__law_draw : Cl P w K mg base "_law_draw" j__law_draw 2 S__law_draw) (h__law_draw : j__law_draw ≤ k) {S__law_rule : ASp} {j__law_rule : Nat} (c__law_rule : Cl P w K mg base "_law_rule" j__law_rule 2 S__law_rule) (h__law_rule : j__law_rule ≤ k) {S__law_values : ASp} {j__law_values : Nat} (c__law_values : Cl P w K mg base "_law_values" j__law_values 2 S__law_values) (h__law_values : j__law_values ≤ k) {f : Addr} {cdv : Value} {A : Around} {outer : List Env} {s : Shared} {H : Hp} {E : XK}
    (hr : Room k (A.deeper (PyProof.Rows.envOfC "_law_inner_form" (defScope s__law_inner_form) s.heap.objs.size f cdv))) : PSs (cxOf CX0 P w K mg base n__law_inner_form "_law_inner_form" (defScope s__law_inner_form) f cdv A outer s H E).nox (defBody s__law_inner_form) (t__law_inner_form K S__law_draw S__law_rule S__law_values) := by
  have nd := sc__law_inner_form.nd
  exact (pss_cons (ps_set (i := 4) nd rfl (by first | exact Or.inl rfl | exact Or.inr rfl) (pe_cl c__law_draw hr h__law_draw (by rfl) (pa_cons (pv 0) (pa_cons pe_int pa_nil)))) (pss_cons (ps_if (PW.pt (pw_and (pt_cmpR (op_eqA hr.units) (pv 4) pe_int (nomark _)) (pw_and1 (pt_cmpR (op_neA hr.units) (pv 1) (pe_lst pa_nil) (nomark _))))) (pss_cons (ps_set (i := 5) nd rfl (by first | exact Or.inl rfl | exact Or.inr rfl) (pe_cl c__law_draw hr h__law_draw (by rfl) (pa_cons (pv 0) (pa_cons (pe_callB DL.call_lenA (by rfl) T.b_len boo_len (pa_cons (pv 1) pa_nil)) pa_nil)))) (pss_one (ps_ret (pe_tup (pa_cons pe_str (pa_cons (pv 5) (pa_cons (pe_cl c__law_values hr h__law_values (by rfl) (pa_cons (pv 0) (pa_cons (pe_ix ix_seq (pv 1) (pv 5) (fun _ _ => rfl)) pa_nil))) pa_nil))))))) pss_nil) (pss_cons (ps_if (pt_cmpR (op_eqA hr.units) (pv 4) pe_int (nomark _)) (pss_cons (ps_set (i := 6) nd rfl (by first | exact Or.inl rfl | exact Or.inr rfl) (pe_ix ix_seq (pe_lst (pa_cons (pe_cl c__law_draw hr h__law_draw (by rfl) (pa_cons (pv 0) (pa_cons pe_int pa_nil))) (pa_cons pe_int pa_nil))) (pe_callTy call_intA (by rfl) T.b_int boo_int (pa_cons (pe_cmpR (op_eqA hr.units) (pe_cl c__law_draw hr h__law_draw (by rfl) (pa_cons (pv 0) (pa_cons pe_int pa_nil))) pe_int (nomark _)) pa_nil)) (fun _ _ => rfl))) (pss_one (ps_ret (pe_tup (pa_cons pe_str (pa_cons (pe_callTy call_tupleA (by rfl) T.b_tuple boo_tuple (pa_cons (pe_lc (own := [("k", 9)]) rfl nd (pi_range1 (by rfl) T.b_range (pa_cons (pv 6) pa_nil)) (blkOk_by (by kernel_rfl)) (fun _ _ _ _ _ => (pg_name (i := 9) nd rfl (by first | exact Or.inl rfl | exact Or.inr rfl))) (fun _ _ _ _ _ => pts_nil) (fun _ _ _ _ _ => (pe_cl c__law_rule hr h__law_rule (by rfl) (pa_cons (pv 0) (pa_cons (pv 1) pa_nil))))) pa_nil)) (pa_cons (pe_cmpR (op_eqA hr.units) (pe_cl c__law_draw hr h__law_draw (by rfl) (pa_cons (pv 0) (pa_cons pe_int pa_nil))) pe_int (nomark _)) pa_nil))))))) pss_nil) (pss_cons (ps_if (pt_cmpR (op_eqA hr.units) (pv 4) pe_int (nomark _)) (pss_cons (ps_set (i := 7) nd rfl (by first | exact Or.inl rfl | exact Or.inr rfl) (pe_callTy call_tupleA (by rfl) T.b_tuple boo_tuple (pa_cons (pe_lc (own := [("size", 8)]) rfl nd (pi_list (pv 1)) (blkOk_by (by kernel_rfl)) (fun _ _ _ _ _ => (pg_name (i := 8) nd rfl (by first | exact Or.inl rfl | exact Or.inr rfl))) (fun _ _ _ _ _ => pts_nil) (fun _ _ _ _ _ => (pe_callTy call_tupleA (by rfl) T.b_tuple boo_tuple (pa_cons (pe_lc (own := [("value", 10)]) rfl nd (pi_range1 (by rfl) T.b_range (pa_cons (pv 8) pa_nil)) (blkOk_by (by kernel_rfl)) (fun _ _ _ _ _ => (pg_name (i := 10) nd rfl (by first | exact Or.inl rfl | exact Or.inr rfl))) (fun _ _ _ _ _ => pts_nil) (fun _ _ _ _ _ => (pe_op op_sub (pe_cl c__law_draw hr h__law_draw (by rfl) (pa_cons (pv 0) (pa_cons pe_int pa_nil))) pe_int))) pa_nil)))) pa_nil))) (pss_one (ps_ret (pe_tup (pa_cons pe_str (pa_cons (pv 7) (pa_cons (pe_ix ix_seq (pe_lst (pa_cons (pe_op op_sub (pe_cl c__law_draw hr h__law_draw (by rfl) (pa_cons (pv 0) (pa_cons pe_int pa_nil))) pe_int) (pa_cons (pe_op op_sub (pe_cl c__law_draw hr h__law_draw (by rfl) (pa_cons (pv 0) (pa_cons pe_int pa_nil))) pe_int) pa_nil))) (pe_cl c__law_draw hr h__law_draw (by rfl) (pa_cons (pv 0) (pa_cons pe_int pa_nil))) (fun _ _ => rfl)) pa_nil))))))) pss_nil) (pss_cons (ps_if (PW.pt (pw_and (pt_cmpR (op_eqA hr.units) (pv 4) pe_int (nomark _)) (pw_and1 (pt_cmpR op_le (pv 2) (pe_callB (call_min2A rfl) (by rfl) T.b_min boo_min (pa_cons pe_int (pa_cons (pe_callTy call_intA (by rfl) T.b_int boo_int (pa_cons (pv 3) pa_nil)) pa_nil))) (nomark _))))) (pss_one (ps_ret (pe_tup (pa_cons pe_str (pa_cons (pe_callTy call_tupleA (by rfl) T.b_tuple boo_tuple (pa_cons (pe_lc (own := [("k", 9)]) rfl nd (pi_range1 (by rfl) T.b_range (pa_cons (pv 2) pa_nil)) (blkOk_by (by kernel_rfl)) (fun _ _ _ _ _ => (pg_name (i := 9) nd rfl (by first | exact Or.inl rfl | exact Or.inr rfl))) (fun _ _ _ _ _ => pts_nil) (fun _ _ _ _ _ => (pe_cmpR (op_eqA hr.units) (pe_cl c__law_draw hr h__law_draw (by rfl) (pa_cons (pv 0) (pa_cons pe_int pa_nil))) pe_int (nomark _)))) pa_nil)) pa_nil))))) pss_nil) (pss_one (ps_ret (pe_tup (pa_cons pe_str (pa_cons (pe_cmpR (op_eqA hr.units) (pe_cl c__law_draw hr h__law_draw (by rfl) (pa_cons (pv 0) (pa_cons pe_int pa_nil))) pe_int (nomark _)) pa_nil))))))))))
/-! _law_form: 0 bag, 1 sheet, 2 cases, 3 left, 4 level, 5 word, 6 form, 7 size, 8 field, 9 many, 10 grown, 11 value, 12 k -/
abbrev s__law_form : Stmt := top 46
abbrev n__law_form : List Str := ["bag", "sheet", "cases", "left", "level", "word", "form", "size", "field", "many", "grown", "value", "k"]
theorem sc__law_form : FnScope n__law_form ["bag", "sheet", "cases", "left", "level"] (defScope s__law_form) := C8.fnScope_by (by decide +kernel)
def t__law_form (K : PySem.W.Frag) (S__law_draw : ASp) (S__law_words : ASp) (S__law_inner_form : ASp) (S__law_form : ASp) : TS :=
  (tSeq (tAsg (tOp (rIx K) (tLst (tCons (tC (.str ("" : Str))) (tCons (tC (.str ("" : Str))) (tCons (tC (.str ("tree" : Str))) (tCons (tC (.str ("not" : Str))) (tCons (tC (.str ("and" : Str))) (tCons (tC (.str ("or" : Str))) (tCons (tC (.str ("odd" : Str))) (tCons (tC (.str ("tree" : Str))) tNil))))))))) (tCall (spA 2 S__law_draw) [] E0 (tCons (tVar 0) (tCons (tC (.int 8)) tNil)))) (gName 5)) (tSeq (tIfS (tAnd (tTest (tOp (rEqA K) (tVar 5) (tC (.str ("tree" : Str))))) (tAnd (tTest (tOp (rNeA K) (tVar 1) (tLst tNil))) (tTest (tOp (rI0 fun i j => .bl (decide (i < j))) (tVar 4) (tC (.int 8)))))) (tSeq (tAsg (tCall (spA 2 S__law_draw) [] E0 (tCons (tVar 0) (tCons (tCB (DL.rLen K) (tCons (tVar 1) tNil)) tNil))) (gName 8)) (tSeq (tAsg (tOp (rIx K) (tVar 1) (tVar 8)) (gName 9)) (tIfS (tTest (tOp (rI0 fun i j => .bl (decide (i ≤ j))) (tVar 9) (tOp (rIx K) (tVar 3) (tC (.int 0))))) (tSeq (tAsg (tOp (rI0 fun i j => .int (i - j)) (tOp (rIx K) (tVar 3) (tC (.int 0))) (tVar 9)) (gSub (tVar 3) (tC (.int 0)) rSetL)) (tSeq (tAsg (tLc (iRng1 (tCons (tVar 9) tNil)) (gName 11) tYes (tCall (spA 5 S__law_form) [] E0 (tCons (tVar 0) (tCons (tVar 1) (tCons (tVar 2) (tCons (tVar 3) (tCons (tOp (rAddA K) (tVar 4) (tC (.int 1))) tNil)))))) [11]) (gName 10)) (tRet (tTup (tCons (tC (.str ("tree" : Str))) (tCons (tVar 8) (tCons (tCB (rTuple K) (tCons (tVar 10) tNil)) tNil))))))) tNext))) tNext) (tSeq (tIfS (tAnd (tTest (tOp (rEqA K) (tVar 5) (tC (.str ("not" : Str))))) (tAnd (tTest (tOp (rI0 fun i j => .bl (decide (i < j))) (tVar 4) (tC (.int 8)))) (tTest (tOp (rI0 fun i j => .bl (decide (j < i))) (tOp (rIx K) (tVar 3) (tC (.int 0))) (tC (.int 0)))))) (tSeq (tAsg (tOp (rI0 fun i j => .int (i - j)) (tOp (rIx K) (tVar 3) (tC (.int 0))) (tC (.int 1))) (gSub (tVar 3) (tC (.int 0)) rSetL)) (tRet (tTup (tCons (tC (.str ("not" : Str))) (tCons (tCall (spA 5 S__law_form) [] E0 (tCons (tVar 0) (tCons (tVar 1) (tCons (tVar 2) (tCons (tVar 3) (tCons (tOp (rAddA K) (tVar 4) (tC (.int 1))) tNil)))))) tNil))))) tNext) (tSeq (tIfS (tTest (tOp (rInA K) (tVar 5) (tLst (tCons (tC (.str ("and" : Str))) (tCons (tC (.str ("or" : Str))) (tCons (tC (.str ("odd" : Str))) tNil)))))) (tSeq (tAsg (tCall (spA 2 S__law_draw) [] E0 (tCons (tVar 0) (tCons (tC (.int 7)) tNil))) (gName 9)) (tSeq (tIfS (tAnd (tTest (tOp (rI0 fun i j => .bl (decide (i < j))) (tVar 4) (tC (.int 8)))) (tTest (tOp (rI0 fun i j => .bl (decide (i ≤ j))) (tVar 9) (tOp (rIx K) (tVar 3) (tC (.int 0)))))) (tSeq (tAsg (tOp (rI0 fun i j => .int (i - j)) (tOp (rIx K) (tVar 3) (tC (.int 0))) (tVar 9)) (gSub (tVar 3) (tC (.int 0)) rSetL)) (tRet (tTup (tCons (tVar 5) (tCons (tCB (rTuple K) (tCons (tLc (iRng1 (tCons (tVar 9) tNil)) (gName 12) tYes (tCall (spA 5 S__law_form) [] E0 (tCons (tVar 0) (tCons (tVar 1) (tCons (tVar 2) (tCons (tVar 3) (tCons (tOp (rAddA K) (tVar 4) (tC (.int 1))) tNil)))))) [12]) tNil)) tNil))))) tNext) (tRet (tTup (tCons (tVar 5) (tCons (tTup tNil) tNil)))))) tNext) (tSeq (tAsg (tCall (spA 4 S__law_inner_form) [] E0 (tCons (tVar 0) (tCons (tVar 1) (tCons (tVar 2) (tCons (tOp (rIx K) (tVar 3) (tC (.int 1))) tNil))))) (gName 6)) (tSeq (tAsg (tCB (DL.rLen K) (tCons (tM1 (rJoin K) (tC (.str (" " : Str))) (tCall (spA 1 S__law_words) [] E0 (tCons (tVar 6) tNil))) tNil)) (gName 7)) (tSeq (tIfS (tTest (tOp (rI0 fun i j => .bl (decide (i ≤ j))) (tVar 7) (tOp (rIx K) (tVar 3) (tC (.int 1))))) (tSeq (tAsg (tOp (rI0 fun i j => .int (i - j)) (tOp (rIx K) (tVar 3) (tC (.int 1))) (tVar 7)) (gSub (tVar 3) (tC (.int 1)) rSetL)) (tRet (tVar 6))) tNext) (tRet (tTup (tCons (tC (.str ("say" : Str))) (tCons (tOp (rEqA K) (tCall (spA 2 S__law_draw) [] E0 (tCons (tVar 0) (tCons (tC (.int 2)) tNil))) (tC (.int 1))) tNil)))))))))))
theorem der__law_form (T : Tx mg) {k : Nat} {S__law_draw : ASp} {j__law_draw : Nat} (c__law_draw : Cl P w K mg base "_law_draw" j__law_draw 2 S__law_draw) (h__law_draw : j__law_draw ≤ k) {S__law_words : ASp} {j__law_words : Nat} (c__law_words : Cl P w K mg base "_law_words" j__law_words 1 S__law_words) (h__law_words : j__law_words ≤ k) {S__law_inner_form : ASp} {j__law_inner_form : Nat} (c__law_inner_form : Cl P w K mg base "_law_inner_form" j__law_inner_form 4 S__law_inner_form) (h__law_inner_form : j__law_inner_form ≤ k) {S__law_form : ASp} {j__law_form : Nat} (c__law_form : Cl P w K mg base "_law_form" j__law_form 5 S__law_form) (h__law_form : j__law_form ≤ k) {f : Addr} {cdv : Value} {A : Around} {outer : List Env} {s : Shared} {H : Hp} {E : XK}
    (hr : Room k (A.deeper (PyProof.Rows.envOfC "_law_form" (defScope s__law_form) s.heap.objs.size f cdv))) : PSs (cxOf CX0 P w K mg base n__law_form "_law_form" (defScope s__law_form) f cdv A outer s H E).nox (defBody s__law_form) (t__law_form K S__law_draw S__law_words S__law_inner_form S__law_form) := by
  have nd := sc__law_form.nd
  exact (pss_cons (ps_set (i := 5) nd rfl (by first | exact Or.inl rfl | exact Or.inr rfl) (pe_ix ix_seq (pe_lst (pa_cons pe_str (pa_cons pe_str (pa_cons pe_str (pa_cons pe_str (pa_cons pe_str (pa_cons pe_str (pa_cons pe_str (pa_cons pe_str pa_nil))))))))) (pe_cl c__law_draw hr h__law_draw (by rfl) (pa_cons (pv 0) (pa_cons pe_int pa_nil))) (fun _ _ => rfl))) (pss_cons (ps_if (PW.pt (pw_and (pt_cmpR (op_eqA hr.units) (pv 5) pe_str (nomark _)) (pw_and (pt_cmpR (op_neA hr.units) (pv 1) (pe_lst pa_nil) (nomark _)) (pw_and1 (pt_cmpR op_lt (pv 4) pe_int (nomark _)))))) (pss_cons (ps_set (i := 8) nd rfl (by first | exact Or.inl rfl | exact Or.inr rfl) (pe_cl c__law_draw hr h__law_draw (by rfl) (pa_cons (pv 0) (pa_cons (pe_callB DL.call_lenA (by rfl) T.b_len boo_len (pa_cons (pv 1) pa_nil)) pa_nil)))) (pss_cons (ps_set (i := 9) nd rfl (by first | exact Or.inl rfl | exact Or.inr rfl) (pe_ix ix_seq (pv 1) (pv 8) (fun _ _ => rfl))) (pss_one (ps_if (pt_cmpR op_le (pv 9) (pe_ix ix_seq (pv 3) pe_int (fun _ _ => rfl)) (nomark _)) (pss_cons (ps_asg (pe_op op_sub (pe_ix ix_seq (pv 3) pe_int (fun _ _ => rfl)) (pv 9)) (pg_sub (pv 3) pe_int set_list)) (pss_cons (by first | exact ps_setLc (i := 10) (own := [("value", 11)]) rfl nd rfl rfl (sw_true rfl rfl rfl (by kernel_rfl)) (pi_range1 (by rfl) T.b_range (pa_cons (pv 9) pa_nil)) (blkOk_by (by kernel_rfl)) (fun _ _ _ _ _ => (pg_name (i := 11) nd rfl (by first | exact Or.inl rfl | exact Or.inr rfl))) (fun _ _ _ _ _ => pts_nil) (fun _ _ _ _ _ => (pe_cl c__law_form hr h__law_form (by rfl) (pa_cons (pv 0) (pa_cons (pv 1) (pa_cons (pv 2) (pa_cons (pv 3) (pa_cons (pe_op op_addA (pv 4) pe_int) pa_nil))))))) | exact ps_set (i := 10) nd rfl (by first | exact Or.inl rfl | exact Or.inr rfl) (pe_lc (own := [("value", 11)]) rfl nd (pi_range1 (by rfl) T.b_range (pa_cons (pv 9) pa_nil)) (blkOk_by (by kernel_rfl)) (fun _ _ _ _ _ => (pg_name (i := 11) nd rfl (by first | exact Or.inl rfl | exact Or.inr rfl))) (fun _ _ _ _ _ => pts_nil) (fun _ _ _ _ _ => (pe_cl c__law_form hr h__law_form (by rfl) (pa_cons (pv 0) (pa_cons (pv 1) (pa_cons (pv 2) (pa_cons (pv 3) (pa_cons (pe_op op_addA (pv 4) pe_int) pa_nil))))))))) (pss_one (ps_ret (pe_tup (pa_cons pe_str (pa_cons (pv 8) (pa_cons (pe_callTy call_tupleA (by rfl) T.b_tuple boo_tuple (pa_cons (pv 10) pa_nil)) pa_nil)))))))) pss_nil)))) pss_nil) (pss_cons (ps_if (PW.pt (pw_and (pt_cmpR (op_eqA hr.units) (pv 5) pe_str (nomark _)) (pw_and (pt_cmpR op_lt (pv 4) pe_int (nomark _)) (pw_and1 (pt_cmpR op_gt (pe_ix ix_seq (pv 3) pe_int (fun _ _ => rfl)) pe_int (nomark _)))))) (pss_cons (ps_asg (pe_op op_sub (pe_ix ix_seq (pv 3) pe_int (fun _ _ => rfl)) pe_int) (pg_sub (pv 3) pe_int set_list)) (pss_one (ps_ret (pe_tup (pa_cons pe_str (pa_cons (pe_cl c__law_form hr h__law_form (by rfl) (pa_cons (pv 0) (pa_cons (pv 1) (pa_cons (pv 2) (pa_cons (pv 3) (pa_cons (pe_op op_addA (pv 4) pe_int) pa_nil)))))) pa_nil)))))) pss_nil) (pss_cons (ps_if (pt_cmpR (op_inA (u65 hr)) (pv 5) (pe_lst (pa_cons pe_str (pa_cons pe_str (pa_cons pe_str pa_nil)))) (by with_unfolding_all rfl)) (pss_cons (ps_set (i := 9) nd rfl (by first | exact Or.inl rfl | exact Or.inr rfl) (pe_cl c__law_draw hr h__law_draw (by rfl) (pa_cons (pv 0) (pa_cons pe_int pa_nil)))) (pss_cons (ps_if (PW.pt (pw_and (pt_cmpR op_lt (pv 4) pe_int (nomark _)) (pw_and1 (pt_cmpR op_le (pv 9) (pe_ix ix_seq (pv 3) pe_int (fun _ _ => rfl)) (nomark _))))) (pss_cons (ps_asg (pe_op op_sub (pe_ix ix_seq (pv 3) pe_int (fun _ _ => rfl)) (pv 9)) (pg_sub (pv 3) pe_int set_list)) (pss_one (ps_ret (pe_tup (pa_cons (pv 5) (pa_cons (pe_callTy call_tupleA (by rfl) T.b_tuple boo_tuple (pa_cons (pe_lc (own := [("k", 12)]) rfl nd (pi_range1 (by rfl) T.b_range (pa_cons (pv 9) pa_nil)) (blkOk_by (by kernel_rfl)) (fun _ _ _ _ _ => (pg_name (i := 12) nd rfl (by first | exact Or.inl rfl | exact Or.inr rfl))) (fun _ _ _ _ _ => pts_nil) (fun _ _ _ _ _ => (pe_cl c__law_form hr h__law_form (by rfl) (pa_cons (pv 0) (pa_cons (pv 1) (pa_cons (pv 2) (pa_cons (pv 3) (pa_cons (pe_op op_addA (pv 4) pe_int) pa_nil)))))))) pa_nil)) pa_nil)))))) pss_nil) (pss_one (ps_ret (pe_tup (pa_cons (pv 5) (pa_cons (pe_tup pa_nil) pa_nil))))))) pss_nil) (pss_cons (ps_set (i := 6) nd rfl (by first | exact Or.inl rfl | exact Or.inr rfl) (pe_cl c__law_inner_form hr h__law_inner_form (by rfl) (pa_cons (pv 0) (pa_cons (pv 1) (pa_cons (pv 2) (pa_cons (pe_ix ix_seq (pv 3) pe_int (fun _ _ => rfl)) pa_nil)))))) (pss_cons (ps_set (i := 7) nd rfl (by first | exact Or.inl rfl | exact Or.inr rfl) (pe_callB DL.call_lenA (by rfl) T.b_len boo_len (pa_cons (pe_m1 PySem.F.slot_str_join PySem.F.type_str_join mt_joinA pe_str (pe_cl c__law_words hr h__law_words (by rfl) (pa_cons (pv 6) pa_nil))) pa_nil))) (pss_cons (ps_if (pt_cmpR op_le (pv 7) (pe_ix ix_seq (pv 3) pe_int (fun _ _ => rfl)) (nomark _)) (pss_cons (ps_asg (pe_op op_sub (pe_ix ix_seq (pv 3) pe_int (fun _ _ => rfl)) (pv 7)) (pg_sub (pv 3) pe_int set_list)) (pss_one (ps_ret (pv 6)))) pss_nil) (pss_one (ps_ret (pe_tup (pa_cons pe_str (pa_cons (pe_cmpR (op_eqA hr.units) (pe_cl c__law_draw hr h__law_draw (by rfl) (pa_cons (pv 0) (pa_cons pe_int pa_nil))) pe_int (nomark _)) pa_nil))))))))))))
/-! law: 0 script, 1 cell, 2 bag, 3 sheet, 4 form, 5 handed, 6 found -/
abbrev s_law : Stmt := top 47
abbrev n_law : List Str := ["script", "cell", "bag", "sheet", "form", "handed", "found"]
theorem sc_law : FnScope n_law ["script"] (defScope s_law) := C8.fnScope_by (by decide +kernel)
def t_law (K : PySem.W.Frag) (S__law_words : ASp) (S_write_form : ASp) (S__law_cases : ASp) (S__law_form : ASp) (S__law_any_sheet : ASp) (S__law_bag : ASp) : TS :=
  (tSeq (tFor (iList K (tOp (rAddA K) (tLst (tCons (tC (.int 0)) tNil)) (tSl (DL.rSlX K) (tVar 0) tNoPart (tPart (tC (.int 6)))))) (gName 1) (tSeq (tAsg (tCall (spA 1 S__law_bag) [] E0 (tCons (tVar 1) tNil)) (gName 2)) (tSeq (tAsg (tCall (spA 1 S__law_any_sheet) [] E0 (tCons (tVar 2) tNil)) (gName 3)) (tSeq (tAsg (tCall (spA 5 S__law_form) [] E0 (tCons (tVar 2) (tCons (tVar 3) (tCons (tCall (spA 1 S__law_cases) [] E0 (tCons (tVar 3) tNil)) (tCons (tLst (tCons (tC (.int 59)) (tCons (tC (.int 4000)) tNil))) (tCons (tC (.int 1)) tNil)))))) (gName 4)) (tSeq (tAsg (tCB (rList K) (tCons (tVar 3) tNil)) (gName 5)) (tSeq (tAsg (tCall (spA 2 S_write_form) [] E0 (tCons (tVar 5) (tCons (tVar 4) tNil))) (gName 6)) (tIfS (tOr (tNot (tB (tCB (rIsi K) (tCons (tVar 6) (tCons (tC (.ty "str")) tNil))))) (tOr (tTest (tOp (rNeA K) (tVar 6) (tM1 (rJoin K) (tC (.str (" " : Str))) (tCall (spA 1 S__law_words) [] E0 (tCons (tVar 4) tNil))))) (tTest (tOp (rNeA K) (tVar 5) (tVar 3))))) (tRet (tC (.bl false))) tNext))))))) (tRet (tC (.bl true))))
theorem der_law (T : Tx mg) {k : Nat} {S__law_words : ASp} {j__law_words : Nat} (c__law_words : Cl P w K mg base "_law_words" j__law_words 1 S__law_words) (h__law_words : j__law_words ≤ k) {S_write_form : ASp} {j_write_form : Nat} (c_write_form : Cl P w K mg base "write_form" j_write_form 2 S_write_form) (h_write_form : j_write_form ≤ k) {S__law_cases : ASp} {j__law_cases : Nat} (c__law_cases : Cl P w K mg base "_law_cases" j__law_cases 1 S__law_cases) (h__law_cases : j__law_cases ≤ k) {S__law_form : ASp} {j__law_form : Nat} (c__law_form : Cl P w K mg base "_law_form" j__law_form 5 S__law_form) (h__law_form : j__law_form ≤ k) {S__law_any_sheet : ASp} {j__law_any_sheet : Nat} (c__law_any_sheet : Cl P w K mg base "_law_any_sheet" j__law_any_sheet 1 S__law_any_sheet) (h__law_any_sheet : j__law_any_sheet ≤ k) {S__law_bag : ASp} {j__law_bag : Nat} (c__law_bag : Cl P w K mg base "_law_bag" j__law_bag 1 S__law_bag) (h__law_bag : j__law_bag ≤ k) {f : Addr} {cdv : Value} {A : Around} {outer : List Env} {s : Shared} {H : Hp} {E : XK}
    (hr : Room k (A.deeper (PyProof.Rows.envOfC "law" (defScope s_law) s.heap.objs.size f cdv))) : PSs (cxOf CX0 P w K mg base n_law "law" (defScope s_law) f cdv A outer s H E).nox (defBody s_law) (t_law K S__law_words S_write_form S__law_cases S__law_form S__law_any_sheet S__law_bag) := by
  have nd := sc_law.nd
  exact (pss_cons (ps_for PassesOwn.never rfl (pi_list (pe_op op_addA (pe_lst (pa_cons pe_int pa_nil)) (pe_slice DL.sl_X (pv 0) po_none (po_some pe_int)))) (pg_name (i := 1) nd rfl (by first | exact Or.inl rfl | exact Or.inr rfl)) (pss_cons (ps_set (i := 2) nd rfl (by first | exact Or.inl rfl | exact Or.inr rfl) (pe_cl c__law_bag hr h__law_bag (by rfl) (pa_cons (pv 1) pa_nil))) (pss_cons (ps_set (i := 3) nd rfl (by first | exact Or.inl rfl | exact Or.inr rfl) (pe_cl c__law_any_sheet hr h__law_any_sheet (by rfl) (pa_cons (pv 2) pa_nil))) (pss_cons (ps_set (i := 4) nd rfl (by first | exact Or.inl rfl | exact Or.inr rfl) (pe_cl c__law_form hr h__law_form (by rfl) (pa_cons (pv 2) (pa_cons (pv 3) (pa_cons (pe_cl c__law_cases hr h__law_cases (by rfl) (pa_cons (pv 3) pa_nil)) (pa_cons (pe_lst (pa_cons pe_int (pa_cons pe_int pa_nil))) (pa_cons pe_int pa_nil))))))) (pss_cons (ps_set (i := 5) nd rfl (by first | exact Or.inl rfl | exact Or.inr rfl) (pe_callTy call_listA (by rfl) T.b_list boo_list (pa_cons (pv 3) pa_nil))) (pss_cons (ps_set (i := 6) nd rfl (by first | exact Or.inl rfl | exact Or.inr rfl) (pe_cl c_write_form hr h_write_form (by rfl) (pa_cons (pv 5) (pa_cons (pv 4) pa_nil)))) (pss_one (ps_if (PW.pt (pw_or (pt_not (pt_val (pe_callB call_isi (by rfl) T.b_isinstance boo_isinstance (pa_cons (pv 6) (pa_cons (pe_bltn (v := .ty "str") (by rfl) T.b_str boo_str rfl) pa_nil))))) (pw_or (pt_cmpR (op_neA hr.units) (pv 6) (pe_m1 PySem.F.slot_str_join PySem.F.type_str_join mt_joinA pe_str (pe_cl c__law_words hr h__law_words (by rfl) (pa_cons (pv 4) pa_nil))) (nomark _)) (pw_or1 (pt_cmpR (op_neA hr.units) (pv 5) (pv 3) (nomark _)))))) (pss_one (ps_ret pe_bl)) pss_nil)))))))) (pss_one (ps_ret pe_bl)))
end
end K79
namespace K79
open PySem L2 PySem.Spec DL
set_option autoImplicit false
/-- one step of a reading -/
local macro_rules | `(tactic| walk_at "d0") => `(tactic| first
  | (with_reducible refine DL.dx_op ?_) | ((with_reducible show DX _ (tVar _) _ _ _); refine DL.dx_var rfl ?_)
  | (with_reducible refine DL.dx_int ?_) | (with_reducible refine DL.dx_bl ?_) | (with_reducible refine DL.dx_non ?_) | ((with_reducible show DX _ (tC (.str _)) _ _ _); refine DL.dx_str (by decide) ?_)
  | (with_reducible refine DL.da_cons ?_) | (with_reducible refine DL.da_nil ?_)
  | (with_reducible refine DL.dx_cb ?_) | (with_reducible refine DL.dx_tup ?_) | (with_reducible refine DL.dx_call ?_)
  | (with_reducible refine DL.dx_raw ?_) | (with_reducible refine DL.len_and (by exact Nat.le_of_ble_eq_true rfl) ?_)
  | (with_reducible refine DL.dt_b ?_) | (with_reducible refine DL.dt_test ?_) | (with_reducible refine DL.dt_and ?_) | (with_reducible refine DL.dt_or ?_) | (with_reducible refine DL.dt_not ?_) | (with_reducible refine DL.dt_yes ?_)
  | (with_reducible refine DL.dx_if ?_) | (with_reducible refine DL.dx_andV ?_) | (with_reducible refine DL.dx_orV ?_) | (with_reducible refine DL.dx_notV ?_) | (with_reducible refine DL.dx_chain ?_)
  | (with_reducible refine DL.dx_sl ?_) | (with_reducible refine DL.do_none ?_) | (with_reducible refine DL.do_some ?_)
  | (with_reducible refine DL.dx_isN ?_) | (with_reducible refine DL.dx_notN ?_) | (with_reducible refine DL.dx_neg ?_)
  | (with_reducible refine DL.dx_m1 ?_) | (with_reducible refine DL.dx_bmL ?_)
  | (with_reducible refine DL.ds_seq ?_) | (with_reducible refine DL.ds_asg ?_) | (with_reducible refine DL.ds_drop ?_) | (with_reducible refine DL.ds_ret ?_) | (with_reducible refine DL.ds_if ?_) | (with_reducible refine DL.ds_next ?_) | (with_reducible refine DL.ds_asgG ?_)
  | (with_reducible refine DL.isB ?_) | (with_reducible refine DL.allD_cons ?_) | (with_reducible refine DL.allD_nil ?_)
  | (with_reducible refine DL.d2_add rfl rfl ?_) | (with_reducible refine DL.d2_sub rfl rfl ?_)
  | (with_reducible refine DL.d2_lt rfl rfl ?_) | (with_reducible refine DL.d2_le rfl rfl ?_) | (with_reducible refine DL.d2_gt rfl rfl ?_) | (with_reducible refine DL.d2_ge rfl rfl ?_)
  | (with_reducible refine DL.d2_eqI rfl rfl ?_) | (with_reducible refine DL.d2_eqS rfl rfl ?_) | (with_reducible refine DL.d2_eqB rfl rfl ?_) | (with_reducible refine DL.d2_neI rfl rfl ?_) | (with_reducible refine DL.d2_neS rfl rfl ?_)
  | (with_reducible refine DL.dc_isi Vw.d (DL.kit_int _) ?_) | (with_reducible refine DL.dc_isi Vw.d (DL.kit_bool _) ?_) | (with_reducible refine DL.dc_isi Vw.d (DL.kit_str _) ?_) | (with_reducible refine DL.dc_isi Vw.d (DL.kit_list _) ?_) | (with_reducible refine DL.dc_isi Vw.d (DL.kit_tuple _) ?_)
  | (with_reducible refine DL.dc_lenL Vw.d ?_) | (with_reducible refine DL.dc_lenT rfl ?_) | (with_reducible refine DL.dc_lenS rfl ?_)
  | (with_reducible refine DL.dc_int rfl ?_) | (with_reducible refine DL.dc_intB rfl ?_)
  | (with_reducible refine DL.dc_listL Vw.d ?_) | (with_reducible refine DL.dc_listT rfl ?_) | (with_reducible refine DL.dc_tupleL Vw.d ?_) | (with_reducible refine DL.dc_tupleT rfl ?_)
  | (with_reducible refine DL.d3_list Vw.d ?_) | (with_reducible refine DL.d3_tup rfl ?_) | (with_reducible refine DL.d3_str rfl ?_))
local macro_rules | `(tactic| walk_at "d1") => `(tactic| first | walk_at "d0" | (with_reducible refine DL.dx_lst ?_))
local macro_rules | `(tactic| walk_at "d") => `(tactic| repeat walk_at "d1")
local macro_rules | `(tactic| walk_at "n") => `(tactic| repeat walk_at "d0")
section
variable {P : Program} {w : World} {K : PySem.W.Frag} {mg : Str → Option Value} {base : Heap}
def isWhole : D → Bool
  | .int _ => true
  | _ => false
theorem isWhole_eq (d : D) : (isInt d && !isBool d) = isWhole d := by cases d <;> rfl
def S_is_whole : ASp := fun cs O R X => ∃ d, cs = [.d d] ∧ R (.d (.bool (isWhole d))) O
theorem ds_is_whole {B : Bs} {d : D} {O : Ow} {R : RX} (h : R (.d (.bool (isWhole d))) O) : DS B (t_is_whole K) (startE n_is_whole [.d d]) O { nx := fun _ O' => R (.d .none) O', rt := R } := by
  unfold t_is_whole
  walk_at "d"
  rw [← isWhole_eq] at h
  refine ⟨fun e => ?_, fun e => ?_⟩
  · walk_at "d"
    rw [e] at h
    exact h
  · rw [e] at h
    exact h
theorem is_whole_ok (T : Tx mg) (Fd : Df K mg "is_whole" s_is_whole) : Cl P w K mg base "is_whole" 1 1 S_is_whole := by
  refine cl_of Fd sc_is_whole rfl (fun _ _ _ _ _ _ _ us e hl => by subst e; exact match us, hl with | [_], _ => rfl) fun f cdv A outer s H E B cs O R X hr hE hn hs => ⟨_, der_is_whole T hr, ?_⟩
  obtain ⟨d, rfl, hR⟩ := hs
  exact ds_is_whole hR
def isBelow (d : D) (b : Int) : Bool := match d with
  | .int i => decide (0 ≤ i) && decide (i < b)
  | _ => false
def S_is_below : ASp := fun cs O R X => ∃ d b, cs = [.d d, .d (.int b)] ∧ R (.d (.bool (isBelow d b))) O
theorem ds_is_below {B : Bs} {d : D} {b : Int} {O : Ow} {R : RX} (h : R (.d (.bool (isBelow d b))) O) : DS B (t_is_below K S_is_whole) (startE n_is_below [.d d, .d (.int b)]) O { nx := fun _ O' => R (.d .none) O', rt := R } := by
  unfold t_is_below
  walk_at "d"
  refine ⟨rfl, d, rfl, ?_⟩
  walk_at "d"
  refine ⟨fun e => ?_, fun e => ?_⟩
  · cases d <;> first | exact absurd e Bool.false_ne_true | skip
    rename_i i
    walk_at "d"
    have h : R (.d (.bool (decide (0 ≤ i) && decide (i < b)))) O := h
    refine ⟨fun e => ?_, fun e => ?_⟩
    · walk_at "d"
      rw [e, Bool.true_and] at h
      exact h
    · rw [e, Bool.false_and] at h
      exact h
  · cases d <;> first | exact absurd e.symm Bool.false_ne_true | exact h
theorem is_below_ok (T : Tx mg) (Fd : Df K mg "is_below" s_is_below) (c1 : Cl P w K mg base "is_whole" 1 1 S_is_whole) : Cl P w K mg base "is_below" 2 2 S_is_below := by
  refine cl_of Fd sc_is_below rfl (fun _ _ _ _ _ _ _ us e hl => by subst e; exact match us, hl with | [_, _], _ => rfl) fun f cdv A outer s H E B cs O R X hr hE hn hs => ⟨_, der_is_below T c1 (Nat.le_refl _) hr, ?_⟩
  obtain ⟨d, b, rfl, hR⟩ := hs
  exact ds_is_below hR
/-! ### sheets -/
def iD (xs : List Int) : List D := xs.map .int
structure SzOk (sz : List Int) : Prop where
  len : sz.length ≤ 24
  rng : ∀ s ∈ sz, 2 ≤ s ∧ s ≤ 6
abbrev dSz (sz : List Int) : D := .list (iD sz)
theorem all_ints {xs : List Int} {p : D → Bool} : (iD xs).all p = xs.all fun x => p (.int x) := by unfold iD; rw [List.all_map]; rfl
theorem mem_ints {xs : List Int} {d : D} (h : d ∈ iD xs) : ∃ x ∈ xs, d = .int x := by
  obtain ⟨x, h1, h2⟩ := List.mem_map.mp h
  exact ⟨x, h1, h2.symm⟩
theorem ints_get {xs : List Int} {i : Nat} {x : Int} (h : xs[i]? = some x) : (iD xs)[i]? = some (.int x) := by unfold iD; rw [List.getElem?_map, h]; rfl
theorem ints_len (xs : List Int) : (iD xs).length = xs.length := List.length_map _
def S_is_sizes : ASp := fun cs O R X => ∃ sz, cs = [.d (dSz sz)] ∧ SzOk sz ∧ R (.d (.bool true)) O
theorem ds_is_sizes {B : Bs} {sz : List Int} {O : Ow} {R : RX} (hs : SzOk sz) (h : R (.d (.bool true)) O) : DS B (t_is_sizes K S_is_below) (startE n_is_sizes [.d (dSz sz)]) O { nx := fun _ O' => R (.d .none) O', rt := R } := by
  unfold t_is_sizes
  walk_at "d"
  refine Cs.isF rfl ?_
  walk_at "d"
  refine Cs.isF (decide_eq_false ?_) ?_
  · rw [ints_len]; have := hs.len; omega
  walk_at "d"
  refine dx_lcMap (fun d => .bool true) (di_list (dx_var rfl ⟨_, rfl, fun d hd => ?_, ?_⟩))
  · obtain ⟨x, hx, rfl⟩ := mem_ints hd
    refine ⟨_, gd_name, by simp, ?_⟩
    walk_at "d"
    refine ⟨rfl, _, _, rfl, ?_⟩
    walk_at "d"
    have hx' := hs.rng x hx
    refine Cs.isT ?_ ?_
    · unfold isBelow; simp; omega
    walk_at "d"
    exact ⟨by rw [decide_eq_true (by omega : (1 : Int) < x)], rfl⟩
  · walk_at "d"
    refine dc_allMap (p := fun _ => true) ?_
    rw [all_ints, List.all_eq_true.mpr fun _ _ => rfl]
    exact h
theorem is_sizes_ok (T : Tx mg) (Fd : Df K mg "is_sizes" s_is_sizes) (c1 : Cl P w K mg base "is_below" 2 2 S_is_below) : Cl P w K mg base "is_sizes" 3 1 S_is_sizes := by
  refine cl_of Fd sc_is_sizes rfl (fun _ _ _ _ _ _ _ us e hl => by subst e; exact match us, hl with | [_], _ => rfl) fun f cdv A outer s H E B cs O R X hr hE hn hs => ⟨_, der_is_sizes T c1 (Nat.le_refl _) hr, ?_⟩
  obtain ⟨sz, rfl, hz, hR⟩ := hs
  exact ds_is_sizes hz hR
def S_need_sizes : ASp := fun cs O R X => ∃ sz, cs = [.d (dSz sz)] ∧ SzOk sz ∧ R (.d .none) O
theorem need_sizes_ok (T : Tx mg) (Fd : Df K mg "need_sizes" s_need_sizes) (c1 : Cl P w K mg base "is_sizes" 3 1 S_is_sizes) : Cl P w K mg base "need_sizes" 4 1 S_need_sizes := by
  refine cl_of Fd sc_need_sizes rfl (fun _ _ _ _ _ _ _ us e hl => by subst e; exact match us, hl with | [_], _ => rfl) fun f cdv A outer s H E B cs O R X hr hE hn hs => ⟨_, der_need_sizes T c1 (Nat.le_refl _) hr, ?_⟩
  obtain ⟨sz, rfl, hz, hR⟩ := hs
  unfold t_need_sizes
  walk_at "d"
  refine ⟨rfl, sz, rfl, hz, ?_⟩
  walk_at "d"
  refine Cs.isF rfl ?_
  walk_at "d"
  exact hR
end
section
variable {P : Program} {w : World} {K : PySem.W.Frag} {mg : Str → Option Value} {base : Heap}
def prodI (sz : List Int) : Int := sz.foldl (fun a b => a * b) 1
theorem prod_take {sz : List Int} {i : Nat} {x : Int} (h : sz[i]? = some x) : prodI (sz.take (i + 1)) = prodI (sz.take i) * x := by
  unfold prodI
  rw [List.take_add_one, h, List.foldl_append]
  rfl
def S_product : ASp := fun cs O R X => ∃ sz, cs = [.d (dSz sz)] ∧ SzOk sz ∧ R (.d (.int (prodI sz))) O
theorem product_ok (T : Tx mg) (Fd : Df K mg "product" s_product) : Cl P w K mg base "product" 1 1 S_product := by
  refine cl_of Fd sc_product rfl (fun _ _ _ _ _ _ _ us e hl => by subst e; exact match us, hl with | [_], _ => rfl) fun f cdv A outer s H E B cs O R X hr hE hn hs => ⟨_, der_product T hr, ?_⟩
  obtain ⟨sz, rfl, hz, hR⟩ := hs
  unfold t_product
  walk_at "d"
  refine ds_for (di_list (dx_var rfl ⟨_, rfl, fun i ρ2 O2 => O2 = O ∧ ∃ v, ρ2 = [some (.d (dSz sz)), some (.d (.int (prodI (sz.take i)))), v], ⟨rfl, none, rfl⟩, fun i d ρ2 O2 hd ⟨ho, v, hv⟩ => ⟨_, gd_name, ?_⟩, fun ρ2 O2 ⟨ho, v, hv⟩ => ?_⟩))
  · subst ho hv
    obtain ⟨x, hx, rfl⟩ := mem_ints (List.mem_of_getElem? hd)
    have hx2 : sz[i]? = some x := by
      unfold iD at hd
      rw [List.getElem?_map] at hd
      cases e : sz[i]? with
      | none => rw [e] at hd; cases hd
      | some y => rw [e] at hd; cases hd; rfl
    walk_at "d"
    refine d2_mul rfl rfl (.inr ?_) ?_
    · have := hz.rng x hx
      constructor <;> omega
    rw [← prod_take hx2]
    exact ⟨rfl, _, rfl⟩
  · subst ho hv
    rw [ints_len, List.take_length]
    walk_at "d"
    exact hR
/-- an ascending row of values below n -/
structure ValsOk (n : Int) (vs : List Int) : Prop where
  rng : ∀ v ∈ vs, 0 ≤ v ∧ v < n
  asc : vs.Pairwise (· < ·)
  len : vs.length ≤ 100
theorem asc_get {vs : List Int} (h : vs.Pairwise (· < ·)) {i : Nat} {x y : Int} (hx : vs[i]? = some x) (hy : vs[i + 1]? = some y) : x < y := by
  obtain ⟨h1, e1⟩ := List.getElem?_eq_some_iff.mp hx
  obtain ⟨h2, e2⟩ := List.getElem?_eq_some_iff.mp hy
  have := List.pairwise_iff_getElem.mp h i (i + 1) h1 h2 (Nat.lt_succ_self i)
  rw [e1, e2] at this
  exact this
def S_is_values : ASp := fun cs O R X => ∃ n vs, cs = [.d (.int n), .d (.tuple (iD vs))] ∧ ValsOk n vs ∧ R (.d (.bool true)) O
theorem mem_rgD {lo : Int} {n : Nat} {d : D} (h : d ∈ rgD lo n) : ∃ i : Nat, i < n ∧ d = .int (lo + i) := by
  unfold rgD at h
  obtain ⟨i, h1, h2⟩ := List.mem_map.mp h
  exact ⟨i, List.mem_range.mp h1, h2.symm⟩
theorem is_values_ok (T : Tx mg) (Fd : Df K mg "is_values" s_is_values) (c1 : Cl P w K mg base "is_below" 2 2 S_is_below) : Cl P w K mg base "is_values" 3 2 S_is_values := by
  refine cl_of Fd sc_is_values rfl (fun _ _ _ _ _ _ _ us e hl => by subst e; exact match us, hl with | [_, _], _ => rfl) fun f cdv A outer s H E B cs O R X hr hE hn hs => ⟨_, der_is_values T c1 (Nat.le_refl _) hr, ?_⟩
  obtain ⟨n, vs, rfl, hv, hR⟩ := hs
  unfold t_is_values
  walk_at "d"
  refine Cs.isF rfl ?_
  walk_at "d"
  refine dx_lcMap (fun d => .bool true) (di_tup (dx_var rfl ⟨_, rfl, fun d hd => ?_, ?_⟩))
  · obtain ⟨x, hx, rfl⟩ := mem_ints hd
    refine ⟨_, gd_name, by simp, ?_⟩
    walk_at "d"
    refine ⟨rfl, _, _, rfl, ?_, rfl⟩
    have := hv.rng x hx
    unfold isBelow
    simp
    omega
  walk_at "d"
  refine dc_allMap (p := fun _ => true) ?_
  rw [all_ints, List.all_eq_true.mpr fun _ _ => rfl]
  walk_at "d"
  refine Cs.isF rfl ?_
  walk_at "d"
  refine dx_lcMap (fun d => .bool true) (di_rng1 ?_)
  walk_at "d"
  rw [ints_len]
  have hl := hv.len
  refine ⟨_, rfl, by omega, by omega, fun d hd => ?_, ?_⟩
  · obtain ⟨i, hi, rfl⟩ := mem_rgD hd
    refine ⟨_, gd_name, by simp, ?_⟩
    have h1 : i + 1 < vs.length := by omega
    walk_at "d"
    refine d2_ixT (d := .int vs[i]) rfl rfl ?_ ?_
    · rw [Int.zero_add]; exact atI_nat (ints_get (List.getElem?_eq_getElem (by omega)))
    walk_at "d"
    refine d2_ixT (d := .int vs[i + 1]) rfl rfl ?_ ?_
    · rw [Int.zero_add]; exact atI_nat (ints_get (List.getElem?_eq_getElem h1))
    walk_at "d"
    refine ⟨?_, rfl⟩
    rw [decide_eq_true (asc_get hv.asc (List.getElem?_eq_getElem (by omega)) (List.getElem?_eq_getElem h1))]
  walk_at "d"
  refine dc_allMap (p := fun _ => true) ?_
  rw [List.all_eq_true.mpr fun _ _ => rfl]
  exact hR
/-! ### conditions, rules -/
abbrev Cond := Int × List Int
def dCond (c : Cond) : D := .tuple [.int c.1, .tuple (iD c.2)]
structure CondOk (sz : List Int) (c : Cond) : Prop where
  fld : 0 ≤ c.1 ∧ c.1 < sz.length
  vals : ValsOk (sz.getD c.1.toNat 0) c.2
theorem atI_sz {sz : List Int} {f : Int} (h : 0 ≤ f ∧ f < sz.length) : atI (iD sz) f = some (.int (sz.getD f.toNat 0)) := by
  have hf : f = (f.toNat : Int) := by omega
  rw [hf]
  refine atI_nat (ints_get ?_)
  rw [List.getD_eq_getElem?_getD, Int.toNat_natCast]
  have : f.toNat < sz.length := by omega
  rw [List.getElem?_eq_getElem this]
  rfl
def S_is_condition : ASp := fun cs O R X => ∃ sz c, cs = [.d (dSz sz), .d (dCond c)] ∧ CondOk sz c ∧ R (.d (.bool true)) O
theorem is_condition_ok (T : Tx mg) (Fd : Df K mg "is_condition" s_is_condition) (c1 : Cl P w K mg base "is_below" 2 2 S_is_below) (c2 : Cl P w K mg base "is_values" 3 2 S_is_values) : Cl P w K mg base "is_condition" 4 2 S_is_condition := by
  refine cl_of Fd sc_is_condition rfl (fun _ _ _ _ _ _ _ us e hl => by subst e; exact match us, hl with | [_, _], _ => rfl) fun f cdv A outer s H E B cs O R X hr hE hn hs => ⟨_, der_is_condition (k := 3) T c2 (by decide) c1 (by decide) hr, ?_⟩
  obtain ⟨sz, ⟨fl, vs⟩, rfl, hc, hR⟩ := hs
  unfold t_is_condition
  walk_at "d"
  refine Cs.isF rfl ?_
  unfold dCond
  walk_at "d"
  refine Cs.isF rfl ?_
  walk_at "d"
  refine d2_ixT (d := .int fl) rfl rfl rfl ?_
  walk_at "d"
  refine ⟨rfl, _, _, rfl, ?_⟩
  walk_at "d"
  have h := hc.fld
  refine Cs.isF ?_ ?_
  · rw [ints_len]
    unfold isBelow
    simp
    exact h
  walk_at "d"
  refine d2_ixT (d := .int fl) rfl rfl rfl ?_
  refine d2_ixL Vw.d rfl (atI_sz h) ?_
  walk_at "d"
  refine d2_ixT (d := .tuple (iD vs)) rfl rfl rfl ?_
  walk_at "d"
  exact ⟨rfl, _, _, rfl, hc.vals, hR⟩
def dConds (cs : List Cond) : D := .tuple (cs.map dCond)
structure CondsOk (sz : List Int) (cs : List Cond) : Prop where
  each : ∀ c ∈ cs, CondOk sz c
  asc : (cs.map (·.1)).Pairwise (· < ·)
  len : cs.length ≤ 100
def S_is_conditions : ASp := fun cs O R X => ∃ sz c, cs = [.d (dSz sz), .d (dConds c)] ∧ CondsOk sz c ∧ R (.d (.bool true)) O
theorem is_conditions_ok (T : Tx mg) (Fd : Df K mg "is_conditions" s_is_conditions) (c1 : Cl P w K mg base "is_condition" 4 2 S_is_condition) : Cl P w K mg base "is_conditions" 5 2 S_is_conditions := by
  refine cl_of Fd sc_is_conditions rfl (fun _ _ _ _ _ _ _ us e hl => by subst e; exact match us, hl with | [_, _], _ => rfl) fun f cdv A outer s H E B cs O R X hr hE hn hs => ⟨_, der_is_conditions T c1 (Nat.le_refl _) hr, ?_⟩
  obtain ⟨sz, cds, rfl, hc, hR⟩ := hs
  unfold t_is_conditions
  walk_at "d"
  refine Cs.isF rfl ?_
  unfold dConds
  walk_at "d"
  refine dx_lcMap (fun d => .bool true) (di_tup (dx_var rfl ⟨_, rfl, fun d hd => ?_, ?_⟩))
  · obtain ⟨x, hx, rfl⟩ := List.mem_map.mp hd
    refine ⟨_, gd_name, by simp, ?_⟩
    walk_at "d"
    exact ⟨rfl, _, _, rfl, hc.each x hx, rfl, rfl⟩
  walk_at "d"
  refine dc_allMap (p := fun _ => true) ?_
  rw [List.all_eq_true.mpr fun _ _ => rfl]
  walk_at "d"
  refine Cs.isF rfl ?_
  walk_at "d"
  refine dx_lcMap (fun d => .bool true) (di_rng1 ?_)
  walk_at "d"
  rw [List.length_map]
  have hl := hc.len
  refine ⟨_, rfl, by omega, by omega, fun d hd => ?_, ?_⟩
  · obtain ⟨i, hi, rfl⟩ := mem_rgD hd
    refine ⟨_, gd_name, by simp, ?_⟩
    have h1 : i + 1 < cds.length := by omega
    have h0 : i < cds.length := by omega
    walk_at "d"
    refine d2_ixT (d := dCond cds[i]) rfl rfl ?_ ?_
    · rw [Int.zero_add]; exact atI_nat (by rw [List.getElem?_map, List.getElem?_eq_getElem h0]; rfl)
    walk_at "d"
    refine d2_ixT (d := .int cds[i].1) rfl rfl rfl ?_
    walk_at "d"
    refine d2_ixT (d := dCond cds[i + 1]) rfl rfl ?_ ?_
    · rw [Int.zero_add]; exact atI_nat (by rw [List.getElem?_map, List.getElem?_eq_getElem h1]; rfl)
    walk_at "d"
    refine d2_ixT (d := .int cds[i + 1].1) rfl rfl rfl ?_
    walk_at "d"
    refine ⟨?_, rfl⟩
    rw [decide_eq_true (asc_get hc.asc (by rw [List.getElem?_map, List.getElem?_eq_getElem h0]; rfl) (by rw [List.getElem?_map, List.getElem?_eq_getElem h1]; rfl))]
  walk_at "d"
  refine dc_allMap (p := fun _ => true) ?_
  rw [List.all_eq_true.mpr fun _ _ => rfl]
  exact hR
abbrev Rule := List Cond × Bool
def dRule (r : Rule) : D := .tuple [dConds r.1, .bool r.2]
def S_is_rule : ASp := fun cs O R X => ∃ sz r, cs = [.d (dSz sz), .d (dRule r)] ∧ CondsOk sz r.1 ∧ R (.d (.bool true)) O
theorem is_rule_ok (T : Tx mg) (Fd : Df K mg "is_rule" s_is_rule) (c1 : Cl P w K mg base "is_conditions" 5 2 S_is_conditions) : Cl P w K mg base "is_rule" 6 2 S_is_rule := by
  refine cl_of Fd sc_is_rule rfl (fun _ _ _ _ _ _ _ us e hl => by subst e; exact match us, hl with | [_, _], _ => rfl) fun f cdv A outer s H E B cs O R X hr hE hn hs => ⟨_, der_is_rule T c1 (Nat.le_refl _) hr, ?_⟩
  obtain ⟨sz, ⟨cds, b⟩, rfl, hc, hR⟩ := hs
  unfold t_is_rule
  walk_at "d"
  refine Cs.isF rfl ?_
  unfold dRule
  walk_at "d"
  refine Cs.isF rfl ?_
  walk_at "d"
  refine d2_ixT (d := .bool b) rfl rfl rfl ?_
  walk_at "d"
  refine Cs.isF rfl ?_
  walk_at "d"
  refine d2_ixT (d := dConds cds) rfl rfl rfl ?_
  walk_at "d"
  exact ⟨rfl, _, _, rfl, hc, hR⟩
end
section
variable {P : Program} {w : World} {K : PySem.W.Frag} {mg : Str → Option Value} {base : Heap}
theorem iff_isT {p : Prop} {d : Decidable p} (h : p) : @decide p d = true := decide_eq_true h
theorem iff_isF {p : Prop} {d : Decidable p} (h : ¬p) : @decide p d = false := decide_eq_false h
def dRow (r : List Int) : D := .tuple (iD r)
/-- the weights of a card -/
structure WtsOk (sz : List Int) (ws : List (List Int)) : Prop where
  shape : ws.map (fun r => (r.length : Int)) = sz
theorem zp_mem {ws : List (List Int)} {sz : List Int} (h : ws.map (fun r => (r.length : Int)) = sz) {d : D} (hd : d ∈ zpD (ws.map dRow) (iD sz)) : ∃ r : List Int, d = .tuple [dRow r, .int r.length] := by
  subst h
  unfold zpD iD at hd
  rw [List.map_map] at hd
  induction ws with
  | nil => cases hd
  | cons a r ih =>
    cases hd with
    | head => exact ⟨a, rfl⟩
    | tail _ h => exact ih h
def S_is_weights : ASp := fun cs O R X => ∃ sz ws, cs = [.d (dSz sz), .d (.tuple (ws.map dRow))] ∧ SzOk sz ∧ WtsOk sz ws ∧ R (.d (.bool true)) O
theorem flat_len_le {α β : Type} {f : α → List β} (m : Nat) (l : List α) (h : ∀ a ∈ l, (f a).length ≤ m) : (l.flatMap f).length ≤ l.length * m := by
  induction l with
  | nil => simp
  | cons a r ih =>
    rw [List.flatMap_cons, List.length_append, List.length_cons, Nat.add_mul]
    have := h a List.mem_cons_self
    have := ih fun b hb => h b (List.mem_cons_of_mem _ hb)
    omega
theorem wts_len {sz : List Int} {ws : List (List Int)} (h : WtsOk sz ws) : ws.length = sz.length := by
  have := congrArg List.length h.shape
  rwa [List.length_map] at this
theorem wts_row {sz : List Int} {ws : List (List Int)} (hz : SzOk sz) (h : WtsOk sz ws) {r : List Int} (hr : r ∈ ws) : r.length ≤ 6 := by
  have h1 : (r.length : Int) ∈ sz := by rw [← h.shape]; exact List.mem_map_of_mem hr
  have := hz.rng _ h1
  omega
theorem is_weights_ok (T : Tx mg) (Fd : Df K mg "is_weights" s_is_weights) (c1 : Cl P w K mg base "is_whole" 1 1 S_is_whole) : Cl P w K mg base "is_weights" 2 2 S_is_weights := by
  refine cl_of Fd sc_is_weights rfl (fun _ _ _ _ _ _ _ us e hl => by subst e; exact match us, hl with | [_, _], _ => rfl) fun f cdv A outer s H E B cs O R X hr hE hn hs => ⟨_, der_is_weights (k := 1) T c1 (by decide) hr, ?_⟩
  obtain ⟨sz, ws, rfl, hz, hw, hR⟩ := hs
  unfold t_is_weights
  walk_at "d"
  refine Cs.isF rfl ?_
  walk_at "d"
  refine Cs.isF ?_ ?_
  · rw [List.length_map, ints_len, wts_len hw]; simp
  walk_at "d"
  refine dx_lcMap (fun d => .bool true) (di_zip ?_)
  walk_at "d"
  refine ⟨false, true, _, _, rfl, fun d hd => ?_, ?_⟩
  · obtain ⟨r, rfl⟩ := zp_mem hw.shape hd
    refine ⟨_, gd_tup (gds_cons gd_name (gds_cons gd_name gds_nil)) rfl, by simp, ?_⟩
    unfold dRow
    walk_at "d"
    refine Cs.isT rfl ?_
    walk_at "d"
    refine ⟨?_, rfl⟩
    rw [ints_len, decide_eq_true rfl]
  walk_at "d"
  refine dc_allMap (p := fun _ => true) ?_
  rw [List.all_eq_true.mpr fun _ _ => rfl]
  walk_at "d"
  refine Cs.isF rfl ?_
  walk_at "d"
  refine dx_lc2Map (fun d => match d with | .tuple xs => xs | _ => []) (fun d e => .bool true) (di_tup (dx_var rfl ⟨_, rfl, fun d hd => ?_, ?_, ?_⟩))
  · obtain ⟨r, hr, rfl⟩ := List.mem_map.mp hd
    refine ⟨_, gd_name, by simp, di_tup (dx_var rfl ?_)⟩
    refine ⟨_, rfl, rfl, rfl, fun e he => ?_⟩
    obtain ⟨x, hx, rfl⟩ := mem_ints he
    refine ⟨_, gd_name, by simp, ?_⟩
    walk_at "d"
    exact ⟨rfl, _, rfl, rfl, rfl⟩
  · rw [List.flatMap_map]
    have h1 := hz.len
    have h2 := wts_len hw
    refine Nat.le_trans (flat_len_le 6 ws fun r hr => ?_) ?_
    · unfold dRow
      show ((iD r).map _).length ≤ 6
      rw [List.length_map, ints_len]
      exact wts_row hz hw hr
    · unfold sizeLine; omega
  walk_at "d"
  rw [List.map_flatMap.symm]
  refine dc_allMap (p := fun _ => true) ?_
  rw [List.all_eq_true.mpr fun _ _ => rfl]
  exact hR
end
section
variable {P : Program} {w : World} {K : PySem.W.Frag} {mg : Str → Option Value} {base : Heap}
def wordOf (b : Bool) : Str := if b then "yes" else "no"
def wCond (c : Cond) : Str := strI c.1 ++ "=" ++ commasI c.2
def wRule (r : Rule) : List Str := [("(" : Str)] ++ r.1.map wCond ++ [(")" : Str), wordOf r.2]
def lettersI (bs : List Bool) : Str := Txt.join "" (bs.map fun b => if b then "y" else "n")
def bD (bs : List Bool) : List D := bs.map .bool
inductive Leaf (sz : List Int) : D → List Str → Prop
  | say (b : Bool) : Leaf sz (.tuple [.str "say", .bool b]) [wordOf b]
  | is (c : Cond) : CondOk sz c → Leaf sz (.tuple [.str "is", .int c.1, .tuple (iD c.2)]) ["is", strI c.1, commasI c.2]
  | rules (rs : List Rule) (b : Bool) : (∀ r ∈ rs, CondsOk sz r.1) → Leaf sz (.tuple [.str "rules", .tuple (rs.map dRule), .bool b]) ([("rules" : Str), ("(" : Str)] ++ rs.flatMap wRule ++ [(")" : Str), wordOf b])
  | card (ws : List (List Int)) (b : Int) : WtsOk sz ws → (∀ r ∈ ws, ∀ v ∈ r, v.natAbs ≤ 1000000) → b.natAbs ≤ 1000000 → Leaf sz (.tuple [.str "card", .tuple (ws.map dRow), .int b]) ([("card" : Str), ("(" : Str)] ++ ws.map commasI ++ [(")" : Str), strI b])
  | table (bs : List Bool) : (bs.length : Int) = prodI sz → prodI sz ≤ 1024 → Leaf sz (.tuple [.str "table", .tuple (bD bs)]) ["table", lettersI bs]
inductive Rows (p : D → List Str → Prop) : List D → List Str → Prop
  | nil : Rows p [] []
  | cons {d : D} {ds : List D} {ws wss : List Str} : p d ws → Rows p ds wss → Rows p (d :: ds) (ws ++ wss)
theorem Rows.mem {p : D → List Str → Prop} {ds : List D} {ws : List Str} (h : Rows p ds ws) {d : D} (hd : d ∈ ds) : ∃ ws, p d ws := by
  induction h with
  | nil => cases hd
  | cons h1 h2 ih =>
    cases hd with
    | head => exact ⟨_, h1⟩
    | tail _ hd => exact ih hd
inductive Conn : Str → Prop
  | and : Conn "and"
  | or : Conn "or"
  | odd : Conn "odd"
inductive Node (sz : List Int) (p : D → List Str → Prop) : D → List Str → Prop
  | leaf {d : D} {ws : List Str} : Leaf sz d ws → Node sz p d ws
  | not {d : D} {ws : List Str} : p d ws → Node sz p (.tuple [.str "not", d]) ("not" :: ws)
  | tree {f : Int} {ds : List D} {ws : List Str} : 0 ≤ f → f < sz.length → (ds.length : Int) = sz.getD f.toNat 0 → Rows p ds ws → Node sz p (.tuple [.str "tree", .int f, .tuple ds]) ([("tree" : Str), strI f] ++ ([("(" : Str)] ++ ws ++ [(")" : Str)]))
  | conn {k : Str} {ds : List D} {ws : List Str} : Conn k → Rows p ds ws → Node sz p (.tuple [.str k, .tuple ds]) ([k] ++ ([("(" : Str)] ++ ws ++ [(")" : Str)]))
/-- a form of the sheet of at most so many steps, and its words -/
def FW : Nat → List Int → D → List Str → Prop
  | 0, _ => fun _ _ => False
  | n + 1, sz => Node sz (FW n sz)
theorem mem_bools {bs : List Bool} {d : D} (h : d ∈ bD bs) : ∃ b, d = .bool b := by
  obtain ⟨b, _, h⟩ := List.mem_map.mp h
  exact ⟨b, h.symm⟩
def S_is_results : ASp := fun cs O R X => ∃ sz bs, cs = [.d (dSz sz), .d (.tuple (bD bs))] ∧ SzOk sz ∧ (bs.length : Int) = prodI sz ∧ prodI sz ≤ 1024 ∧ R (.d (.bool true)) O
theorem is_results_ok (T : Tx mg) (Fd : Df K mg "is_results" s_is_results) (c1 : Cl P w K mg base "product" 1 1 S_product) : Cl P w K mg base "is_results" 2 2 S_is_results := by
  refine cl_of Fd sc_is_results rfl (fun _ _ _ _ _ _ _ us e hl => by subst e; exact match us, hl with | [_, _], _ => rfl) fun f cdv A outer s H E B cs O R X hr hE hn hs => ⟨_, der_is_results (k := 1) T c1 (by decide) hr, ?_⟩
  obtain ⟨sz, bs, rfl, hz, h1, h2, hR⟩ := hs
  unfold t_is_results
  walk_at "d"
  refine ⟨rfl, sz, rfl, hz, ?_⟩
  walk_at "d"
  refine Cs.isF (iff_isF (by omega)) ?_
  walk_at "d"
  refine Cs.isF rfl ?_
  walk_at "d"
  refine ⟨rfl, sz, rfl, hz, ?_⟩
  walk_at "d"
  refine Cs.isF ?_ ?_
  · unfold bD; rw [List.length_map, h1]; simp
  walk_at "d"
  refine dx_lcMap (fun d => .bool true) (di_tup (dx_var rfl ⟨_, rfl, fun d hd => ?_, ?_⟩))
  · obtain ⟨b, rfl⟩ := mem_bools hd
    refine ⟨_, gd_name, by simp, ?_⟩
    walk_at "d"
    exact ⟨rfl, rfl⟩
  walk_at "d"
  refine dc_allMap (p := fun _ => true) ?_
  rw [List.all_eq_true.mpr fun _ _ => rfl]
  exact hR
abbrev FP := List Int → D → List Str → Prop
def S_fits (p : FP) : ASp := fun cs O R X => ∃ sz d ws, cs = [.d (dSz sz), .d d] ∧ SzOk sz ∧ p sz d ws ∧ R (.d (.bool true)) O
def S_is_all_forms (p : FP) : ASp := fun cs O R X => ∃ sz ds ws, cs = [.d (dSz sz), .d (.tuple ds)] ∧ SzOk sz ∧ Rows (p sz) ds ws ∧ R (.d (.bool true)) O
theorem is_all_forms_ok {n : FP} {j : Nat} (T : Tx mg) (Fd : Df K mg "is_all_forms" s_is_all_forms) (c1 : Cl P w K mg base "fits" j 2 (S_fits n)) : Cl P w K mg base "is_all_forms" (j + 1) 2 (S_is_all_forms n) := by
  refine cl_of Fd sc_is_all_forms rfl (fun _ _ _ _ _ _ _ us e hl => by subst e; exact match us, hl with | [_, _], _ => rfl) fun f cdv A outer s H E B cs O R X hr hE hn hs => ⟨_, der_is_all_forms T c1 (Nat.le_refl _) hr, ?_⟩
  obtain ⟨sz, ds, ws, rfl, hz, h1, hR⟩ := hs
  unfold t_is_all_forms
  walk_at "d"
  refine Cs.isT rfl ?_
  walk_at "d"
  refine dx_lcMap (fun d => .bool true) (di_tup (dx_var rfl ⟨_, rfl, fun d hd => ?_, ?_⟩))
  · obtain ⟨ws, h⟩ := h1.mem hd
    refine ⟨_, gd_name, by simp, ?_⟩
    walk_at "d"
    exact ⟨rfl, _, _, _, rfl, hz, h, rfl, rfl⟩
  walk_at "d"
  refine dc_allMap (p := fun _ => true) ?_
  rw [List.all_eq_true.mpr fun _ _ => rfl]
  exact hR
def S_is_branches (p : FP) : ASp := fun cs O R X => ∃ sz f ds ws, cs = [.d (dSz sz), .d (.int f), .d (.tuple ds)] ∧ SzOk sz ∧ 0 ≤ f ∧ f < sz.length ∧ (ds.length : Int) = sz.getD f.toNat 0 ∧ Rows (p sz) ds ws ∧ R (.d (.bool true)) O
theorem is_branches_ok {n : FP} {j : Nat} (T : Tx mg) (Fd : Df K mg "is_branches" s_is_branches) (c1 : Cl P w K mg base "is_below" 2 2 S_is_below) (c2 : Cl P w K mg base "is_all_forms" j 2 (S_is_all_forms n)) (hj : 2 ≤ j) : Cl P w K mg base "is_branches" (j + 1) 3 (S_is_branches n) := by
  refine cl_of Fd sc_is_branches rfl (fun _ _ _ _ _ _ _ us e hl => by subst e; exact match us, hl with | [_, _, _], _ => rfl) fun f cdv A outer s H E B cs O R X hr hE hn hs => ⟨_, der_is_branches T c1 hj c2 (Nat.le_refl _) hr, ?_⟩
  obtain ⟨sz, fl, ds, ws, rfl, hz, h1, h2, h3, h4, hR⟩ := hs
  unfold t_is_branches
  walk_at "d"
  refine ⟨rfl, _, _, rfl, ?_⟩
  walk_at "d"
  refine Cs.isT ?_ ?_
  · rw [ints_len]; unfold isBelow; simp; exact ⟨h1, h2⟩
  walk_at "d"
  refine ⟨rfl, _, _, _, rfl, hz, h4, ?_⟩
  walk_at "d"
  refine Cs.isT rfl ?_
  walk_at "d"
  refine d2_ixL Vw.d rfl (atI_sz ⟨h1, h2⟩) ?_
  walk_at "d"
  rw [decide_eq_true h3]
  exact hR
end
section
variable {P : Program} {w : World} {K : PySem.W.Frag} {mg : Str → Option Value} {base : Heap}
def S_fits_two (p : FP) : ASp := fun cs O R X => ∃ sz k d ws, cs = [.d (dSz sz), .d (.str k), .d d] ∧ SzOk sz ∧ Node sz (p sz) (.tuple [.str k, d]) ws ∧ R (.d (.bool true)) O
def S_fits_three (p : FP) : ASp := fun cs O R X => ∃ sz k d e ws, cs = [.d (dSz sz), .d (.str k), .d d, .d e] ∧ SzOk sz ∧ Node sz (p sz) (.tuple [.str k, d, e]) ws ∧ R (.d (.bool true)) O
theorem fits_two_ok {p : FP} {j : Nat} (T : Tx mg) (Fd : Df K mg "fits_two" s_fits_two) (c1 : Cl P w K mg base "is_all_forms" (j + 1) 2 (S_is_all_forms p)) (c2 : Cl P w K mg base "fits" j 2 (S_fits p)) (c3 : Cl P w K mg base "is_results" 2 2 S_is_results) (hj : 2 ≤ j) : Cl P w K mg base "fits_two" (j + 2) 3 (S_fits_two p) := by
  refine cl_of Fd sc_fits_two rfl (fun _ _ _ _ _ _ _ us e hl => by subst e; exact match us, hl with | [_, _, _], _ => rfl) fun f cdv A outer s H E B cs O R X hr hE hn hs => ⟨_, der_fits_two T c1 (Nat.le_refl _) c2 (Nat.le_succ _) c3 (by omega) hr, ?_⟩
  obtain ⟨sz, k, d, ws, rfl, hz, h, hR⟩ := hs
  unfold t_fits_two
  cases h with
  | leaf h =>
    cases h with
    | say b =>
      walk_at "d"
      refine Cs.isT (by decide) ?_
      walk_at "d"
      exact hR
    | table bs h1 h2 =>
      walk_at "d"
      refine Cs.isF (by decide) ?_
      walk_at "d"
      refine Cs.isT (by decide) ?_
      walk_at "d"
      exact ⟨rfl, _, _, rfl, hz, h1, h2, hR⟩
  | not h =>
    walk_at "d"
    refine Cs.isF (by decide) ?_
    walk_at "d"
    refine Cs.isF (by decide) ?_
    walk_at "d"
    refine Cs.isT (by decide) ?_
    walk_at "d"
    exact ⟨rfl, _, _, _, rfl, hz, h, hR⟩
  | conn hc h =>
    walk_at "d"
    refine Cs.isF (by cases hc <;> decide) ?_
    walk_at "d"
    refine Cs.isF (by cases hc <;> decide) ?_
    walk_at "d"
    refine Cs.isF (by cases hc <;> decide) ?_
    walk_at "d"
    cases hc
    all_goals
      refine d2_inT Vw.d rfl (by rfl) (by rfl) ?_
      walk_at "d"
      refine Cs.isT (by decide) ?_
      walk_at "d"
      exact ⟨rfl, _, _, _, rfl, hz, h, hR⟩
theorem fits_three_ok {p : FP} {j : Nat} (T : Tx mg) (Fd : Df K mg "fits_three" s_fits_three) (c1 : Cl P w K mg base "is_weights" 2 2 S_is_weights) (c2 : Cl P w K mg base "is_whole" 1 1 S_is_whole) (c3 : Cl P w K mg base "is_rule" 6 2 S_is_rule) (c4 : Cl P w K mg base "is_branches" (j + 2) 3 (S_is_branches p)) (c5 : Cl P w K mg base "is_condition" 4 2 S_is_condition) (hj : 4 ≤ j) : Cl P w K mg base "fits_three" (j + 3) 4 (S_fits_three p) := by
  refine cl_of Fd sc_fits_three rfl (fun _ _ _ _ _ _ _ us e hl => by subst e; exact match us, hl with | [_, _, _, _], _ => rfl) fun f cdv A outer s H E B cs O R X hr hE hn hs => ⟨_, der_fits_three T c1 (by omega) c2 (by omega) c3 (by omega) c4 (Nat.le_refl _) c5 (by omega) hr, ?_⟩
  obtain ⟨sz, k, d, e, ws, rfl, hz, h, hR⟩ := hs
  unfold t_fits_three
  cases h with
  | leaf h =>
    cases h with
    | is c hc =>
      walk_at "d"
      refine Cs.isT (by decide) ?_
      walk_at "d"
      exact ⟨rfl, _, _, rfl, hc, hR⟩
    | rules rs b hb =>
      walk_at "d"
      refine Cs.isF (by decide) ?_
      walk_at "d"
      refine Cs.isF (by decide) ?_
      walk_at "d"
      refine Cs.isT (by decide) ?_
      walk_at "d"
      refine Cs.isT rfl ?_
      walk_at "d"
      refine dx_lcMap (fun d => .bool true) (di_tup (dx_var rfl ⟨_, rfl, fun d hd => ?_, ?_⟩))
      · obtain ⟨r, h1, rfl⟩ := List.mem_map.mp hd
        refine ⟨_, gd_name, by simp, ?_⟩
        walk_at "d"
        exact ⟨rfl, _, _, rfl, hb r h1, rfl, rfl⟩
      walk_at "d"
      refine dc_allMap (p := fun _ => true) ?_
      rw [List.all_eq_true.mpr fun _ _ => rfl]
      walk_at "d"
      refine Cs.isT rfl ?_
      walk_at "d"
      exact hR
    | card ws b h1 h2 h3 =>
      walk_at "d"
      refine Cs.isF (by decide) ?_
      walk_at "d"
      refine Cs.isF (by decide) ?_
      walk_at "d"
      refine Cs.isF (by decide) ?_
      walk_at "d"
      refine Cs.isT (by decide) ?_
      walk_at "d"
      refine ⟨rfl, _, _, rfl, hz, h1, ?_⟩
      walk_at "d"
      refine Cs.isT rfl ?_
      walk_at "d"
      exact ⟨rfl, _, rfl, hR⟩
  | tree h1 h2 h3 h4 =>
    walk_at "d"
    refine Cs.isF (by decide) ?_
    walk_at "d"
    refine Cs.isT (by decide) ?_
    walk_at "d"
    exact ⟨rfl, _, _, _, _, rfl, hz, h1, h2, h3, h4, hR⟩
theorem fits_ok {p : FP} {j : Nat} (T : Tx mg) (Fd : Df K mg "fits" s_fits) (c1 : Cl P w K mg base "fits_three" (j + 3) 4 (S_fits_three p)) (c2 : Cl P w K mg base "fits_two" (j + 2) 3 (S_fits_two p)) : Cl P w K mg base "fits" (j + 4) 2 (S_fits fun sz => Node sz (p sz)) := by
  refine cl_of Fd sc_fits rfl (fun _ _ _ _ _ _ _ us e hl => by subst e; exact match us, hl with | [_, _], _ => rfl) fun f cdv A outer s H E B cs O R X hr hE hn hs => ⟨_, der_fits T c1 (Nat.le_refl _) c2 (Nat.le_succ _) hr, ?_⟩
  obtain ⟨sz, d, ws, rfl, hz, h, hR⟩ := hs
  have two : ∀ (k : Str) (d : D), Node sz (p sz) (.tuple [.str k, d]) ws → DS B (t_fits K (S_fits_three p) (S_fits_two p)) (startE n_fits [.d (dSz sz), .d (.tuple [.str k, d])]) O { nx := fun _ O' => R (.d .none) O', rt := R } := fun k d h => by
    unfold t_fits
    walk_at "d"
    refine Cs.isF rfl ?_
    walk_at "d"
    refine d2_notInT Vw.d rfl (by rfl) (by rfl) ?_
    walk_at "d"
    refine Cs.isF (by show (![PyData.int 2, .int 3].any fun z => PyData.eqv z (.int 2)) = false; decide) ?_
    walk_at "d"
    refine d2_ixT (d := .str k) rfl rfl rfl ?_
    walk_at "d"
    refine Cs.isF rfl ?_
    walk_at "d"
    refine Cs.isT (by show decide ((2 : Int) = 2) = _; decide) ?_
    walk_at "d"
    refine d2_ixT (d := .str k) rfl rfl rfl ?_
    walk_at "d"
    refine d2_ixT (d := d) rfl rfl rfl ?_
    walk_at "d"
    exact ⟨rfl, _, _, _, _, rfl, hz, h, hR⟩
  have three : ∀ (k : Str) (d e : D), Node sz (p sz) (.tuple [.str k, d, e]) ws → DS B (t_fits K (S_fits_three p) (S_fits_two p)) (startE n_fits [.d (dSz sz), .d (.tuple [.str k, d, e])]) O { nx := fun _ O' => R (.d .none) O', rt := R } := fun k d e h => by
    unfold t_fits
    walk_at "d"
    refine Cs.isF rfl ?_
    walk_at "d"
    refine d2_notInT Vw.d rfl (by rfl) (by rfl) ?_
    walk_at "d"
    refine Cs.isF (by show (![PyData.int 2, .int 3].any fun z => PyData.eqv z (.int 3)) = false; decide) ?_
    walk_at "d"
    refine d2_ixT (d := .str k) rfl rfl rfl ?_
    walk_at "d"
    refine Cs.isF rfl ?_
    walk_at "d"
    refine Cs.isF (by show decide ((3 : Int) = 2) = _; decide) ?_
    walk_at "d"
    refine d2_ixT (d := .str k) rfl rfl rfl ?_
    walk_at "d"
    refine d2_ixT (d := d) rfl rfl rfl ?_
    walk_at "d"
    refine d2_ixT (d := e) rfl rfl rfl ?_
    walk_at "d"
    exact ⟨rfl, _, _, _, _, _, rfl, hz, h, hR⟩
  cases h with
  | leaf h => cases h with
    | say => exact two _ _ (.leaf (.say _))
    | is c hc => exact three _ _ _ (.leaf (.is c hc))
    | rules rs b hb => exact three _ _ _ (.leaf (.rules rs b hb))
    | card ws b h1 h2 h3 => exact three _ _ _ (.leaf (.card ws b h1 h2 h3))
    | table bs h1 h2 => exact two _ _ (.leaf (.table bs h1 h2))
  | not h => exact two _ _ (.not h)
  | tree h1 h2 h3 h4 => exact three _ _ _ (.tree h1 h2 h3 h4)
  | conn hc h => exact two _ _ (.conn hc h)
theorem cl_no {x : Str} {st : Stmt} {N ps : List Str} {n k : Nat} (Fd : Df K mg x st) (sc : FnScope N ps (defScope st)) (hp : ps.length = n)
    (hb : ∀ (dV kV doc pm : Value) (an : Option Addr) (cdv ct : Value) (us : List Value), dV = .none → us.length = ps.length → bindArgs (PySem.W.fnOf x x (defArgs st) (defBody st) (defScope st) dV kV doc pm an cdv ct) ⟨us, []⟩ = pure (ps.zip us)) : Cl P w K mg base x (k + 1) n fun _ _ _ _ => False :=
  cl_of Fd sc hp hb fun _ _ _ _ _ _ _ _ _ _ _ _ _ _ _ hs => hs.elim
/-- the whole tower of the forms -/
theorem fits_all (T : Tx mg) (Fd : Df K mg "fits" s_fits) (F2 : Df K mg "fits_two" s_fits_two) (F3 : Df K mg "fits_three" s_fits_three) (Fa : Df K mg "is_all_forms" s_is_all_forms) (Fb : Df K mg "is_branches" s_is_branches)
    (c1 : Cl P w K mg base "is_weights" 2 2 S_is_weights) (c2 : Cl P w K mg base "is_whole" 1 1 S_is_whole) (c3 : Cl P w K mg base "is_rule" 6 2 S_is_rule) (c5 : Cl P w K mg base "is_condition" 4 2 S_is_condition) (c6 : Cl P w K mg base "is_results" 2 2 S_is_results) (c7 : Cl P w K mg base "is_below" 2 2 S_is_below) :
    ∀ n, Cl P w K mg base "fits" (4 + 4 * n) 2 (S_fits (FW n))
  | 0 => (cl_no (k := 3) Fd sc_fits rfl (fun _ _ _ _ _ _ _ us e hl => by subst e; exact match us, hl with | [_, _], _ => rfl)).imp fun cs O R X ⟨sz, d, ws, h1, h2, h3, h4⟩ => h3
  | n + 1 => by
    have c := fits_all T Fd F2 F3 Fa Fb c1 c2 c3 c5 c6 c7 n
    have h4 : 4 ≤ 4 + 4 * n := Nat.le_add_right _ _
    have ca := is_all_forms_ok T Fa c
    have cb := is_branches_ok T Fb c7 ca (Nat.le_trans (by decide) (Nat.le_succ_of_le h4))
    exact fits_ok T Fd (fits_three_ok T F3 c1 c2 c3 cb c5 h4) (fits_two_ok T F2 ca c c6 (Nat.le_trans (by decide) h4))
end
section
variable {P : Program} {w : World} {K : PySem.W.Frag} {mg : Str → Option Value} {base : Heap}
def S_need_form (p : FP) : ASp := fun cs O R X => ∃ sz d ws, cs = [.d (dSz sz), .d d] ∧ SzOk sz ∧ p sz d ws ∧ R (.d .none) O
theorem need_form_ok {p : FP} {j : Nat} (T : Tx mg) (Fd : Df K mg "need_form" s_need_form) (c1 : Cl P w K mg base "fits" j 2 (S_fits p)) : Cl P w K mg base "need_form" (j + 1) 2 (S_need_form p) := by
  refine cl_of Fd sc_need_form rfl (fun _ _ _ _ _ _ _ us e hl => by subst e; exact match us, hl with | [_, _], _ => rfl) fun f cdv A outer s H E B cs O R X hr hE hn hs => ⟨_, der_need_form T c1 (Nat.le_refl _) hr, ?_⟩
  obtain ⟨sz, d, ws, rfl, hz, h1, hR⟩ := hs
  unfold t_need_form
  walk_at "d"
  refine ⟨rfl, sz, d, ws, rfl, hz, h1, ?_⟩
  walk_at "d"
  refine Cs.isF rfl ?_
  walk_at "d"
  exact hR
def S_word_of : ASp := fun cs O R X => ∃ b, cs = [.d (.bool b)] ∧ R (.d (.str (wordOf b))) O
theorem word_of_ok (T : Tx mg) (Fd : Df K mg "word_of" s_word_of) : Cl P w K mg base "word_of" 1 1 S_word_of := by
  refine cl_of Fd sc_word_of rfl (fun _ _ _ _ _ _ _ us e hl => by subst e; exact match us, hl with | [_], _ => rfl) fun f cdv A outer s H E B cs O R X hr hE hn hs => ⟨_, der_word_of T hr, ?_⟩
  obtain ⟨b, rfl, hR⟩ := hs
  unfold t_word_of
  walk_at "d"
  cases b
  · refine Cs.isF rfl ?_
    walk_at "d"
    exact hR
  · refine Cs.isT rfl ?_
    walk_at "d"
    exact hR
def sD (ws : List Str) : List D := ws.map .str
/-- the numbers that a text can hold -/
def SmallI (vs : List Int) : Prop := vs.length ≤ 100 ∧ ∀ v ∈ vs, v.natAbs ≤ 1000000
def strD : D → D
  | .int i => .str (strI i)
  | d => d
theorem sD_ints (vs : List Int) : (iD vs).map strD = sD (vs.map strI) := by
  unfold iD sD
  rw [List.map_map, List.map_map]; rfl
def S_with_commas : ASp := fun cs O R X => ∃ vs, cs = [.d (.tuple (iD vs))] ∧ SmallI vs ∧ R (.d (.str (commasI vs))) O
theorem lay_ints (vs : List Int) : SeqAt.shaped (.tuple (iD vs)) = true := shaped_tuple (flatN_ints vs)
theorem eqv_nilT (vs : List Int) : PyData.eqv (.tuple (iD vs)) (.tuple []) = decide (vs = []) := by
  cases vs with
  | nil => simp [iD, PyData.eqv]; rfl
  | cons a r => simp [iD, PyData.eqv, PyData.eqvAll]
theorem wl_ints {vs : List Int} (h : SmallI vs) : wl (vs.map strI) ≤ 900 := by
  have := wl_map strI 8 vs fun a ha => strI_len (h.2 a ha)
  have := h.1
  omega
theorem with_commas_ok (T : Tx mg) (Fd : Df K mg "with_commas" s_with_commas) : Cl P w K mg base "with_commas" 1 1 S_with_commas := by
  refine cl_of Fd sc_with_commas rfl (fun _ _ _ _ _ _ _ us e hl => by subst e; exact match us, hl with | [_], _ => rfl) fun f cdv A outer s H E B cs O R X hr hE hn hs => ⟨_, der_with_commas T hr, ?_⟩
  obtain ⟨vs, rfl, hv, hR⟩ := hs
  unfold t_with_commas
  walk_at "d"
  refine d2_neD Vw.d Vw.d (lay_ints vs) (lay_ints []) ?_
  walk_at "d"
  have e := eqv_nilT vs
  unfold commasI at hR
  refine ⟨fun hb => ?_, fun hb => ?_⟩
  · have hv0 : vs ≠ [] := by
      intro z
      rw [e, decide_eq_true z] at hb
      exact absurd hb (by decide)
    rw [if_neg hv0] at hR
    walk_at "d"
    refine ⟨⟨_, rfl⟩, ?_⟩
    refine dx_lcMap strD (di_tup (dx_var rfl ⟨_, rfl, fun d hd => ?_, ?_⟩))
    · obtain ⟨x, hx, rfl⟩ := mem_ints hd
      refine ⟨_, gd_name, by simp, ?_⟩
      walk_at "d"
      exact dc_strI rfl (hv.2 x hx) ⟨rfl, rfl⟩
    refine dm_joinE (vs.map strI) rfl rfl (sD_ints vs) (by decide) ?_ hR
    have := wl_ints hv
    omega
  · have hv0 : vs = [] := by
      rw [e] at hb
      exact Decidable.byContradiction fun z => by rw [decide_eq_false z] at hb; exact absurd hb (by decide)
    rw [if_pos hv0] at hR
    walk_at "d"
    exact hR
def ynS (b : Bool) : Str := if b then "y" else "n"
def ynD : D → D
  | .bool b => .str (ynS b)
  | d => d
theorem sD_bools (bs : List Bool) : (bD bs).map ynD = sD (bs.map ynS) := by
  unfold bD sD
  rw [List.map_map, List.map_map]; rfl
theorem ynS_len (b : Bool) : (ynS b).length ≤ 1 := by cases b <;> decide
def S_letters_of : ASp := fun cs O R X => ∃ bs, cs = [.d (.tuple (bD bs))] ∧ bs.length ≤ 1024 ∧ R (.d (.str (lettersI bs))) O
theorem letters_of_ok (T : Tx mg) (Fd : Df K mg "letters_of" s_letters_of) : Cl P w K mg base "letters_of" 1 1 S_letters_of := by
  refine cl_of Fd sc_letters_of rfl (fun _ _ _ _ _ _ _ us e hl => by subst e; exact match us, hl with | [_], _ => rfl) fun f cdv A outer s H E B cs O R X hr hE hn hs => ⟨_, der_letters_of T hr, ?_⟩
  obtain ⟨bs, rfl, hl, hR⟩ := hs
  unfold t_letters_of
  walk_at "d"
  refine ⟨⟨_, rfl⟩, ?_⟩
  refine dx_lcMap ynD (di_tup (dx_var rfl ⟨_, rfl, fun d hd => ?_, ?_⟩))
  · obtain ⟨b, rfl⟩ := mem_bools hd
    refine ⟨_, gd_name, by simp, ?_⟩
    walk_at "d"
    cases b
    · refine Cs.isF rfl ?_
      walk_at "d"
      exact ⟨rfl, rfl⟩
    · refine Cs.isT rfl ?_
      walk_at "d"
      exact ⟨rfl, rfl⟩
  refine dm_joinE (bs.map ynS) rfl rfl (sD_bools bs) (by decide) ?_ hR
  have := wl_map ynS 1 bs fun b _ => ynS_len b
  omega
/-- what a rule's conditions hold -/
theorem vals_small {n : Int} {vs : List Int} (h : ValsOk n vs) (hn : n ≤ 1000000) : SmallI vs := ⟨h.len, fun v hv => by have := h.rng v hv; omega⟩
theorem sz_getD {sz : List Int} (hz : SzOk sz) {f : Int} (h : 0 ≤ f ∧ f < sz.length) : 2 ≤ sz.getD f.toNat 0 ∧ sz.getD f.toNat 0 ≤ 6 := by
  have h1 : f.toNat < sz.length := by omega
  rw [List.getD_eq_getElem?_getD, List.getElem?_eq_getElem h1]
  exact hz.rng _ (List.getElem_mem h1)
theorem cond_small {sz : List Int} {c : Cond} (hz : SzOk sz) (h : CondOk sz c) : c.1.natAbs ≤ 1000000 ∧ SmallI c.2 := by
  have h1 := h.fld
  have h2 := hz.len
  have h3 := sz_getD hz h1
  exact ⟨by omega, vals_small h.vals (by omega)⟩
def ofInt : D → Option Int
  | .int i => some i
  | _ => none
def wCondD : D → D
  | .tuple [.int f, .tuple vs] => .str (strI f ++ "=" ++ commasI (vs.filterMap ofInt))
  | d => d
theorem ints_back (vs : List Int) : (iD vs).filterMap ofInt = vs := by
  unfold iD
  induction vs with
  | nil => rfl
  | cons a r ih => rw [List.map_cons, List.filterMap_cons]; show a :: _ = _; rw [ih]
theorem wCondD_eq (c : Cond) : wCondD (dCond c) = .str (wCond c) := by
  unfold dCond wCondD wCond
  simp only
  rw [ints_back]
theorem sD_conds (cs : List Cond) : (cs.map dCond).map wCondD = sD (cs.map wCond) := by
  unfold sD
  rw [List.map_map, List.map_map]
  exact List.map_congr_left fun c _ => wCondD_eq c
theorem sD_app (a b : List Str) : sD (a ++ b) = sD a ++ sD b := List.map_append
theorem sD_len (a : List Str) : (sD a).length = a.length := List.length_map _
def S_words_of_rule : ASp := fun cs O R X => ∃ sz r, cs = [.d (dRule r)] ∧ SzOk sz ∧ CondsOk sz r.1 ∧ R (.d (.list (sD (wRule r)))) O
theorem words_of_rule_ok (T : Tx mg) (Fd : Df K mg "words_of_rule" s_words_of_rule) (c1 : Cl P w K mg base "word_of" 1 1 S_word_of) (c2 : Cl P w K mg base "with_commas" 1 1 S_with_commas) : Cl P w K mg base "words_of_rule" 2 1 S_words_of_rule := by
  refine cl_of Fd sc_words_of_rule rfl (fun _ _ _ _ _ _ _ us e hl => by subst e; exact match us, hl with | [_], _ => rfl) fun f cdv A outer s H E B cs O R X hr hE hn hs => ⟨_, der_words_of_rule (k := 1) T c1 (by decide) c2 (by decide) hr, ?_⟩
  obtain ⟨sz, ⟨cds, b⟩, rfl, hz, hc, hR⟩ := hs
  unfold t_words_of_rule
  walk_at "d"
  unfold dRule
  refine DG.gd (gd_tup (gds_cons gd_name (gds_cons gd_name gds_nil)) rfl) ?_
  walk_at "d"
  unfold dConds
  refine dx_lcMap wCondD (di_tup (dx_var rfl ⟨_, rfl, fun d hd => ?_, ?_⟩))
  · obtain ⟨c, hc1, rfl⟩ := List.mem_map.mp hd
    obtain ⟨h1, h2⟩ := cond_small hz (hc.each c hc1)
    rw [wCondD_eq]
    refine ⟨_, gd_tup (gds_cons gd_name (gds_cons gd_name gds_nil)) rfl, by simp, ?_⟩
    walk_at "d"
    refine dc_strI rfl h1 ?_
    walk_at "d"
    have l1 := strI_len h1
    have l2 := commas_len h2.2
    have l3 := h2.1
    have l4 : ("=" : Str).length = 1 := by decide
    refine d2_addS rfl rfl (by unfold sizeLine; omega) ?_
    walk_at "d"
    refine ⟨rfl, c.2, rfl, h2, ?_⟩
    refine d2_addS rfl rfl (by unfold sizeLine; rw [Str.length_append]; omega) ?_
    exact ⟨rfl, rfl⟩
  rw [sD_conds]
  walk_at "d"
  have hl : cds.length ≤ 100 := hc.len
  refine d2_addL Vw.d Vw.d (by rw [sD_len, List.length_map]; simp [sizeLine]; omega) ?_
  walk_at "d"
  refine ⟨rfl, b, rfl, ?_⟩
  walk_at "d"
  refine d2_addL Vw.d Vw.d (by rw [List.length_append, sD_len, List.length_map]; simp [sizeLine]; omega) ?_
  unfold wRule at hR
  rw [sD_app, sD_app] at hR
  exact hR
end
section
variable {P : Program} {w : World} {K : PySem.W.Frag} {mg : Str → Option Value} {base : Heap}
def S_words_of (p : FP) : ASp := fun cs O R X => ∃ sz d ws, cs = [.d d] ∧ SzOk sz ∧ p sz d ws ∧ wl ws ≤ 1000000 ∧ R (.d (.list (sD ws))) O
def S_words_of_all (p : FP) : ASp := fun cs O R X => ∃ sz ds ws, cs = [.d (.tuple ds)] ∧ SzOk sz ∧ Rows (p sz) ds ws ∧ wl ws ≤ 1000000 ∧ R (.d (.list (sD ([("(" : Str)] ++ ws ++ [(")" : Str)])))) O
/-- the words of the first so many rows -/
theorem Rows.steps {p : D → List Str → Prop} {ds : List D} {ws : List Str} (h : Rows p ds ws) : ∃ W : Nat → List Str, W 0 = [] ∧ W ds.length = ws ∧ (∀ i d, ds[i]? = some d → ∃ u, p d u ∧ W (i + 1) = W i ++ u) ∧ ∀ i, i ≤ ds.length → wl (W i) ≤ wl ws := by
  induction h with
  | nil => exact ⟨fun _ => [], rfl, rfl, fun i d h => by simp at h, fun i hi => Nat.le_refl _⟩
  | @cons d ds ws wss h1 h2 ih =>
    obtain ⟨W, w0, w1, w2, w3⟩ := ih
    refine ⟨fun i => match i with | 0 => [] | i + 1 => ws ++ W i, rfl, ?_, fun i e hi => ?_, fun i hi => ?_⟩
    · show ws ++ W ds.length = _; rw [w1]
    · cases i with
      | zero =>
        cases hi
        exact ⟨ws, h1, by show ws ++ W 0 = [] ++ ws; rw [w0]; simp⟩
      | succ i =>
        obtain ⟨u, hu, hw⟩ := w2 i e (by simpa using hi)
        exact ⟨u, hu, by show ws ++ W (i + 1) = ws ++ W i ++ u; rw [hw, List.append_assoc]⟩
    · cases i with
      | zero => exact Nat.zero_le _
      | succ i =>
        show wl (ws ++ W i) ≤ _
        rw [wl_app, wl_app]
        have := w3 i (by simpa using hi)
        omega
theorem wl_one (x : Str) : wl [x] = x.length + 1 := by rw [wl_cons, wl_nil]
theorem words_of_all_ok {p : FP} {j : Nat} (T : Tx mg) (Fd : Df K mg "words_of_all" s_words_of_all) (c1 : Cl P w K mg base "words_of" j 1 (S_words_of p)) : Cl P w K mg base "words_of_all" (j + 1) 1 (S_words_of_all p) := by
  refine cl_ofT Fd sc_words_of_all rfl (fun _ _ _ _ _ _ _ us e hl => by subst e; exact match us, hl with | [_], _ => rfl) fun f cdv A outer s H E B cs O R X hr hE hn hs => ⟨_, der_words_of_all T c1 (Nat.le_refl _) hr, ?_⟩
  obtain ⟨sz, ds, ws, rfl, hz, h1, h2, hR⟩ := hs
  obtain ⟨W, w0, w1, w2, w3⟩ := h1.steps
  unfold t_words_of_all
  walk_at "d1"
  walk_at "d1"
  refine dx_lstO ?_
  walk_at "d"
  refine ds_for (di_tup (dx_var rfl ⟨_, rfl, fun i ρ2 O2 => ∃ v, ρ2 = [some (.d (.tuple ds)), some (.o O.length), v] ∧ O2 = O ++ [some (.lst (sD ([("(" : Str)] ++ W i)))], ⟨none, rfl, by rw [w0]; rfl⟩, fun i d ρ2 O2 hd ⟨v, hv, ho⟩ => ⟨_, gd_name, ?_⟩, fun ρ2 O2 ⟨v, hv, ho⟩ => ?_⟩))
  · subst ho hv
    obtain ⟨u, hu, hw⟩ := w2 i d hd
    have hi : i < ds.length := (List.getElem?_eq_some_iff.mp hd).1
    have l1 := w3 (i + 1) hi
    rw [hw, wl_app] at l1
    refine ds_aug (c := .o O.length) rfl ?_
    walk_at "d"
    refine ⟨rfl, sz, d, u, rfl, hz, hu, by omega, ?_⟩
    have l2 := wl_len u
    have l3 := wl_len (W i)
    refine d2_iext (k := O.length) (ds := sD ([("(" : Str)] ++ W i)) rfl (by simp) Vw.d (by rw [sD_len, sD_len, List.length_append]; simp [sizeLine]; omega) ?_
    refine ⟨_, rfl, ?_⟩
    rw [hw, ← List.append_assoc, sD_app ([("(" : Str)] ++ W i) u]
    simp
  · subst ho hv
    rw [w1]
    walk_at "d"
    have l2 := wl_len ws
    refine d2_addL (Vw.o (k := O.length) (ds := sD ([("(" : Str)] ++ ws)) (by simp) (by rw [sD_len, List.length_append]; simp [sizeLine]; omega)) Vw.d (by rw [sD_len, List.length_append]; simp [sizeLine]; omega) ?_
    rw [sD_app] at hR
    exact Tr.app hR
end
section
variable {P : Program} {w : World} {K : PySem.W.Frag} {mg : Str → Option Value} {base : Heap}
def ruleW : D → List D
  | .tuple [.tuple cs, .bool b] => [.str "("] ++ cs.map wCondD ++ [.str ")", .str (wordOf b)]
  | _ => []
theorem ruleW_eq (r : Rule) : ruleW (dRule r) = sD (wRule r) := by
  unfold dRule dConds ruleW wRule
  show [PyData.str "("] ++ (r.1.map dCond).map wCondD ++ _ = _
  rw [sD_conds, sD_app, sD_app]
  rfl
theorem rules_flat (rs : List Rule) : (rs.map dRule).flatMap (fun d => (ruleW d).map fun e => e) = sD (rs.flatMap wRule) := by
  unfold sD
  rw [List.flatMap_map, List.map_flatMap]
  refine congrArg (fun f => List.flatMap f rs) ?_
  funext r
  rw [ruleW_eq]
  exact List.map_id' _
def commaD : D → D
  | .tuple vs => .str (commasI (vs.filterMap ofInt))
  | d => d
theorem commaD_eq (r : List Int) : commaD (dRow r) = .str (commasI r) := by
  unfold dRow commaD
  simp only
  rw [ints_back]
theorem sD_rows (ws : List (List Int)) : (ws.map dRow).map commaD = sD (ws.map commasI) := by
  unfold sD
  rw [List.map_map, List.map_map]
  exact List.map_congr_left fun c _ => commaD_eq c
theorem words_of_ok {p : FP} {j : Nat} (T : Tx mg) (Fd : Df K mg "words_of" s_words_of) (c1 : Cl P w K mg base "words_of" j 1 (S_words_of p)) (c2 : Cl P w K mg base "words_of_all" (j + 1) 1 (S_words_of_all p)) (c3 : Cl P w K mg base "letters_of" 1 1 S_letters_of)
    (c4 : Cl P w K mg base "with_commas" 1 1 S_with_commas) (c5 : Cl P w K mg base "word_of" 1 1 S_word_of) (c6 : Cl P w K mg base "words_of_rule" 2 1 S_words_of_rule) (hj : 2 ≤ j) : Cl P w K mg base "words_of" (j + 2) 1 (S_words_of fun sz => Node sz (p sz)) := by
  refine cl_of Fd sc_words_of rfl (fun _ _ _ _ _ _ _ us e hl => by subst e; exact match us, hl with | [_], _ => rfl) fun f cdv A outer s H E B cs O R X hr hE hn hs => ⟨_, der_words_of T c1 (Nat.le_succ _) c2 (Nat.le_refl _) c3 (by omega) c4 (by omega) c5 (by omega) c6 (by omega) hr, ?_⟩
  obtain ⟨sz, d, ws, rfl, hz, h, hw, hR⟩ := hs
  have l0 := wl_len ws
  unfold t_words_of
  cases h with
  | leaf h =>
    cases h with
    | say b =>
      walk_at "d"
      refine d2_ixT (d := .str "say") rfl rfl rfl ?_
      walk_at "d"
      refine Cs.isT (by decide) ?_
      walk_at "d"
      refine d2_ixT (d := .bool b) rfl rfl rfl ?_
      walk_at "d"
      refine ⟨rfl, b, rfl, ?_⟩
      walk_at "d"
      exact hR
    | is c hc =>
      obtain ⟨h1, h2⟩ := cond_small hz hc
      walk_at "d"
      refine d2_ixT (d := .str "is") rfl rfl rfl ?_
      walk_at "d"
      refine Cs.isF (by decide) ?_
      walk_at "d"
      refine Cs.isT (by decide) ?_
      walk_at "d"
      refine d2_ixT (d := .int c.1) rfl rfl rfl ?_
      walk_at "d"
      refine dc_strI rfl h1 ?_
      walk_at "d"
      refine d2_ixT (d := .tuple (iD c.2)) rfl rfl rfl ?_
      walk_at "d"
      refine ⟨rfl, c.2, rfl, h2, ?_⟩
      walk_at "d"
      exact hR
    | rules rs b hb =>
      have l1 : (rs.flatMap wRule).length ≤ 1000000 := by
        rw [List.length_append, List.length_append] at l0
        omega
      walk_at "d"
      refine d2_ixT (d := .str "rules") rfl rfl rfl ?_
      walk_at "d"
      refine Cs.isF (by decide) ?_
      walk_at "d"
      refine Cs.isF (by decide) ?_
      walk_at "d"
      refine Cs.isF (by decide) ?_
      walk_at "d"
      refine Cs.isT (by decide) ?_
      walk_at "d"
      refine dx_lc2Map ruleW (fun _ e => e) (di_tup ?_)
      walk_at "d"
      refine d2_ixT (d := .tuple (rs.map dRule)) rfl rfl rfl ⟨_, rfl, fun d hd => ?_, ?_, ?_⟩
      · obtain ⟨r, h1, rfl⟩ := List.mem_map.mp hd
        refine ⟨_, gd_name, by simp, di_list ?_⟩
        walk_at "d"
        refine ⟨rfl, sz, r, rfl, hz, hb r h1, _, rfl, (ruleW_eq r).symm, rfl, fun e he => ?_⟩
        refine ⟨_, gd_name, by simp, ?_⟩
        walk_at "d"
        exact ⟨rfl, rfl⟩
      · rw [rules_flat, sD_len]; unfold sizeLine; omega
      rw [rules_flat]
      walk_at "d"
      refine d2_addL Vw.d Vw.d (by rw [sD_len]; simp only [List.length_cons, List.length_nil, sizeLine, Nat.reducePow]; omega) ?_
      walk_at "d"
      refine d2_ixT (d := .bool b) rfl rfl rfl ?_
      walk_at "d"
      refine ⟨rfl, b, rfl, ?_⟩
      walk_at "d"
      refine d2_addL Vw.d Vw.d (by rw [List.length_append, sD_len]; simp only [List.length_cons, List.length_nil, sizeLine, Nat.reducePow]; omega) ?_
      rw [sD_app, sD_app] at hR
      exact hR
    | card ws b h1 h2 h3 =>
      have l1 : (ws.map commasI).length ≤ 1000000 := by
        rw [List.length_append, List.length_append] at l0
        omega
      walk_at "d"
      refine d2_ixT (d := .str "card") rfl rfl rfl ?_
      walk_at "d"
      refine Cs.isF (by decide) ?_
      walk_at "d"
      refine Cs.isF (by decide) ?_
      walk_at "d"
      refine Cs.isF (by decide) ?_
      walk_at "d"
      refine Cs.isF (by decide) ?_
      walk_at "d"
      refine Cs.isT (by decide) ?_
      walk_at "d"
      refine dx_lcMap commaD (di_tup ?_)
      walk_at "d"
      refine d2_ixT (d := .tuple (ws.map dRow)) rfl rfl rfl ⟨_, rfl, fun d hd => ?_, ?_⟩
      · obtain ⟨r, hr1, rfl⟩ := List.mem_map.mp hd
        refine ⟨_, gd_name, by simp, ?_⟩
        rw [commaD_eq]
        walk_at "d"
        have := wts_row hz h1 hr1
        exact ⟨rfl, r, rfl, ⟨by omega, h2 r hr1⟩, rfl, rfl⟩
      rw [sD_rows]
      refine d2_addL Vw.d Vw.d (by rw [sD_len]; simp only [List.length_cons, List.length_nil, sizeLine, Nat.reducePow]; omega) ?_
      walk_at "d"
      refine d2_ixT (d := .int b) rfl rfl rfl ?_
      walk_at "d"
      refine dc_strI rfl h3 ?_
      walk_at "d"
      refine d2_addL Vw.d Vw.d (by rw [List.length_append, sD_len]; simp only [List.length_cons, List.length_nil, sizeLine, Nat.reducePow]; omega) ?_
      rw [sD_app, sD_app] at hR
      exact hR
    | table bs h1 h2 =>
      walk_at "d"
      refine d2_ixT (d := .str "table") rfl rfl rfl ?_
      walk_at "d"
      refine Cs.isF (by decide) ?_
      walk_at "d"
      refine Cs.isF (by decide) ?_
      walk_at "d"
      refine Cs.isF (by decide) ?_
      walk_at "d"
      refine Cs.isF (by decide) ?_
      walk_at "d"
      refine Cs.isF (by decide) ?_
      walk_at "d"
      refine Cs.isT (by decide) ?_
      walk_at "d"
      refine d2_ixT (d := .tuple (bD bs)) rfl rfl rfl ?_
      walk_at "d"
      refine ⟨rfl, bs, rfl, by omega, ?_⟩
      walk_at "d"
      exact hR
  | @not d ws h =>
    walk_at "d"
    refine d2_ixT (d := .str "not") rfl rfl rfl ?_
    walk_at "d"
    refine Cs.isF (by decide) ?_
    walk_at "d"
    refine Cs.isF (by decide) ?_
    walk_at "d"
    refine Cs.isF (by decide) ?_
    walk_at "d"
    refine Cs.isF (by decide) ?_
    walk_at "d"
    refine Cs.isF (by decide) ?_
    walk_at "d"
    refine Cs.isF (by decide) ?_
    walk_at "d"
    refine Cs.isT (by decide) ?_
    walk_at "d"
    refine d2_ixT (d := d) rfl rfl rfl ?_
    walk_at "d"
    rw [wl_cons] at hw
    have l0 := wl_len ws
    refine ⟨rfl, sz, d, ws, rfl, hz, h, by omega, ?_⟩
    refine d2_addL Vw.d Vw.d (by rw [sD_len]; simp only [List.length_cons, List.length_nil, sizeLine, Nat.reducePow]; omega) ?_
    exact hR
  | @tree fl ds ws h1 h2 h3 h4 =>
    have l1 := hz.len
    rw [wl_app, wl_app, wl_app] at hw
    have l0 := wl_len ws
    walk_at "d"
    refine d2_ixT (d := .str "tree") rfl rfl rfl ?_
    walk_at "d"
    refine Cs.isF (by decide) ?_
    walk_at "d"
    refine Cs.isF (by decide) ?_
    walk_at "d"
    refine Cs.isT (by decide) ?_
    walk_at "d"
    refine d2_ixT (d := .int fl) rfl rfl rfl ?_
    walk_at "d"
    refine dc_strI rfl (by omega) ?_
    walk_at "d"
    refine d2_ixT (d := .tuple ds) rfl rfl rfl ?_
    walk_at "d"
    refine ⟨rfl, sz, ds, ws, rfl, hz, h4, by omega, ?_⟩
    refine d2_addL Vw.d Vw.d (by rw [sD_len, List.length_append, List.length_append]; simp only [List.length_cons, List.length_nil, sizeLine, Nat.reducePow]; omega) ?_
    exact hR
  | @conn k ds ws hc h =>
    rw [wl_app, wl_app, wl_app] at hw
    have l0 := wl_len ws
    walk_at "d"
    refine d2_ixT (d := .str k) rfl rfl rfl ?_
    walk_at "d"
    refine Cs.isF (by cases hc <;> decide) ?_
    walk_at "d"
    refine Cs.isF (by cases hc <;> decide) ?_
    walk_at "d"
    refine Cs.isF (by cases hc <;> decide) ?_
    walk_at "d"
    refine Cs.isF (by cases hc <;> decide) ?_
    walk_at "d"
    refine Cs.isF (by cases hc <;> decide) ?_
    walk_at "d"
    refine Cs.isF (by cases hc <;> decide) ?_
    walk_at "d"
    refine Cs.isF (by cases hc <;> decide) ?_
    walk_at "d"
    refine d2_ixT (d := .tuple ds) rfl rfl rfl ?_
    walk_at "d"
    refine ⟨rfl, sz, ds, ws, rfl, hz, h, by omega, ?_⟩
    refine d2_addL Vw.d Vw.d (by rw [sD_len, List.length_append, List.length_append]; simp only [List.length_cons, List.length_nil, sizeLine, Nat.reducePow]; omega) ?_
    exact hR
theorem words_of_all' (T : Tx mg) (Fd : Df K mg "words_of" s_words_of) (Fa : Df K mg "words_of_all" s_words_of_all) (c3 : Cl P w K mg base "letters_of" 1 1 S_letters_of)
    (c4 : Cl P w K mg base "with_commas" 1 1 S_with_commas) (c5 : Cl P w K mg base "word_of" 1 1 S_word_of) (c6 : Cl P w K mg base "words_of_rule" 2 1 S_words_of_rule) : ∀ n, Cl P w K mg base "words_of" (2 + 2 * n) 1 (S_words_of (FW n))
  | 0 => (cl_no (k := 1) Fd sc_words_of rfl (fun _ _ _ _ _ _ _ us e hl => by subst e; exact match us, hl with | [_], _ => rfl)).imp fun cs O R X ⟨sz, d, ws, h1, h2, h3, h4⟩ => h3
  | n + 1 => by
    have c := words_of_all' T Fd Fa c3 c4 c5 c6 n
    have h4 : 2 ≤ 2 + 2 * n := Nat.le_add_right _ _
    exact words_of_ok T Fd c (words_of_all_ok T Fa c) c3 c4 c5 c6 h4
def S_write_form (n : Nat) : ASp := fun cs O R X => ∃ sz d ws, cs = [.d (dSz sz), .d d] ∧ SzOk sz ∧ FW n sz d ws ∧ wl ws ≤ 1000000 ∧ R (.d (.str (Txt.join " " ws))) O
theorem write_form_ok {n j : Nat} (T : Tx mg) (Fd : Df K mg "write_form" s_write_form) (c1 : Cl P w K mg base "words_of" j 1 (S_words_of (FW n))) (c2 : Cl P w K mg base "need_form" j 2 (S_need_form (FW n))) (c3 : Cl P w K mg base "need_sizes" j 1 S_need_sizes) : Cl P w K mg base "write_form" (j + 1) 2 (S_write_form n) := by
  refine cl_of Fd sc_write_form rfl (fun _ _ _ _ _ _ _ us e hl => by subst e; exact match us, hl with | [_, _], _ => rfl) fun f cdv A outer s H E B cs O R X hr hE hn hs => ⟨_, der_write_form T c1 (Nat.le_refl _) c2 (Nat.le_refl _) c3 (Nat.le_refl _) hr, ?_⟩
  obtain ⟨sz, d, ws, rfl, hz, h, hw, hR⟩ := hs
  unfold t_write_form
  walk_at "d"
  refine ⟨rfl, _, rfl, hz, ?_⟩
  walk_at "d"
  refine ⟨rfl, _, _, _, rfl, hz, h, ?_⟩
  walk_at "d"
  refine ⟨⟨_, rfl⟩, ?_⟩
  walk_at "d"
  refine ⟨rfl, _, _, _, rfl, hz, h, hw, ?_⟩
  exact dm_joinE ws rfl rfl rfl (by decide) (by omega) hR
end
section
variable {P : Program} {w : World} {K : PySem.W.Frag} {mg : Str → Option Value} {base : Heap}
def bagD (r s t : Int) : Option Ob := some (.lst [.int r, .int s, .int t])
def BagOk (r s t : Int) (m : Nat) : Prop := 0 ≤ r ∧ 0 ≤ s ∧ s < 1000000000000000003 ∧ 0 ≤ t ∧ t ≤ m
/-- the bag lies at b, and has been asked at most m times past the script's cell -/
def BagAt (O : Ow) (b m : Nat) : Prop := ∃ r s t, O[b]? = some (bagD r s t) ∧ BagOk r s t m
/-- the same cells, but for the bag -/
def BagTo (O O' : Ow) (b m : Nat) : Prop := ∃ r s t, O' = O.set b (bagD r s t) ∧ b < O.length ∧ BagOk r s t m
theorem BagAt.lt {O : Ow} {b m : Nat} (h : BagAt O b m) : b < O.length := by
  obtain ⟨r, s, t, h, _⟩ := h
  exact (List.getElem?_eq_some_iff.mp h).1
theorem BagTo.at_ {O O' : Ow} {b m : Nat} (h : BagTo O O' b m) : BagAt O' b m := by
  obtain ⟨r, s, t, rfl, hl, ok⟩ := h
  exact ⟨r, s, t, by rw [List.getElem?_set_self hl], ok⟩
theorem BagAt.to {O : Ow} {b m : Nat} (h : BagAt O b m) : BagTo O O b m := by
  obtain ⟨r, s, t, h, ok⟩ := h
  obtain ⟨hl, he⟩ := List.getElem?_eq_some_iff.mp h
  exact ⟨r, s, t, by rw [← he, List.set_getElem_self], hl, ok⟩
theorem BagTo.trans {O O1 O2 : Ow} {b m n : Nat} (x : BagTo O O1 b m) (y : BagTo O1 O2 b n) : BagTo O O2 b n := by
  obtain ⟨r, s, t, rfl, hl, _⟩ := x
  obtain ⟨r', s', t', rfl, _, ok⟩ := y
  exact ⟨r', s', t', by rw [List.set_set], hl, ok⟩
theorem BagOk.mono {r s t : Int} {m n : Nat} (h : BagOk r s t m) (hm : m ≤ n) : BagOk r s t n := ⟨h.1, h.2.1, h.2.2.1, h.2.2.2.1, by have := h.2.2.2.2; omega⟩
theorem BagAt.mono {O : Ow} {b m n : Nat} (h : BagAt O b m) (hm : m ≤ n) : BagAt O b n := by
  obtain ⟨r, s, t, h, ok⟩ := h
  exact ⟨r, s, t, h, ok.mono hm⟩
theorem BagTo.mono {O O' : Ow} {b m n : Nat} (h : BagTo O O' b m) (hm : m ≤ n) : BagTo O O' b n := by
  obtain ⟨r, s, t, h, hl, ok⟩ := h
  exact ⟨r, s, t, h, hl, ok.mono hm⟩
theorem BagTo.lk {O O' : Ow} {b m : Nat} (h : BagTo O O' b m) : Lk O O' := by
  obtain ⟨r, s, t, rfl, _, _⟩ := h
  exact .lst b _
theorem BagTo.other {O O' : Ow} {b m k : Nat} (h : BagTo O O' b m) (hk : k ≠ b) : O'[k]? = O[k]? := by
  obtain ⟨r, s, t, rfl, _, _⟩ := h
  rw [List.getElem?_set_ne (Ne.symm hk)]
theorem BagTo.app {O O' T : Ow} {b m : Nat} (h : BagTo O O' b m) : BagTo (O ++ T) (O' ++ T) b m := by
  obtain ⟨r, s, t, rfl, hl, ok⟩ := h
  exact ⟨r, s, t, by rw [List.set_append_left _ _ hl], by rw [List.length_append]; omega, ok⟩
/-- past a new cell the bag's change stays within the first cells -/
theorem BagTo.under {O T O' : Ow} {b m : Nat} (hb : b < O.length) (h : BagTo (O ++ T) O' b m) : ∃ O1, O' = O1 ++ T ∧ BagTo O O1 b m := by
  obtain ⟨r, s, t, rfl, hl, ok⟩ := h
  exact ⟨O.set b (bagD r s t), by rw [List.set_append_left _ _ hb], r, s, t, rfl, hb, ok⟩
theorem BagTo.length {O O' : Ow} {b m : Nat} (h : BagTo O O' b m) : O'.length = O.length := h.lk.len
def S_law_bag : ASp := fun cs O R X => ∃ c, cs = [.d (.int c)] ∧ ∀ r s, BagOk r s 0 0 → R (.o O.length) (O ++ [bagD r s 0])
theorem law_bag_ok (T : Tx mg) (Fd : Df K mg "_law_bag" s__law_bag) : Cl P w K mg base "_law_bag" 1 1 S_law_bag := by
  refine cl_of Fd sc__law_bag rfl (fun _ _ _ _ _ _ _ us e hl => by subst e; exact match us, hl with | [_], _ => rfl) fun f cdv A outer s H E B cs O R X hr hE hn hs => ⟨_, der__law_bag T hr, ?_⟩
  obtain ⟨c, rfl, hR⟩ := hs
  have h18 : CPow 10 18 := ⟨by decide, by decide, by decide⟩
  unfold t__law_bag
  walk_at "d"
  refine d2_pow rfl rfl h18 ?_
  walk_at "d"
  have m1 := Int.emod_nonneg c (show (1000000000000000003 : Int) ≠ 0 by decide)
  have m2 := Int.emod_lt_of_pos c (show (0 : Int) < 1000000000000000003 by decide)
  refine ⟨fun e => ?_, fun e => ?_⟩
  · walk_at "d"
    refine d2_pow rfl rfl h18 ?_
    walk_at "n"
    refine dx_lstO ?_
    walk_at "d"
    refine d2_mod rfl rfl (by decide) ?_
    walk_at "d"
    refine hR _ _ ⟨?_, m1, m2, by decide, by decide⟩
    have := of_decide_eq_true e
    have e1 : (10 : Int) ^ ((18 : Int).toNat) = 1000000000000000000 := by decide
    rw [e1] at this ⊢
    omega
  · walk_at "n"
    refine dx_lstO ?_
    walk_at "d"
    refine d2_mod rfl rfl (by decide) ?_
    walk_at "d"
    exact hR _ _ ⟨by decide, m1, m2, by decide, by decide⟩
abbrev TMAX : Nat := 1000000
def S_law_draw : ASp := fun cs O R X => ∃ b m t, cs = [.o b, .d (.int m)] ∧ 0 < m ∧ m ≤ 5000 ∧ BagAt O b t ∧ t + 1 ≤ TMAX ∧ ∀ x O', 0 ≤ x → x < m → BagTo O O' b (t + 1) → R (.d (.int x)) O'
theorem log_of {x : Int} {k : Nat} (h0 : 0 ≤ x) (h : x < 2 ^ k) : x.natAbs.log2 ≤ k := by
  by_cases z : x.natAbs = 0
  · rw [z]; exact Nat.zero_le _
  · refine Nat.le_of_lt ((Nat.log2_lt z).mpr ?_)
    have e : ((2 : Int) ^ k) = ((2 ^ k : Nat) : Int) := by simp
    rw [e] at h
    omega
theorem mix_le {s t : Int} (h1 : 0 ≤ s) (h2 : s < 1000000000000000003) (h3 : 0 ≤ t) (h4 : t ≤ 1000000) : 0 ≤ (s + 7) * (31 * t * t + 104729 * t + 13) + 17 * t ∧ (s + 7) * (31 * t * t + 104729 * t + 13) + 17 * t < 2 ^ 200 := by
  have a1 : 0 ≤ t * t := Int.mul_nonneg h3 h3
  have a2 : t * t ≤ 1000000 * 1000000 := Int.mul_le_mul h4 h4 h3 (by decide)
  have e : 31 * t * t = 31 * (t * t) := by rw [Int.mul_assoc]
  have p0 : 0 ≤ 31 * t * t + 104729 * t + 13 := by rw [e]; omega
  have p1 : 31 * t * t + 104729 * t + 13 ≤ 100000000000000 := by rw [e]; omega
  have b1 := Int.mul_nonneg (show 0 ≤ s + 7 by omega) p0
  have b2 : (s + 7) * (31 * t * t + 104729 * t + 13) ≤ 1000000000000000010 * 100000000000000 := Int.mul_le_mul (by omega) p1 p0 (by decide)
  constructor
  · omega
  · refine Int.lt_of_le_of_lt (Int.add_le_add b2 (show 17 * t ≤ 17000000 by omega)) (by decide)
theorem le3 {a b c : D} : [a, b, c].length ≤ sizeLine := by show 3 ≤ 2 ^ 24; decide
theorem ix3_0 {a b c : D} : atI [a, b, c] 0 = some a := rfl
theorem ix3_1 {a b c : D} : atI [a, b, c] 1 = some b := rfl
theorem ix3_2 {a b c : D} : atI [a, b, c] 2 = some c := rfl
theorem law_draw_ok (T : Tx mg) (Fd : Df K mg "_law_draw" s__law_draw) : Cl P w K mg base "_law_draw" 1 2 S_law_draw := by
  refine cl_of Fd sc__law_draw rfl (fun _ _ _ _ _ _ _ us e hl => by subst e; exact match us, hl with | [_, _], _ => rfl) fun f cdv A outer s H E B cs O R X hr hE hn hs => ⟨_, der__law_draw T hr, ?_⟩
  obtain ⟨b, m, t0, rfl, m0, m1, ⟨r, s, t, hb, hk⟩, ht, hR⟩ := hs
  obtain ⟨k1, k2, k3, k4, k5⟩ := hk
  have hb1 : O[b]? = some (some (.lst [.int r, .int s, .int t])) := hb
  have hbl := (List.getElem?_eq_some_iff.mp hb).1
  have ht2 : t ≤ 1000000 := by unfold TMAX at ht; omega
  unfold t__law_draw
  walk_at "d"
  refine d2_ixL (Vw.o hb1 le3) rfl ix3_0 ?_
  walk_at "d"
  refine ⟨fun e => ?_, fun e => ?_⟩
  · have r0 := of_decide_eq_true e
    walk_at "d"
    refine d2_ixL (Vw.o hb1 le3) rfl ix3_0 ?_
    walk_at "d"
    refine d2_mod rfl rfl m0 ?_
    walk_at "d"
    refine d2_ixL (Vw.o hb1 le3) rfl ix3_0 ?_
    walk_at "d"
    refine d2_fd rfl rfl ⟨m0, by omega⟩ ?_
    refine dg_sub ?_
    walk_at "d"
    refine ⟨b, _, 0, 0, _, rfl, hb1, rfl, rfl, rfl, ?_⟩
    walk_at "d"
    refine hR _ _ (Int.emod_nonneg _ (by omega)) (Int.emod_lt_of_pos _ m0) ⟨r / m, s, t, rfl, hbl, Int.ediv_nonneg k1 (by omega), k2, k3, k4, by omega⟩
  · walk_at "d"
    refine d2_ixL (Vw.o hb1 le3) rfl ix3_2 ?_
    walk_at "d"
    refine dg_sub ?_
    walk_at "d"
    refine ⟨b, _, 2, 2, _, rfl, hb1, rfl, rfl, rfl, ?_⟩
    have hb2 : (O.set b (some (.lst [.int r, .int s, .int (t + 1)])))[b]? = some (some (.lst [.int r, .int s, .int (t + 1)])) := by rw [List.getElem?_set_self hbl]
    show DS B _ _ (O.set b (some (.lst [.int r, .int s, .int (t + 1)]))) _
    walk_at "d"
    refine d2_ixL (Vw.o hb2 le3) rfl ix3_2 ?_
    walk_at "d"
    refine d2_ixL (Vw.o hb2 le3) rfl ix3_1 ?_
    walk_at "d"
    refine d2_mul rfl rfl (.inl (by constructor <;> decide)) ?_
    walk_at "d"
    refine d2_mul rfl rfl (.inr (by constructor <;> omega)) ?_
    walk_at "d"
    refine d2_mul rfl rfl (.inl (by constructor <;> decide)) ?_
    walk_at "d"
    refine d2_mul rfl rfl (.inl (by constructor <;> omega)) ?_
    walk_at "d"
    refine d2_mul rfl rfl (.inl (by constructor <;> decide)) ?_
    walk_at "d"
    have ht3 : t + 1 ≤ 1000000 := by unfold TMAX at ht; omega
    obtain ⟨x0, x1⟩ := mix_le k2 k3 (show 0 ≤ t + 1 by omega) ht3
    generalize (s + 7) * (31 * (t + 1) * (t + 1) + 104729 * (t + 1) + 13) + 17 * (t + 1) = x at x0 x1 ⊢
    have lx := log_of x0 x1
    refine d2_mulW rfl rfl (by unfold CMulW; omega) ?_
    walk_at "d"
    refine d2_mul rfl rfl (.inl (by constructor <;> decide)) ?_
    walk_at "d"
    refine d2_mod rfl rfl (by decide) ?_
    walk_at "d"
    refine d2_fd rfl rfl (by constructor <;> decide) ?_
    walk_at "d"
    have y1 := Int.emod_nonneg (x * x + 999983 * x) (show (1000000000000000009 : Int) ≠ 0 by decide)
    have y2 := Int.emod_lt_of_pos (x * x + 999983 * x) (show (0 : Int) < 1000000000000000009 by decide)
    have y3 : 0 ≤ (x * x + 999983 * x) % 1000000000000000009 / 1009 ∧ (x * x + 999983 * x) % 1000000000000000009 / 1009 < 1000000000000000009 := by omega
    generalize (x * x + 999983 * x) % 1000000000000000009 / 1009 = y at y3 ⊢
    refine d2_mul rfl rfl (.inl (by constructor <;> omega)) ?_
    walk_at "d"
    refine d2_mul rfl rfl (.inl (by constructor <;> decide)) ?_
    walk_at "d"
    refine d2_mod rfl rfl (by decide) ?_
    walk_at "d"
    refine d2_fd rfl rfl (by constructor <;> decide) ?_
    walk_at "d"
    refine d2_mod rfl rfl m0 ?_
    exact hR _ _ (Int.emod_nonneg _ (by omega)) (Int.emod_lt_of_pos _ m0) ⟨r, s, t + 1, rfl, hbl, k1, k2, k3, by omega, by omega⟩
end
section
variable {P : Program} {w : World} {K : PySem.W.Frag} {mg : Str → Option Value} {base : Heap}
theorem BagAt.app {O : Ow} (T : Ow) {b m : Nat} (h : BagAt O b m) : BagAt (O ++ T) b m := by
  have hl := h.lt
  obtain ⟨r, s, t, h, ok⟩ := h
  exact ⟨r, s, t, by rw [List.getElem?_append_left hl]; exact h, ok⟩
theorem getLast1 {O : Ow} {n : Nat} (x : Option Ob) (h : O.length = n) : (O ++ [x])[n]? = some x := by
  subst h
  rw [List.getElem?_append_right (Nat.le_refl _)]; simp
theorem setLast1 {O : Ow} {n : Nat} (x y : Option Ob) (h : O.length = n) : (O ++ [x]).set n y = O ++ [y] := by
  subst h
  rw [List.set_append_right _ _ (Nat.le_refl _)]; simp
theorem rg_get {n i : Nat} {d : D} (h : (rgD 0 n)[i]? = some d) : i < n := by
  have := (List.getElem?_eq_some_iff.mp h).1
  rwa [rgD_length] at this
theorem iD_snoc (vs : List Int) (x : Int) : iD (vs ++ [x]) = iD vs ++ [.int x] := by unfold iD; rw [List.map_append]; rfl
theorem prodI_snoc (vs : List Int) (x : Int) : prodI (vs ++ [x]) = prodI vs * x := by unfold prodI; rw [List.foldl_append]; rfl
theorem iD_nil : iD [] = [] := rfl
def S_small : ASp := fun cs O R X => ∃ b c t, cs = [.o b, .d (.int 10), .d (.int c)] ∧ 1 ≤ c ∧ c ≤ 1024 ∧ BagAt O b t ∧ t + 11 ≤ TMAX ∧ ∀ sz O', SzOk sz → prodI sz ≤ c → BagTo O O' b (t + 11) → R (.d (dSz sz)) O'
theorem small_ok (T : Tx mg) (Fd : Df K mg "_law_small_sheet" s__law_small_sheet) (c1 : Cl P w K mg base "_law_draw" 1 2 S_law_draw) : Cl P w K mg base "_law_small_sheet" 2 3 S_small := by
  refine cl_ofT Fd sc__law_small_sheet rfl (fun _ _ _ _ _ _ _ us e hl => by subst e; exact match us, hl with | [_, _, _], _ => rfl) fun f cdv A outer s H E B cs O R X hr hE hn hs => ⟨_, der__law_small_sheet (k := 1) T c1 (by decide) hr, ?_⟩
  obtain ⟨b, c, t, rfl, hc1, hc2, hb, ht, hR⟩ := hs
  have hbl := hb.lt
  unfold t__law_small_sheet
  walk_at "n"
  refine dx_lstO ?_
  walk_at "d"
  refine ds_for (di_rng1 ?_)
  walk_at "d"
  refine ⟨rfl, b, _, t, rfl, by decide, by decide, hb.app _, by omega, fun x Oa x0 x1 ha => ?_⟩
  obtain ⟨O1, rfl, hO1⟩ := ha.under hbl
  walk_at "d"
  refine ⟨x, rfl, by omega, by omega, fun i ρ2 O2 => ∃ O3 sz v5 v6, O2 = O3 ++ [some (.lst (iD sz))] ∧ ρ2 = [some (.o b), some (.d (.int 10)), some (.d (.int c)), some (.o O.length), some (.d (.int (prodI sz))), v5, v6] ∧
    BagTo O O3 b (t + 1 + i) ∧ (∀ s ∈ sz, 2 ≤ s ∧ s ≤ 6) ∧ sz.length ≤ i ∧ 1 ≤ prodI sz ∧ prodI sz ≤ c, ⟨O1, [], none, none, rfl, rfl, hO1, by simp, by simp, by decide, hc1⟩, fun i d ρ2 O2 hd ⟨O3, sz, v5, v6, e1, e2, h1, h2, h3, h4, h5⟩ => ⟨_, gd_name, ?_⟩, fun ρ2 O2 ⟨O3, sz, v5, v6, e1, e2, h1, h2, h3, h4, h5⟩ => ?_⟩
  · subst e1 e2
    have hi := rg_get hd
    walk_at "d"
    refine ⟨rfl, b, _, _, rfl, by decide, by decide, h1.at_.app _, by omega, fun y Oa y0 y1 ha => ?_⟩
    obtain ⟨O4, rfl, hO4⟩ := ha.under (by rw [h1.length]; exact hbl)
    have hT : BagTo O O4 b (t + 1 + (i + 1)) := h1.trans hO4
    have hl4 : O4.length = O.length := hT.length
    walk_at "d"
    refine d2_mul rfl rfl (.inr (by constructor <;> omega)) ?_
    walk_at "d"
    have go : ∀ z : Int, 2 ≤ z → z ≤ 6 → ∀ (A : AE), A.nx = (fun ρ2 O2 => ∃ O3 sz v5 v6, O2 = O3 ++ [some (.lst (iD sz))] ∧ ρ2 = [some (.o b), some (.d (.int 10)), some (.d (.int c)), some (.o O.length), some (.d (.int (prodI sz))), v5, v6] ∧
    BagTo O O3 b (t + 1 + (i + 1)) ∧ (∀ s ∈ sz, 2 ≤ s ∧ s ≤ 6) ∧ sz.length ≤ i + 1 ∧ 1 ≤ prodI sz ∧ prodI sz ≤ c) → DS B ((tIfS (tTest (tOp (rI0 fun i j => .bl (decide (i ≤ j))) (tOp rMulA (tVar 4) (tVar 6)) (tVar 2))) (tSeq (tDrop (tBM K "list" rAppend (tVar 3) (tCons (tVar 6) tNil))) (tAsg (tOp rMulA (tVar 4) (tVar 6)) (gName 4))) tNext)) [some (.o b), some (.d (.int 10)), some (.d (.int c)), some (.o O.length), some (.d (.int (prodI sz))), some (.d d), some (.d (.int z))] (O4 ++ [some (.lst (iD sz))]) A := by
      intro z z0 z1 A hA
      walk_at "d"
      refine d2_mul rfl rfl (.inr (by constructor <;> omega)) ?_
      walk_at "d"
      refine ⟨fun e => ?_, fun e => ?_⟩
      · have hz := of_decide_eq_true e
        walk_at "d"
        refine ⟨⟨_, Vw.o (getLast1 _ hl4) (by rw [ints_len]; unfold sizeLine; omega)⟩, ?_⟩
        walk_at "d"
        refine dm_append (getLast1 _ hl4) rfl (by rw [ints_len]; unfold sizeLine; omega) ?_
        rw [setLast1 _ _ hl4]
        walk_at "d"
        refine d2_mul rfl rfl (.inr (by constructor <;> omega)) ?_
        rw [hA]
        refine ⟨O4, sz ++ [z], _, _, by rw [iD_snoc], by rw [prodI_snoc]; rfl, hT, ?_, by rw [List.length_append]; simp; omega, ?_, ?_⟩
        · intro s hs
          rcases List.mem_append.mp hs with h | h
          · exact h2 s h
          · rw [List.mem_singleton.mp h]; exact ⟨z0, z1⟩
        · rw [prodI_snoc]
          have := Int.mul_le_mul h4 (show 1 ≤ z by omega) (by decide) (by omega)
          omega
        · rw [prodI_snoc]; exact hz
      · walk_at "d"
        rw [hA]
        exact ⟨O4, sz, _, _, rfl, rfl, hT, h2, by omega, h4, h5⟩
    refine ⟨fun e => ?_, fun e => ?_⟩
    · refine ds_asg (dx_int ?_)
      refine go 2 (by decide) (by decide) _ ?_
      rfl
    · refine ds_next ?_
      refine go (2 + y) (by omega) (by omega) _ ?_
      rfl
  · subst e1 e2
    rw [rgD_length] at h1 h3
    have hl3 : O3.length = O.length := h1.length
    refine ds_ret (dx_fz ?_)
    walk_at "n"
    refine ⟨_, _, rfl, getLast1 _ hl3, by rw [ints_len]; unfold sizeLine; omega, ?_⟩
    rw [setLast1 _ _ hl3]
    have hT : BagTo O O3 b (t + 11) := h1.mono (by omega)
    exact Tr.of rfl hT.lk (hR sz O3 ⟨by omega, h2⟩ h5 hT)
end
section
variable {P : Program} {w : World} {K : PySem.W.Frag} {mg : Str → Option Value} {base : Heap}
theorem at2 {a b : D} {y : Int} (h0 : 0 ≤ y) (h1 : y < 2) : atI [a, b] y = some (if y = 0 then a else b) := by
  have h : y = 0 ∨ y = 1 := by omega
  rcases h with rfl | rfl <;> rfl
/-- a row of so many numbers, each within its bounds -/
def Ints (lo hi : Int) (n : Nat) (vs : List Int) : Prop := vs.length = n ∧ ∀ v ∈ vs, lo ≤ v ∧ v ≤ hi
theorem Ints.nil {lo hi : Int} : Ints lo hi 0 [] := ⟨rfl, fun v h => by cases h⟩
theorem Ints.snoc {lo hi : Int} {n : Nat} {vs : List Int} (h : Ints lo hi n vs) {x : Int} (h0 : lo ≤ x) (h1 : x ≤ hi) : Ints lo hi (n + 1) (vs ++ [x]) := ⟨by rw [List.length_append, h.1]; rfl, fun v hv => by
  rcases List.mem_append.mp hv with q | q
  · exact h.2 v q
  · rw [List.mem_singleton.mp q]; exact ⟨h0, h1⟩⟩
def S_any : ASp := fun cs O R X => ∃ b t, cs = [.o b] ∧ BagAt O b t ∧ t + 40 ≤ TMAX ∧ ∀ sz O', SzOk sz → BagTo O O' b (t + 40) → R (.d (dSz sz)) O'
theorem any_ok (T : Tx mg) (Fd : Df K mg "_law_any_sheet" s__law_any_sheet) (c1 : Cl P w K mg base "_law_draw" 1 2 S_law_draw) (c2 : Cl P w K mg base "_law_small_sheet" 2 3 S_small) : Cl P w K mg base "_law_any_sheet" 3 1 S_any := by
  refine cl_of Fd sc__law_any_sheet rfl (fun _ _ _ _ _ _ _ us e hl => by subst e; exact match us, hl with | [_], _ => rfl) fun f cdv A outer s H E B cs O R X hr hE hn hs => ⟨_, der__law_any_sheet (k := 2) T c1 (by decide) c2 (by decide) hr, ?_⟩
  obtain ⟨b, t, rfl, hb, ht, hR⟩ := hs
  unfold t__law_any_sheet
  walk_at "d"
  refine ⟨rfl, b, _, t, rfl, by decide, by decide, hb, by omega, fun x O1 x0 x1 h1 => ?_⟩
  walk_at "d"
  refine ⟨fun e => ?_, fun e => ?_⟩
  · walk_at "n"
    refine dx_lc (di_rng1 ?_)
    walk_at "d"
    refine ⟨rfl, b, _, _, rfl, by decide, by decide, h1.at_, by omega, fun y O2 y0 y1 h2 => ?_⟩
    walk_at "d"
    refine ⟨rfl, b, _, _, rfl, by decide, by decide, h2.at_, by omega, fun z O3 z0 z1 h3 => ?_⟩
    obtain ⟨n, hn0, hn1, hn2⟩ : ∃ n : Int, (if z = 0 then PyData.int y else .int 24) = .int n ∧ 0 ≤ n ∧ n ≤ 24 := by
      by_cases q : z = 0
      · exact ⟨y, by rw [if_pos q], y0, by omega⟩
      · exact ⟨24, by rw [if_neg q], by decide, by decide⟩
    refine d2_ixL (d := .int n) Vw.d rfl (by rw [at2 z0 z1, hn0]) ?_
    walk_at "d"
    refine ⟨n, rfl, by omega, by omega, fun i acc O4 => ∃ vs, acc = iD vs ∧ Ints 2 6 i vs ∧ BagTo O O4 b (t + 3 + i), ⟨[], rfl, .nil, (h1.trans h2).trans h3⟩, fun i d acc O4 hd hi ⟨vs, e1, e2, e3⟩ => ⟨_, gd_name, by simp, ?_⟩, fun acc O4 _ ⟨vs, e1, e2, e3⟩ => ?_⟩
    · have hi := rg_get hd
      walk_at "d"
      refine Cs.t ?_
      walk_at "d"
      refine ⟨rfl, b, _, _, rfl, by decide, by decide, e3.at_, by omega, fun u O5 u0 u1 h5 => ?_⟩
      walk_at "d"
      refine ⟨_, rfl, vs ++ [2 + u], by rw [iD_snoc, e1], e2.snoc (by omega) (by omega), e3.trans h5⟩
    · rw [rgD_length] at e2 e3
      subst e1
      exact hR vs O4 ⟨by rw [e2.1]; omega, fun s hs => by have := e2.2 s hs; omega⟩ (e3.mono (by omega))
  · walk_at "d"
    refine ⟨rfl, b, _, _, rfl, by decide, by decide, h1.at_, by omega, fun y O2 y0 y1 h2 => ?_⟩
    obtain ⟨n, hn0, hn1, hn2⟩ : ∃ n : Int, (if y = 0 then PyData.int 60 else .int 1024) = .int n ∧ 1 ≤ n ∧ n ≤ 1024 := by
      by_cases q : y = 0
      · exact ⟨60, by rw [if_pos q], by decide, by decide⟩
      · exact ⟨1024, by rw [if_neg q], by decide, by decide⟩
    refine d2_ixL (d := .int n) Vw.d rfl (by rw [at2 y0 y1, hn0]) ?_
    walk_at "d"
    exact ⟨rfl, b, n, _, rfl, hn1, hn2, h2.at_, by omega, fun sz O3 hz _ h3 => hR sz O3 hz (((h1.trans h2).trans h3).mono (by omega))⟩
def S_cases : ASp := fun cs O R X => ∃ sz, cs = [.d (dSz sz)] ∧ SzOk sz ∧ R (.d (.int (prodI sz))) O
theorem cases_ok (T : Tx mg) (Fd : Df K mg "_law_cases" s__law_cases) : Cl P w K mg base "_law_cases" 1 1 S_cases := by
  refine cl_of Fd sc__law_cases rfl (fun _ _ _ _ _ _ _ us e hl => by subst e; exact match us, hl with | [_], _ => rfl) fun f cdv A outer s H E B cs O R X hr hE hn hs => ⟨_, der__law_cases T hr, ?_⟩
  obtain ⟨sz, rfl, hz, hR⟩ := hs
  unfold t__law_cases
  walk_at "d"
  refine ds_for (di_list (dx_var rfl ⟨_, rfl, fun i ρ2 O2 => O2 = O ∧ ∃ v, ρ2 = [some (.d (dSz sz)), some (.d (.int (prodI (sz.take i)))), v], ⟨rfl, none, rfl⟩, fun i d ρ2 O2 hd ⟨ho, v, hv⟩ => ⟨_, gd_name, ?_⟩, fun ρ2 O2 ⟨ho, v, hv⟩ => ?_⟩))
  · subst ho hv
    obtain ⟨x, hx, rfl⟩ := mem_ints (List.mem_of_getElem? hd)
    have hx2 : sz[i]? = some x := by
      unfold iD at hd
      rw [List.getElem?_map] at hd
      cases e : sz[i]? with
      | none => rw [e] at hd; cases hd
      | some y => rw [e] at hd; cases hd; rfl
    walk_at "d"
    refine d2_mul rfl rfl (.inr ?_) ?_
    · have := hz.rng x hx
      constructor <;> omega
    rw [← prod_take hx2]
    exact ⟨rfl, _, rfl⟩
  · subst ho hv
    rw [ints_len, List.take_length]
    walk_at "d"
    exact hR
theorem law_commas_ok (T : Tx mg) (Fd : Df K mg "_law_commas" s__law_commas) : Cl P w K mg base "_law_commas" 1 1 S_with_commas := by
  refine cl_of Fd sc__law_commas rfl (fun _ _ _ _ _ _ _ us e hl => by subst e; exact match us, hl with | [_], _ => rfl) fun f cdv A outer s H E B cs O R X hr hE hn hs => ⟨_, der__law_commas T hr, ?_⟩
  obtain ⟨vs, rfl, hv, hR⟩ := hs
  unfold t__law_commas
  walk_at "d"
  rw [ints_len]
  unfold commasI at hR
  refine ⟨fun e => ?_, fun e => ?_⟩
  · have e := of_decide_eq_true e
    have hv0 : vs = [] := List.length_eq_zero_iff.mp (by omega)
    rw [if_pos hv0] at hR
    walk_at "d"
    exact hR
  · have e := of_decide_eq_false e
    have hv0 : vs ≠ [] := fun z => e (by rw [z]; rfl)
    rw [if_neg hv0] at hR
    walk_at "d"
    refine ⟨⟨_, rfl⟩, ?_⟩
    refine dx_lcMap strD (di_tup (dx_var rfl ⟨_, rfl, fun d hd => ?_, ?_⟩))
    · obtain ⟨x, hx, rfl⟩ := mem_ints hd
      refine ⟨_, gd_name, by simp, ?_⟩
      walk_at "d"
      exact dc_strI rfl (hv.2 x hx) ⟨rfl, rfl⟩
    refine dm_joinE (vs.map strI) rfl rfl (sD_ints vs) (by decide) ?_ hR
    have := wl_ints hv
    omega
end
section
variable {P : Program} {w : World} {K : PySem.W.Frag} {mg : Str → Option Value} {base : Heap}
def S_law_rules : ASp := fun cs O R X => ∃ (sz : List Int) (rs : List Rule), cs = [.d (.tuple (rs.map dRule))] ∧ SzOk sz ∧ (∀ r ∈ rs, CondsOk sz r.1) ∧ (rs.flatMap wRule).length ≤ 1000000 ∧ R (.d (.list (sD ([("(" : Str)] ++ rs.flatMap wRule ++ [(")" : Str)])))) O
theorem get_map {α : Type} {f : α → D} {l : List α} {i : Nat} {d : D} (h : (l.map f)[i]? = some d) : ∃ x, l[i]? = some x ∧ d = f x := by
  rw [List.getElem?_map] at h
  cases e : l[i]? with
  | none => rw [e] at h; cases h
  | some y => rw [e] at h; cases h; exact ⟨y, rfl, rfl⟩
theorem noyes (b : Bool) : atI [PyData.str "no", .str "yes"] (if b then 1 else 0) = some (.str (wordOf b)) := by cases b <;> rfl
theorem law_rules_ok (T : Tx mg) (Fd : Df K mg "_law_words_of_rules" s__law_words_of_rules) (c1 : Cl P w K mg base "_law_commas" 1 1 S_with_commas) : Cl P w K mg base "_law_words_of_rules" 2 1 S_law_rules := by
  refine cl_ofT Fd sc__law_words_of_rules rfl (fun _ _ _ _ _ _ _ us e hl => by subst e; exact match us, hl with | [_], _ => rfl) fun f cdv A outer s H E B cs O R X hr hE hn hs => ⟨_, der__law_words_of_rules (k := 1) T c1 (by decide) hr, ?_⟩
  obtain ⟨sz, rs, rfl, hz, hc, hl, hR⟩ := hs
  unfold t__law_words_of_rules
  walk_at "n"
  refine dx_lstO ?_
  walk_at "n"
  refine ds_for (di_tup (dx_var rfl ⟨_, rfl, fun i ρ2 O2 => ∃ T v2 v3 v4 v5, O2 = (O ++ T) ++ [some (.lst (sD ([("(" : Str)] ++ (rs.take i).flatMap wRule)))] ∧ ρ2 = [some (.d (.tuple (rs.map dRule))), some (.o (O ++ T).length), v2, v3, v4, v5],
    ⟨[], none, none, none, none, by simp; rfl, by simp; rfl⟩, fun i d ρ2 O2 hd ⟨T, v2, v3, v4, v5, e1, e2⟩ => ?_, fun ρ2 O2 ⟨T, v2, v3, v4, v5, e1, e2⟩ => ?_⟩))
  · obtain ⟨⟨cds, b⟩, hr1, rfl⟩ := get_map hd
    have hcr := hc _ (List.mem_of_getElem? hr1)
    have hcl : cds.length ≤ 100 := hcr.len
    have hpl := flatMap_take_len wRule rs i
    subst e1 e2
    refine ⟨_, gd_tup (gds_cons gd_name (gds_cons gd_name gds_nil)) rfl, ?_⟩
    generalize hO : O ++ T = O1
    walk_at "n"
    refine ⟨⟨_, Vw.o (getLast1 _ rfl) (by rw [sD_len, List.length_append]; simp only [List.length_cons, List.length_nil, sizeLine, Nat.reducePow]; omega)⟩, ?_⟩
    walk_at "n"
    refine dm_append (getLast1 _ rfl) rfl (by rw [sD_len, List.length_append]; simp only [List.length_cons, List.length_nil, sizeLine, Nat.reducePow]; omega) ?_
    rw [setLast1 _ _ rfl]
    walk_at "n"
    refine ds_for (di_tup (dx_var rfl ⟨_, rfl, fun j ρ2 O2 => ∃ v4 v5, O2 = O1 ++ [some (.lst (sD (([("(" : Str)] ++ (rs.take i).flatMap wRule) ++ ([("(" : Str)] ++ (cds.take j).map wCond))))] ∧ ρ2 = [some (.d (.tuple (rs.map dRule))), some (.o O1.length), some (.d (dConds cds)), some (.d (.bool b)), v4, v5],
      ⟨v4, v5, by simp [sD], rfl⟩, fun j d ρ2 O2 hd ⟨v4, v5, e1, e2⟩ => ?_, fun ρ2 O2 ⟨v4, v5, e1, e2⟩ => ?_⟩))
    · obtain ⟨c, hc1, rfl⟩ := get_map hd
      have hcm := List.mem_of_getElem? hc1
      obtain ⟨h1, h2⟩ := cond_small hz (hcr.each c hcm)
      have hjl : (cds.take j).length ≤ 100 := by rw [List.length_take]; omega
      subst e1 e2
      refine ⟨_, gd_tup (gds_cons gd_name (gds_cons gd_name gds_nil)) rfl, ?_⟩
      walk_at "n"
      have hlen : (sD (([("(" : Str)] ++ (rs.take i).flatMap wRule) ++ ([("(" : Str)] ++ (cds.take j).map wCond))).length < sizeLine := by
        rw [sD_len, List.length_append, List.length_append, List.length_append, List.length_map]
        simp only [List.length_cons, List.length_nil, sizeLine, Nat.reducePow]
        omega
      refine ⟨⟨_, Vw.o (getLast1 _ rfl) (Nat.le_of_lt hlen)⟩, ?_⟩
      walk_at "n"
      refine dc_strI rfl h1 ?_
      walk_at "d"
      have l1 := strI_len h1
      have l2 := commas_len h2.2
      have l3 := h2.1
      have l4 : ("=" : Str).length = 1 := by decide
      refine d2_addS rfl rfl (by unfold sizeLine; omega) ?_
      walk_at "d"
      refine ⟨rfl, c.2, rfl, h2, ?_⟩
      refine d2_addS rfl rfl (by unfold sizeLine; rw [Str.length_append]; omega) ?_
      walk_at "n"
      refine dm_append (getLast1 _ rfl) rfl hlen ?_
      rw [setLast1 _ _ rfl]
      walk_at "n"
      refine ⟨some (.d (.int c.1)), some (.d (.tuple (iD c.2))), ?_, rfl⟩
      refine congrArg (fun z => O1 ++ [some (Ob.lst z)]) ?_
      rw [getElem?_take_succ hc1]
      simp only [sD, List.map_append, List.append_assoc]
      rfl
    · subst e1 e2
      have hlen : (sD (([("(" : Str)] ++ (rs.take i).flatMap wRule) ++ ([("(" : Str)] ++ (cds, b).1.map wCond))).length + 10 ≤ sizeLine := by
        show (sD (([("(" : Str)] ++ (rs.take i).flatMap wRule) ++ ([("(" : Str)] ++ cds.map wCond))).length + 10 ≤ sizeLine
        rw [sD_len, List.length_append, List.length_append, List.length_append, List.length_map]
        simp only [List.length_cons, List.length_nil, sizeLine, Nat.reducePow]
        omega
      have hlen2 : (sD (([("(" : Str)] ++ (rs.take i).flatMap wRule) ++ ([("(" : Str)] ++ cds.map wCond))).length + 10 ≤ sizeLine := hlen
      rw [List.length_map, List.take_length]
      walk_at "d"
      refine d2_ixL Vw.d rfl (noyes b) ?_
      walk_at "d"
      refine d2_addLO (Vw.o (getLast1 _ rfl) (by omega)) Vw.d (by simp only [List.length_cons, List.length_nil]; omega) ?_
      walk_at "n"
      refine ⟨T ++ [some (.lst (sD (([("(" : Str)] ++ (rs.take i).flatMap wRule) ++ ([("(" : Str)] ++ cds.map wCond))))], some (.d (dConds cds)), some (.d (.bool b)), v4, v5, ?_, ?_⟩
      · rw [getElem?_take_succ hr1, List.flatMap_append, ← hO, ← List.append_assoc O T]
        have e : [(cds, b)].flatMap wRule = ([("(" : Str)] ++ cds.map wCond) ++ [(")" : Str), wordOf b] := by simp [wRule]
        rw [e]
        refine congrArg (fun z => _ ++ [some (Ob.lst z)]) ?_
        simp only [sD, List.map_append, List.append_assoc]
        rfl
      · rw [← hO, ← List.append_assoc O T]
        rfl
  · subst e1 e2
    rw [List.length_map, List.take_length]
    walk_at "d"
    refine d2_addL (Vw.o (getLast1 _ rfl) (by rw [sD_len, List.length_append]; simp only [List.length_cons, List.length_nil, sizeLine, Nat.reducePow]; omega)) Vw.d (by rw [sD_len, List.length_append]; simp only [List.length_cons, List.length_nil, sizeLine, Nat.reducePow]; omega) ?_
    rw [sD_app _ [(")" : Str)]] at hR
    rw [List.append_assoc]
    exact Tr.app hR
end
section
variable {P : Program} {w : World} {K : PySem.W.Frag} {mg : Str → Option Value} {base : Heap}
theorem law_rest {B : Bs} {O : Ow} {R : RX} {p : FP} {sz : List Int} {k : Str} {x ds : List D} {ws pre : List Str} {v3 v4 : Option Ce} (hz : SzOk sz) (h : Rows (p sz) ds ws) (hx1 : atI (x ++ [.tuple ds]) (((x ++ [PyData.tuple ds]).length : Int) - 1) = some (.tuple ds)) (hp : pre.length ≤ 10 := by decide) (hw : wl ws ≤ 1000000) (hR : R (.d (.list (sD (pre ++ ws ++ [(")" : Str)])))) O) :
    DS B (tFor (iTup K (tOp (rIx K) (tVar 0) (tOp (rI0 fun i j => .int (i - j)) (tCB (DL.rLen K) (tCons (tVar 0) tNil)) (tC (.int 1))))) (gName 3) (tAsg (tOp (rAddA K) (tVar 2) (tCall (spA 1 (S_words_of p)) [] E0 (tCons (tVar 3) tNil))) (gName 2)))
      [some (.d (.tuple (x ++ [.tuple ds]))), some (.d (.str k)), some (.d (.list (sD pre))), v3, v4] O { nx := fun ρ' O' => DS B (tRet (tOp (rAddA K) (tVar 2) (tLst (tCons (tC (.str (")" : Str))) tNil)))) ρ' O' { nx := fun _ O' => R (.d .none) O', rt := R }, rt := R } := by
  obtain ⟨W, w0, w1, w2, w3⟩ := h.steps
  have l0 := wl_len ws
  walk_at "n"
  refine ds_for (di_tup ?_)
  walk_at "n"
  refine d2_ixT (d := .tuple ds) rfl rfl hx1 ⟨_, rfl, fun i ρ2 O2 => O2 = O ∧ ∃ v3, ρ2 = [some (.d (.tuple (x ++ [.tuple ds]))), some (.d (.str k)), some (.d (.list (sD (pre ++ W i)))), v3, v4], ⟨rfl, v3, by rw [w0, List.append_nil]⟩, fun i d ρ2 O2 hd ⟨e1, v3, e2⟩ => ⟨_, gd_name, ?_⟩, fun ρ2 O2 ⟨e1, v3, e2⟩ => ?_⟩
  · subst e1 e2
    obtain ⟨u, hu, hw2⟩ := w2 i d hd
    have l1 := w3 (i + 1) (List.getElem?_eq_some_iff.mp hd).1
    rw [hw2, wl_app] at l1
    have l2 := wl_len u
    have l3 := wl_len (W i)
    walk_at "d"
    refine ⟨rfl, sz, d, u, rfl, hz, hu, by omega, ?_⟩
    refine d2_addL Vw.d Vw.d (by rw [sD_len, sD_len, List.length_append]; simp only [sizeLine, Nat.reducePow]; omega) ?_
    refine ⟨rfl, some (.d d), ?_⟩
    rw [hw2, ← List.append_assoc, sD_app _ u]
    rfl
  · subst e1 e2
    rw [w1]
    walk_at "d"
    refine d2_addL Vw.d Vw.d (by rw [sD_len, List.length_append]; simp only [List.length_cons, List.length_nil, sizeLine, Nat.reducePow]; omega) ?_
    rw [sD_app _ [(")" : Str)]] at hR
    exact hR
theorem law_words_ok {p : FP} {j : Nat} (T : Tx mg) (Fd : Df K mg "_law_words" s__law_words) (c1 : Cl P w K mg base "_law_words" j 1 (S_words_of p)) (c2 : Cl P w K mg base "_law_commas" 1 1 S_with_commas) (c3 : Cl P w K mg base "_law_words_of_rules" 2 1 S_law_rules) (hj : 2 ≤ j) : Cl P w K mg base "_law_words" (j + 1) 1 (S_words_of fun sz => Node sz (p sz)) := by
  refine cl_of Fd sc__law_words rfl (fun _ _ _ _ _ _ _ us e hl => by subst e; exact match us, hl with | [_], _ => rfl) fun f cdv A outer s H E B cs O R X hr hE hn hs => ⟨_, der__law_words T c1 (Nat.le_refl _) c2 (by omega) c3 (by omega) hr, ?_⟩
  obtain ⟨sz, d, ws, rfl, hz, h, hw, hR⟩ := hs
  have l0 := wl_len ws
  unfold t__law_words
  cases h with
  | leaf h =>
    cases h with
    | say b =>
      walk_at "d"
      refine d2_ixT (d := .str "say") rfl rfl rfl ?_
      walk_at "d"
      refine Cs.isT (by decide) ?_
      walk_at "d"
      refine d2_ixT (d := .bool b) rfl rfl rfl ?_
      walk_at "d"
      refine d2_ixL Vw.d rfl (noyes b) ?_
      walk_at "d"
      exact hR
    | is c hc =>
      obtain ⟨h1, h2⟩ := cond_small hz hc
      walk_at "d"
      refine d2_ixT (d := .str "is") rfl rfl rfl ?_
      walk_at "d"
      refine Cs.isF (by decide) ?_
      walk_at "d"
      refine Cs.isT (by decide) ?_
      walk_at "d"
      refine d2_ixT (d := .int c.1) rfl rfl rfl ?_
      walk_at "d"
      refine dc_strI rfl h1 ?_
      walk_at "d"
      refine d2_ixT (d := .tuple (iD c.2)) rfl rfl rfl ?_
      walk_at "d"
      refine ⟨rfl, c.2, rfl, h2, ?_⟩
      walk_at "d"
      exact hR
    | rules rs b hb =>
      have l1 : (rs.flatMap wRule).length ≤ 1000000 := by
        rw [List.length_append, List.length_append] at l0
        omega
      walk_at "d"
      refine d2_ixT (d := .str "rules") rfl rfl rfl ?_
      walk_at "d"
      refine Cs.isF (by decide) ?_
      walk_at "d"
      refine Cs.isF (by decide) ?_
      walk_at "d"
      refine Cs.isT (by decide) ?_
      walk_at "d"
      refine d2_ixT (d := .tuple (rs.map dRule)) rfl rfl rfl ?_
      walk_at "d"
      refine ⟨rfl, sz, rs, rfl, hz, hb, l1, ?_⟩
      refine d2_addL Vw.d Vw.d (by rw [sD_len, List.length_append, List.length_append]; simp only [List.length_cons, List.length_nil, sizeLine, Nat.reducePow]; omega) ?_
      walk_at "d"
      refine d2_ixT (d := .bool b) rfl rfl rfl ?_
      walk_at "d"
      refine d2_ixL Vw.d rfl (noyes b) ?_
      walk_at "d"
      refine d2_addL Vw.d Vw.d (by rw [List.length_append, sD_len, List.length_append, List.length_append]; simp only [List.length_cons, List.length_nil, sizeLine, Nat.reducePow]; omega) ?_
      refine cast (congrArg (fun z => R (.d (.list z)) O) ?_) hR
      simp only [sD, List.map_append, List.append_assoc]
      rfl
    | card ws b h1 h2 h3 =>
      have l1 : (ws.map commasI).length ≤ 1000000 := by
        rw [List.length_append, List.length_append] at l0
        omega
      walk_at "d"
      refine d2_ixT (d := .str "card") rfl rfl rfl ?_
      walk_at "d"
      refine Cs.isF (by decide) ?_
      walk_at "d"
      refine Cs.isF (by decide) ?_
      walk_at "d"
      refine Cs.isF (by decide) ?_
      walk_at "d"
      refine Cs.isT (by decide) ?_
      walk_at "d"
      refine dx_lcMap commaD (di_tup ?_)
      walk_at "d"
      refine d2_ixT (d := .tuple (ws.map dRow)) rfl rfl rfl ⟨_, rfl, fun d hd => ?_, ?_⟩
      · obtain ⟨r, hr1, rfl⟩ := List.mem_map.mp hd
        refine ⟨_, gd_name, by simp, ?_⟩
        rw [commaD_eq]
        walk_at "d"
        have := wts_row hz h1 hr1
        exact ⟨rfl, r, rfl, ⟨by omega, h2 r hr1⟩, rfl, rfl⟩
      rw [sD_rows]
      refine d2_addL Vw.d Vw.d (by rw [sD_len]; simp only [List.length_cons, List.length_nil, sizeLine, Nat.reducePow]; omega) ?_
      walk_at "d"
      refine d2_ixT (d := .int b) rfl rfl rfl ?_
      walk_at "d"
      refine dc_strI rfl h3 ?_
      walk_at "d"
      refine d2_addL Vw.d Vw.d (by rw [List.length_append, sD_len]; simp only [List.length_cons, List.length_nil, sizeLine, Nat.reducePow]; omega) ?_
      rw [sD_app, sD_app] at hR
      exact hR
    | table bs h1 h2 =>
      walk_at "d"
      refine d2_ixT (d := .str "table") rfl rfl rfl ?_
      walk_at "d"
      refine Cs.isF (by decide) ?_
      walk_at "d"
      refine Cs.isF (by decide) ?_
      walk_at "d"
      refine Cs.isF (by decide) ?_
      walk_at "d"
      refine Cs.isF (by decide) ?_
      walk_at "d"
      refine Cs.isT (by decide) ?_
      walk_at "d"
      refine ⟨⟨_, rfl⟩, ?_⟩
      refine dx_lcMap ynD (di_tup ?_)
      walk_at "d"
      refine d2_ixT (d := .tuple (bD bs)) rfl rfl rfl ⟨_, rfl, fun d hd => ?_, ?_⟩
      · obtain ⟨b, rfl⟩ := mem_bools hd
        refine ⟨_, gd_name, by simp, ?_⟩
        walk_at "d"
        refine d2_ixL (d := .str (ynS b)) Vw.d rfl (by cases b <;> rfl) ?_
        exact ⟨rfl, rfl⟩
      have := wl_map ynS 1 bs fun b _ => ynS_len b
      refine dm_joinE (bs.map ynS) rfl rfl (sD_bools bs) (by decide) (by omega) ?_
      walk_at "d"
      exact hR
  | @not d ws h =>
    walk_at "d"
    refine d2_ixT (d := .str "not") rfl rfl rfl ?_
    walk_at "d"
    refine Cs.isF (by decide) ?_
    walk_at "d"
    refine Cs.isF (by decide) ?_
    walk_at "d"
    refine Cs.isF (by decide) ?_
    walk_at "d"
    refine Cs.isF (by decide) ?_
    walk_at "d"
    refine Cs.isF (by decide) ?_
    walk_at "d"
    refine Cs.isT (by decide) ?_
    walk_at "d"
    refine d2_ixT (d := d) rfl rfl rfl ?_
    walk_at "d"
    rw [wl_cons] at hw
    have l0 := wl_len ws
    refine ⟨rfl, sz, d, ws, rfl, hz, h, by omega, ?_⟩
    refine d2_addL Vw.d Vw.d (by rw [sD_len]; simp only [List.length_cons, List.length_nil, sizeLine, Nat.reducePow]; omega) ?_
    exact hR
  | @tree fl ds ws h1 h2 h3 h4 =>
    have l1 := hz.len
    rw [wl_app, wl_app, wl_app] at hw
    have l0 := wl_len ws
    obtain ⟨W, w0, w1, w2, w3⟩ := h4.steps
    walk_at "d"
    refine d2_ixT (d := .str "tree") rfl rfl rfl ?_
    walk_at "d"
    refine Cs.isF (by decide) ?_
    walk_at "d"
    refine Cs.isF (by decide) ?_
    walk_at "d"
    refine Cs.isF (by decide) ?_
    walk_at "d"
    refine Cs.isF (by decide) ?_
    walk_at "d"
    refine Cs.isF (by decide) ?_
    walk_at "d"
    refine Cs.isF (by decide) ?_
    walk_at "d"
    refine Cs.isT (by decide) ?_
    walk_at "d"
    refine d2_ixT (d := .int fl) rfl rfl rfl ?_
    walk_at "d"
    refine dc_strI rfl (by omega) ?_
    walk_at "d"
    refine law_rest (k := "tree") (pre := ["tree", strI fl, "("]) (x := [.str "tree", .int fl]) hz h4 (by rfl) (by show 3 ≤ 10; decide) (by omega) ?_
    refine cast (congrArg (fun z => R (.d (.list z)) O) ?_) hR
    simp only [sD, List.map_append, List.append_assoc]
    rfl
  | @conn k ds ws hc h =>
    rw [wl_app, wl_app, wl_app] at hw
    have l0 := wl_len ws
    walk_at "d"
    refine d2_ixT (d := .str k) rfl rfl rfl ?_
    walk_at "d"
    refine Cs.isF (by cases hc <;> decide) ?_
    walk_at "d"
    refine Cs.isF (by cases hc <;> decide) ?_
    walk_at "d"
    refine Cs.isF (by cases hc <;> decide) ?_
    walk_at "d"
    refine Cs.isF (by cases hc <;> decide) ?_
    walk_at "d"
    refine Cs.isF (by cases hc <;> decide) ?_
    walk_at "d"
    refine Cs.isF (by cases hc <;> decide) ?_
    walk_at "d"
    refine Cs.isF (by cases hc <;> decide) ?_
    walk_at "d"
    refine law_rest (k := k) (pre := [k, "("]) (x := [.str k]) hz h (by rfl) (by show 2 ≤ 10; decide) (by omega) ?_
    refine cast (congrArg (fun z => R (.d (.list z)) O) ?_) hR
    simp only [sD, List.map_append, List.append_assoc]
    rfl
theorem law_words_all (T : Tx mg) (Fd : Df K mg "_law_words" s__law_words) (c2 : Cl P w K mg base "_law_commas" 1 1 S_with_commas) (c3 : Cl P w K mg base "_law_words_of_rules" 2 1 S_law_rules) : ∀ n, Cl P w K mg base "_law_words" (2 + n) 1 (S_words_of (FW n))
  | 0 => (cl_no (k := 1) Fd sc__law_words rfl (fun _ _ _ _ _ _ _ us e hl => by subst e; exact match us, hl with | [_], _ => rfl)).imp fun cs O R X ⟨sz, d, ws, h1, h2, h3, h4⟩ => h3
  | n + 1 => law_words_ok T Fd (law_words_all T Fd c2 c3 n) c2 c3 (Nat.le_add_right _ _)
end
section
variable {P : Program} {w : World} {K : PySem.W.Frag} {mg : Str → Option Value} {base : Heap}
/-- values drawn one after another rise -/
structure Rise (n : Int) (i : Nat) (vs : List Int) : Prop where
  rng : ∀ v ∈ vs, 0 ≤ v ∧ v < n ∧ v < i
  asc : vs.Pairwise (· < ·)
  len : vs.length ≤ i
theorem Rise.nil {n : Int} : Rise n 0 [] := ⟨fun v h => (by cases h), .nil, Nat.le_refl _⟩
theorem Rise.skip {n : Int} {i : Nat} {vs : List Int} (h : Rise n i vs) : Rise n (i + 1) vs := ⟨fun v hv => by have := h.rng v hv; omega, h.asc, by have := h.len; omega⟩
theorem Rise.snoc {n : Int} {i : Nat} {vs : List Int} (h : Rise n i vs) (hi : (i : Int) < n) : Rise n (i + 1) (vs ++ [(i : Int)]) := by
  refine ⟨fun v hv => ?_, ?_, ?_⟩
  · rcases List.mem_append.mp hv with q | q
    · have := h.rng v q; omega
    · rw [List.mem_singleton.mp q]; omega
  · refine List.pairwise_append.mpr ⟨h.asc, List.pairwise_singleton _ _, fun a ha b hb => ?_⟩
    rw [List.mem_singleton.mp hb]
    exact (h.rng a ha).2.2
  · rw [List.length_append]; have := h.len; simp; omega
theorem rg_val {n i : Nat} {d : D} (h : (rgD 0 n)[i]? = some d) : d = .int (i : Int) := by
  have hi := rg_get h
  rw [rgD_get hi] at h
  cases h
  rw [Int.zero_add]
def S_law_values : ASp := fun cs O R X => ∃ b n t, cs = [.o b, .d (.int n)] ∧ 0 ≤ n ∧ n ≤ 6 ∧ BagAt O b t ∧ t + 6 ≤ TMAX ∧ ∀ vs O', ValsOk n vs → vs.length ≤ 6 → BagTo O O' b (t + 6) → R (.d (.tuple (iD vs))) O'
theorem law_values_ok (T : Tx mg) (Fd : Df K mg "_law_values" s__law_values) (c1 : Cl P w K mg base "_law_draw" 1 2 S_law_draw) : Cl P w K mg base "_law_values" 2 2 S_law_values := by
  refine cl_of Fd sc__law_values rfl (fun _ _ _ _ _ _ _ us e hl => by subst e; exact match us, hl with | [_, _], _ => rfl) fun f cdv A outer s H E B cs O R X hr hE hn hs => ⟨_, der__law_values (k := 1) T c1 (by decide) hr, ?_⟩
  obtain ⟨b, n, t, rfl, n0, n1, hb, ht, hR⟩ := hs
  unfold t__law_values
  walk_at "d"
  refine dx_lc (di_rng1 ?_)
  walk_at "d"
  refine ⟨n, rfl, by omega, by omega, fun i acc O4 => ∃ vs, acc = iD vs ∧ Rise n i vs ∧ BagTo O O4 b (t + i), ⟨[], rfl, .nil, hb.to⟩, fun i d acc O4 hd hi ⟨vs, e1, e2, e3⟩ => ⟨_, gd_name, by simp, ?_⟩, fun acc O4 _ ⟨vs, e1, e2, e3⟩ => ?_⟩
  · have hi := rg_get hd
    have hv := rg_val hd
    subst hv
    walk_at "d"
    refine ⟨rfl, b, _, _, rfl, by decide, by decide, e3.at_, by omega, fun u O5 u0 u1 h5 => ?_⟩
    walk_at "d"
    refine ⟨fun e => ?_, fun e => ?_⟩
    · walk_at "d"
      exact ⟨_, rfl, vs ++ [(i : Int)], by rw [iD_snoc, e1], e2.snoc (by omega), e3.trans h5⟩
    · exact ⟨vs, e1, e2.skip, e3.trans h5⟩
  · rw [rgD_length] at e2 e3
    subst e1
    walk_at "d"
    have hl := e2.len
    exact hR vs O4 ⟨fun v hv => by have := e2.rng v hv; omega, e2.asc, by omega⟩ (by omega) (e3.mono (by omega))
/-- a rule small enough -/
structure RuleOk (sz : List Int) (r : Rule) : Prop where
  ok : CondsOk sz r.1
  len : r.1.length ≤ 6
  vals : ∀ c ∈ r.1, c.2.length ≤ 6
theorem sz_at {sz : List Int} (hz : SzOk sz) {f : Int} (h0 : 0 ≤ f) (h1 : f < sz.length) : atI (iD sz) f = some (.int (sz.getD f.toNat 0)) ∧ 2 ≤ sz.getD f.toNat 0 ∧ sz.getD f.toNat 0 ≤ 6 := ⟨atI_sz ⟨h0, h1⟩, sz_getD hz ⟨h0, h1⟩⟩
def S_law_rule : ASp := fun cs O R X => ∃ b sz t, cs = [.o b, .d (dSz sz)] ∧ SzOk sz ∧ BagAt O b t ∧ t + 60 ≤ TMAX ∧ ∀ r O', RuleOk sz r → BagTo O O' b (t + 60) → R (.d (dRule r)) O'
theorem law_rule_ok (T : Tx mg) (Fd : Df K mg "_law_rule" s__law_rule) (c1 : Cl P w K mg base "_law_draw" 1 2 S_law_draw) (c2 : Cl P w K mg base "_law_values" 2 2 S_law_values) : Cl P w K mg base "_law_rule" 3 2 S_law_rule := by
  refine cl_ofT Fd sc__law_rule rfl (fun _ _ _ _ _ _ _ us e hl => by subst e; exact match us, hl with | [_, _], _ => rfl) fun f cdv A outer s H E B cs O R X hr hE hn hs => ⟨_, der__law_rule (k := 2) T c1 (by decide) c2 (by decide) hr, ?_⟩
  obtain ⟨b, sz, t, rfl, hz, hb, ht, hR⟩ := hs
  have hbl := hb.lt
  have hzl := hz.len
  unfold t__law_rule
  walk_at "n"
  refine dx_lstO ?_
  walk_at "d"
  refine ⟨rfl, b, _, t, rfl, by decide, by decide, hb.app _, by omega, fun x Oa x0 x1 ha => ?_⟩
  obtain ⟨O1, rfl, h1⟩ := ha.under hbl
  walk_at "d"
  refine ds_for (di_rng1 ?_)
  walk_at "d"
  refine ⟨rfl, b, _, _, rfl, by decide, by decide, h1.at_.app _, by omega, fun y Oa y0 y1 ha => ?_⟩
  obtain ⟨O2, rfl, h2⟩ := ha.under (by rw [h1.length]; exact hbl)
  have h2 := h1.trans h2
  walk_at "d"
  refine ⟨y, rfl, by omega, by omega, fun i ρ2 Oz => ∃ O3 fl v4, ∃ cds : List Cond, Oz = O3 ++ [some (.lst (cds.map dCond))] ∧ ρ2 = [some (.o b), some (.d (dSz sz)), some (.o O.length), some (.d (.int fl)), v4] ∧ BagTo O O3 b (t + 2 + 7 * i) ∧
    0 ≤ fl ∧ fl ≤ 1000 ∧ (∀ c ∈ cds, CondOk sz c ∧ c.2.length ≤ 6 ∧ c.1 < fl) ∧ (cds.map (·.1)).Pairwise (· < ·) ∧ cds.length ≤ i ∧ fl ≤ 4 + 6 * (i : Int), ⟨O2, x, none, [], rfl, rfl, h2, x0, by omega, fun c hc => (by cases hc), .nil, Nat.le_refl _, by omega⟩, fun i d ρ2 Oz hd ⟨O3, fl, v4, cds, e1, e2, g1, g2, g3, g4, g5, g6, g7⟩ => ⟨_, gd_name, ?_⟩, fun ρ2 Oz ⟨O3, fl, v4, cds, e1, e2, g1, g2, g3, g4, g5, g6, g7⟩ => ?_⟩
  · have hi := rg_get hd
    subst e1 e2
    have fin : ∀ (O4 : Ow) (cds : List Cond), BagTo O O4 b (t + 2 + 7 * i + 6) → (∀ c ∈ cds, CondOk sz c ∧ c.2.length ≤ 6 ∧ c.1 < fl + 1) → (cds.map (·.1)).Pairwise (· < ·) → cds.length ≤ i + 1 → ∀ (A : AE), A.nx = (fun ρ2 Oz => ∃ O3 fl v4, ∃ cds : List Cond, Oz = O3 ++ [some (.lst (cds.map dCond))] ∧ ρ2 = [some (.o b), some (.d (dSz sz)), some (.o O.length), some (.d (.int fl)), v4] ∧ BagTo O O3 b (t + 2 + 7 * (i + 1)) ∧
    0 ≤ fl ∧ fl ≤ 1000 ∧ (∀ c ∈ cds, CondOk sz c ∧ c.2.length ≤ 6 ∧ c.1 < fl) ∧ (cds.map (·.1)).Pairwise (· < ·) ∧ cds.length ≤ i + 1 ∧ fl ≤ 4 + 6 * ((i + 1 : Nat) : Int)) →
        DS B (tAsg (tOp (rAddA K) (tOp (rAddA K) (tVar 3) (tC (.int 1))) (tCall (spA 2 S_law_draw) [] E0 (tCons (tVar 0) (tCons (tC (.int 5)) tNil)))) (gName 3)) [some (.o b), some (.d (dSz sz)), some (.o O.length), some (.d (.int fl)), some (.d d)] (O4 ++ [some (.lst (cds.map dCond))]) A := by
      intro O4 cds k1 k2 k3 k4 A hA
      walk_at "d"
      refine ⟨rfl, b, _, _, rfl, by decide, by decide, k1.at_.app _, by omega, fun z Oa z0 z1 ha => ?_⟩
      obtain ⟨O5, rfl, h5⟩ := ha.under (by rw [k1.length]; exact hbl)
      walk_at "d"
      rw [hA]
      exact ⟨O5, fl + 1 + z, _, cds, rfl, rfl, (k1.trans h5).mono (by omega), by omega, by omega, fun c hc => by have := k2 c hc; exact ⟨this.1, this.2.1, by omega⟩, k3, k4, by omega⟩
    walk_at "d"
    refine ⟨fun e => ?_, fun e => ?_⟩
    · have e := of_decide_eq_true e
      rw [ints_len] at e
      obtain ⟨a1, a2, a3⟩ := sz_at hz g2 e
      walk_at "d"
      refine ⟨⟨_, Vw.o (getLast1 _ g1.length) (by rw [List.length_map]; unfold sizeLine; omega)⟩, ?_⟩
      walk_at "d"
      refine d2_ixL Vw.d rfl a1 ?_
      walk_at "d"
      refine ⟨rfl, b, _, _, rfl, by omega, a3, g1.at_.app _, by omega, fun vs Oa v1 v2 ha => ?_⟩
      obtain ⟨O5, rfl, h5⟩ := ha.under (by rw [g1.length]; exact hbl)
      walk_at "d"
      have h6 := g1.trans h5
      refine dm_append (getLast1 _ h6.length) rfl (by rw [List.length_map]; unfold sizeLine; omega) ?_
      rw [setLast1 _ _ h6.length]
      rw [show cds.map dCond ++ [PyData.tuple [.int fl, .tuple (iD vs)]] = (cds ++ [(fl, vs)]).map dCond from by rw [List.map_append]; rfl]
      refine fin O5 (cds ++ [(fl, vs)]) (h6.mono (by omega)) ?_ ?_ (by rw [List.length_append]; simp; omega) _ rfl
      · intro c hc
        rcases List.mem_append.mp hc with q | q
        · have := g4 c q
          exact ⟨this.1, this.2.1, by omega⟩
        · rw [List.mem_singleton.mp q]
          exact ⟨⟨⟨g2, e⟩, v1⟩, v2, by show fl < fl + 1; omega⟩
      · rw [List.map_append]
        refine List.pairwise_append.mpr ⟨g5, List.pairwise_singleton _ _, fun u hu v hv => ?_⟩
        obtain ⟨c, hc, rfl⟩ := List.mem_map.mp hu
        rw [List.mem_singleton.mp hv]
        exact (g4 c hc).2.2
    · refine ds_next ?_
      exact fin O3 cds (g1.mono (by omega)) (fun c hc => by have := g4 c hc; exact ⟨this.1, this.2.1, by omega⟩) g5 (by omega) _ rfl
  · subst e1 e2
    rw [rgD_length] at g1 g6
    walk_at "n"
    refine dc_tupleL (Vw.o (getLast1 _ g1.length) (by rw [List.length_map]; unfold sizeLine; omega)) ?_
    walk_at "n"
    refine ⟨rfl, b, _, _, rfl, by decide, by decide, g1.at_.app _, by omega, fun z Oa z0 z1 ha => ?_⟩
    obtain ⟨O5, rfl, h5⟩ := ha.under (by rw [g1.length]; exact hbl)
    walk_at "n"
    have hT : BagTo O O5 b (t + 60) := (g1.trans h5).mono (by omega)
    exact Tr.of rfl hT.lk (hR (cds, decide (z = 1)) O5 ⟨⟨fun c hc => (g4 c hc).1, g5, by show cds.length ≤ 100; omega⟩, by show cds.length ≤ 6; omega, fun c hc => (g4 c hc).2.1⟩ hT)
end
section
variable {P : Program} {w : World} {K : PySem.W.Frag} {mg : Str → Option Value} {base : Heap}
theorem wordOf_len (b : Bool) : (wordOf b).length ≤ 3 := by cases b <;> decide
theorem wl_is {sz : List Int} (hz : SzOk sz) {c : Cond} (h : CondOk sz c) (hl : c.2.length ≤ 6) : wl ["is", strI c.1, commasI c.2] ≤ 100 := by
  obtain ⟨h1, h2⟩ := cond_small hz h
  have l1 := strI_len h1
  have l2 := commas_len h2.2
  have l3 : ("is" : Str).length = 2 := by decide
  rw [wl_cons, wl_cons, wl_cons, wl_nil]
  omega
theorem wCond_len {sz : List Int} (hz : SzOk sz) {c : Cond} (h : CondOk sz c) (hl : c.2.length ≤ 6) : (wCond c).length ≤ 64 := by
  obtain ⟨h1, h2⟩ := cond_small hz h
  have l1 := strI_len h1
  have l2 := commas_len h2.2
  have l3 : ("=" : Str).length = 1 := by decide
  unfold wCond
  rw [Str.length_append, Str.length_append]
  omega
theorem wRule_len {sz : List Int} (hz : SzOk sz) {r : Rule} (h : RuleOk sz r) : wl (wRule r) ≤ 410 := by
  have l1 := wl_map wCond 64 r.1 fun c hc => wCond_len hz (h.ok.each c hc) (h.vals c hc)
  have l2 := wordOf_len r.2
  have l3 : ("(" : Str).length = 1 := by decide
  have l4 : (")" : Str).length = 1 := by decide
  have l5 := h.len
  unfold wRule
  rw [wl_app, wl_app, wl_cons, wl_nil, wl_cons, wl_cons, wl_nil]
  omega
theorem wl_rules {sz : List Int} (hz : SzOk sz) {rs : List Rule} (h : ∀ r ∈ rs, RuleOk sz r) (hl : rs.length ≤ 12) (b : Bool) : wl ([("rules" : Str), "("] ++ rs.flatMap wRule ++ [(")" : Str), wordOf b]) ≤ 5000 := by
  have l1 := wl_flat wRule 410 rs fun r hr => wRule_len hz (h r hr)
  have l2 := wordOf_len b
  have l3 : ("(" : Str).length = 1 := by decide
  have l4 : (")" : Str).length = 1 := by decide
  have l5 : ("rules" : Str).length = 5 := by decide
  rw [wl_app, wl_app, wl_cons, wl_cons, wl_nil, wl_cons, wl_cons, wl_nil]
  omega
theorem wl_card {sz : List Int} (hz : SzOk sz) {ws : List (List Int)} (h : WtsOk sz ws) (hv : ∀ r ∈ ws, ∀ v ∈ r, v.natAbs ≤ 1000000) {b : Int} (hb : b.natAbs ≤ 1000000) : wl ([("card" : Str), "("] ++ ws.map commasI ++ [(")" : Str), strI b]) ≤ 5000 := by
  have l1 := wl_map commasI 55 ws fun r hr => by
    have := commas_len (hv r hr)
    have := wts_row hz h hr
    omega
  have l2 := strI_len hb
  have l3 : ("(" : Str).length = 1 := by decide
  have l4 : (")" : Str).length = 1 := by decide
  have l5 : ("card" : Str).length = 4 := by decide
  have l6 := wts_len h
  have l7 := hz.len
  rw [wl_app, wl_app, wl_cons, wl_cons, wl_nil, wl_cons, wl_cons, wl_nil]
  omega
theorem wl_table {bs : List Bool} (h : bs.length ≤ 1024) : wl ["table", lettersI bs] ≤ 5000 := by
  have l1 := wl_map ynS 1 bs fun b _ => ynS_len b
  have l2 : (lettersI bs).length ≤ wl (bs.map ynS) := wl_join (by decide) _
  have l5 : ("table" : Str).length = 5 := by decide
  rw [wl_cons, wl_cons, wl_nil]
  omega
theorem wl_say (b : Bool) : wl [wordOf b] ≤ 5000 := by
  have l2 := wordOf_len b
  rw [wl_cons, wl_nil]
  omega
theorem prodI_cons (a : Int) : ∀ (l : List Int) (x : Int), l.foldl (fun a b => a * b) (x * a) = l.foldl (fun a b => a * b) x * a
  | [], x => rfl
  | b :: l, x => by
    show l.foldl (fun a b => a * b) (x * a * b) = l.foldl (fun a b => a * b) (x * b) * a
    rw [Int.mul_right_comm, prodI_cons a l]
theorem fold_pos : ∀ (l : List Int) (x : Int), (∀ s ∈ l, 2 ≤ s) → 1 ≤ x → 1 ≤ l.foldl (fun a b => a * b) x
  | [], x, _, hx => hx
  | b :: l, x, h, hx => fold_pos l (x * b) (fun s hs => h s (List.mem_cons_of_mem _ hs)) (by
    have h2 := h b List.mem_cons_self
    have := Int.mul_le_mul hx (show 1 ≤ b by omega) (by decide) (by omega)
    omega)
theorem prodI_pos {sz : List Int} (hz : SzOk sz) : 1 ≤ prodI sz := fold_pos sz 1 (fun s hs => (hz.rng s hs).1) (by decide)
theorem natAbs_of {x : Int} (h0 : -1000000 ≤ x) (h1 : x ≤ 1000000) : x.natAbs ≤ 1000000 := by omega
def S_inner : ASp := fun cs O R X => ∃ b sz r t, cs = [.o b, .d (dSz sz), .d (.int (prodI sz)), .d (.int r)] ∧ SzOk sz ∧ BagAt O b t ∧ t + 2000 ≤ TMAX ∧ ∀ d ws O', Leaf sz d ws → wl ws ≤ 5000 → BagTo O O' b (t + 2000) → R (.d d) O'
theorem eqv_nilL (sz : List Int) : PyData.eqv (dSz sz) (.list []) = decide (sz = []) := by
  cases sz with
  | nil => simp [dSz, iD, PyData.eqv]; rfl
  | cons a r => simp [dSz, iD, PyData.eqv, PyData.eqvAll]
theorem bD_snoc (vs : List Bool) (x : Bool) : bD (vs ++ [x]) = bD vs ++ [.bool x] := by unfold bD; rw [List.map_append]; rfl
theorem inner_ok (T : Tx mg) (Fd : Df K mg "_law_inner_form" s__law_inner_form) (c1 : Cl P w K mg base "_law_draw" 1 2 S_law_draw) (c2 : Cl P w K mg base "_law_rule" 3 2 S_law_rule) (c3 : Cl P w K mg base "_law_values" 2 2 S_law_values) : Cl P w K mg base "_law_inner_form" 4 4 S_inner := by
  refine cl_of Fd sc__law_inner_form rfl (fun _ _ _ _ _ _ _ us e hl => by subst e; exact match us, hl with | [_, _, _, _], _ => rfl) fun f cdv A outer s H E B cs O R X hr hE hn hs => ⟨_, der__law_inner_form (k := 3) T c1 (by decide) c2 (by decide) c3 (by decide) hr, ?_⟩
  obtain ⟨b, sz, r, t, rfl, hz, hb, ht, hR⟩ := hs
  have hzl := hz.len
  unfold t__law_inner_form
  walk_at "d"
  refine ⟨rfl, b, _, t, rfl, by decide, by decide, hb, by omega, fun x O1 x0 x1 h1 => ?_⟩
  refine ds_seqM (fun ρ' O' => ρ' = [some (.o b), some (.d (dSz sz)), some (.d (.int (prodI sz))), some (.d (.int r)), some (.d (.int x)), none, none, none, none, none, none] ∧ O' = O1) ?_ ?_
  · walk_at "d"
    refine ⟨fun e => ?_, fun e => ?_⟩
    · walk_at "d"
      refine d2_neD Vw.d Vw.d (shaped_list (flatN_ints sz)) (shaped_list (flatN_ints [])) ?_
      walk_at "d"
      refine ⟨fun e2 => ?_, fun e2 => ?_⟩
      · have hne : sz ≠ [] := by
          intro z
          rw [eqv_nilL, decide_eq_true z] at e2
          exact absurd e2 (by decide)
        have hpos : 0 < sz.length := List.length_pos_iff.mpr hne
        walk_at "d"
        rw [ints_len]
        refine ⟨rfl, b, _, _, rfl, by omega, by omega, h1.at_, by omega, fun y O2 y0 y1 h2 => ?_⟩
        obtain ⟨a1, a2, a3⟩ := sz_at hz y0 y1
        walk_at "d"
        refine d2_ixL Vw.d rfl a1 ?_
        walk_at "d"
        refine ⟨rfl, b, _, _, rfl, by omega, a3, h2.at_, by omega, fun vs O3 v1 v2 h3 => ?_⟩
        walk_at "d"
        have hc : CondOk sz (y, vs) := ⟨⟨y0, y1⟩, v1⟩
        exact hR _ _ O3 (.is (y, vs) hc) (Nat.le_trans (wl_is hz hc v2) (by decide)) (((h1.trans h2).trans h3).mono (by omega))
      · walk_at "d"
        exact ⟨rfl, rfl⟩
    · refine Cs.f ?_
      walk_at "d"
      exact ⟨rfl, rfl⟩
  intro ρ' O' ⟨hρ, hO⟩
  rw [hρ, hO]
  refine ds_seqM (fun ρ' O' => ρ' = [some (.o b), some (.d (dSz sz)), some (.d (.int (prodI sz))), some (.d (.int r)), some (.d (.int x)), none, none, none, none, none, none] ∧ O' = O1) ?_ ?_
  · walk_at "d"
    refine ⟨fun e => ?_, fun e => ?_⟩
    · walk_at "d"
      refine ⟨rfl, b, _, _, rfl, by decide, by decide, h1.at_, by omega, fun y O2 y0 y1 h2 => ?_⟩
      walk_at "d"
      refine ⟨rfl, b, _, _, rfl, by decide, by decide, h2.at_, by omega, fun z O3 z0 z1 h3 => ?_⟩
      walk_at "d"
      obtain ⟨n, hn0, hn1, hn2⟩ : ∃ n : Int, atI [PyData.int y, .int 12] (if decide (z = 0) = true then 1 else 0) = some (.int n) ∧ 0 ≤ n ∧ n ≤ 12 := by
        by_cases q : z = 0
        · exact ⟨12, by rw [if_pos (decide_eq_true q)]; rfl, by decide, by decide⟩
        · exact ⟨y, by rw [decide_eq_false q]; rfl, y0, by omega⟩
      refine d2_ixL Vw.d rfl hn0 ?_
      walk_at "n"
      refine dx_lc (di_rng1 ?_)
      walk_at "d"
      have h3 := (h1.trans h2).trans h3
      refine ⟨n, rfl, by omega, by omega, fun i acc O4 => ∃ rs, acc = rs.map dRule ∧ (∀ r ∈ rs, RuleOk sz r) ∧ rs.length = i ∧ BagTo O O4 b (t + 3 + 60 * i), ⟨[], rfl, fun r hr => (by cases hr), rfl, h3⟩, fun i d acc O4 hd hi ⟨rs, e1, e2, e3, e4⟩ => ⟨_, gd_name, by simp, ?_⟩, fun acc O4 _ ⟨rs, e1, e2, e3, e4⟩ => ?_⟩
      · have hi := rg_get hd
        walk_at "d"
        refine Cs.t ?_
        walk_at "d"
        refine ⟨rfl, b, sz, _, rfl, hz, e4.at_, by omega, fun r O5 hr h5 => ?_⟩
        refine ⟨_, rfl, rs ++ [r], by rw [List.map_append, e1]; rfl, fun q hq => ?_, by rw [List.length_append, e3]; rfl, (e4.trans h5).mono (by omega)⟩
        rcases List.mem_append.mp hq with h | h
        · exact e2 q h
        · rw [List.mem_singleton.mp h]; exact hr
      · rw [rgD_length] at e3 e4
        subst e1
        walk_at "d"
        refine ⟨rfl, b, _, _, rfl, by decide, by decide, e4.at_, by omega, fun u O5 u0 u1 h5 => ?_⟩
        walk_at "d"
        exact hR _ _ O5 (.rules rs (decide (u = 1)) fun r hr => (e2 r hr).ok) (wl_rules hz e2 (by omega) _) ((e4.trans h5).mono (by omega))
    · walk_at "d"
      exact ⟨rfl, rfl⟩
  intro ρ' O' ⟨hρ, hO⟩
  rw [hρ, hO]
  refine ds_seqM (fun ρ' O' => ρ' = [some (.o b), some (.d (dSz sz)), some (.d (.int (prodI sz))), some (.d (.int r)), some (.d (.int x)), none, none, none, none, none, none] ∧ O' = O1) ?_ ?_
  · walk_at "d"
    refine ⟨fun e => ?_, fun e => ?_⟩
    · walk_at "n"
      refine dx_lc (di_list (dx_var rfl ⟨_, rfl, fun i acc O4 => ∃ ws, acc = ws.map dRow ∧ ws.map (fun r => (r.length : Int)) = sz.take i ∧ (∀ r ∈ ws, ∀ v ∈ r, -50 ≤ v ∧ v ≤ 50) ∧ BagTo O O4 b (t + 1 + 6 * i), ⟨[], rfl, rfl, fun r hr => (by cases hr), h1⟩, fun i d acc O4 hd hi ⟨ws, e1, e2, e3, e4⟩ => ⟨_, gd_name, by simp, ?_⟩, fun acc O4 _ ⟨ws, e1, e2, e3, e4⟩ => ?_⟩))
      · obtain ⟨s, hs, rfl⟩ := get_map hd
        have hi : i < sz.length := (List.getElem?_eq_some_iff.mp hs).1
        have hsr := hz.rng s (List.mem_of_getElem? hs)
        walk_at "d"
        refine Cs.t ?_
        walk_at "n"
        refine dx_lc (di_rng1 ?_)
        walk_at "d"
        refine ⟨s, rfl, by omega, by omega, fun j acc O5 => ∃ vs, acc = iD vs ∧ Ints (-50) 50 j vs ∧ BagTo O O5 b (t + 1 + 6 * i + j), ⟨[], rfl, .nil, e4⟩, fun j d acc O5 hd hj ⟨vs, g1, g2, g3⟩ => ⟨_, gd_name, by simp, ?_⟩, fun acc O5 _ ⟨vs, g1, g2, g3⟩ => ?_⟩
        · have hj := rg_get hd
          walk_at "d"
          refine Cs.t ?_
          walk_at "d"
          refine ⟨rfl, b, _, _, rfl, by decide, by decide, g3.at_, by omega, fun u O6 u0 u1 h6 => ?_⟩
          walk_at "d"
          exact ⟨_, rfl, vs ++ [u - 50], by rw [iD_snoc, g1], g2.snoc (by omega) (by omega), g3.trans h6⟩
        · rw [rgD_length] at g2 g3
          subst g1
          walk_at "d"
          refine ⟨_, rfl, ws ++ [vs], by rw [List.map_append, e1]; rfl, ?_, fun q hq => ?_, g3.mono (by omega)⟩
          · rw [List.map_append, e2, getElem?_take_succ hs]
            have := g2.1
            show _ ++ [((vs.length : Nat) : Int)] = _
            rw [this, Int.toNat_of_nonneg (by omega)]
          · rcases List.mem_append.mp hq with h | h
            · exact e3 q h
            · rw [List.mem_singleton.mp h]; exact g2.2
      · rw [ints_len, List.take_length] at e2
        rw [ints_len] at e4
        subst e1
        walk_at "d"
        refine ⟨rfl, b, _, _, rfl, by decide, by decide, e4.at_, by omega, fun u O5 u0 u1 h5 => ?_⟩
        walk_at "d"
        refine ⟨rfl, b, _, _, rfl, by decide, by decide, h5.at_, by omega, fun v O6 v0 v1 h6 => ?_⟩
        walk_at "d"
        refine ⟨rfl, b, _, _, rfl, by decide, by decide, h6.at_, by omega, fun y O7 y0 y1 h7 => ?_⟩
        obtain ⟨n, hn0, hn1, hn2⟩ : ∃ n : Int, (if y = 0 then PyData.int (u - 50) else .int (v - 2000)) = .int n ∧ -2000 ≤ n ∧ n ≤ 2000 := by
          by_cases q : y = 0
          · exact ⟨u - 50, by rw [if_pos q], by omega, by omega⟩
          · exact ⟨v - 2000, by rw [if_neg q], by omega, by omega⟩
        refine d2_ixL (d := .int n) Vw.d rfl (by rw [at2 y0 y1, hn0]) ?_
        walk_at "d"
        have hv : ∀ r ∈ ws, ∀ v ∈ r, v.natAbs ≤ 1000000 := fun r hr v hv => by have := e3 r hr v hv; omega
        exact hR _ _ O7 (.card ws n ⟨e2⟩ hv (by omega)) (wl_card hz ⟨e2⟩ hv (by omega)) ((((e4.trans h5).trans h6).trans h7).mono (by omega))
    · walk_at "d"
      exact ⟨rfl, rfl⟩
  intro ρ' O' ⟨hρ, hO⟩
  rw [hρ, hO]
  refine ds_seqM (fun ρ' O' => ρ' = [some (.o b), some (.d (dSz sz)), some (.d (.int (prodI sz))), some (.d (.int r)), some (.d (.int x)), none, none, none, none, none, none] ∧ O' = O1) ?_ ?_
  · walk_at "d"
    refine ⟨fun e => ?_, fun e => ?_⟩
    · walk_at "d"
      refine dc_min2 rfl rfl ?_
      walk_at "d"
      refine ⟨fun e2 => ?_, fun e2 => ?_⟩
      · have e2 := of_decide_eq_true e2
        have hp : prodI sz ≤ 1024 := by split at e2 <;> omega
        have hp0 := prodI_pos hz
        walk_at "n"
        refine dx_lc (di_rng1 ?_)
        walk_at "d"
        refine ⟨_, rfl, by omega, by omega, fun i acc O4 => ∃ bs, acc = bD bs ∧ bs.length = i ∧ BagTo O O4 b (t + 1 + i), ⟨[], rfl, rfl, h1⟩, fun i d acc O4 hd hi ⟨bs, e1, e2, e3⟩ => ⟨_, gd_name, by simp, ?_⟩, fun acc O4 _ ⟨bs, e1, e2, e3⟩ => ?_⟩
        · have hi := rg_get hd
          walk_at "d"
          refine Cs.t ?_
          walk_at "d"
          refine ⟨rfl, b, _, _, rfl, by decide, by decide, e3.at_, by omega, fun u O5 u0 u1 h5 => ?_⟩
          walk_at "d"
          exact ⟨_, rfl, bs ++ [decide (u = 1)], by rw [bD_snoc, e1], by rw [List.length_append, e2]; rfl, e3.trans h5⟩
        · rw [rgD_length] at e2 e3
          subst e1
          walk_at "d"
          exact hR _ _ O4 (.table bs (by omega) hp) (wl_table (by omega)) (e3.mono (by omega))
      · walk_at "d"
        exact ⟨rfl, rfl⟩
    · refine Cs.f ?_
      walk_at "d"
      exact ⟨rfl, rfl⟩
  intro ρ' O' ⟨hρ, hO⟩
  rw [hρ, hO]
  walk_at "d"
  refine ⟨rfl, b, _, _, rfl, by decide, by decide, h1.at_, by omega, fun u O5 u0 u1 h5 => ?_⟩
  walk_at "d"
  exact hR _ _ O5 (.say (decide (u = 1))) (wl_say _) ((h1.trans h5).mono (by omega))
end
section
variable {P : Program} {w : World} {K : PySem.W.Frag} {mg : Str → Option Value} {base : Heap}
def leftD (a c : Int) : Option Ob := some (.lst [.int a, .int c])
theorem le2 {a b : D} : [a, b].length ≤ sizeLine := by show 2 ≤ 2 ^ 24; decide
theorem Rows.snoc {p : D → List Str → Prop} {ds : List D} {ws : List Str} (h : Rows p ds ws) {d : D} {u : List Str} (hd : p d u) : Rows p (ds ++ [d]) (ws ++ u) := by
  induction h with
  | nil => have := Rows.cons hd (Rows.nil (p := p)); simpa using this
  | cons h1 h2 ih => rw [List.cons_append, List.append_assoc]; exact .cons h1 ih
theorem BagAt.setO {O : Ow} {b l m : Nat} (h : BagAt O b m) (hn : b ≠ l) (x : Option Ob) : BagAt (O.set l x) b m := by
  obtain ⟨r, s, t, h, ok⟩ := h
  exact ⟨r, s, t, by rw [List.getElem?_set_ne (Ne.symm hn)]; exact h, ok⟩
theorem set_here {O : Ow} {l : Nat} {x : Option Ob} (y : Option Ob) (h : O[l]? = some x) : (O.set l y)[l]? = some y := by
  rw [List.getElem?_set_self (List.getElem?_eq_some_iff.mp h).1]
def S_form (n : Nat) : ASp := fun cs O R X => ∃ b sz l lv t a c, cs = [.o b, .d (dSz sz), .d (.int (prodI sz)), .o l, .d (.int lv)] ∧ 1 ≤ n ∧ lv + (n : Int) = 9 ∧ 1 ≤ lv ∧ b ≠ l ∧ SzOk sz ∧ BagAt O b t ∧ O[l]? = some (leftD a c) ∧ 0 ≤ a ∧ 0 ≤ c ∧ c ≤ 4000 ∧ (t : Int) + 3000 * (a + 1) ≤ TMAX ∧
  ∀ d ws O' a' c' t', FW n sz d ws → (wl ws : Int) ≤ 6000 * (a - a' + 1) → 0 ≤ a' → a' ≤ a → 0 ≤ c' → c' ≤ c → ((t' : Nat) : Int) ≤ t + 3000 * (a - a' + 1) → BagAt O' b t' → O'[l]? = some (leftD a' c') → R (.d d) O'
theorem inConn {k : Str} (h : ([PyData.str "and", .str "or", .str "odd"].any fun z => PyData.eqv z (.str k)) = true) : Conn k := by
  simp only [List.any_cons, List.any_nil, eqv_str, Bool.or_false, Bool.or_eq_true, decide_eq_true_eq] at h
  rcases h with h | h | h
  · rw [← h]; exact .and
  · rw [← h]; exact .or
  · rw [← h]; exact .odd
theorem at8 {a0 a1 a2 a3 a4 a5 a6 a7 : Str} {x : Int} (h0 : 0 ≤ x) (h1 : x < 8) : ∃ k, atI [PyData.str a0, .str a1, .str a2, .str a3, .str a4, .str a5, .str a6, .str a7] x = some (.str k) := by
  have h : x = 0 ∨ x = 1 ∨ x = 2 ∨ x = 3 ∨ x = 4 ∨ x = 5 ∨ x = 6 ∨ x = 7 := by omega
  rcases h with rfl | rfl | rfl | rfl | rfl | rfl | rfl | rfl <;> exact ⟨_, rfl⟩
theorem wl_paren (ws : List Str) : wl ([("(" : Str)] ++ ws ++ [(")" : Str)]) = wl ws + 4 := by
  have l3 : ("(" : Str).length = 1 := by decide
  have l4 : (")" : Str).length = 1 := by decide
  rw [wl_app, wl_app, wl_cons, wl_nil, wl_cons, wl_nil]
  omega
/-- the grown rows of smaller forms -/
theorem grow_run {B : Bs} {O0 : Ow} {Rr : RX} {n b l many slot : Nat} {sz : List Int} {k : Str} {lv a c : Int} {t : Nat} {ρ : En} (hs : slot = 11 ∨ slot = 12)
    (r0 : ∀ as : List (Nat × D), (∀ q ∈ as, q.1 = slot) → ∃ T, setsD (wipeE ρ [slot]) as = [some (.o b), some (.d (dSz sz)), some (.d (.int (prodI sz))), some (.o l), some (.d (.int lv)), some (.d (.str k))] ++ T)
    (r9 : ρ[9]? = some (some (.d (.int (many : Int))))) (hm : many ≤ 100) (hn : 1 ≤ n) (h9 : lv + 1 + (n : Int) = 9) (hlv : 1 ≤ lv) (hbl : b ≠ l) (hz : SzOk sz) (hb : BagAt O0 b t) (hl : O0[l]? = some (leftD a c)) (ha : 0 ≤ a) (hc : 0 ≤ c) (hc2 : c ≤ 4000)
    (ht : (t : Int) + 3000 * (a + many) ≤ TMAX)
    (hR : ∀ ds ws O' a' c' t', ds.length = many → Rows (FW n sz) ds ws → (wl ws : Int) ≤ 6000 * (a - a' + many) → 0 ≤ a' → a' ≤ a → 0 ≤ c' → c' ≤ c → ((t' : Nat) : Int) ≤ t + 3000 * (a - a' + many) → BagAt O' b t' → O'[l]? = some (leftD a' c') → Rr (.d (.list ds)) O') :
    DX B (tLc (iRng1 (tCons (tVar 9) tNil)) (gName slot) tYes (tCall (spA 5 (S_form n)) [] E0 (tCons (tVar 0) (tCons (tVar 1) (tCons (tVar 2) (tCons (tVar 3) (tCons (tOp (rAddA K) (tVar 4) (tC (.int 1))) tNil)))))) [slot]) ρ O0 Rr := by
  refine dx_lc (di_rng1 ?_)
  walk_at "d1"
  refine dx_var r9 ?_
  walk_at "d1"
  refine ⟨_, rfl, by omega, by omega, fun i acc O4 => ∃ ws a' c' t', acc.length = i ∧ Rows (FW n sz) acc ws ∧ (wl ws : Int) ≤ 6000 * (a - a' + i) ∧ 0 ≤ a' ∧ a' ≤ a ∧ 0 ≤ c' ∧ c' ≤ c ∧ ((t' : Nat) : Int) ≤ t + 3000 * (a - a' + i) ∧ BagAt O4 b t' ∧ O4[l]? = some (leftD a' c'),
    ⟨[], a, c, t, rfl, .nil, by rw [wl_nil]; omega, ha, Int.le_refl _, hc, Int.le_refl _, by omega, hb, hl⟩, fun i d acc O4 hd hi ⟨ws, a', c', t', e1, e2, e3, e4, e5, e6, e7, e8, e9, e10⟩ => ⟨_, gd_name, by simp, ?_⟩, fun acc O4 _ ⟨ws, a', c', t', e1, e2, e3, e4, e5, e6, e7, e8, e9, e10⟩ => ?_⟩
  · have hi := rg_get hd
    rw [Int.toNat_natCast] at hi
    obtain ⟨T, hT⟩ := r0 [(slot, d)] (by simp)
    rw [hT]
    walk_at "d"
    refine Cs.t ?_
    walk_at "d"
    refine ⟨rfl, b, sz, l, lv + 1, t', a', c', rfl, hn, h9, by omega, hbl, hz, e9, e10, e4, e6, by omega, by omega, fun d ws2 O5 a2 c2 t2 g1 g2 g3 g4 g5 g6 g7 g8 g9 => ?_⟩
    refine ⟨d, rfl, ws ++ ws2, a2, c2, t2, by rw [List.length_append, e1]; rfl, e2.snoc g1, ?_, g3, by omega, g5, by omega, by omega, g8, g9⟩
    rw [wl_app]
    omega
  · rw [rgD_length, Int.toNat_natCast] at e1 e3 e8
    exact hR acc ws O4 a' c' t' e1 e2 e3 e4 e5 e6 e7 e8 e9 e10
end
section
variable {P : Program} {w : World} {K : PySem.W.Frag} {mg : Str → Option Value} {base : Heap}
theorem setsD_pre {pre S : En} (as : List (Nat × D)) (h : ∀ q ∈ as, pre.length ≤ q.1) : ∃ T, setsD (pre ++ S) as = pre ++ T := by
  induction as generalizing S with
  | nil => exact ⟨S, rfl⟩
  | cons q as ih =>
    have e : (pre ++ S).set q.1 (some (.d q.2)) = pre ++ S.set (q.1 - pre.length) (some (.d q.2)) := List.set_append_right _ _ (h q List.mem_cons_self)
    obtain ⟨T, hT⟩ := ih (S := S.set (q.1 - pre.length) (some (.d q.2))) fun r hr => h r (List.mem_cons_of_mem _ hr)
    exact ⟨T, by rw [← hT, ← e]; rfl⟩
theorem form_ok {n j : Nat} (T : Tx mg) (Fd : Df K mg "_law_form" s__law_form) (c1 : Cl P w K mg base "_law_draw" 1 2 S_law_draw) (c2 : Cl P w K mg base "_law_words" 3 1 (S_words_of (FW 1))) (c3 : Cl P w K mg base "_law_inner_form" 4 4 S_inner) (c4 : Cl P w K mg base "_law_form" j 5 (S_form n)) (hj : 4 ≤ j) : Cl P w K mg base "_law_form" (j + 1) 5 (S_form (n + 1)) := by
  refine cl_of Fd sc__law_form rfl (fun _ _ _ _ _ _ _ us e hl => by subst e; exact match us, hl with | [_, _, _, _, _], _ => rfl) fun f cdv A outer s H E B cs O R X hr hE hn hs => ⟨_, der__law_form T c1 (by omega) c2 (by omega) c3 (by omega) c4 (Nat.le_refl _) hr, ?_⟩
  obtain ⟨b, sz, l, lv, t, a, c, rfl, hn1, h9, hlv, hbl, hz, hb, hl, ha, hc, hc2, ht, hR⟩ := hs
  have hzl := hz.len
  have hlb : l ≠ b := Ne.symm hbl
  unfold t__law_form
  walk_at "d"
  refine ⟨rfl, b, _, t, rfl, by decide, by decide, hb, by omega, fun x O1 x0 x1 h1 => ?_⟩
  obtain ⟨k, hk⟩ := at8 (a0 := "") (a1 := "") (a2 := "tree") (a3 := "not") (a4 := "and") (a5 := "or") (a6 := "odd") (a7 := "tree") x0 x1
  refine d2_ixL Vw.d rfl hk ?_
  have hl1 : O1[l]? = some (leftD a c) := by rw [h1.other hlb]; exact hl
  have hb1 := h1.at_
  refine ds_seqM (fun ρ' O' => ∃ v8 v9, ρ' = [some (.o b), some (.d (dSz sz)), some (.d (.int (prodI sz))), some (.o l), some (.d (.int lv)), some (.d (.str k)), none, none, v8, v9, none, none, none] ∧ BagAt O' b (t + 2) ∧ O'[l]? = some (leftD a c)) ?_ ?_
  · walk_at "d"
    refine ⟨fun e => ?_, fun e => ?_⟩
    · have hkt : k = "tree" := of_decide_eq_true e
      walk_at "d"
      refine d2_neD Vw.d Vw.d (shaped_list (flatN_ints sz)) (shaped_list (flatN_ints [])) ?_
      walk_at "d"
      refine ⟨fun e2 => ?_, fun e2 => ?_⟩
      · have hne : sz ≠ [] := by
          intro z
          rw [eqv_nilL, decide_eq_true z] at e2
          exact absurd e2 (by decide)
        have hpos : 0 < sz.length := List.length_pos_iff.mpr hne
        walk_at "d"
        refine ⟨fun e3 => ?_, fun e3 => ?_⟩
        · have hl8 := of_decide_eq_true e3
          walk_at "d"
          rw [ints_len]
          refine ⟨rfl, b, _, _, rfl, by omega, by omega, hb1, by omega, fun y O2 y0 y1 h2 => ?_⟩
          obtain ⟨a1, a2, a3⟩ := sz_at hz y0 y1
          have hl2 : O2[l]? = some (leftD a c) := by rw [h2.other hlb]; exact hl1
          have hb2 := h2.at_
          walk_at "d"
          refine d2_ixL Vw.d rfl a1 ?_
          walk_at "d"
          refine d2_ixL (Vw.o hl2 le2) rfl rfl ?_
          walk_at "d"
          refine ⟨fun e4 => ?_, fun e4 => ?_⟩
          · have hma := of_decide_eq_true e4
            walk_at "d"
            refine d2_ixL (Vw.o hl2 le2) rfl rfl ?_
            walk_at "d"
            refine dg_sub ?_
            walk_at "d"
            refine ⟨l, _, 0, 0, _, rfl, hl2, rfl, rfl, rfl, ?_⟩
            show DS B _ _ (O2.set l (leftD (a - sz.getD y.toNat 0) c)) _
            generalize hmg : sz.getD y.toNat 0 = many at *
            obtain ⟨m, rfl⟩ : ∃ m : Nat, many = m := ⟨many.toNat, by omega⟩
            walk_at "n"
            refine grow_run (many := m) (lv := lv) (a := a - m) (c := c) (t := t + 2) (k := k) (.inl rfl) ?_ rfl (by omega) (by omega) (by omega) hlv hbl hz (hb2.setO hbl _) (set_here _ hl2) (by omega) hc hc2 (by omega) fun ds ws O3 a' c' t' g1 g2 g3 g4 g5 g6 g7 g8 g9 g10 => ?_
            · intro as has
              exact setsD_pre (pre := [some (.o b), some (.d (dSz sz)), some (.d (.int (prodI sz))), some (.o l), some (.d (.int lv)), some (.d (.str k))]) (S := [none, none, some (.d (.int y)), some (.d (.int m)), none, none, none]) as fun q hq => by rw [has q hq]; show 6 ≤ 11; decide
            walk_at "d"
            have hlen : ((ds.length : Nat) : Int) = sz.getD y.toNat 0 := by rw [hmg, g1]
            have hw : Node sz (FW n sz) (.tuple [.str "tree", .int y, .tuple ds]) ([("tree" : Str), strI y] ++ ([("(" : Str)] ++ ws ++ [(")" : Str)])) := .tree y0 y1 hlen g2
            refine hR _ _ O3 a' c' t' hw ?_ g4 (by omega) g6 g7 (by omega) g9 g10
            have l1 := strI_len (i := y) (by omega)
            have l2 : ("tree" : Str).length = 4 := by decide
            rw [wl_app, wl_paren, wl_cons, wl_cons, wl_nil]
            omega
          · walk_at "d"
            exact ⟨_, _, rfl, hb2, hl2⟩
        · walk_at "d"
          exact ⟨_, _, rfl, hb1.mono (by omega), hl1⟩
      · refine Cs.f ?_
        walk_at "d"
        exact ⟨_, _, rfl, hb1.mono (by omega), hl1⟩
    · refine Cs.f ?_
      walk_at "d"
      exact ⟨_, _, rfl, hb1.mono (by omega), hl1⟩
  intro ρ' O2 ⟨v8, v9, hρ, hb2, hl2⟩
  rw [hρ]
  refine ds_seqM (fun ρ' O' => ρ' = [some (.o b), some (.d (dSz sz)), some (.d (.int (prodI sz))), some (.o l), some (.d (.int lv)), some (.d (.str k)), none, none, v8, v9, none, none, none] ∧ O' = O2) ?_ ?_
  · walk_at "d"
    refine ⟨fun e => ?_, fun e => ?_⟩
    · have hkt : k = "not" := of_decide_eq_true e
      walk_at "d"
      refine ⟨fun e2 => ?_, fun e2 => ?_⟩
      · have hl8 := of_decide_eq_true e2
        walk_at "d"
        refine d2_ixL (Vw.o hl2 le2) rfl rfl ?_
        walk_at "d"
        refine ⟨fun e3 => ?_, fun e3 => ?_⟩
        · have ha0 := of_decide_eq_true e3
          walk_at "d"
          refine d2_ixL (Vw.o hl2 le2) rfl rfl ?_
          walk_at "d"
          refine dg_sub ?_
          walk_at "d"
          refine ⟨l, _, 0, 0, _, rfl, hl2, rfl, rfl, rfl, ?_⟩
          show DS B _ _ (O2.set l (leftD (a - 1) c)) _
          walk_at "d"
          refine ⟨rfl, b, sz, l, lv + 1, t + 2, a - 1, c, rfl, by omega, by omega, by omega, hbl, hz, hb2.setO hbl _, set_here _ hl2, by omega, hc, hc2, by omega, fun d ws O3 a' c' t' g1 g2 g3 g4 g5 g6 g7 g8 g9 => ?_⟩
          walk_at "d"
          have hln : ("not" : Str).length = 3 := by decide
          exact hR _ ("not" :: ws) O3 a' c' t' (.not g1) (by rw [wl_cons]; omega) g3 (by omega) g5 g6 (by omega) g8 g9
        · walk_at "d"
          exact ⟨rfl, rfl⟩
      · refine Cs.f ?_
        walk_at "d"
        exact ⟨rfl, rfl⟩
    · refine Cs.f ?_
      walk_at "d"
      exact ⟨rfl, rfl⟩
  intro ρ' O' ⟨hρ, hO⟩
  rw [hρ, hO]
  refine ds_seqM (fun ρ' O' => ρ' = [some (.o b), some (.d (dSz sz)), some (.d (.int (prodI sz))), some (.o l), some (.d (.int lv)), some (.d (.str k)), none, none, v8, v9, none, none, none] ∧ O' = O2) ?_ ?_
  · walk_at "d"
    refine d2_inL Vw.d Vw.d (by rfl) (by rfl) ?_
    walk_at "d"
    refine ⟨fun e => ?_, fun e => ?_⟩
    · have hkc := inConn e
      have hkl : k.length ≤ 3 := by cases hkc <;> decide
      walk_at "d"
      refine ⟨rfl, b, _, _, rfl, by decide, by decide, hb2, by omega, fun y O3 y0 y1 h3 => ?_⟩
      have hl3 : O3[l]? = some (leftD a c) := by rw [h3.other hlb]; exact hl2
      have hb3 := h3.at_
      refine ds_seqM (fun ρ' O' => O' = O3 ∧ ∃ T, ρ' = [some (.o b), some (.d (dSz sz)), some (.d (.int (prodI sz))), some (.o l), some (.d (.int lv)), some (.d (.str k))] ++ T) ?_ ?_
      · walk_at "d"
        refine ⟨fun e2 => ?_, fun e2 => ?_⟩
        · have hl8 := of_decide_eq_true e2
          walk_at "d"
          refine d2_ixL (Vw.o hl3 le2) rfl rfl ?_
          walk_at "d"
          refine ⟨fun e3 => ?_, fun e3 => ?_⟩
          · have hma := of_decide_eq_true e3
            walk_at "d"
            refine d2_ixL (Vw.o hl3 le2) rfl rfl ?_
            walk_at "d"
            refine dg_sub ?_
            walk_at "d"
            refine ⟨l, _, 0, 0, _, rfl, hl3, rfl, rfl, rfl, ?_⟩
            show DS B _ _ (O3.set l (leftD (a - y) c)) _
            obtain ⟨m, rfl⟩ : ∃ m : Nat, y = m := ⟨y.toNat, by omega⟩
            walk_at "n"
            refine grow_run (many := m) (lv := lv) (a := a - m) (c := c) (t := t + 3) (k := k) (.inr rfl) ?_ rfl (by omega) (by omega) (by omega) hlv hbl hz (hb3.setO hbl _) (set_here _ hl3) (by omega) hc hc2 (by omega) fun ds ws O4 a' c' t' g1 g2 g3 g4 g5 g6 g7 g8 g9 g10 => ?_
            · intro as has
              exact setsD_pre (pre := [some (.o b), some (.d (dSz sz)), some (.d (.int (prodI sz))), some (.o l), some (.d (.int lv)), some (.d (.str k))]) (S := [none, none, v8, some (.d (.int m)), none, none, none]) as fun q hq => by rw [has q hq]; show 6 ≤ 12; decide
            walk_at "d"
            refine hR _ ([k] ++ ([("(" : Str)] ++ ws ++ [(")" : Str)])) O4 a' c' t' (.conn hkc g2) ?_ g4 (by omega) g6 g7 (by omega) g9 g10
            rw [wl_app, wl_paren, wl_cons, wl_nil]
            omega
          · walk_at "d"
            exact ⟨rfl, _, rfl⟩
        · refine Cs.f ?_
          walk_at "d"
          exact ⟨rfl, _, rfl⟩
      intro ρ' O' ⟨hO, U, hρ⟩
      rw [hρ, hO]
      walk_at "d"
      refine hR _ ([k] ++ ([("(" : Str)] ++ [] ++ [(")" : Str)])) O3 a c _ (.conn hkc .nil) ?_ ha (Int.le_refl _) hc (Int.le_refl _) (by omega) hb3 hl3
      rw [wl_app, wl_paren, wl_cons, wl_nil]
      omega
    · walk_at "d"
      exact ⟨rfl, rfl⟩
  intro ρ' O' ⟨hρ, hO⟩
  rw [hρ, hO]
  walk_at "d"
  refine d2_ixL (Vw.o hl2 le2) rfl rfl ?_
  walk_at "d"
  refine ⟨rfl, b, sz, c, t + 2, rfl, hz, hb2, by omega, fun d ws O3 g1 g2 g3 => ?_⟩
  have hl3 : O3[l]? = some (leftD a c) := by rw [g3.other hlb]; exact hl2
  have hb3 := g3.at_
  walk_at "d"
  refine ⟨⟨_, rfl⟩, ?_⟩
  walk_at "d"
  refine ⟨rfl, sz, d, ws, rfl, hz, .leaf g1, by omega, ?_⟩
  refine dm_joinE ws rfl rfl rfl (by decide) (by omega) ?_
  walk_at "d"
  refine d2_ixL (Vw.o hl3 le2) rfl rfl ?_
  walk_at "d"
  refine ⟨fun e => ?_, fun e => ?_⟩
  · have e := of_decide_eq_true e
    walk_at "d"
    refine d2_ixL (Vw.o hl3 le2) rfl rfl ?_
    walk_at "d"
    refine dg_sub ?_
    walk_at "d"
    refine ⟨l, _, 1, 1, _, rfl, hl3, rfl, rfl, rfl, ?_⟩
    walk_at "d"
    exact hR d ws _ a _ _ (.leaf g1) (by omega) ha (Int.le_refl _) (by omega) (by omega) (by omega) (hb3.setO hbl _) (set_here _ hl3)
  · walk_at "d"
    refine ⟨rfl, b, _, _, rfl, by decide, by decide, hb3, by omega, fun u O5 u0 u1 h5 => ?_⟩
    walk_at "d"
    have := wl_say (decide (u = 1))
    exact hR _ _ O5 a c _ (.leaf (.say (decide (u = 1)))) (by omega) ha (Int.le_refl _) hc (Int.le_refl _) (by omega) h5.at_ (by rw [h5.other hlb]; exact hl3)
end
section
variable {P : Program} {w : World} {K : PySem.W.Frag} {mg : Str → Option Value} {base : Heap}
theorem form_all (T : Tx mg) (Fd : Df K mg "_law_form" s__law_form) (c1 : Cl P w K mg base "_law_draw" 1 2 S_law_draw) (c2 : Cl P w K mg base "_law_words" 3 1 (S_words_of (FW 1))) (c3 : Cl P w K mg base "_law_inner_form" 4 4 S_inner) : ∀ n, Cl P w K mg base "_law_form" (4 + n) 5 (S_form n)
  | 0 => (cl_no (k := 3) Fd sc__law_form rfl (fun _ _ _ _ _ _ _ us e hl => by subst e; exact match us, hl with | [_, _, _, _, _], _ => rfl)).imp fun cs O R X ⟨b, sz, l, lv, t, a, c, h1, h2, h3⟩ => absurd h2 (by decide)
  | n + 1 => form_ok T Fd c1 c2 c3 (form_all T Fd c1 c2 c3 n) (Nat.le_add_right _ _)
theorem cut_int {ns : List Int} {lo hi : Option Int} {d : D} (h : d ∈ cutD (ns.map PyData.int) lo hi) : ∃ i, d = .int i := by
  unfold cutD at h
  obtain ⟨i, _, e⟩ := List.mem_map.mp (List.mem_of_mem_drop (List.mem_of_mem_take h))
  exact ⟨i, e.symm⟩
theorem law_run {B : Bs} {a : Addr} {ns : List Int} (hl : ns.length ≤ 63) (hB : ∀ (F H : Hp) (al : List Addr) (O : Ow), B.p F H al → Rep F H al O → SqL K H a (ns.map V.int)) :
    DS B (t_law K (S_words_of (FW 8)) (S_write_form 8) S_cases (S_form 8) S_any S_law_bag) (startE n_law [.v (.ref a)]) [] { nx := fun _ _ => False, rt := fun c _ => c = .d (.bool true) } := by
  unfold t_law
  walk_at "d"
  refine ds_for (di_list ?_)
  walk_at "d"
  refine ⟨6, rfl, ?_⟩
  refine d3_raw (ns := ns) (fun F H al b r => hB F H al _ b r) (by unfold sizeLine; omega) ?_
  have hcl := cutD_length (ns.map PyData.int) none (some 6)
  rw [List.length_map] at hcl
  refine d2_addL Vw.d Vw.d (by simp only [List.length_cons, List.length_nil, sizeLine, Nat.reducePow]; omega) ?_
  refine ⟨_, rfl, fun i ρ2 O2 => ∃ v1 v2 v3 v4 v5 v6, ρ2 = [some (.v (.ref a)), v1, v2, v3, v4, v5, v6], ⟨none, none, none, none, none, none, rfl⟩, fun i d ρ2 O2 hd ⟨v1, v2, v3, v4, v5, v6, hρ⟩ => ⟨_, gd_name, ?_⟩, fun ρ2 O2 ⟨v1, v2, v3, v4, v5, v6, hρ⟩ => ?_⟩
  · subst hρ
    obtain ⟨c, rfl⟩ : ∃ c, d = .int c := by
      rcases List.mem_append.mp (List.mem_of_getElem? hd) with h | h
      · exact ⟨0, List.mem_singleton.mp h⟩
      · exact cut_int h
    walk_at "d"
    refine ⟨rfl, c, rfl, fun r s ok => ?_⟩
    have hb : BagAt (O2 ++ [bagD r s 0]) O2.length 0 := ⟨r, s, 0, getLast1 _ rfl, ok⟩
    walk_at "d"
    refine ⟨rfl, _, 0, rfl, hb, by decide, fun sz O3 hz h3 => ?_⟩
    have hb3 := h3.at_
    walk_at "n"
    refine ⟨rfl, sz, rfl, hz, ?_⟩
    walk_at "n"
    refine dx_lstO ?_
    walk_at "n"
    have hbl := hb3.lt
    refine ⟨rfl, _, sz, _, 1, 40, 59, 4000, rfl, by decide, by decide, by decide, Nat.ne_of_lt hbl, hz, hb3.app _, getLast1 _ rfl, by decide, by decide, by decide, by decide, fun d ws O4 a' c' t' g1 g2 g3 g4 g5 g6 g7 g8 g9 => ?_⟩
    have hwl : wl ws ≤ 1000000 := by omega
    walk_at "n"
    refine ⟨rfl, sz, d, ws, rfl, hz, g1, hwl, ?_⟩
    walk_at "n"
    refine Cs.isF rfl ?_
    walk_at "n"
    refine ⟨⟨_, rfl⟩, ?_⟩
    walk_at "n"
    refine ⟨rfl, sz, d, ws, rfl, hz, g1, hwl, ?_⟩
    refine dm_joinE ws rfl rfl rfl (by decide) (by omega) ?_
    walk_at "n"
    refine Cs.isF (by simp) ?_
    walk_at "n"
    refine d2_neD Vw.d Vw.d (shaped_list (flatN_ints sz)) (shaped_list (flatN_ints sz)) ?_
    walk_at "n"
    refine Cs.isF ?_ ?_
    · show (!PyData.eqv (.list (sz.map .int)) (.list (sz.map .int))) = false
      rw [eqv_ints]; simp
    walk_at "n"
    exact ⟨_, _, _, _, _, _, rfl⟩
  · subst hρ
    walk_at "d"
    rfl
structure Defs (K : PySem.W.Frag) (mg : Str → Option Value) : Prop where
  is_whole : Df K mg "is_whole" s_is_whole
  is_below : Df K mg "is_below" s_is_below
  is_sizes : Df K mg "is_sizes" s_is_sizes
  need_sizes : Df K mg "need_sizes" s_need_sizes
  product : Df K mg "product" s_product
  is_values : Df K mg "is_values" s_is_values
  is_condition : Df K mg "is_condition" s_is_condition
  is_conditions : Df K mg "is_conditions" s_is_conditions
  is_rule : Df K mg "is_rule" s_is_rule
  is_weights : Df K mg "is_weights" s_is_weights
  is_results : Df K mg "is_results" s_is_results
  is_all_forms : Df K mg "is_all_forms" s_is_all_forms
  is_branches : Df K mg "is_branches" s_is_branches
  fits_two : Df K mg "fits_two" s_fits_two
  fits_three : Df K mg "fits_three" s_fits_three
  fits : Df K mg "fits" s_fits
  need_form : Df K mg "need_form" s_need_form
  word_of : Df K mg "word_of" s_word_of
  with_commas : Df K mg "with_commas" s_with_commas
  letters_of : Df K mg "letters_of" s_letters_of
  words_of_rule : Df K mg "words_of_rule" s_words_of_rule
  words_of_all : Df K mg "words_of_all" s_words_of_all
  words_of : Df K mg "words_of" s_words_of
  write_form : Df K mg "write_form" s_write_form
  law_bag : Df K mg "_law_bag" s__law_bag
  law_draw : Df K mg "_law_draw" s__law_draw
  law_small : Df K mg "_law_small_sheet" s__law_small_sheet
  law_any : Df K mg "_law_any_sheet" s__law_any_sheet
  law_cases : Df K mg "_law_cases" s__law_cases
  law_commas : Df K mg "_law_commas" s__law_commas
  law_rules : Df K mg "_law_words_of_rules" s__law_words_of_rules
  law_words : Df K mg "_law_words" s__law_words
  law_values : Df K mg "_law_values" s__law_values
  law_rule : Df K mg "_law_rule" s__law_rule
  law_inner : Df K mg "_law_inner_form" s__law_inner_form
  law_form : Df K mg "_law_form" s__law_form
def spLaw (K : PySem.W.Frag) : Sp := fun vs H Q _ => ∃ (a : Addr) (ns : List Int), vs = [.ref a] ∧ ns.length ≤ 63 ∧ SqL K H a (ns.map V.int) ∧ ∀ H', Q (.bl true) H'
theorem law_fn {f : Addr} {fd : FuncData} (T : Tx mg) (D : Defs K mg) (F : FnP K "law" s_law f fd) : FnOk P w K mg base CX0 39 f fd ["script"] (spLaw K) := by
  have whole := is_whole_ok (P := P) (w := w) (base := base) T D.is_whole
  have below := is_below_ok (P := P) (w := w) (base := base) T D.is_below whole
  have sizes := is_sizes_ok T D.is_sizes below
  have needs := need_sizes_ok T D.need_sizes sizes
  have prod := product_ok (P := P) (w := w) (base := base) T D.product
  have vals := is_values_ok T D.is_values below
  have cond := is_condition_ok T D.is_condition below vals
  have conds := is_conditions_ok T D.is_conditions cond
  have rule := is_rule_ok T D.is_rule conds
  have wts := is_weights_ok T D.is_weights whole
  have res := is_results_ok T D.is_results prod
  have fit := fits_all T D.fits D.fits_two D.fits_three D.is_all_forms D.is_branches wts whole rule cond res below 8
  have needf := need_form_ok T D.need_form fit
  have word := word_of_ok (P := P) (w := w) (base := base) T D.word_of
  have coms := with_commas_ok (P := P) (w := w) (base := base) T D.with_commas
  have lets := letters_of_ok (P := P) (w := w) (base := base) T D.letters_of
  have wrule := words_of_rule_ok T D.words_of_rule word coms
  have words := words_of_all' T D.words_of D.words_of_all lets coms word wrule 8
  have write := write_form_ok (j := 37) T D.write_form (words.mono (by decide)) (needf.mono (by decide)) (needs.mono (by decide))
  have bag := law_bag_ok (P := P) (w := w) (base := base) T D.law_bag
  have draw := law_draw_ok (P := P) (w := w) (base := base) T D.law_draw
  have small := small_ok T D.law_small draw
  have any := any_ok T D.law_any draw small
  have cases := cases_ok (P := P) (w := w) (base := base) T D.law_cases
  have lcom := law_commas_ok (P := P) (w := w) (base := base) T D.law_commas
  have lrul := law_rules_ok T D.law_rules lcom
  have lwords := law_words_all T D.law_words lcom lrul
  have lvals := law_values_ok T D.law_values draw
  have lrule := law_rule_ok T D.law_rule draw lvals
  have inner := inner_ok T D.law_inner draw lrule lvals
  have form := form_all T D.law_form draw (lwords 1) inner 8
  refine F.ok sc_law (fun vs H Q E h => ?_) (fun cdv A outer s H vs Q E hr h => ⟨_, PSs.nox (der_law (k := 38) T (lwords 8) (by decide) write (by decide) cases (by decide) form (by decide) any (by decide) bag (by decide) hr), ?_⟩)
  · obtain ⟨a, ns, rfl, _⟩ := h
    rfl
  · obtain ⟨a, ns, rfl, hl, hS, hQ⟩ := h
    exact law_of hS (fun B hB => law_run hl hB) hQ
end
section
def dOf (x : Str) (i : Nat) : He.DefD := ⟨(x, none), x, x, defArgs (top i), defBody (top i), defScope (top i), [], []⟩
def d_is_whole : He.DefD := ⟨("is_whole", none), "is_whole", "is_whole", defArgs s_is_whole, defBody s_is_whole, defScope s_is_whole, [], []⟩
def d_is_below : He.DefD := ⟨("is_below", none), "is_below", "is_below", defArgs s_is_below, defBody s_is_below, defScope s_is_below, [], []⟩
def d_is_sizes : He.DefD := ⟨("is_sizes", none), "is_sizes", "is_sizes", defArgs s_is_sizes, defBody s_is_sizes, defScope s_is_sizes, [], []⟩
def d_need_sizes : He.DefD := ⟨("need_sizes", none), "need_sizes", "need_sizes", defArgs s_need_sizes, defBody s_need_sizes, defScope s_need_sizes, [], []⟩
def d_product : He.DefD := ⟨("product", none), "product", "product", defArgs s_product, defBody s_product, defScope s_product, [], []⟩
def d_is_values : He.DefD := ⟨("is_values", none), "is_values", "is_values", defArgs s_is_values, defBody s_is_values, defScope s_is_values, [], []⟩
def d_is_condition : He.DefD := ⟨("is_condition", none), "is_condition", "is_condition", defArgs s_is_condition, defBody s_is_condition, defScope s_is_condition, [], []⟩
def d_is_conditions : He.DefD := ⟨("is_conditions", none), "is_conditions", "is_conditions", defArgs s_is_conditions, defBody s_is_conditions, defScope s_is_conditions, [], []⟩
def d_is_rule : He.DefD := ⟨("is_rule", none), "is_rule", "is_rule", defArgs s_is_rule, defBody s_is_rule, defScope s_is_rule, [], []⟩
def d_is_weights : He.DefD := ⟨("is_weights", none), "is_weights", "is_weights", defArgs s_is_weights, defBody s_is_weights, defScope s_is_weights, [], []⟩
def d_is_results : He.DefD := ⟨("is_results", none), "is_results", "is_results", defArgs s_is_results, defBody s_is_results, defScope s_is_results, [], []⟩
def d_is_all_forms : He.DefD := ⟨("is_all_forms", none), "is_all_forms", "is_all_forms", defArgs s_is_all_forms, defBody s_is_all_forms, defScope s_is_all_forms, [], []⟩
def d_is_branches : He.DefD := ⟨("is_branches", none), "is_branches", "is_branches", defArgs s_is_branches, defBody s_is_branches, defScope s_is_branches, [], []⟩
def d_fits_two : He.DefD := ⟨("fits_two", none), "fits_two", "fits_two", defArgs s_fits_two, defBody s_fits_two, defScope s_fits_two, [], []⟩
def d_fits_three : He.DefD := ⟨("fits_three", none), "fits_three", "fits_three", defArgs s_fits_three, defBody s_fits_three, defScope s_fits_three, [], []⟩
def d_fits : He.DefD := ⟨("fits", none), "fits", "fits", defArgs s_fits, defBody s_fits, defScope s_fits, [], []⟩
def d_need_form : He.DefD := ⟨("need_form", none), "need_form", "need_form", defArgs s_need_form, defBody s_need_form, defScope s_need_form, [], []⟩
def d_word_of : He.DefD := ⟨("word_of", none), "word_of", "word_of", defArgs s_word_of, defBody s_word_of, defScope s_word_of, [], []⟩
def d_with_commas : He.DefD := ⟨("with_commas", none), "with_commas", "with_commas", defArgs s_with_commas, defBody s_with_commas, defScope s_with_commas, [], []⟩
def d_letters_of : He.DefD := ⟨("letters_of", none), "letters_of", "letters_of", defArgs s_letters_of, defBody s_letters_of, defScope s_letters_of, [], []⟩
def d_words_of_rule : He.DefD := ⟨("words_of_rule", none), "words_of_rule", "words_of_rule", defArgs s_words_of_rule, defBody s_words_of_rule, defScope s_words_of_rule, [], []⟩
def d_words_of_all : He.DefD := ⟨("words_of_all", none), "words_of_all", "words_of_all", defArgs s_words_of_all, defBody s_words_of_all, defScope s_words_of_all, [], []⟩
def d_words_of : He.DefD := ⟨("words_of", none), "words_of", "words_of", defArgs s_words_of, defBody s_words_of, defScope s_words_of, [], []⟩
def d_write_form : He.DefD := ⟨("write_form", none), "write_form", "write_form", defArgs s_write_form, defBody s_write_form, defScope s_write_form, [], []⟩
def d__law_bag : He.DefD := ⟨("_law_bag", none), "_law_bag", "_law_bag", defArgs s__law_bag, defBody s__law_bag, defScope s__law_bag, [], []⟩
def d__law_draw : He.DefD := ⟨("_law_draw", none), "_law_draw", "_law_draw", defArgs s__law_draw, defBody s__law_draw, defScope s__law_draw, [], []⟩
def d__law_small_sheet : He.DefD := ⟨("_law_small_sheet", none), "_law_small_sheet", "_law_small_sheet", defArgs s__law_small_sheet, defBody s__law_small_sheet, defScope s__law_small_sheet, [], []⟩
def d__law_any_sheet : He.DefD := ⟨("_law_any_sheet", none), "_law_any_sheet", "_law_any_sheet", defArgs s__law_any_sheet, defBody s__law_any_sheet, defScope s__law_any_sheet, [], []⟩
def d__law_cases : He.DefD := ⟨("_law_cases", none), "_law_cases", "_law_cases", defArgs s__law_cases, defBody s__law_cases, defScope s__law_cases, [], []⟩
def d__law_commas : He.DefD := ⟨("_law_commas", none), "_law_commas", "_law_commas", defArgs s__law_commas, defBody s__law_commas, defScope s__law_commas, [], []⟩
def d__law_words_of_rules : He.DefD := ⟨("_law_words_of_rules", none), "_law_words_of_rules", "_law_words_of_rules", defArgs s__law_words_of_rules, defBody s__law_words_of_rules, defScope s__law_words_of_rules, [], []⟩
def d__law_words : He.DefD := ⟨("_law_words", none), "_law_words", "_law_words", defArgs s__law_words, defBody s__law_words, defScope s__law_words, [], []⟩
def d__law_values : He.DefD := ⟨("_law_values", none), "_law_values", "_law_values", defArgs s__law_values, defBody s__law_values, defScope s__law_values, [], []⟩
def d__law_rule : He.DefD := ⟨("_law_rule", none), "_law_rule", "_law_rule", defArgs s__law_rule, defBody s__law_rule, defScope s__law_rule, [], []⟩
def d__law_inner_form : He.DefD := ⟨("_law_inner_form", none), "_law_inner_form", "_law_inner_form", defArgs s__law_inner_form, defBody s__law_inner_form, defScope s__law_inner_form, [], []⟩
def d__law_form : He.DefD := ⟨("_law_form", none), "_law_form", "_law_form", defArgs s__law_form, defBody s__law_form, defScope s__law_form, [], []⟩
def d_law : He.DefD := ⟨("law", none), "law", "law", defArgs s_law, defBody s_law, defScope s_law, [], []⟩
def fn : List He.DefD := ([d_is_whole, d_is_below, d_is_sizes, d_need_sizes, d_product, d_is_values, d_is_condition, d_is_conditions, d_is_rule, d_is_weights, d_is_results, d_is_all_forms, d_is_branches, d_fits_two, d_fits_three, d_fits, d_need_form, d_word_of, d_with_commas, d_letters_of, d_words_of_rule, d_words_of_all, d_words_of, d_write_form, d__law_bag, d__law_draw, d__law_small_sheet, d__law_any_sheet, d__law_cases, d__law_commas] : List He.DefD) ++ ([d__law_words_of_rules, d__law_words, d__law_values, d__law_rule, d__law_inner_form, d__law_form, d_law] : List He.DefD)
def fa : List He.Fa := ([.glo "is_whole", .glo "is_below", .glo "is_sizes", .glo "need_sizes", .glo "product", .glo "is_values", .glo "is_condition", .glo "is_conditions", .glo "is_rule", .glo "is_weights", .glo "is_results", .glo "is_all_forms", .glo "is_branches", .glo "fits_two", .glo "fits_three", .glo "fits", .glo "need_form", .glo "word_of", .glo "with_commas", .glo "letters_of", .glo "words_of_rule", .glo "words_of_all", .glo "words_of", .glo "write_form", .glo "_law_bag", .glo "_law_draw", .glo "_law_small_sheet", .glo "_law_any_sheet", .glo "_law_cases", .glo "_law_commas"] : List He.Fa) ++ ([.glo "_law_words_of_rules", .glo "_law_words", .glo "_law_values", .glo "_law_rule", .glo "_law_inner_form", .glo "_law_form", .glo "law", .free "all", .free "bool", .free "int", .free "isinstance", .free "len", .free "list", .free "min", .free "range", .free "str", .free "tuple", .free "zip", .int "MOST_FIELDS" 24, .int "MOST_VALUES" 6, .int "SMALL" 1024] : List He.Fa)
def loose : List Str := (["ReasonError", "InvalidSizes", "InvalidForm", "MOST_FIELDS", "MOST_VALUES", "SMALL", "is_whole", "is_below", "is_sizes", "need_sizes", "product", "is_values", "is_condition", "is_conditions", "is_rule", "is_weights", "is_results", "is_all_forms", "is_branches", "fits_two", "fits_three", "fits", "need_form", "word_of", "with_commas", "letters_of", "words_of_rule", "words_of_all", "words_of", "write_form"] : List Str) ++ (["_law_bag", "_law_draw", "_law_small_sheet", "_law_any_sheet", "_law_cases", "_law_commas", "_law_words_of_rules", "_law_words", "_law_values", "_law_rule", "_law_inner_form", "_law_form"] : List Str)
abbrev R : PySem.W.OpenRow := PySem.W.OpenLaw.row PySem.Challenge.rw_leastreasons_k79_forms_written
def hk : PySem.W.Hook := He.hookD 4 fa fn
def ob (s : PySem.W.SharedT) : He.AlD := He.obsDG 4 fa fn (HandSHeadRun.getT s)
theorem ob_eq (s : PySem.W.SharedT) : ob s = hk.obs s.abs := He.obsDG_eq (HandSHeadRun.getT_eq s)
theorem run (w : World) : HandSHeadRun.RunEq R (PySem.W.view R.prog [47]) hk ob 2000 loose w := by
  intro os
  kernel_rfl
theorem df_of {K : PySem.W.Frag} {h : Heap} {mg : Str → Option Value} (X : K.In h) (G : h.Ns mainGlobals mg) (c : He.SaysD fa fn K) (i : Nat) {x : Str} {st : Stmt} (hd : fn[i]? = some ⟨(x, none), x, x, defArgs st, defBody st, defScope st, [], []⟩) (hf : fa[i]? = some (.glo x)) : Df K mg x st := by
  obtain ⟨fd, F⟩ := c.def_ i hd
  exact ⟨_, fd, F, He.glo_ok X G (c.fact i hf)⟩
theorem tx_of {K : PySem.W.Frag} {h : Heap} {mg : Str → Option Value} (X : K.In h) (G : h.Ns mainGlobals mg) (c : He.SaysD fa fn K) : Tx mg := by
  refine ⟨He.free_ok X G (c.fact 37 rfl), He.free_ok X G (c.fact 38 rfl), He.free_ok X G (c.fact 39 rfl), He.free_ok X G (c.fact 40 rfl), He.free_ok X G (c.fact 41 rfl), He.free_ok X G (c.fact 42 rfl), He.free_ok X G (c.fact 43 rfl), He.free_ok X G (c.fact 44 rfl), He.free_ok X G (c.fact 45 rfl), He.free_ok X G (c.fact 46 rfl), He.free_ok X G (c.fact 47 rfl), ?_, ?_, ?_⟩
  · obtain ⟨t, e⟩ := He.int_ok X G (c.fact 48 rfl)
    exact ⟨_, e, ⟨t, rfl⟩⟩
  · obtain ⟨t, e⟩ := He.int_ok X G (c.fact 49 rfl)
    exact ⟨_, e, ⟨t, rfl⟩⟩
  · obtain ⟨t, e⟩ := He.int_ok X G (c.fact 50 rfl)
    exact ⟨_, e, ⟨t, rfl⟩⟩
theorem defs_of {K : PySem.W.Frag} {h : Heap} {mg : Str → Option Value} (X : K.In h) (G : h.Ns mainGlobals mg) (c : He.SaysD fa fn K) : Defs K mg := ⟨df_of X G c 0 rfl rfl, df_of X G c 1 rfl rfl, df_of X G c 2 rfl rfl, df_of X G c 3 rfl rfl, df_of X G c 4 rfl rfl, df_of X G c 5 rfl rfl, df_of X G c 6 rfl rfl, df_of X G c 7 rfl rfl, df_of X G c 8 rfl rfl, df_of X G c 9 rfl rfl, df_of X G c 10 rfl rfl, df_of X G c 11 rfl rfl, df_of X G c 12 rfl rfl, df_of X G c 13 rfl rfl, df_of X G c 14 rfl rfl, df_of X G c 15 rfl rfl, df_of X G c 16 rfl rfl, df_of X G c 17 rfl rfl, df_of X G c 18 rfl rfl, df_of X G c 19 rfl rfl, df_of X G c 20 rfl rfl, df_of X G c 21 rfl rfl, df_of X G c 22 rfl rfl, df_of X G c 23 rfl rfl, df_of X G c 24 rfl rfl, df_of X G c 25 rfl rfl, df_of X G c 26 rfl rfl, df_of X G c 27 rfl rfl, df_of X G c 28 rfl rfl, df_of X G c 29 rfl rfl, df_of X G c 30 rfl rfl, df_of X G c 31 rfl rfl, df_of X G c 32 rfl rfl, df_of X G c 33 rfl rfl, df_of X G c 34 rfl rfl, df_of X G c 35 rfl rfl⟩
theorem facts {P : Program} {w : World} {K : PySem.W.Frag} {h : Heap} {mg : Str → Option Value} {f : Addr} (X : K.In h) (G : h.Ns mainGlobals mg) (hfa : mg ("law" : Str) = some (.ref f)) (c : He.SaysD fa fn K) :
    ∃ fd : FuncData, (∀ (s : Shared) (v : Value), BindsTo s fd ⟨[v], []⟩ [("script", v)]) ∧ ∀ base : Heap, K.In base → base.Ns mainGlobals mg → FnOk P w K mg base CX0 39 f fd ["script"] (spLaw K) := by
  obtain ⟨fd, F⟩ := c.def_ 36 (d := d_law) rfl
  have e := hfa.symm.trans (He.glo_ok X G (c.fact 36 (f := .glo "law") rfl))
  cases e
  have b := FunD.bindsA (ps := ["script"]) F fun _ _ _ _ _ _ us hl => match us, hl with | [_], _ => rfl
  exact ⟨fd, fun s v => b s [v] rfl, fun base _ _ => law_fn (tx_of X G c) (defs_of X G c) F⟩
end
end K79
open PySem PySem.W PySem.Calls PyProof.Rows
theorem PySem.Challenge.cw_leastreasons_k79_forms_written_holds : PySem.Challenge.rw_leastreasons_k79_forms_written.Holds := by
  w_on; o_law
  refine HandSHeadRun.head_any (r := OpenLaw.row PySem.Challenge.rw_leastreasons_k79_forms_written) (q := view (OpenLaw.row PySem.Challenge.rw_leastreasons_k79_forms_written).prog [47]) (H := K79.hk) (ob := K79.ob) (M := 2000) (loose := K79.loose) (d := HandSHeadRun.topDef (OpenLaw.row PySem.Challenge.rw_leastreasons_k79_forms_written).prog 47) (kwd := []) K79.ob_eq
    (by kernel_rfl) (fun s => by kernel_rfl) K79.run (by kernel_rfl) (by kernel_rfl) (by kernel_rfl) (by rfl) (by first | assumption | decide +kernel) (by decide +kernel) ⟨rfl, rfl, rfl, rfl, rfl, by decide +kernel⟩ ?hw ?hc
  case hw => w_witness2
  case hc =>
    refine L2.walk_ofE (l := PySem.Challenge.rw_leastreasons_k79_forms_written) (n := 63) (k := 39) (x := "script") (CX := L2.CX0) rfl (by decide) (by kernel_rfl) ⟨rfl, by decide, by decide⟩ ?F (fun _ _ _ _ z => z)
    intro w mg fa h Y G hmg0
    obtain ⟨K, KX, c⟩ := Y
    have hmg : mg ("law" : PySem.Str) = some (.ref fa) := by
      have e : (HandSHeadRun.topDef (OpenLaw.row PySem.Challenge.rw_leastreasons_k79_forms_written).prog 47).name = ("law" : PySem.Str) := by kernel_rfl
      rw [← e]
      exact hmg0
    obtain ⟨fd, hb, hF⟩ := K79.facts (P := (PySem.Challenge.rw_leastreasons_k79_forms_written).prog) (w := w) KX G hmg c
    exact ⟨K, fd, K79.spLaw K, KX, hb, fun H a ns hl _ hS => ⟨a, ns, rfl, hl, hS, fun _ => rfl⟩, hF⟩
