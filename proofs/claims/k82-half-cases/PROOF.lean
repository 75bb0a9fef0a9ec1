import PyProof.Rows.All
import Wide.All
import OpenK.AllK
import Wide.FinOn
import KE.KStateDown
import Lean
import HandS.Base
import HandS.Call
import HandS.Ends
import HandS.More
import HandS.Words
import HandS.WordsExc
import HandS.Defaults
import HandS.Head0
import HandS.Head1
import HandS.Head2
import HandS.HeadEnd
import HandS.HeadHook1
import HandS.HeadHook2
import KE.IntTextLaws
import PyProof.StrLawsChain
import HandS.Text
import HandS.ForMost
import HandS.IsInst
import HandS.Conv
import HandS.Zip
import HandS.Flow
import HandS.Style
import HandS.Wide
import HandS.Codes
import HandS.SortInts
import HandS.TupAny
import HandS.Deep
import HandS.WideBits
import HandS.Exc
import KE.GoesEnum
import KE.GoesZip
import KE.GoesMore
import KE.KxText
import PyProof.FitsInt
import HandS.ExcValue
import KE.KExcIs
import HandS.ExcField
import HandS.ExcOwn
import HandS.ExcInit
import KE.KExcInit
import PySem.Challenge.RW_leastreasons_k82_half_cases_written_and
set_option Elab.async false
set_option linter.all false
set_option maxRecDepth 100000
set_option maxHeartbeats 0
/-! DL, part a: plain data over the hand layer's abstract heap; owned cells; the judgements DX, DT, DA, DS. -/
namespace DL
open PySem L2 PySem.Spec
set_option autoImplicit false
abbrev D := PyData
mutual
inductive DV (H : Hp) : V → D → Prop
  | non : DV H .non .none
  | bl (b : Bool) : DV H (.bl b) (.bool b)
  | int (i : Int) : DV H (.int i) (.int i)
  | str (x : Str) (h : x.length ≤ sizeLine) : DV H (.str x) (.str x)
  | lst {a : Addr} {xs : List V} {ds : List D} (e : H a = some (.lst xs)) (h : ds.length ≤ sizeLine) (r : DVs H xs ds) : DV H (.ref a) (.list ds)
  | tup {a : Addr} {xs : List V} {ds : List D} (e : H a = some (.tup xs)) (h : ds.length ≤ sizeLine) (r : DVs H xs ds) : DV H (.ref a) (.tuple ds)
inductive DVs (H : Hp) : List V → List D → Prop
  | nil : DVs H [] []
  | cons {v : V} {d : D} {vs : List V} {ds : List D} (h : DV H v d) (r : DVs H vs ds) : DVs H (v :: vs) (d :: ds)
end
theorem DV.mono {H H' : Hp} (e : Same H H') {v : V} {d : D} (h : DV H v d) : DV H' v d :=
  DV.rec (motive_1 := fun v d _ => DV H' v d) (motive_2 := fun vs ds _ => DVs H' vs ds) .non .bl .int .str (fun q l _ r => .lst (e _ _ q) l r) (fun q l _ r => .tup (e _ _ q) l r) .nil (fun _ _ a b => .cons a b) h
theorem DVs.mono {H H' : Hp} (e : Same H H') : ∀ {vs : List V} {ds : List D}, DVs H vs ds → DVs H' vs ds
  | _, _, .nil => .nil
  | _, _, .cons h r => .cons (h.mono e) (DVs.mono e r)
theorem DV.dp {K : PySem.W.Frag} {H : Hp} {v : V} {d : D} (h : DV H v d) : Dp K H v d :=
  DV.rec (motive_1 := fun v d _ => Dp K H v d) (motive_2 := fun vs ds _ => DpAll K H vs ds) .non .bl .int (fun x _ => .str x) (fun q _ _ r => .lst (SqL.of q) r) (fun q _ _ r => .tup (SqT.of q) r) .nil (fun _ _ a b => .cons a b) h
theorem DVs.dp {K : PySem.W.Frag} {H : Hp} : ∀ {vs : List V} {ds : List D}, DVs H vs ds → DpAll K H vs ds
  | _, _, .nil => .nil
  | _, _, .cons h r => .cons h.dp r.dp
theorem DVs.length {H : Hp} : ∀ {vs : List V} {ds : List D}, DVs H vs ds → vs.length = ds.length
  | _, _, .nil => rfl
  | _, _, .cons _ r => by simp [DVs.length r]
theorem DVs.get {H : Hp} : ∀ {vs : List V} {ds : List D} {i : Nat} {d : D}, DVs H vs ds → ds[i]? = some d → ∃ v, vs[i]? = some v ∧ DV H v d
  | _, _, _, _, .nil, e => by simp at e
  | _, _, 0, d, .cons h _, e => by simp at e; subst e; exact ⟨_, rfl, h⟩
  | _, _, i + 1, d, .cons _ r, e => by
    obtain ⟨v, h1, h2⟩ := DVs.get (i := i) (d := d) r (by simpa using e)
    exact ⟨v, by simpa using h1, h2⟩
theorem DVs.getv {H : Hp} : ∀ {vs : List V} {ds : List D} {i : Nat} {v : V}, DVs H vs ds → vs[i]? = some v → ∃ d, ds[i]? = some d ∧ DV H v d
  | _, _, _, _, .nil, e => by simp at e
  | _, _, 0, _, .cons h _, e => by simp at e; subst e; exact ⟨_, rfl, h⟩
  | _, _, i + 1, v, .cons _ r, e => by
    obtain ⟨v, h1, h2⟩ := DVs.getv (i := i) (v := v) r (by simpa using e)
    exact ⟨v, by simpa using h1, h2⟩
theorem DVs.append {H : Hp} : ∀ {vs ws : List V} {ds es : List D}, DVs H vs ds → DVs H ws es → DVs H (vs ++ ws) (ds ++ es)
  | _, _, _, _, .nil, s => s
  | _, _, _, _, .cons h r, s => .cons h (DVs.append r s)
theorem DVs.take {H : Hp} : ∀ {vs : List V} {ds : List D} (n : Nat), DVs H vs ds → DVs H (vs.take n) (ds.take n)
  | _, _, 0, _ => .nil
  | _, _, _ + 1, .nil => .nil
  | _, _, n + 1, .cons h r => .cons h (DVs.take n r)
theorem DVs.drop {H : Hp} : ∀ {vs : List V} {ds : List D} (n : Nat), DVs H vs ds → DVs H (vs.drop n) (ds.drop n)
  | _, _, 0, r => r
  | _, _, _ + 1, .nil => .nil
  | _, _, n + 1, .cons _ r => DVs.drop n r
theorem DVs.set {H : Hp} {v : V} {d : D} (h : DV H v d) : ∀ {vs : List V} {ds : List D} (n : Nat), DVs H vs ds → DVs H (vs.set n v) (ds.set n d)
  | _, _, _, .nil => .nil
  | _, _, 0, .cons _ r => .cons h r
  | _, _, n + 1, .cons q r => .cons q (DVs.set h n r)
theorem DVs.reverse {H : Hp} : ∀ {vs : List V} {ds : List D}, DVs H vs ds → DVs H vs.reverse ds.reverse
  | _, _, .nil => .nil
  | _, _, .cons h r => by
    rw [List.reverse_cons, List.reverse_cons]
    exact (DVs.reverse r).append (.cons h .nil)
theorem DVs.ints {H : Hp} : ∀ {is : List Int} {vs : List V}, DVs H vs (is.map .int) → vs = is.map V.int
  | [], _, .nil => rfl
  | i :: is, _, .cons h r => by cases h; rw [DVs.ints r]; rfl
theorem DVs.bools {H : Hp} : ∀ {bs : List Bool} {vs : List V}, DVs H vs (bs.map .bool) → vs = bs.map V.bl
  | [], _, .nil => rfl
  | i :: is, _, .cons h r => by cases h; rw [DVs.bools r]; rfl
theorem DVs.strs {H : Hp} : ∀ {xs : List Str} {vs : List V}, DVs H vs (xs.map .str) → vs = xs.map V.str
  | [], _, .nil => rfl
  | i :: is, _, .cons h r => by cases h; rw [DVs.strs r]; rfl
theorem DVs.of_ints {H : Hp} : ∀ is : List Int, DVs H (is.map V.int) (is.map .int)
  | [] => .nil
  | i :: is => .cons (.int i) (DVs.of_ints is)
theorem DVs.of_strs {H : Hp} : ∀ xs : List Str, (∀ x ∈ xs, x.length ≤ sizeLine) → DVs H (xs.map V.str) (xs.map .str)
  | [], _ => .nil
  | x :: xs, h => .cons (.str x (h x List.mem_cons_self)) (DVs.of_strs xs fun y m => h y (List.mem_cons_of_mem _ m))

/-! ### cells -/
/-- what a slot holds: data, or the k-th owned cell -/
inductive Ce where
  | d (x : D) | o (k : Nat) | v (x : V) | e (cls : Value) (fs : List (Str × D))
/-- a caught exception, kept -/
def ExV (cls : Value) (d : Option Addr) (a : Addr) : HO := .ext fun h => ∃ oe : Obj, h.get? a = some oe ∧ Zc cls d oe ∧ ∃ vs, oe.data = .fields vs
/-- its fields -/
def XdF (F : Hp) (d : Option Addr) (fs : List (Str × D)) : Prop := (d = none ∧ fs = []) ∨ ∃ (a : Addr) (ws : List (Str × V)), d = some a ∧ F a = some (.xd ws) ∧ Paired (fun (p : Str × V) (q : Str × D) => p.1 = q.1 ∧ DV F p.2 q.2) ws fs
theorem XdF.mono {F F' : Hp} {d : Option Addr} {fs : List (Str × D)} (s : Same F F') : XdF F d fs → XdF F' d fs
  | .inl h => .inl h
  | .inr ⟨a, ws, e, h, p⟩ => .inr ⟨a, ws, e, s _ _ h, Paired.mapP p fun p q z => ⟨z.1, z.2.mono s⟩⟩
/-- what an owned cell holds -/
inductive Ob where
  | lst (xs : List D)
  | dk (kvs : List (Key × D))
  | ins (C : Addr) (fs : List (Str × Ce))
abbrev En := List (Option Ce)
abbrev Ow := List (Option Ob)
def CeR (F : Hp) (al : List Addr) : V → Ce → Prop
  | v, .d x => DV F v x
  | v, .o k => ∃ a, al[k]? = some a ∧ v = .ref a
  | v, .v x => v = x
  | v, .e cls fs => ∃ (a : Addr) (d : Option Addr), v = .ref a ∧ F a = some (ExV cls d a) ∧ XdF F d fs
def CeRs (F : Hp) (al : List Addr) : List V → List Ce → Prop := Paired (CeR F al)
def ObR (F H : Hp) (al : List Addr) (a : Addr) : Ob → Prop
  | .lst xs => ∃ vs, H a = some (.lst vs) ∧ DVs F vs xs
  | .dk kvs => ∃ ws : List (Key × V), H a = some (.dK ws) ∧ Paired (fun (p : Key × V) (q : Key × D) => p.1 = q.1 ∧ DV F p.2 q.2) ws kvs
  | .ins C fs => ∃ (dx : Addr) (ws : List (Str × V)), H a = some (.ins C dx ws) ∧ Paired (fun (p : Str × V) (q : Str × Ce) => p.1 = q.1 ∧ CeR F al p.2 q.2) ws fs
structure Rep (F H : Hp) (al : List Addr) (O : Ow) : Prop where
  sub : Same F H
  nd : al.Nodup
  len : al.length = O.length
  there : ∀ a ∈ al, H a ≠ none
  own : ∀ (k : Nat) (b : Ob), O[k]? = some (some b) → ∃ a, al[k]? = some a ∧ F a = none ∧ ObR F H al a b
structure EnR (F : Hp) (al : List Addr) (σ : St) (ρ : En) : Prop where
  len : σ.length = ρ.length
  get : ∀ (i : Nat) (c : Ce), ρ[i]? = some (some c) → ∃ v, σ[i]? = some (some v) ∧ CeR F al v c
structure Ext (F H : Hp) (al : List Addr) (F' H' : Hp) (al' : List Addr) : Prop where
  sub : Same F F'
  grow : ∃ be, al' = al ++ be
  keep : ∀ a o, H a = some o → a ∉ al → H' a = some o
  out : ∀ a, H a ≠ none → a ∉ al → a ∉ al'
  noF : ∀ a, H a ≠ none → a ∉ al → F a = none → F' a = none
theorem Ext.refl (F H : Hp) (al : List Addr) : Ext F H al F H al := ⟨Same.refl F, ⟨[], by simp⟩, fun _ _ e _ => e, fun _ _ h => h, fun _ _ _ e => e⟩
theorem ne_none_of {α : Type} {x : Option α} {y : α} (h : x = some y) : x ≠ none := by rw [h]; simp
theorem Ext.trans {F H F' H' F2 H2 : Hp} {al al' al2 : List Addr} (x : Ext F H al F' H' al') (y : Ext F' H' al' F2 H2 al2) : Ext F H al F2 H2 al2 := by
  refine ⟨x.sub.trans y.sub, ?_, fun a o e h => y.keep a o (x.keep a o e h) (x.out a (ne_none_of e) h), fun a e h => ?_, fun a e h n => ?_⟩
  · obtain ⟨b, rfl⟩ := x.grow
    obtain ⟨c, rfl⟩ := y.grow
    exact ⟨b ++ c, by simp⟩
  · obtain ⟨o, q⟩ := Option.ne_none_iff_exists'.mp e
    exact y.out a (ne_none_of (x.keep a o q h)) (x.out a e h)
  · obtain ⟨o, q⟩ := Option.ne_none_iff_exists'.mp e
    exact y.noF a (ne_none_of (x.keep a o q h)) (x.out a e h) (x.noF a e h n)
theorem Ext.al {F H F' H' : Hp} {al al' : List Addr} (x : Ext F H al F' H' al') {k : Nat} {a : Addr} (h : al[k]? = some a) : al'[k]? = some a := by
  obtain ⟨b, rfl⟩ := x.grow
  rw [List.getElem?_append_left (List.getElem?_eq_some_iff.mp h).1]
  exact h
theorem CeR.ext {F H F' H' : Hp} {al al' : List Addr} (x : Ext F H al F' H' al') : ∀ {v : V} {c : Ce}, CeR F al v c → CeR F' al' v c
  | _, .d _, h => DV.mono x.sub h
  | _, .o k, ⟨a, h, e⟩ => ⟨a, x.al h, e⟩
  | _, .v _, h => h
  | _, .e _ _, ⟨a, d, e, h, f⟩ => ⟨a, d, e, x.sub _ _ h, f.mono x.sub⟩
theorem EnR.ext {F H F' H' : Hp} {al al' : List Addr} {σ : St} {ρ : En} (x : Ext F H al F' H' al') (h : EnR F al σ ρ) : EnR F' al' σ ρ :=
  ⟨h.len, fun i c e => let ⟨v, q, r⟩ := h.get i c e; ⟨v, q, r.ext x⟩⟩
theorem CeRs.ext {F H F' H' : Hp} {al al' : List Addr} (x : Ext F H al F' H' al') : ∀ {vs : List V} {cs : List Ce}, CeRs F al vs cs → CeRs F' al' vs cs
  | _, _, .nil => .nil
  | _, _, .cons h r => .cons (h.ext x) (CeRs.ext x r)
theorem EnR.set {F : Hp} {al : List Addr} {σ : St} {ρ : En} {v : V} {c : Ce} (h : EnR F al σ ρ) (i : Nat) (q : CeR F al v c) : EnR F al (σ.set i (some v)) (ρ.set i (some c)) := by
  refine ⟨by simp [h.len], fun j c' e => ?_⟩
  rw [List.getElem?_set] at e ⊢
  have hl := h.len
  by_cases hij : i = j
  · subst hij
    by_cases hi : i < ρ.length
    · simp [hi] at e
      subst e
      exact ⟨v, by simp [hl, hi], q⟩
    · simp [hi] at e
  · simp only [hij, if_false] at e ⊢
    exact h.get j c' e
theorem Rep.fresh {F H : Hp} {al : List Addr} {O : Ow} (r : Rep F H al O) {p : Addr} (hp : H p = none) : p ∉ al := fun h => r.there p h hp
theorem upd_some {H : Hp} {p a : Addr} {o : HO} (h : H a ≠ none) : upd H p o a ≠ none := by
  by_cases e : a = p
  · subst e; rw [upd_same]; simp
  · rw [upd_ne e]; exact h
theorem same_upd {F H : Hp} {p : Addr} {o : HO} (s : Same F H) (hp : H p = none) : Same F (upd H p o) := fun b u e => by
  have := s b u e
  rw [upd_ne (ne_of_none this hp)]
  exact this
theorem same_upd2 {F H : Hp} {p : Addr} {o : HO} (s : Same F H) : Same (L2.upd F p o) (L2.upd H p o) := fun b u e => by
  by_cases h : b = p
  · subst h; rw [upd_same] at e ⊢; exact e
  · rw [upd_ne h] at e ⊢; exact s b u e
theorem ObR.mono {F F' H H' : Hp} {al al' : List Addr} {a : Addr} {b : Ob} (h : ObR F H al a b) (s : Same F F') (g : ∀ (k : Nat) x, al[k]? = some x → al'[k]? = some x) (e : ∀ o, H a = some o → H' a = some o) : ObR F' H' al' a b := by
  have ce : ∀ v c, CeR F al v c → CeR F' al' v c := fun v c h => by
    cases c with
    | d x => exact DV.mono s h
    | o k => obtain ⟨a, q, r⟩ := h; exact ⟨a, g _ _ q, r⟩
    | v x => exact h
    | e cls fs => obtain ⟨a, d, z, q, r⟩ := h; exact ⟨a, d, z, s _ _ q, r.mono s⟩
  cases b with
  | lst xs => obtain ⟨vs, q, r⟩ := h; exact ⟨vs, e _ q, r.mono s⟩
  | dk kvs => obtain ⟨ws, q, r⟩ := h; exact ⟨ws, e _ q, Paired.mapP r fun p q z => ⟨z.1, z.2.mono s⟩⟩
  | ins C fs => obtain ⟨dx, ws, q, r⟩ := h; exact ⟨dx, ws, e _ q, Paired.mapP r fun p q z => ⟨z.1, ce _ _ z.2⟩⟩
theorem ObR.some {F H : Hp} {al : List Addr} {a : Addr} {b : Ob} (h : ObR F H al a b) : H a ≠ none := by
  cases b with
  | lst xs => obtain ⟨vs, q, _⟩ := h; exact ne_none_of q
  | dk kvs => obtain ⟨vs, q, _⟩ := h; exact ne_none_of q
  | ins C fs => obtain ⟨dx, vs, q, _⟩ := h; exact ne_none_of q
/-- a new object at p is tracked, and frozen -/
theorem Rep.laid {F H : Hp} {al : List Addr} {O : Ow} {p : Addr} {o : HO} (r : Rep F H al O) (hp : H p = none) : Rep (upd F p o) (upd H p o) al O := by
  refine ⟨same_upd2 r.sub, r.nd, r.len, fun a m => upd_some (r.there a m), fun k b e => ?_⟩
  obtain ⟨a, h1, h2, h3⟩ := r.own k b e
  have hne : a ≠ p := fun z => h3.some (z ▸ hp)
  exact ⟨a, h1, by rw [upd_ne hne]; exact h2, h3.mono (fun b u q => by rw [upd_ne (ne_of_none (r.sub b u q) hp)]; exact q) (fun _ _ q => q) fun o q => by rw [upd_ne hne]; exact q⟩
theorem Ext.laid {F H : Hp} {al : List Addr} {O : Ow} {p : Addr} {o : HO} (r : Rep F H al O) (hp : H p = none) : Ext F H al (upd F p o) (upd H p o) al := by
  refine ⟨fun b u q => ?_, ⟨[], by simp⟩, fun a o e _ => ?_, fun _ _ h => h, fun a e _ n => ?_⟩
  · rw [upd_ne (ne_of_none (r.sub b u q) hp)]; exact q
  · rw [upd_ne (ne_of_none e hp)]; exact e
  · rw [upd_ne (fun z => by rw [z] at e; exact e hp)]; exact n
/-- a new object at p is tracked, not frozen, in no cell -/
theorem Rep.beside {F H : Hp} {al : List Addr} {O : Ow} {p : Addr} {o : HO} (r : Rep F H al O) (hp : H p = none) : Rep F (upd H p o) al O := by
  refine ⟨same_upd r.sub hp, r.nd, r.len, fun a m => upd_some (r.there a m), fun k b e => ?_⟩
  obtain ⟨a, h1, h2, h3⟩ := r.own k b e
  have hne : a ≠ p := fun z => h3.some (z ▸ hp)
  exact ⟨a, h1, h2, h3.mono (Same.refl _) (fun _ _ q => q) fun o q => by rw [upd_ne hne]; exact q⟩
/-- an object in no cell and not frozen is changed -/
theorem Rep.poke {F H : Hp} {al : List Addr} {O : Ow} {p : Addr} {o : HO} (r : Rep F H al O) (hp : p ∉ al) (hF : F p = none) : Rep F (upd H p o) al O := by
  refine ⟨fun b u e => ?_, r.nd, r.len, fun a m => upd_some (r.there a m), fun k b e => ?_⟩
  · have hne : b ≠ p := fun z => by rw [z, hF] at e; cases e
    rw [upd_ne hne]; exact r.sub b u e
  · obtain ⟨a, h1, h2, h3⟩ := r.own k b e
    have hne : a ≠ p := fun z => hp (z ▸ List.mem_of_getElem? h1)
    exact ⟨a, h1, h2, h3.mono (Same.refl _) (fun _ _ q => q) fun o q => by rw [upd_ne hne]; exact q⟩
/-- .. and frozen -/
theorem Rep.freeze {F H : Hp} {al : List Addr} {O : Ow} {p : Addr} {o : HO} (r : Rep F H al O) (hp : p ∉ al) (hF : F p = none) (e : H p = some o) : Rep (upd F p o) H al O := by
  refine ⟨fun b u q => ?_, r.nd, r.len, r.there, fun k b q => ?_⟩
  · by_cases h : b = p
    · subst h; rw [upd_same] at q; cases q; exact e
    · rw [upd_ne h] at q; exact r.sub b u q
  · obtain ⟨a, h1, h2, h3⟩ := r.own k b q
    have hne : a ≠ p := fun z => hp (z ▸ List.mem_of_getElem? h1)
    exact ⟨a, h1, by rw [upd_ne hne]; exact h2, h3.mono (fun b u q => by rw [upd_ne (fun z => by rw [z, hF] at q; cases q)]; exact q) (fun _ _ q => q) fun o q => q⟩
end DL
/-! DL, part b: the judgements and the rules of the readings. -/
namespace DL
open PySem L2 PySem.Spec
set_option autoImplicit false
/-- which states a body may be in (all that follow its entry) -/
structure Bs where
  p : Hp → Hp → List Addr → Prop
  cl : ∀ {F H F' H' : Hp} {al al' : List Addr}, p F H al → Ext F H al F' H' al' → p F' H' al'
def Bs.any : Bs := ⟨fun _ _ _ => True, fun _ _ => trivial⟩
def Bs.from (F0 H0 : Hp) (al0 : List Addr) : Bs := ⟨fun F H al => Ext F0 H0 al0 F H al, fun a b => a.trans b⟩
abbrev RX := Ce → Ow → Prop
def Kx (F H : Hp) (al : List Addr) (R : RX) (Q : VK) : Prop := ∀ (F' H' : Hp) (al' : List Addr) (O' : Ow) (v : V) (c : Ce), Ext F H al F' H' al' → Rep F' H' al' O' → CeR F' al' v c → R c O' → Q v H'
def Kb (F H : Hp) (al : List Addr) (R : Bool → Ow → Prop) (Q : Bool → Hp → Prop) : Prop := ∀ (F' H' : Hp) (al' : List Addr) (O' : Ow) (b : Bool), Ext F H al F' H' al' → Rep F' H' al' O' → R b O' → Q b H'
def Ks (F H : Hp) (al : List Addr) (R : List Ce → Ow → Prop) (Q : List V → Hp → Prop) : Prop := ∀ (F' H' : Hp) (al' : List Addr) (O' : Ow) (vs : List V) (cs : List Ce), Ext F H al F' H' al' → Rep F' H' al' O' → CeRs F' al' vs cs → R cs O' → Q vs H'
def DX (B : Bs) (te : TE) (ρ : En) (O : Ow) (R : RX) : Prop := ∀ (F H : Hp) (al : List Addr) (σ : L2.St) (Q : VK), B.p F H al → Rep F H al O → EnR F al σ ρ → Kx F H al R Q → te σ H Q
def DT (B : Bs) (tt : TT) (ρ : En) (O : Ow) (R : Bool → Ow → Prop) : Prop := ∀ (F H : Hp) (al : List Addr) (σ : L2.St) (Q : Bool → Hp → Prop), B.p F H al → Rep F H al O → EnR F al σ ρ → Kb F H al R Q → tt σ H Q
def DA (B : Bs) (ta : TA) (ρ : En) (O : Ow) (R : List Ce → Ow → Prop) : Prop := ∀ (F H : Hp) (al : List Addr) (σ : L2.St) (Q : List V → Hp → Prop), B.p F H al → Rep F H al O → EnR F al σ ρ → Ks F H al R Q → ta σ H Q
def D1 (B : Bs) (r : V → Hp → VK → Prop) (x : Ce) (O : Ow) (R : RX) : Prop := ∀ (F H : Hp) (al : List Addr) (v : V) (Q : VK), B.p F H al → Rep F H al O → CeR F al v x → Kx F H al R Q → r v H Q
def D2 (B : Bs) (r : R2) (x y : Ce) (O : Ow) (R : RX) : Prop := ∀ (F H : Hp) (al : List Addr) (v u : V) (Q : VK), B.p F H al → Rep F H al O → CeR F al v x → CeR F al u y → Kx F H al R Q → r v u H Q
def DC (B : Bs) (r : List V → Hp → VK → Prop) (xs : List Ce) (O : Ow) (R : RX) : Prop := ∀ (F H : Hp) (al : List Addr) (vs : List V) (Q : VK), B.p F H al → Rep F H al O → CeRs F al vs xs → Kx F H al R Q → r vs H Q
def DM (B : Bs) (r : V → List V → Hp → VK → Prop) (x : Ce) (xs : List Ce) (O : Ow) (R : RX) : Prop := ∀ (F H : Hp) (al : List Addr) (v : V) (vs : List V) (Q : VK), B.p F H al → Rep F H al O → CeR F al v x → CeRs F al vs xs → Kx F H al R Q → r v vs H Q
/-- abstract ends -/
structure AE where
  nx : En → Ow → Prop
  rt : RX
  bk : En → Ow → Prop := fun _ _ => False
  ct : En → Ow → Prop := fun _ _ => False
def Ke (F H : Hp) (al : List Addr) (R : En → Ow → Prop) (Q : L2.St → Hp → Prop) : Prop := ∀ (F' H' : Hp) (al' : List Addr) (O' : Ow) (σ' : L2.St) (ρ' : En), Ext F H al F' H' al' → Rep F' H' al' O' → EnR F' al' σ' ρ' → R ρ' O' → Q σ' H'
structure KD (F H : Hp) (al : List Addr) (A : AE) (D : L2.Ends) : Prop where
  nx : Ke F H al A.nx D.nx
  rt : Kx F H al A.rt D.rt
  bk : Ke F H al A.bk D.bk
  ct : Ke F H al A.ct D.ct
def DS (B : Bs) (ts : TS) (ρ : En) (O : Ow) (A : AE) : Prop := ∀ (F H : Hp) (al : List Addr) (σ : L2.St) (D : L2.Ends), B.p F H al → Rep F H al O → EnR F al σ ρ → KD F H al A D → ts D σ H
theorem Kx.step {F H F1 H1 : Hp} {al al1 : List Addr} {R : RX} {Q : VK} (k : Kx F H al R Q) (x : Ext F H al F1 H1 al1) : Kx F1 H1 al1 R Q := fun F' H' al' O' v c y => k F' H' al' O' v c (x.trans y)
theorem Kb.step {F H F1 H1 : Hp} {al al1 : List Addr} {R : Bool → Ow → Prop} {Q : Bool → Hp → Prop} (k : Kb F H al R Q) (x : Ext F H al F1 H1 al1) : Kb F1 H1 al1 R Q := fun F' H' al' O' b y => k F' H' al' O' b (x.trans y)
theorem Ks.step {F H F1 H1 : Hp} {al al1 : List Addr} {R : List Ce → Ow → Prop} {Q : List V → Hp → Prop} (k : Ks F H al R Q) (x : Ext F H al F1 H1 al1) : Ks F1 H1 al1 R Q := fun F' H' al' O' vs cs y => k F' H' al' O' vs cs (x.trans y)
theorem Ke.step {F H F1 H1 : Hp} {al al1 : List Addr} {R : En → Ow → Prop} {Q : L2.St → Hp → Prop} (k : Ke F H al R Q) (x : Ext F H al F1 H1 al1) : Ke F1 H1 al1 R Q := fun F' H' al' O' s r y => k F' H' al' O' s r (x.trans y)
theorem KD.step {F H F1 H1 : Hp} {al al1 : List Addr} {A : AE} {D : L2.Ends} (k : KD F H al A D) (x : Ext F H al F1 H1 al1) : KD F1 H1 al1 A D := ⟨k.nx.step x, k.rt.step x, k.bk.step x, k.ct.step x⟩

section
variable {B : Bs} {ρ : En} {O : Ow} {R : RX}
/-! ### expressions -/
theorem dx_mono {te : TE} {R' : RX} (h : DX B te ρ O R') (k : ∀ c O', R' c O' → R c O') : DX B te ρ O R := fun F H al σ Q b r e q => h F H al σ Q b r e fun F' H' al' O' v c x r' cr z => q F' H' al' O' v c x r' cr (k c O' z)
theorem dx_var {i : Nat} {c : Ce} (h : ρ[i]? = some (some c)) (k : R c O) : DX B (tVar i) ρ O R := fun F H al σ Q b r e q =>
  let ⟨v, hv, rv⟩ := e.get i c h
  ⟨v, hv, q F H al O v c (.refl _ _ _) r rv k⟩
theorem dx_c {v : V} {d : D} (hd : ∀ F, DV F v d) (k : R (.d d) O) : DX B (tC v) ρ O R := fun F H al σ Q b r e q => q F H al O v (.d d) (.refl _ _ _) r (hd F) k
theorem dx_int {i : Int} (k : R (.d (.int i)) O) : DX B (tC (.int i)) ρ O R := dx_c (fun _ => .int i) k
theorem dx_bl {i : Bool} (k : R (.d (.bool i)) O) : DX B (tC (.bl i)) ρ O R := dx_c (fun _ => .bl i) k
theorem dx_non (k : R (.d .none) O) : DX B (tC .non) ρ O R := dx_c (fun _ => .non) k
theorem dx_str {x : Str} (h : x.length ≤ sizeLine) (k : R (.d (.str x)) O) : DX B (tC (.str x)) ρ O R := dx_c (fun _ => .str x h) k
theorem dx_op {r : R2} {ta tb : TE} (h : DX B ta ρ O fun x O1 => DX B tb ρ O1 fun y O2 => D2 B r x y O2 R) : DX B (tOp r ta tb) ρ O R := fun F H al σ Q b rp e q =>
  h F H al σ _ b rp e fun F1 H1 al1 O1 v x x1 r1 c1 h1 => h1 F1 H1 al1 σ _ (B.cl b x1) r1 (e.ext x1) fun F2 H2 al2 O2 u y x2 r2 c2 h2 =>
    h2 F2 H2 al2 v u Q (B.cl (B.cl b x1) x2) r2 (c1.ext x2) c2 (q.step (x1.trans x2))
theorem dx_un {r : V → Hp → VK → Prop} {ta : TE} (h : DX B ta ρ O fun x O1 => D1 B r x O1 R) : DX B (tUn r ta) ρ O R := fun F H al σ Q b rp e q =>
  h F H al σ _ b rp e fun F1 H1 al1 O1 v x x1 r1 c1 h1 => h1 F1 H1 al1 v Q (B.cl b x1) r1 c1 (q.step x1)
/-- both ways of a test -/
def Cs (b : Bool) (P Q : Prop) : Prop := (b = true → P) ∧ (b = false → Q)
theorem Cs.ite {b : Bool} {P Q : Prop} (h : Cs b P Q) : if b = true then P else Q := by
  cases b with
  | true => rw [if_pos rfl]; exact h.1 rfl
  | false => rw [if_neg (by simp)]; exact h.2 rfl
theorem Cs.t {P Q : Prop} (h : P) : Cs true P Q := ⟨fun _ => h, fun e => absurd e (by simp)⟩
theorem Cs.f {P Q : Prop} (h : Q) : Cs false P Q := ⟨fun e => absurd e (by simp), fun _ => h⟩
theorem Cs.of {b : Bool} {P Q : Prop} (h1 : b = true → P) (h2 : b = false → Q) : Cs b P Q := ⟨h1, h2⟩
theorem Cs.isT {b : Bool} {P Q : Prop} (e : b = true) (h : P) : Cs b P Q := by subst e; exact .t h
theorem Cs.isF {b : Bool} {P Q : Prop} (e : b = false) (h : Q) : Cs b P Q := by subst e; exact .f h
theorem ite_of {b : Bool} {P Q : Prop} (h1 : b = true → P) (h2 : b = false → Q) : if b = true then P else Q := Cs.ite ⟨h1, h2⟩
/-- a bool's value -/
def IsB (c : Ce) (P : Bool → Prop) : Prop := ∃ b, c = .d (.bool b) ∧ P b
theorem isB {b : Bool} {P : Bool → Prop} (h : P b) : IsB (.d (.bool b)) P := ⟨b, rfl, h⟩
theorem dt_b {t : TE} {R : Bool → Ow → Prop} (h : DX B t ρ O fun c O1 => IsB c fun b => R b O1) : DT B (tB t) ρ O R := fun F H al σ Q b rp e q =>
  h F H al σ _ b rp e fun F1 H1 al1 O1 v c x1 r1 c1 ⟨k, ek, hk⟩ => by
    subst ek
    cases c1
    exact ⟨k, rfl, q _ _ _ _ _ x1 r1 hk⟩
theorem dt_test {t : TE} {R : Bool → Ow → Prop} (h : DX B t ρ O fun c O1 => IsB c fun b => R b O1) : DT B (tTest t) ρ O R := dt_b h
theorem dt_and {t u : TT} {R : Bool → Ow → Prop} (h : DT B t ρ O fun b O1 => Cs b (DT B u ρ O1 R) (R false O1)) : DT B (tAnd t u) ρ O R := fun F H al σ Q b rp e q =>
  h F H al σ _ b rp e fun F1 H1 al1 O1 k x1 r1 hk => ite_of (fun z => hk.1 z F1 H1 al1 σ Q (B.cl b x1) r1 (e.ext x1) (q.step x1)) fun z => q _ _ _ _ _ x1 r1 (hk.2 z)
theorem dt_or {t u : TT} {R : Bool → Ow → Prop} (h : DT B t ρ O fun b O1 => Cs b (R true O1) (DT B u ρ O1 R)) : DT B (tOr t u) ρ O R := fun F H al σ Q b rp e q =>
  h F H al σ _ b rp e fun F1 H1 al1 O1 k x1 r1 hk => ite_of (fun z => q _ _ _ _ _ x1 r1 (hk.1 z)) fun z => hk.2 z F1 H1 al1 σ Q (B.cl b x1) r1 (e.ext x1) (q.step x1)
theorem dt_not {t : TT} {R : Bool → Ow → Prop} (h : DT B t ρ O fun b O1 => R (!b) O1) : DT B (tNot t) ρ O R := fun F H al σ Q b rp e q => h F H al σ _ b rp e fun F1 H1 al1 O1 k x1 r1 hk => q _ _ _ _ _ x1 r1 hk
theorem dt_yes {R : Bool → Ow → Prop} (h : R true O) : DT B tYes ρ O R := fun F H al σ Q b rp e q => q F H al O true (.refl _ _ _) rp h
theorem dt_mono {tt : TT} {R R' : Bool → Ow → Prop} (h : DT B tt ρ O R') (k : ∀ b O', R' b O' → R b O') : DT B tt ρ O R := fun F H al σ Q b r e q => h F H al σ Q b r e fun F' H' al' O' v x r' z => q F' H' al' O' v x r' (k v O' z)
theorem dx_if {t : TT} {ta tb : TE} (h : DT B t ρ O fun b O1 => Cs b (DX B ta ρ O1 R) (DX B tb ρ O1 R)) : DX B (tIf t ta tb) ρ O R := fun F H al σ Q b rp e q =>
  h F H al σ _ b rp e fun F1 H1 al1 O1 k x1 r1 hk => ite_of (fun z => hk.1 z F1 H1 al1 σ Q (B.cl b x1) r1 (e.ext x1) (q.step x1)) fun z => hk.2 z F1 H1 al1 σ Q (B.cl b x1) r1 (e.ext x1) (q.step x1)
theorem dx_andV {ta tb : TE} (h : DX B ta ρ O fun c O1 => IsB c fun b => Cs b (DX B tb ρ O1 R) (R (.d (.bool false)) O1)) : DX B (tAndV ta tb) ρ O R := fun F H al σ Q b rp e q =>
  h F H al σ _ b rp e fun F1 H1 al1 O1 v c x1 r1 c1 ⟨k, ek, hk⟩ => by
    subst ek
    cases c1
    exact ⟨k, rfl, ite_of (fun z => hk.1 z F1 H1 al1 σ Q (B.cl b x1) r1 (e.ext x1) (q.step x1)) fun z => q _ _ _ _ _ (.d (.bool false)) x1 r1 (DV.bl false) (hk.2 z)⟩
theorem dx_orV {ta tb : TE} (h : DX B ta ρ O fun c O1 => IsB c fun b => Cs b (R (.d (.bool true)) O1) (DX B tb ρ O1 R)) : DX B (tOrV ta tb) ρ O R := fun F H al σ Q b rp e q =>
  h F H al σ _ b rp e fun F1 H1 al1 O1 v c x1 r1 c1 ⟨k, ek, hk⟩ => by
    subst ek
    cases c1
    exact ⟨k, rfl, ite_of (fun z => q _ _ _ _ _ (.d (.bool true)) x1 r1 (DV.bl true) (hk.1 z)) fun z => hk.2 z F1 H1 al1 σ Q (B.cl b x1) r1 (e.ext x1) (q.step x1)⟩
theorem dx_notV {ta : TE} (h : DX B ta ρ O fun c O1 => IsB c fun b => R (.d (.bool (!b))) O1) : DX B (tNotV ta) ρ O R := fun F H al σ Q b rp e q =>
  h F H al σ _ b rp e fun F1 H1 al1 O1 v c x1 r1 c1 ⟨k, ek, hk⟩ => by
    subst ek
    cases c1
    exact ⟨k, rfl, q _ _ _ _ _ (.d (.bool _)) x1 r1 (DV.bl _) hk⟩
/-- a < b < c -/
theorem dx_chain {r r' : R2} {ta tb tc : TE} (h : DX B ta ρ O fun x O1 => DX B tb ρ O1 fun y O2 => D2 B r x y O2 fun z O3 => IsB z fun k => Cs k (DX B tc ρ O3 fun w O4 => D2 B r' y w O4 R) (R (.d (.bool false)) O3)) : DX B (tChain r r' ta tb tc) ρ O R := fun F H al σ Q b rp e q =>
  h F H al σ _ b rp e fun F1 H1 al1 O1 v x x1 r1 c1 h1 => h1 F1 H1 al1 σ _ (B.cl b x1) r1 (e.ext x1) fun F2 H2 al2 O2 u y x2 r2 c2 h2 =>
    h2 F2 H2 al2 v u _ (B.cl (B.cl b x1) x2) r2 (c1.ext x2) c2 fun F3 H3 al3 O3 z cz x3 r3 c3 ⟨k, ek, hk⟩ => by
      subst ek
      cases c3
      have b3 := B.cl (B.cl (B.cl b x1) x2) x3
      refine ⟨k, rfl, ite_of (fun z => ?_) fun z => q _ _ _ _ _ (.d (.bool false)) ((x1.trans x2).trans x3) r3 (DV.bl false) (hk.2 z)⟩
      exact hk.1 z F3 H3 al3 σ _ b3 r3 (((e.ext x1).ext x2).ext x3) fun F4 H4 al4 O4 w cw x4 r4 c4 h4 => h4 F4 H4 al4 u w Q (B.cl b3 x4) r4 ((c2.ext x3).ext x4) c4 (q.step (((x1.trans x2).trans x3).trans x4))
theorem dt_tru_dummy : True := trivial
/-! ### arguments, calls -/
theorem da_nil {R : List Ce → Ow → Prop} (h : R [] O) : DA B tNil ρ O R := fun F H al σ Q b rp e q => q F H al O [] [] (.refl _ _ _) rp .nil h
theorem da_cons {ta : TE} {tr : TA} {R : List Ce → Ow → Prop} (h : DX B ta ρ O fun c O1 => DA B tr ρ O1 fun cs O2 => R (c :: cs) O2) : DA B (tCons ta tr) ρ O R := fun F H al σ Q b rp e q =>
  h F H al σ _ b rp e fun F1 H1 al1 O1 v x x1 r1 c1 h1 => h1 F1 H1 al1 σ _ (B.cl b x1) r1 (e.ext x1) fun F2 H2 al2 O2 vs cs x2 r2 c2 h2 => q _ _ _ _ _ _ (x1.trans x2) r2 (.cons (c1.ext x2) c2) h2
theorem dx_cb {r : List V → Hp → VK → Prop} {t : TA} (h : DA B t ρ O fun cs O1 => DC B r cs O1 R) : DX B (tCB r t) ρ O R := fun F H al σ Q b rp e q =>
  h F H al σ _ b rp e fun F1 H1 al1 O1 vs cs x1 r1 c1 h1 => h1 F1 H1 al1 vs Q (B.cl b x1) r1 c1 (q.step x1)
/-- data cells -/
def AllD (cs : List Ce) (P : List D → Prop) : Prop := ∃ ds : List D, cs = ds.map .d ∧ P ds
theorem allD_nil {P : List D → Prop} (h : P []) : AllD [] P := ⟨[], rfl, h⟩
theorem allD_cons {d : D} {cs : List Ce} {P : List D → Prop} (h : AllD cs fun ds => P (d :: ds)) : AllD (.d d :: cs) P := let ⟨ds, e, k⟩ := h; ⟨d :: ds, by rw [e]; rfl, k⟩
theorem CeRs.ds {F : Hp} {al : List Addr} : ∀ {ds : List D} {vs : List V}, CeRs F al vs (ds.map .d) → DVs F vs ds
  | [], _, .nil => .nil
  | _ :: _, _, .cons h r => .cons h (CeRs.ds r)
theorem CeRs.of_ds {F : Hp} {al : List Addr} : ∀ {ds : List D} {vs : List V}, DVs F vs ds → CeRs F al vs (ds.map .d)
  | [], _, .nil => .nil
  | _ :: _, _, .cons h r => .cons h (CeRs.of_ds r)
theorem DV.lst_new {F : Hp} {p : Addr} {vs : List V} {ds : List D} (hn : F p = none) (h : ds.length ≤ sizeLine) (r : DVs F vs ds) : DV (upd F p (.lst vs)) (.ref p) (.list ds) := .lst upd_same h (r.mono (same_upd (Same.refl _) hn))
theorem DV.tup_new {F : Hp} {p : Addr} {vs : List V} {ds : List D} (hn : F p = none) (h : ds.length ≤ sizeLine) (r : DVs F vs ds) : DV (upd F p (.tup vs)) (.ref p) (.tuple ds) := .tup upd_same h (r.mono (same_upd (Same.refl _) hn))
theorem Rep.freeF {F H : Hp} {al : List Addr} {O : Ow} (r : Rep F H al O) {p : Addr} (hp : H p = none) : F p = none := Same.free r.sub hp
/-- a new list, a new tuple of data -/
theorem kx_lst {F H : Hp} {al : List Addr} {Q : VK} {vs : List V} {ds : List D} (rp : Rep F H al O) (q : Kx F H al R Q) (r : DVs F vs ds) (hl : ds.length ≤ sizeLine) (h : R (.d (.list ds)) O) : ∀ p, H p = none → Q (.ref p) (upd H p (.lst vs)) := fun p hp =>
  q _ _ _ _ _ (.d (.list ds)) (.laid rp hp) (rp.laid hp) (DV.lst_new (rp.freeF hp) hl r) h
theorem kx_tup {F H : Hp} {al : List Addr} {Q : VK} {vs : List V} {ds : List D} (rp : Rep F H al O) (q : Kx F H al R Q) (r : DVs F vs ds) (hl : ds.length ≤ sizeLine) (h : R (.d (.tuple ds)) O) : ∀ p, H p = none → Q (.ref p) (upd H p (.tup vs)) := fun p hp =>
  q _ _ _ _ _ (.d (.tuple ds)) (.laid rp hp) (rp.laid hp) (DV.tup_new (rp.freeF hp) hl r) h
theorem dx_tup {t : TA} (h : DA B t ρ O fun cs O1 => AllD cs fun ds => ds.length ≤ sizeLine ∧ R (.d (.tuple ds)) O1) : DX B (tTup t) ρ O R := fun F H al σ Q b rp e q =>
  h F H al σ _ b rp e fun F1 H1 al1 O1 vs cs x1 r1 c1 ⟨ds, ed, hl, hk⟩ => by
    subst ed
    have rr := CeRs.ds c1
    exact ⟨by rw [rr.length]; exact hl, kx_tup r1 (q.step x1) rr hl hk⟩
theorem dx_lst {t : TA} (h : DA B t ρ O fun cs O1 => AllD cs fun ds => ds.length ≤ sizeLine ∧ R (.d (.list ds)) O1) : DX B (tLst t) ρ O R := fun F H al σ Q b rp e q =>
  h F H al σ _ b rp e fun F1 H1 al1 O1 vs cs x1 r1 c1 ⟨ds, ed, hl, hk⟩ => by
    subst ed
    have rr := CeRs.ds c1
    exact ⟨by rw [rr.length]; exact hl, kx_lst r1 (q.step x1) rr hl hk⟩
/-! ### a new owned cell -/
/-- the address of a new object that is in no cell; cells that are dead may bear it: they are given another one -/
theorem Rep.own_new {F H : Hp} {al : List Addr} {O : Ow} {p : Addr} {o : HO} {b : Ob} (rp : Rep F H al O) (hp : H p = none) (hb : ObR F (upd H p o) (al ++ [p]) p b) : Rep F (upd H p o) (al ++ [p]) (O ++ [some b]) := by
  refine ⟨same_upd rp.sub hp, ?_, by simp [rp.len], fun a m => ?_, fun k b' e => ?_⟩
  · exact List.nodup_append.mpr ⟨rp.nd, by simp, fun x hx y hy z => by simp at hy; subst hy; subst z; exact rp.fresh hp hx⟩
  · rcases List.mem_append.mp m with m | m
    · exact upd_some (rp.there a m)
    · simp at m; subst m; rw [upd_same]; simp
  · by_cases hk : k < O.length
    · rw [List.getElem?_append_left hk] at e
      obtain ⟨a, h1, h2, h3⟩ := rp.own k b' e
      have hne : a ≠ p := fun z => rp.fresh hp (z ▸ List.mem_of_getElem? h1)
      refine ⟨a, by rw [List.getElem?_append_left (by rw [rp.len]; exact hk)]; exact h1, h2, h3.mono (Same.refl _) (fun k x q => ?_) fun o q => by rw [upd_ne hne]; exact q⟩
      rw [List.getElem?_append_left (List.getElem?_eq_some_iff.mp q).1]; exact q
    · have hk' : k = O.length := by
        have := (List.getElem?_eq_some_iff.mp e).1
        simp at this; omega
      subst hk'
      rw [List.getElem?_append_right (Nat.le_refl _)] at e
      simp at e
      subst e
      refine ⟨p, by rw [List.getElem?_append_right (by rw [rp.len]; exact Nat.le_refl _), rp.len]; simp, rp.freeF hp, hb⟩
theorem Ext.own_new {F H : Hp} {al : List Addr} {p : Addr} {o : HO} (hp : H p = none) : Ext F H al F (upd H p o) (al ++ [p]) :=
  ⟨Same.refl _, ⟨[p], rfl⟩, fun a u e _ => by rw [upd_ne (ne_of_none e hp)]; exact e, fun a e h m => by
    rcases List.mem_append.mp m with m | m
    · exact h m
    · simp at m; subst m; exact e hp, fun _ _ _ n => n⟩
end
end DL
/-! DL, part c: statements, targets, walks, comprehensions, loops, promises. -/
namespace DL
open PySem L2 PySem.Spec
set_option autoImplicit false
section
variable {B : Bs} {ρ : En} {O : Ow} {R : RX} {A : AE}
/-! ### statements -/
theorem KD.withNx {F H : Hp} {al : List Addr} {A : AE} {D : L2.Ends} (k : KD F H al A D) {N : En → Ow → Prop} {n : L2.St → Hp → Prop} (h : Ke F H al N n) : KD F H al { A with nx := N } { D with nx := n } := ⟨h, k.rt, k.bk, k.ct⟩
theorem KD.loop {F H : Hp} {al : List Addr} {A : AE} {D : L2.Ends} (k : KD F H al A D) {N : En → Ow → Prop} {n : L2.St → Hp → Prop} (h : Ke F H al N n) : KD F H al { A with nx := N, ct := N, bk := A.nx } { D with nx := n, ct := n, bk := D.nx } := ⟨h, k.rt, k.nx, h⟩
theorem ds_mono {t : TS} {A' : AE} (h : DS B t ρ O A') (nx : ∀ r o, A'.nx r o → A.nx r o) (rt : ∀ c o, A'.rt c o → A.rt c o) (bk : ∀ r o, A'.bk r o → A.bk r o) (ct : ∀ r o, A'.ct r o → A.ct r o) : DS B t ρ O A := fun F H al σ D b rp e k =>
  h F H al σ D b rp e ⟨fun F' H' al' O' s r x y z w => k.nx F' H' al' O' s r x y z (nx _ _ w), fun F' H' al' O' s r x y z w => k.rt F' H' al' O' s r x y z (rt _ _ w), fun F' H' al' O' s r x y z w => k.bk F' H' al' O' s r x y z (bk _ _ w), fun F' H' al' O' s r x y z w => k.ct F' H' al' O' s r x y z (ct _ _ w)⟩
theorem ds_next (h : A.nx ρ O) : DS B tNext ρ O A := fun F H al σ D b rp e k => k.nx F H al O σ ρ (.refl _ _ _) rp e h
theorem ds_break (h : A.bk ρ O) : DS B tBreak ρ O A := fun F H al σ D b rp e k => k.bk F H al O σ ρ (.refl _ _ _) rp e h
theorem ds_cont (h : A.ct ρ O) : DS B tCont ρ O A := fun F H al σ D b rp e k => k.ct F H al O σ ρ (.refl _ _ _) rp e h
theorem ds_seq {t u : TS} (h : DS B t ρ O { A with nx := fun ρ' O' => DS B u ρ' O' A }) : DS B (tSeq t u) ρ O A := fun F H al σ D b rp e k =>
  h F H al σ _ b rp e (k.withNx fun F' H' al' O' s r x y z w => w F' H' al' s D (B.cl b x) y z (k.step x))
/-- .. by what holds between the two -/
theorem ds_seqM {t u : TS} (M : En → Ow → Prop) (h : DS B t ρ O { A with nx := M }) (g : ∀ ρ' O', M ρ' O' → DS B u ρ' O' A) : DS B (tSeq t u) ρ O A :=
  ds_seq (ds_mono h g (fun _ _ z => z) (fun _ _ z => z) fun _ _ z => z)
def DG (B : Bs) (g : TG) (c : Ce) (ρ : En) (O : Ow) (R : En → Ow → Prop) : Prop := ∀ (F H : Hp) (al : List Addr) (v : V) (σ : L2.St) (Q : L2.St → Hp → Prop), B.p F H al → Rep F H al O → CeR F al v c → EnR F al σ ρ → Ke F H al R Q → g v σ H Q
theorem ds_asgG {te : TE} {g : TG} (h : DX B te ρ O fun c O' => DG B g c ρ O' A.nx) : DS B (tAsg te g) ρ O A := fun F H al σ D b rp e k =>
  h F H al σ _ b rp e fun F' H' al' O' v c x y z w => w F' H' al' v σ D.nx (B.cl b x) y z (e.ext x) (k.step x).nx
theorem dg_name {i : Nat} {c : Ce} {R : En → Ow → Prop} (h : R (ρ.set i (some c)) O) : DG B (gName i) c ρ O R := fun F H al v σ Q b rp cr e k => k F H al O _ _ (.refl _ _ _) rp (e.set i cr) h
theorem ds_asg {te : TE} {i : Nat} (h : DX B te ρ O fun c O' => A.nx (ρ.set i (some c)) O') : DS B (tAsg te (gName i)) ρ O A := ds_asgG (dx_mono h fun c O' z => dg_name z)
theorem ds_drop {te : TE} (h : DX B te ρ O fun _ O' => A.nx ρ O') : DS B (tDrop te) ρ O A := fun F H al σ D b rp e k =>
  h F H al σ _ b rp e fun F' H' al' O' v c x y z w => k.nx F' H' al' O' σ ρ x y (e.ext x) w
theorem ds_ret {te : TE} (h : DX B te ρ O A.rt) : DS B (tRet te) ρ O A := fun F H al σ D b rp e k => h F H al σ _ b rp e k.rt
theorem ds_retN (h : A.rt (.d .none) O) : DS B tRetN ρ O A := fun F H al σ D b rp e k => k.rt F H al O .non (.d .none) (.refl _ _ _) rp DV.non h
theorem ds_if {c : TT} {t u : TS} (h : DT B c ρ O fun b O' => Cs b (DS B t ρ O' A) (DS B u ρ O' A)) : DS B (tIfS c t u) ρ O A := fun F H al σ D b rp e k =>
  h F H al σ _ b rp e fun F1 H1 al1 O1 d x1 r1 hk => ite_of (fun z => hk.1 z F1 H1 al1 σ D (B.cl b x1) r1 (e.ext x1) (k.step x1)) fun z => hk.2 z F1 H1 al1 σ D (B.cl b x1) r1 (e.ext x1) (k.step x1)
theorem ds_aug {i : Nat} {te : TE} {ti : TIp} {c : Ce} (hi : ρ[i]? = some (some c)) (h : DX B te ρ O fun y O1 => D2 B ti c y O1 fun z O2 => A.nx (ρ.set i (some z)) O2) : DS B (tAug i te ti) ρ O A := fun F H al σ D b rp e k => by
  obtain ⟨v, hv, rv⟩ := e.get i c hi
  exact ⟨v, hv, h F H al σ _ b rp e fun F1 H1 al1 O1 u y x1 r1 c1 h1 => h1 F1 H1 al1 v u _ (B.cl b x1) r1 (rv.ext x1) c1 fun F2 H2 al2 O2 w z x2 r2 c2 h2 => k.nx _ _ _ _ _ _ (x1.trans x2) r2 (((e.ext x1).ext x2).set i c2) h2⟩
/-- while, by an invariant with a measure -/
theorem ds_while {c : TT} {tb : TS} (I : Nat → En → Ow → Prop) (m : Nat) (h0 : I m ρ O)
    (h : ∀ m ρ2 O2, I m ρ2 O2 → DT B c ρ2 O2 fun b O3 => Cs b (DS B tb ρ2 O3 { A with nx := fun ρ' O' => ∃ m', m' < m ∧ I m' ρ' O', ct := fun ρ' O' => ∃ m', m' < m ∧ I m' ρ' O', bk := A.nx }) (A.nx ρ2 O3)) : DS B (tWhile c tb) ρ O A := fun F H al σ D b rp e k => by
  refine ⟨fun m σ' H' => ∃ F' al' O' ρ', Ext F H al F' H' al' ∧ Rep F' H' al' O' ∧ EnR F' al' σ' ρ' ∧ I m ρ' O', ⟨m, F, al, O, ρ, .refl _ _ _, rp, e, h0⟩, ?_⟩
  rintro m σ1 H1 ⟨F1, al1, O1, ρ1, x1, r1, e1, i1⟩
  refine h m ρ1 O1 i1 F1 H1 al1 σ1 _ (B.cl b x1) r1 e1 fun F2 H2 al2 O2 d x2 r2 hk => ite_of (fun z => ?_) fun z => k.nx _ _ _ _ _ _ (x1.trans x2) r2 (e1.ext x2) (hk.2 z)
  refine ⟨fun σ' H' => ∃ m', m' < m ∧ ∃ F' al' O' ρ', Ext F H al F' H' al' ∧ Rep F' H' al' O' ∧ EnR F' al' σ' ρ' ∧ I m' ρ' O', fun σ' H' ⟨m', l, q⟩ => ⟨m', l, q⟩, ?_⟩
  refine hk.1 z F2 H2 al2 σ1 _ (B.cl (B.cl b x1) x2) r2 (e1.ext x2) ((k.step (x1.trans x2)).loop fun F' H' al' O' s r x y z' w => ?_)
  obtain ⟨m', l, w⟩ := w
  exact ⟨m', l, F', al', O', r, (x1.trans x2).trans x, y, z', w⟩
/-! ### targets of data -/
def setsV (σ : L2.St) : List (Nat × V) → L2.St
  | [] => σ
  | p :: r => setsV (σ.set p.1 (some p.2)) r
def setsD (ρ : En) : List (Nat × D) → En
  | [] => ρ
  | p :: r => setsD (ρ.set p.1 (some (.d p.2))) r
abbrev Ws (F : Hp) : List (Nat × V) → List (Nat × D) → Prop := Paired fun p q => p.1 = q.1 ∧ DV F p.2 q.2
def GD (g : TG) (x : D) (as : List (Nat × D)) : Prop := ∀ (F H : Hp) (v : V) (σ : L2.St) (Q : L2.St → Hp → Prop), Same F H → DV F v x → (∀ ws, Ws F ws as → Q (setsV σ ws) H) → g v σ H Q
theorem gd_name {i : Nat} {x : D} : GD (gName i) x [(i, x)] := fun F H v σ Q s r k => k [(i, v)] (.cons ⟨rfl, r⟩ .nil)
def GDs (g : TGs) (xs : List D) (as : List (Nat × D)) : Prop := ∀ (F H : Hp) (vs : List V) (σ : L2.St) (Q : L2.St → Hp → Prop), Same F H → DVs F vs xs → (∀ ws, Ws F ws as → Q (setsV σ ws) H) → g vs σ H Q
theorem setsV_app (σ : L2.St) : ∀ a b : List (Nat × V), setsV σ (a ++ b) = setsV (setsV σ a) b := fun a b => by
  induction a generalizing σ with
  | nil => rfl
  | cons p r ih => exact ih _
theorem Ws.app {F : Hp} {a : List (Nat × V)} {b : List (Nat × D)} {c : List (Nat × V)} {d : List (Nat × D)} (x : Ws F a b) (y : Ws F c d) : Ws F (a ++ c) (b ++ d) := by
  induction x with
  | nil => exact y
  | cons h _ ih => exact .cons h ih
theorem gds_nil : GDs gNil [] [] := fun F H vs σ Q s r k => by
  cases r
  exact ⟨rfl, k [] .nil⟩
theorem gds_cons {g : TG} {gs : TGs} {x : D} {xs : List D} {as bs : List (Nat × D)} (h : GD g x as) (hs : GDs gs xs bs) : GDs (gCons g gs) (x :: xs) (as ++ bs) := fun F H vs σ Q s r k => by
  cases r with
  | cons r1 r2 =>
    refine ⟨_, _, rfl, h F H _ σ _ s r1 fun ws hw => hs F H _ _ _ s r2 fun ws2 hw2 => ?_⟩
    rw [← setsV_app]
    exact k _ (Ws.app hw hw2)
theorem gd_tup {K : PySem.W.Frag} {n : Nat} {gs : TGs} {xs : List D} {as : List (Nat × D)} (hs : GDs gs xs as) (hn : xs.length = n) : GD (gTup K n gs) (.tuple xs) as := fun F H v σ Q s r k => by
  cases r with
  | tup q l r => exact ⟨_, _, rfl, SqT.of (s _ _ q), by rw [r.length, hn], hs F H _ σ Q s r k⟩
theorem EnR.sets {F : Hp} {al : List Addr} {ws : List (Nat × V)} {as : List (Nat × D)} {σ : L2.St} {ρ : En} (e : EnR F al σ ρ) (w : Ws F ws as) : EnR F al (setsV σ ws) (setsD ρ as) := by
  induction w generalizing σ ρ with
  | nil => exact e
  | @cons p q ps qs h r ih =>
    refine ih (σ := σ.set p.1 (some p.2)) (ρ := ρ.set q.1 (some (.d q.2))) ?_
    have h1 : p.1 = q.1 := h.1
    rw [h1]
    exact e.set q.1 (c := .d q.2) h.2
theorem DG.gd {g : TG} {x : D} {as : List (Nat × D)} {R : En → Ow → Prop} (h : GD g x as) (k : R (setsD ρ as) O) : DG B g (.d x) ρ O R := fun F H al v σ Q b rp cr e q => h F H v σ Q rp.sub cr fun ws hw => q F H al O _ _ (.refl _ _ _) rp (e.sets hw) k
/-! ### walks -/
structure WalkD (J : It) (F : Hp) (ds : List D) : Prop where
  stop : ∀ H, Same F H → J.stop ds.length H
  go : ∀ (i : Nat) (H : Hp), i < ds.length → Same F H → J.go i H
  yld : ∀ (i : Nat) (F' H : Hp) (x : V) (H' : Hp), i < ds.length → Same F F' → Same F' H → J.yld i H x H' →
    ∃ (F2 : Hp) (d : D), ds[i]? = some d ∧ Same F' F2 ∧ Same F2 H' ∧ Same H H' ∧ (∀ a, H a ≠ none → F' a = none → F2 a = none) ∧ DV F2 x d
theorem Rep.turn {F H F2 H2 : Hp} {al : List Addr} (rp : Rep F H al O) (s1 : Same F F2) (s2 : Same F2 H2) (s3 : Same H H2) (n : ∀ a, H a ≠ none → F a = none → F2 a = none) : Rep F2 H2 al O ∧ Ext F H al F2 H2 al := by
  refine ⟨⟨s2, rp.nd, rp.len, fun a m => ?_, fun k b e => ?_⟩, ⟨s1, ⟨[], by simp⟩, fun a o e _ => s3 a o e, fun _ _ h => h, fun a e _ f => n a e f⟩⟩
  · obtain ⟨o, q⟩ := Option.ne_none_iff_exists'.mp (rp.there a m)
    exact ne_none_of (s3 _ _ q)
  · obtain ⟨a, h1, h2, h3⟩ := rp.own k b e
    exact ⟨a, h1, n a h3.some h2, h3.mono s1 (fun _ _ q => q) fun o q => s3 _ _ q⟩
def DI (B : Bs) (wi : TI) (ρ : En) (O : Ow) (R : List D → Ow → Prop) : Prop := ∀ (F H : Hp) (al : List Addr) (σ : L2.St) (Rh : It → Hp → Prop), B.p F H al → Rep F H al O → EnR F al σ ρ →
  (∀ (F' H' : Hp) (al' : List Addr) (O' : Ow) (J : It) (ds : List D), Ext F H al F' H' al' → Rep F' H' al' O' → WalkD J F' ds → ds.length ≤ sizeLine → R ds O' → Rh J H') → wi σ H Rh
/-- the slots of a comprehension's own names are forgotten -/
def wipeE (ρ : En) : List Nat → En
  | [] => ρ
  | v :: vs => (wipeE ρ vs).set v none
theorem wipe_get {α : Type} (σ : List (Option α)) (w : List (Option α) → List Nat → List (Option α)) (w0 : ∀ σ, w σ [] = σ) (w1 : ∀ σ v vs, w σ (v :: vs) = (w σ vs).set v none) (vs : List Nat) (i : Nat) : (w σ vs)[i]? = if i ∈ vs then (σ[i]?).map fun _ => none else σ[i]? := by
  induction vs with
  | nil => rw [w0]; simp
  | cons v vs ih =>
    rw [w1, List.getElem?_set]
    by_cases h : v = i
    · subst h
      rw [if_pos rfl]
      have hl : (w σ vs).length = σ.length := by
        clear ih
        induction vs with
        | nil => rw [w0]
        | cons u us ih => rw [w1, List.length_set, ih]
      rw [hl, if_pos (List.mem_cons_self)]
      by_cases hv : v < σ.length
      · rw [if_pos hv, List.getElem?_eq_getElem hv]; rfl
      · rw [if_neg hv, List.getElem?_eq_none (by omega)]; rfl
    · rw [if_neg h, ih]
      by_cases hm : i ∈ vs
      · rw [if_pos hm, if_pos (List.mem_cons_of_mem _ hm)]
      · rw [if_neg hm, if_neg (by simp only [List.mem_cons, not_or]; exact ⟨fun z => h z.symm, hm⟩)]
theorem wipe_len {α : Type} (σ : List (Option α)) (w : List (Option α) → List Nat → List (Option α)) (w0 : ∀ σ, w σ [] = σ) (w1 : ∀ σ v vs, w σ (v :: vs) = (w σ vs).set v none) (vs : List Nat) : (w σ vs).length = σ.length := by
  induction vs with
  | nil => rw [w0]
  | cons u us ih => rw [w1, List.length_set, ih]
theorem EnR.wipe {F : Hp} {al : List Addr} {σ : L2.St} (e : EnR F al σ ρ) (vs : List Nat) : EnR F al (L2.wipe σ vs) (wipeE ρ vs) := by
  refine ⟨?_, fun i c h => ?_⟩
  · rw [wipe_len σ L2.wipe (fun _ => rfl) (fun _ _ _ => rfl), wipe_len ρ wipeE (fun _ => rfl) (fun _ _ _ => rfl), e.len]
  · rw [wipe_get ρ wipeE (fun _ => rfl) (fun _ _ _ => rfl)] at h
    rw [wipe_get σ L2.wipe (fun _ => rfl) (fun _ _ _ => rfl)]
    by_cases hm : i ∈ vs
    · rw [if_pos hm] at h
      cases q : ρ[i]? with
      | none => rw [q] at h; cases h
      | some z => rw [q] at h; cases h
    · rw [if_neg hm] at h ⊢
      exact e.get i c h
theorem wipe_sets (σ : L2.St) (vs : List Nat) : ∀ (ws : List (Nat × V)), (∀ p ∈ ws, p.1 ∈ vs) → ∀ τ : L2.St, L2.wipe τ vs = L2.wipe σ vs → L2.wipe (setsV τ ws) vs = L2.wipe σ vs
  | [], _, τ, h => h
  | p :: r, hp, τ, h => by
    refine wipe_sets σ vs r (fun q m => hp q (List.mem_cons_of_mem _ m)) _ ?_
    rw [← h]
    apply List.ext_getElem?
    intro i
    rw [wipe_get _ L2.wipe (fun _ => rfl) (fun _ _ _ => rfl), wipe_get _ L2.wipe (fun _ => rfl) (fun _ _ _ => rfl)]
    by_cases hm : i ∈ vs
    · rw [if_pos hm, if_pos hm, List.getElem?_set]
      by_cases q : p.1 = i
      · rw [if_pos q]
        by_cases l : p.1 < τ.length
        · rw [if_pos l, List.getElem?_eq_getElem (by rw [← q]; exact l)]; rfl
        · rw [if_neg l, List.getElem?_eq_none (by rw [← q]; omega)]
          try rfl
      · rw [if_neg q]
    · rw [if_neg hm, if_neg hm, List.getElem?_set_ne fun z => hm (by rw [← z]; exact hp p List.mem_cons_self)]
theorem wipe_wipe (σ : L2.St) (vs : List Nat) : L2.wipe (L2.wipe σ vs) vs = L2.wipe σ vs := by
  apply List.ext_getElem?
  intro i
  rw [wipe_get _ L2.wipe (fun _ => rfl) (fun _ _ _ => rfl), wipe_get σ L2.wipe (fun _ => rfl) (fun _ _ _ => rfl)]
  by_cases hm : i ∈ vs
  · rw [if_pos hm, if_pos hm, Option.map_map]; rfl
  · rw [if_neg hm, if_neg hm]
theorem Ws.mem {F : Hp} {vs : List Nat} {ws : List (Nat × V)} {as : List (Nat × D)} (w : Ws F ws as) (h : ∀ p ∈ as, p.1 ∈ vs) : ∀ p ∈ ws, p.1 ∈ vs := by
  induction w with
  | nil => intro p m; cases m
  | cons a b ih =>
    intro p m
    rcases List.mem_cons.mp m with e | m
    · subst e; rw [a.1]; exact h _ List.mem_cons_self
    · exact ih (fun q m => h q (List.mem_cons_of_mem _ m)) p m
/-- a value that is data -/
def IsD (c : Ce) (P : D → Prop) : Prop := ∃ x, c = .d x ∧ P x
theorem isD {x : D} {P : D → Prop} (h : P x) : IsD (.d x) P := ⟨x, rfl, h⟩
/-- [te for g in wi if tt] -/
theorem dx_lc {wi : TI} {g : TG} {tt : TT} {te : TE} {vs : List Nat} (h : DI B wi ρ O fun ds O1 => ∃ I : Nat → List D → Ow → Prop, I 0 [] O1 ∧
      (∀ (i : Nat) (d : D) (acc : List D) (O2 : Ow), ds[i]? = some d → acc.length ≤ i → I i acc O2 → ∃ as, GD g d as ∧ (∀ p ∈ as, p.1 ∈ vs) ∧
        DT Bs.any tt (setsD (wipeE ρ vs) as) O2 fun b O3 => Cs b (DX Bs.any te (setsD (wipeE ρ vs) as) O3 fun c O4 => IsD c fun x => I (i + 1) (acc ++ [x]) O4) (I (i + 1) acc O3)) ∧
      (∀ (acc : List D) (O2 : Ow), acc.length ≤ ds.length → I ds.length acc O2 → R (.d (.list acc)) O2)) : DX B (tLc wi g tt te vs) ρ O R := fun F H al σ Q b rp e k => by
  refine h F H al σ _ b rp e fun F1 H1 al1 O1 J ds x1 r1 w hlen ⟨I, i0, step, fin⟩ => ?_
  intro Dl hD
  have e1 := e.ext x1
  refine ⟨fun i m H' => m = ds.length - i ∧ i ≤ ds.length ∧ ∃ F' al' O' acc accV, Ext F1 H1 al1 F' H' al' ∧ Rep F' H' al' O' ∧ DVs F' accV acc ∧ H' Dl = some (.lst accV) ∧ F' Dl = none ∧ Dl ∉ al' ∧ acc.length ≤ i ∧ I i acc O',
    ⟨ds.length, by simp, Nat.zero_le _, F1, al1, O1, [], [], ?_, r1.beside hD, .nil, upd_same, r1.freeF hD, r1.fresh hD, Nat.le_refl _, i0⟩, ?_⟩
  · exact ⟨Same.refl _, ⟨[], by simp⟩, fun a o q _ => by rw [upd_ne (ne_of_none q hD)]; exact q, fun _ _ z => z, fun _ _ _ z => z⟩
  rintro i m H' ⟨rfl, hi, F', al', O', acc, accV, x2, r2, dv, hDl, hF, hal, hai, inv⟩
  by_cases hlt : i < ds.length
  · right
    refine ⟨w.go i H' hlt (x2.sub.trans r2.sub), fun H'' => i + 1 ≤ ds.length ∧ ∃ F' al' O' acc accV, Ext F1 H1 al1 F' H'' al' ∧ Rep F' H'' al' O' ∧ DVs F' accV acc ∧ H'' Dl = some (.lst accV) ∧ F' Dl = none ∧ Dl ∉ al' ∧ acc.length ≤ i + 1 ∧ I (i + 1) acc O',
      fun H'' q => ⟨ds.length - (i + 1), by omega, rfl, q⟩, fun x H3 hy => ?_⟩
    obtain ⟨F3, d, hd, s1, s2, s3, n3, dx⟩ := w.yld i F' H' x H3 hlt x2.sub r2.sub hy
    obtain ⟨r3, x3⟩ := r2.turn s1 s2 s3 n3
    obtain ⟨as, hg, hvs, ht⟩ := step i d acc O' hd hai inv
    refine hg F3 H3 x _ _ s2 dx fun ws hw => ⟨wipe_sets σ vs ws (hw.mem hvs) _ (wipe_wipe σ vs), ?_⟩
    have e3 : EnR F3 al' (setsV (L2.wipe σ vs) ws) (setsD (wipeE ρ vs) as) := (((e1.ext x2).ext x3).wipe vs).sets hw
    have hD3 := s3 _ _ hDl
    have hF3 : F3 Dl = none := n3 Dl (ne_none_of hDl) hF
    refine ht F3 H3 al' _ _ trivial r3 e3 fun F4 H4 al4 O4 bb x4 r4 hb => ite_of (fun z => ?_) fun z => ?_
    · refine hb.1 z F4 H4 al4 _ _ trivial r4 (e3.ext x4) fun F5 H5 al5 O5 y c x5 r5 c5 ⟨dd, ec, inv5⟩ => ?_
      subst ec
      have x45 := x4.trans x5
      have hD5 := x45.keep Dl _ hD3 hal
      have hal5 := x45.out Dl (ne_none_of hD3) hal
      have hF5 := x45.noF Dl (ne_none_of hD3) hal hF3
      have dv5 : DVs F5 accV acc := (dv.mono s1).mono x45.sub
      refine ⟨accV, hD5, ?_, hlt, F5, al5, O5, acc ++ [dd], accV ++ [y], ?_, r5.poke hal5 hF5, dv5.append (.cons c5 .nil), upd_same, hF5, hal5, by simp; omega, inv5⟩
      · have := dv.length; omega
      · have xx := (x2.trans x3).trans x45
        exact ⟨xx.sub, xx.grow, fun a o q m => by rw [upd_ne (ne_of_none q hD)]; exact xx.keep a o q m, xx.out, xx.noF⟩
    · exact ⟨hlt, F4, al4, O4, acc, accV, (x2.trans x3).trans x4, r4, (dv.mono s1).mono x4.sub, x4.keep Dl _ hD3 hal, x4.noF Dl (ne_none_of hD3) hal hF3, x4.out Dl (ne_none_of hD3) hal, by omega, hb.2 z⟩
  · left
    have hie : i = ds.length := by omega
    subst hie
    refine ⟨w.stop H' (x2.sub.trans r2.sub), k (upd F' Dl (.lst accV)) H' al' O' (.ref Dl) (.d (.list acc)) ?_ (r2.freeze hal hF hDl) ?_ (fin acc O' hai inv)⟩
    · have xx := x1.trans x2
      have hHD : H Dl = none := by
        cases q : H Dl with
        | none => rfl
        | some o =>
          by_cases m : Dl ∈ al
          · obtain ⟨be, rfl⟩ := xx.grow
            exact absurd (List.mem_append_left _ m) hal
          · rw [x1.keep _ _ q m] at hD; cases hD
      refine ⟨fun a o q => ?_, xx.grow, xx.keep, xx.out, fun a q m n => ?_⟩
      · have : a ≠ Dl := fun z => by subst z; have q' := rp.sub _ _ q; rw [hHD] at q'; cases q'
        rw [upd_ne this]; exact xx.sub a o q
      · have : a ≠ Dl := fun z => by subst z; exact q hHD
        rw [upd_ne this]; exact xx.noF a q m n
    · exact DV.lst upd_same (by omega) (dv.mono (same_upd (Same.refl _) hF))
/-- for g in wi: tb -/
theorem ds_for {wi : TI} {g : TG} {tb : TS} (h : DI B wi ρ O fun ds O1 => ∃ I : Nat → En → Ow → Prop, I 0 ρ O1 ∧
      (∀ (i : Nat) (d : D) (ρ2 : En) (O2 : Ow), ds[i]? = some d → I i ρ2 O2 → ∃ as, GD g d as ∧ DS B tb (setsD ρ2 as) O2 { A with nx := I (i + 1), ct := I (i + 1), bk := A.nx }) ∧
      (∀ (ρ2 : En) (O2 : Ow), I ds.length ρ2 O2 → A.nx ρ2 O2)) : DS B (tFor wi g tb) ρ O A := fun F H al σ D0 b rp e k => by
  refine h F H al σ _ b rp e fun F1 H1 al1 O1 J ds x1 r1 w hlen ⟨I, i0, step, fin⟩ => ?_
  refine ⟨fun i m σ' H' => m = ds.length - i ∧ i ≤ ds.length ∧ ∃ F' al' O' ρ', Ext F1 H1 al1 F' H' al' ∧ Rep F' H' al' O' ∧ EnR F' al' σ' ρ' ∧ I i ρ' O',
    ⟨ds.length, by simp, Nat.zero_le _, F1, al1, O1, ρ, .refl _ _ _, r1, e.ext x1, i0⟩, ?_⟩
  rintro i m σ' H' ⟨rfl, hi, F', al', O', ρ', x2, r2, e2, inv⟩
  by_cases hlt : i < ds.length
  · right
    refine ⟨w.go i H' hlt (x2.sub.trans r2.sub), fun σ'' H'' => i + 1 ≤ ds.length ∧ ∃ F' al' O' ρ', Ext F1 H1 al1 F' H'' al' ∧ Rep F' H'' al' O' ∧ EnR F' al' σ'' ρ' ∧ I (i + 1) ρ' O',
      fun σ'' H'' q => ⟨ds.length - (i + 1), by omega, rfl, q⟩, fun x H3 hy => ?_⟩
    obtain ⟨F3, d, hd, s1, s2, s3, n3, dx⟩ := w.yld i F' H' x H3 hlt x2.sub r2.sub hy
    obtain ⟨r3, x3⟩ := r2.turn s1 s2 s3 n3
    obtain ⟨as, hg, hb⟩ := step i d ρ' O' hd inv
    refine hg F3 H3 x _ _ s2 dx fun ws hw => ?_
    have x123 := (x1.trans x2).trans x3
    refine hb F3 H3 al' _ _ (B.cl b x123) r3 ((e2.ext x3).sets hw) ((k.step x123).loop fun F4 H4 al4 O4 s r x4 r4 e4 i4 => ?_)
    exact ⟨hlt, F4, al4, O4, r, (x2.trans x3).trans x4, r4, e4, i4⟩
  · left
    have hie : i = ds.length := by omega
    subst hie
    exact ⟨w.stop H' (x2.sub.trans r2.sub), k.nx F' H' al' O' σ' ρ' (x1.trans x2) r2 e2 (fin ρ' O' inv)⟩
end
end DL
/-! DL, part d: promises; operations by values; walks. -/
namespace DL
open PySem L2 PySem.Spec
set_option autoImplicit false
/-! ### promises -/
abbrev XdR (F _H : Hp) (d : Option Addr) (fs : List (Str × D)) : Prop := XdF F d fs
abbrev XP := Value → List (Str × D) → Ow → Prop
abbrev ASp := List Ce → Ow → RX → XP → Prop
def Kxx (F H : Hp) (al : List Addr) (X : XP) (E : XK) : Prop := ∀ (F' H' : Hp) (al' : List Addr) (O' : Ow) (cls : Value) (d : Option Addr) (fs : List (Str × D)), Ext F H al F' H' al' → Rep F' H' al' O' → XdR F' H' d fs → X cls fs O' → E cls d H'
def spA (n : Nat) (S : ASp) : Sp := fun vs H Q E => vs.length = n ∧ ∃ (F : Hp) (al : List Addr) (O : Ow) (cs : List Ce) (R : RX) (X : XP), Rep F H al O ∧ CeRs F al vs cs ∧ S cs O R X ∧ Kx F H al R Q ∧ Kxx F H al X E
def EX (B : Bs) (X : XP) (E : XK) : Prop := ∀ (F H : Hp) (al : List Addr) (O : Ow) (cls : Value) (d : Option Addr) (fs : List (Str × D)), B.p F H al → Rep F H al O → XdR F H d fs → X cls fs O → E cls d H
abbrev X0 : XP := fun _ _ _ => False
theorem ex0 {B : Bs} {E : XK} : EX B X0 E := fun _ _ _ _ _ _ _ _ _ _ z => z.elim
theorem CeRs.length {F : Hp} {al : List Addr} {vs : List V} {cs : List Ce} (h : CeRs F al vs cs) : vs.length = cs.length := Paired.length h
section
variable {B : Bs} {ρ : En} {O : Ow} {R : RX} {A : AE}
theorem dx_callX {n : Nat} {S : ASp} {X : XP} {E : XK} {t : TA} (hE : EX B X E) (h : DA B t ρ O fun cs O1 => cs.length = n ∧ S cs O1 R X) : DX B (tCall (spA n S) [] E t) ρ O R := fun F H al σ Q b rp e q =>
  h F H al σ _ b rp e fun F1 H1 al1 O1 vs cs x1 r1 c1 ⟨hn, hs⟩ => by
    show spA n S (vs ++ []) H1 Q E
    rw [List.append_nil]
    exact ⟨by rw [c1.length, hn], F1, al1, O1, cs, R, X, r1, c1, hs, q.step x1, fun F' H' al' O' cls d fs x r z w => hE F' H' al' O' cls d fs (B.cl (B.cl b x1) x) r z w⟩
theorem dx_call {n : Nat} {S : ASp} {E : XK} {t : TA} (h : DA B t ρ O fun cs O1 => cs.length = n ∧ S cs O1 R X0) : DX B (tCall (spA n S) [] E t) ρ O R := dx_callX ex0 h
def startE (N : List Str) (cs : List Ce) : En := cs.map some ++ List.replicate (N.length - cs.length) none
theorem enr_start {F : Hp} {al : List Addr} {N : List Str} {vs : List V} {cs : List Ce} (h : CeRs F al vs cs) : EnR F al (L2.start N vs) (startE N cs) := by
  have hl := h.length
  refine ⟨by unfold L2.start startE; simp [hl], fun i c e => ?_⟩
  unfold startE at e
  unfold L2.start
  by_cases hi : i < cs.length
  · rw [List.getElem?_append_left (by simpa using hi), List.getElem?_map] at e
    rw [List.getElem?_append_left (by rw [List.length_map, hl]; exact hi), List.getElem?_map]
    cases q : cs[i]? with
    | none => rw [q] at e; cases e
    | some c' =>
      rw [q] at e
      cases e
      clear hl hi
      induction h generalizing i with
      | nil => simp at q
      | @cons a b as bs r t ih =>
        cases i with
        | zero =>
          simp at q
          subst q
          exact ⟨a, rfl, r⟩
        | succ i =>
          obtain ⟨v, h1, h2⟩ := ih i (by simpa using q)
          exact ⟨v, by simpa using h1, h2⟩
  · rw [List.getElem?_append_right (by simpa using hi), List.getElem?_replicate] at e
    split at e <;> cases e
/-- a def's body -/
theorem body_of {n : Nat} {N : List Str} {S : ASp} {t : XK → TS} (h : ∀ (B : Bs) (cs : List Ce) (O : Ow) (R : RX) (X : XP) (E : XK), EX B X E → cs.length = n → S cs O R X → DS B (t E) (startE N cs) O { nx := fun _ O' => R (.d .none) O', rt := R })
    (vs : List V) (H : Hp) (Q : VK) (E : XK) (hs : spA n S vs H Q E) : t E { nx := fun _ H' => Q .non H', rt := Q } (L2.start N vs) H := by
  obtain ⟨hn, F, al, O, cs, R, X, rp, cr, s, kq, kx⟩ := hs
  refine h (Bs.from F H al) cs O R X E (fun F' H' al' O' cls d fs x r z w => kx F' H' al' O' cls d fs x r z w) (by rw [← cr.length, hn]) s F H al _ _ (Ext.refl _ _ _) rp (enr_start cr) ⟨fun F' H' al' O' σ' ρ' x r e w => kq F' H' al' O' .non (.d .none) x r DV.non w, kq, fun F' H' al' O' σ' ρ' x r e w => w.elim, fun F' H' al' O' σ' ρ' x r e w => w.elim⟩
theorem spA_len {n : Nat} {S : ASp} {ps : List Str} (hp : ps.length = n) (vs : List V) (H : Hp) (Q : VK) (E : XK) (h : spA n S vs H Q E) : vs.length = ps.length := by rw [h.1, hp]
/-! ### views -/
def Vw (O : Ow) (c : Ce) (x : D) : Prop := c = .d x ∨ ∃ (k : Nat) (ds : List D), c = .o k ∧ O[k]? = some (some (.lst ds)) ∧ ds.length ≤ sizeLine ∧ x = .list ds
theorem Vw.d {x : D} : Vw O (.d x) x := .inl rfl
theorem Vw.o {k : Nat} {ds : List D} (h : O[k]? = some (some (.lst ds))) (hl : ds.length ≤ sizeLine) : Vw O (.o k) (.list ds) := .inr ⟨k, ds, rfl, h, hl, rfl⟩
theorem Vw.dv {F H : Hp} {al : List Addr} {v : V} {c : Ce} {x : D} (rp : Rep F H al O) (cr : CeR F al v c) (w : Vw O c x) : DV H v x := by
  rcases w with rfl | ⟨k, ds, rfl, h, hl, rfl⟩
  · exact DV.mono rp.sub cr
  · obtain ⟨a, h1, h2⟩ := cr
    obtain ⟨a', g1, g2, vs, g3, g4⟩ := rp.own k _ h
    rw [h1] at g1
    cases g1
    subst h2
    exact .lst g3 hl (g4.mono rp.sub)
theorem Vw.list {F H : Hp} {al : List Addr} {v : V} {c : Ce} {ds : List D} (rp : Rep F H al O) (cr : CeR F al v c) (w : Vw O c (.list ds)) : ∃ (a : Addr) (vs : List V), v = .ref a ∧ H a = some (.lst vs) ∧ DVs F vs ds ∧ ds.length ≤ sizeLine := by
  rcases w with rfl | ⟨k, ds', rfl, h, hl, e⟩
  · cases cr with
    | lst q l r => exact ⟨_, _, rfl, rp.sub _ _ q, r, l⟩
  · cases e
    obtain ⟨a, h1, h2⟩ := cr
    obtain ⟨a', g1, g2, vs, g3, g4⟩ := rp.own k _ h
    rw [h1] at g1
    cases g1
    exact ⟨a, vs, h2, g3, g4, hl⟩
theorem dv_tup {F H : Hp} {v : V} {ds : List D} (s : Same F H) (cr : DV F v (.tuple ds)) : ∃ (a : Addr) (vs : List V), v = .ref a ∧ H a = some (.tup vs) ∧ DVs F vs ds ∧ ds.length ≤ sizeLine := by
  cases cr with
  | tup q l r => exact ⟨_, _, rfl, s _ _ q, r, l⟩
theorem kx_here {F H : Hp} {al : List Addr} {Q : VK} {v : V} {c : Ce} (rp : Rep F H al O) (q : Kx F H al R Q) (cr : CeR F al v c) (h : R c O) : Q v H := q F H al O v c (.refl _ _ _) rp cr h
/-! ### operators -/
theorem d2_or {r r' : R2} {x y : Ce} (h : D2 B r x y O R) : D2 B (fun x y H Q => r x y H Q ∨ r' x y H Q) x y O R := fun F H al v u Q b rp cx cy q => .inl (h F H al v u Q b rp cx cy q)
theorem d2_or' {r r' : R2} {x y : Ce} (h : D2 B r' x y O R) : D2 B (fun x y H Q => r x y H Q ∨ r' x y H Q) x y O R := fun F H al v u Q b rp cx cy q => .inr (h F H al v u Q b rp cx cy q)
theorem d2_I0 {g : Int → Int → V} {x y : Ce} {i j : Int} {d : D} (hx : x = .d (.int i)) (hy : y = .d (.int j)) (hd : ∀ F, DV F (g i j) d) (k : R (.d d) O) : D2 B (rI0 g) x y O R := fun F H al v u Q b rp cx cy q => by
  subst hx hy
  cases cx
  cases cy
  exact ⟨i, j, rfl, rfl, kx_here rp q (c := .d d) (hd F) k⟩
theorem d2_I {C : Int → Int → Prop} {g : Int → Int → V} {x y : Ce} {i j : Int} {d : D} (hx : x = .d (.int i)) (hy : y = .d (.int j)) (hc : C i j) (hd : ∀ F, DV F (g i j) d) (k : R (.d d) O) : D2 B (rI C g) x y O R := fun F H al v u Q b rp cx cy q => by
  subst hx hy
  cases cx
  cases cy
  exact ⟨i, j, rfl, rfl, hc, kx_here rp q (c := .d d) (hd F) k⟩
/-- + -/
def rAddA (K : PySem.W.Frag) : R2 := fun x y H Q => rI0 (fun i j => .int (i + j)) x y H Q ∨ (fun x y H Q => (fun x y H Q => ∃ i j, x = .str i ∧ y = .str j ∧ i.length + j.length ≤ sizeLine ∧ Q (.str (i ++ j)) H) x y H Q ∨ (fun x y H Q => rCat x y H Q ∨ rCatA K x y H Q) x y H Q) x y H Q
theorem op_addA {X : Cx} : OpR X (binaryOp .Add) (rAddA X.K) := op_add.or (op_add_str.or (op_cat.or op_catA))
theorem d2_add {K : PySem.W.Frag} {x y : Ce} {i j : Int} (hx : x = .d (.int i)) (hy : y = .d (.int j)) (k : R (.d (.int (i + j))) O) : D2 B (rAddA K) x y O R := d2_or (d2_I0 hx hy (fun _ => .int _) k)
theorem d2_addS {K : PySem.W.Frag} {x y : Ce} {i j : Str} (hx : x = .d (.str i)) (hy : y = .d (.str j)) (hl : i.length + j.length ≤ sizeLine) (k : R (.d (.str (i ++ j))) O) : D2 B (rAddA K) x y O R := d2_or' (d2_or fun F H al v u Q b rp cx cy q => by
  subst hx hy
  cases cx
  cases cy
  exact ⟨i, j, rfl, rfl, hl, kx_here rp q (c := .d (.str (i ++ j))) (DV.str _ (by rw [Str.length_append]; exact hl)) k⟩)
theorem d2_addL {K : PySem.W.Frag} {x y : Ce} {as bs : List D} (hx : Vw O x (.list as)) (hy : Vw O y (.list bs)) (hl : as.length + bs.length ≤ sizeLine) (k : R (.d (.list (as ++ bs))) O) : D2 B (rAddA K) x y O R := d2_or' (d2_or' (d2_or fun F H al v u Q b rp cx cy q => by
  obtain ⟨a, vs, rfl, h1, r1, l1⟩ := Vw.list rp cx hx
  obtain ⟨b', ws, rfl, h2, r2, l2⟩ := Vw.list rp cy hy
  refine ⟨a, b', vs, ws, rfl, rfl, h1, h2, by rw [r1.length, r2.length]; exact hl, kx_lst rp q (r1.append r2) (by rw [List.length_append]; exact hl) k⟩))
theorem d2_addT {K : PySem.W.Frag} {x y : Ce} {as bs : List D} (hx : x = .d (.tuple as)) (hy : y = .d (.tuple bs)) (hl : as.length + bs.length ≤ sizeLine) (k : R (.d (.tuple (as ++ bs))) O) : D2 B (rAddA K) x y O R := d2_or' (d2_or' (d2_or' fun F H al v u Q b rp cx cy q => by
  subst hx hy
  obtain ⟨a, vs, rfl, h1, r1, l1⟩ := dv_tup rp.sub cx
  obtain ⟨b', ws, rfl, h2, r2, l2⟩ := dv_tup rp.sub cy
  refine ⟨a, b', vs, ws, rfl, rfl, SqT.of h1, SqT.of h2, by rw [r1.length, r2.length]; exact hl, fun e => ?_, fun e e2 => ?_, fun e e2 => kx_tup rp q (r1.append r2) (by rw [List.length_append]; exact hl) k⟩
  · subst e
    cases r1
    exact kx_here rp q (c := .d (.tuple bs)) cy k
  · subst e2
    cases r2
    exact kx_here rp q (c := .d (.tuple as)) cx (by rw [List.append_nil] at k; exact k)))
/-- - -/
theorem d2_sub {x y : Ce} {i j : Int} (hx : x = .d (.int i)) (hy : y = .d (.int j)) (k : R (.d (.int (i - j))) O) : D2 B (rI0 fun i j => .int (i - j)) x y O R := d2_I0 hx hy (fun _ => .int _) k
/-- * -/
def rMulA : R2 := fun x y H Q => rI CMul (fun i j => .int (i * j)) x y H Q ∨ (fun x y H Q => rI CMulW (fun i j => .int (i * j)) x y H Q ∨ rRep x y H Q) x y H Q
theorem op_mulA {X : Cx} : OpR X (binaryOp .Mult) rMulA := op_mul.or (op_mulW.or op_rep)
theorem d2_mul {x y : Ce} {i j : Int} (hx : x = .d (.int i)) (hy : y = .d (.int j)) (hc : CMul i j) (k : R (.d (.int (i * j))) O) : D2 B rMulA x y O R := d2_or (d2_I hx hy hc (fun _ => .int _) k)
theorem d2_mulW {x y : Ce} {i j : Int} (hx : x = .d (.int i)) (hy : y = .d (.int j)) (hc : CMulW i j) (k : R (.d (.int (i * j))) O) : D2 B rMulA x y O R := d2_or' (d2_or (d2_I hx hy hc (fun _ => .int _) k))
theorem dvs_rep {F : Hp} {vs : List V} {ds : List D} (r : DVs F vs ds) : ∀ n, DVs F (List.replicate n vs).flatten (List.replicate n ds).flatten
  | 0 => .nil
  | n + 1 => by
    rw [List.replicate_succ, List.replicate_succ, List.flatten_cons, List.flatten_cons]
    exact r.append (dvs_rep r n)
theorem d2_rep {x y : Ce} {ds : List D} {n : Int} (hx : Vw O x (.list ds)) (hy : y = .d (.int n)) (h1 : -(2 ^ 63) ≤ n) (h2 : n < 2 ^ 63) (hl : ds.length * n.toNat ≤ sizeLine) (k : R (.d (.list (List.replicate n.toNat ds).flatten)) O) : D2 B rMulA x y O R := d2_or' (d2_or' fun F H al v u Q b rp cx cy q => by
  subst hy
  obtain ⟨a, vs, rfl, g1, r1, l1⟩ := Vw.list rp cx hx
  cases cy
  refine ⟨a, n, vs, rfl, rfl, g1, h1, h2, by rw [r1.length]; exact hl, kx_lst rp q (dvs_rep r1 _) ?_ k⟩
  rw [List.length_flatten, List.map_replicate, List.sum_replicate_nat, Nat.mul_comm]
  exact hl)
/-- // and % -/
def rFdA : R2 := fun x y H Q => rI CDiv (fun i j => .int (i / j)) x y H Q ∨ rI CDivW (fun i j => .int (i / j)) x y H Q
theorem op_fdA {X : Cx} : OpR X (binaryOp .FloorDiv) rFdA := op_fdiv.or op_fdivW
theorem d2_fd {x y : Ce} {i j : Int} (hx : x = .d (.int i)) (hy : y = .d (.int j)) (hc : CDiv i j) (k : R (.d (.int (i / j))) O) : D2 B rFdA x y O R := d2_or (d2_I hx hy hc (fun _ => .int _) k)
theorem d2_fdW {x y : Ce} {i j : Int} (hx : x = .d (.int i)) (hy : y = .d (.int j)) (hc : CDivW i j) (k : R (.d (.int (i / j))) O) : D2 B rFdA x y O R := d2_or' (d2_I hx hy hc (fun _ => .int _) k)
theorem d2_mod {x y : Ce} {i j : Int} (hx : x = .d (.int i)) (hy : y = .d (.int j)) (hc : 0 < j) (k : R (.d (.int (i % j))) O) : D2 B (rI (fun _ j => 0 < j) fun i j => .int (i % j)) x y O R := d2_I hx hy hc (fun _ => .int _) k
theorem d2_pow {x y : Ce} {i j : Int} (hx : x = .d (.int i)) (hy : y = .d (.int j)) (hc : CPow i j) (k : R (.d (.int (i ^ j.toNat))) O) : D2 B (rI CPow fun i j => .int (i ^ j.toNat)) x y O R := d2_I hx hy hc (fun _ => .int _) k
theorem d2_shl {x y : Ce} {i j : Int} (hx : x = .d (.int i)) (hy : y = .d (.int j)) (hc : CPow i j) (k : R (.d (.int (i * 2 ^ j.toNat))) O) : D2 B (rI CPow fun i j => .int (i * 2 ^ j.toNat)) x y O R := d2_I hx hy hc (fun _ => .int _) k
theorem d2_shr {x y : Ce} {i j : Int} (hx : x = .d (.int i)) (hy : y = .d (.int j)) (hc : 0 ≤ j) (k : R (.d (.int (i / 2 ^ j.toNat))) O) : D2 B (rI (fun _ j => 0 ≤ j) fun i j => .int (i / 2 ^ j.toNat)) x y O R := d2_I hx hy hc (fun _ => .int _) k
theorem d2_band {x y : Ce} {i j : Int} (hx : x = .d (.int i)) (hy : y = .d (.int j)) (k : R (.d (.int (Builtin.bitAnd i j))) O) : D2 B (rI0 fun i j => .int (Builtin.bitAnd i j)) x y O R := d2_I0 hx hy (fun _ => .int _) k
theorem d2_lt {x y : Ce} {i j : Int} (hx : x = .d (.int i)) (hy : y = .d (.int j)) (k : R (.d (.bool (decide (i < j)))) O) : D2 B (rI0 fun i j => .bl (decide (i < j))) x y O R := d2_I0 hx hy (fun _ => .bl _) k
theorem d2_le {x y : Ce} {i j : Int} (hx : x = .d (.int i)) (hy : y = .d (.int j)) (k : R (.d (.bool (decide (i ≤ j)))) O) : D2 B (rI0 fun i j => .bl (decide (i ≤ j))) x y O R := d2_I0 hx hy (fun _ => .bl _) k
theorem d2_gt {x y : Ce} {i j : Int} (hx : x = .d (.int i)) (hy : y = .d (.int j)) (k : R (.d (.bool (decide (j < i)))) O) : D2 B (rI0 fun i j => .bl (decide (j < i))) x y O R := d2_I0 hx hy (fun _ => .bl _) k
theorem d2_ge {x y : Ce} {i j : Int} (hx : x = .d (.int i)) (hy : y = .d (.int j)) (k : R (.d (.bool (decide (j ≤ i)))) O) : D2 B (rI0 fun i j => .bl (decide (j ≤ i))) x y O R := d2_I0 hx hy (fun _ => .bl _) k
/-- == of data -/
theorem d2_eq {K : PySem.W.Frag} {x y : Ce} {d e : D} (hx : Vw O x d) (hy : Vw O y e) (sd : SeqAt.shaped d = true) (se : SeqAt.shaped e = true) (k : R (.d (.bool (PyData.eqv d e))) O) : D2 B (rEqD K) x y O R := fun F H al v u Q b rp cx cy q =>
  ⟨d, e, (hx.dv rp cx).dp, (hy.dv rp cy).dp, sd, se, kx_here rp q (c := .d (.bool (PyData.eqv d e))) (DV.bl _) k⟩
theorem d2_ne {K : PySem.W.Frag} {x y : Ce} {d e : D} (hx : Vw O x d) (hy : Vw O y e) (sd : SeqAt.shaped d = true) (se : SeqAt.shaped e = true) (k : R (.d (.bool (!PyData.eqv d e))) O) : D2 B (rNeD K) x y O R := fun F H al v u Q b rp cx cy q =>
  ⟨d, e, (hx.dv rp cx).dp, (hy.dv rp cy).dp, sd, se, kx_here rp q (c := .d (.bool (!PyData.eqv d e))) (DV.bl _) k⟩
/-- == of scalars, of data -/
def rEqA (K : PySem.W.Frag) : R2 := fun x y H Q => rEq x y H Q ∨ rEqD K x y H Q
theorem op_eqA {X : Cx} (hu : X.A.units + 64 < cLine) : OpR X (compareOp .Eq) (rEqA X.K) := op_eq.or (op_eqD hu)
def rNeA (K : PySem.W.Frag) : R2 := fun x y H Q => rNe x y H Q ∨ rNeD K x y H Q
theorem op_neA {X : Cx} (hu : X.A.units + 64 < cLine) : OpR X (compareOp .NotEq) (rNeA X.K) := op_ne.or (op_neD hu)
theorem d2_eqI {K : PySem.W.Frag} {x y : Ce} {i j : Int} (hx : x = .d (.int i)) (hy : y = .d (.int j)) (k : R (.d (.bool (decide (i = j)))) O) : D2 B (rEqA K) x y O R := d2_or fun F H al v u Q b rp cx cy q => by
  subst hx hy
  cases cx
  cases cy
  have e : decide (V.int i = V.int j) = decide (i = j) := by by_cases h : i = j <;> simp [h]
  refine ⟨rfl, ?_⟩
  rw [e]
  exact kx_here rp q (c := .d (.bool (decide (i = j)))) (DV.bl _) k
theorem d2_eqS {K : PySem.W.Frag} {x y : Ce} {i j : Str} (hx : x = .d (.str i)) (hy : y = .d (.str j)) (k : R (.d (.bool (decide (i = j)))) O) : D2 B (rEqA K) x y O R := d2_or fun F H al v u Q b rp cx cy q => by
  subst hx hy
  cases cx
  cases cy
  have e : decide (V.str i = V.str j) = decide (i = j) := by by_cases h : i = j <;> simp [h]
  refine ⟨rfl, ?_⟩
  rw [e]
  exact kx_here rp q (c := .d (.bool (decide (i = j)))) (DV.bl _) k
theorem d2_eqB {K : PySem.W.Frag} {x y : Ce} {i j : Bool} (hx : x = .d (.bool i)) (hy : y = .d (.bool j)) (k : R (.d (.bool (decide (i = j)))) O) : D2 B (rEqA K) x y O R := d2_or fun F H al v u Q b rp cx cy q => by
  subst hx hy
  cases cx
  cases cy
  have e : decide (V.bl i = V.bl j) = decide (i = j) := by by_cases h : i = j <;> simp [h]
  refine ⟨rfl, ?_⟩
  rw [e]
  exact kx_here rp q (c := .d (.bool (decide (i = j)))) (DV.bl _) k
theorem d2_neI {K : PySem.W.Frag} {x y : Ce} {i j : Int} (hx : x = .d (.int i)) (hy : y = .d (.int j)) (k : R (.d (.bool (!decide (i = j)))) O) : D2 B (rNeA K) x y O R := d2_or fun F H al v u Q b rp cx cy q => by
  subst hx hy
  cases cx
  cases cy
  have e : decide (V.int i = V.int j) = decide (i = j) := by by_cases h : i = j <;> simp [h]
  refine ⟨rfl, ?_⟩
  rw [e]
  exact kx_here rp q (c := .d (.bool (!decide (i = j)))) (DV.bl _) k
theorem d2_neS {K : PySem.W.Frag} {x y : Ce} {i j : Str} (hx : x = .d (.str i)) (hy : y = .d (.str j)) (k : R (.d (.bool (!decide (i = j)))) O) : D2 B (rNeA K) x y O R := d2_or fun F H al v u Q b rp cx cy q => by
  subst hx hy
  cases cx
  cases cy
  have e : decide (V.str i = V.str j) = decide (i = j) := by by_cases h : i = j <;> simp [h]
  refine ⟨rfl, ?_⟩
  rw [e]
  exact kx_here rp q (c := .d (.bool (!decide (i = j)))) (DV.bl _) k
theorem d2_eqD {K : PySem.W.Frag} {x y : Ce} {d e : D} (hx : Vw O x d) (hy : Vw O y e) (sd : SeqAt.shaped d = true) (se : SeqAt.shaped e = true) (k : R (.d (.bool (PyData.eqv d e))) O) : D2 B (rEqA K) x y O R := d2_or' (d2_eq hx hy sd se k)
theorem d2_neD {K : PySem.W.Frag} {x y : Ce} {d e : D} (hx : Vw O x d) (hy : Vw O y e) (sd : SeqAt.shaped d = true) (se : SeqAt.shaped e = true) (k : R (.d (.bool (!PyData.eqv d e))) O) : D2 B (rNeA K) x y O R := d2_or' (d2_ne hx hy sd se k)
/-- is None -/
def isNone : D → Bool
  | .none => true
  | _ => false
theorem DV.isN {F : Hp} {v : V} {d : D} (h : DV F v d) : decide (v = .non) = isNone d := by
  cases h <;> first | rfl | exact decide_eq_false (fun z => nomatch z)
theorem d2_isN {x y : Ce} {d : D} (hx : x = .d d) (hy : y = .d .none) (k : R (.d (.bool (isNone d))) O) : D2 B (fun x y H Q => y = .non ∧ Q (.bl (decide (x = .non))) H) x y O R := fun F H al v u Q b rp cx cy q => by
  subst hx hy
  cases cy
  refine ⟨rfl, ?_⟩
  rw [DV.isN cx]
  exact kx_here rp q (c := .d (.bool (isNone d))) (DV.bl _) k
theorem d2_notN {x y : Ce} {d : D} (hx : x = .d d) (hy : y = .d .none) (k : R (.d (.bool (!isNone d))) O) : D2 B (fun x y H Q => y = .non ∧ Q (.bl (!decide (x = .non))) H) x y O R := fun F H al v u Q b rp cx cy q => by
  subst hx hy
  cases cy
  refine ⟨rfl, ?_⟩
  rw [DV.isN cx]
  exact kx_here rp q (c := .d (.bool (!isNone d))) (DV.bl _) k
/-- x in l: data of any depth in a list, flat data in a list or tuple -/
theorem d2_inD {K : PySem.W.Frag} {x y : Ce} {d : D} {ds : List D} (hx : Vw O x d) (hy : Vw O y (.list ds)) (sd : SeqAt.shaped d = true) (se : SeqAt.shaped (.list ds) = true) (k : R (.d (.bool (ds.any fun z => PyData.eqv z d))) O) : D2 B (rInD K) x y O R := fun F H al v u Q b rp cx cy q =>
  ⟨d, ds, (hx.dv rp cx).dp, (hy.dv rp cy).dp, sd, se, kx_here rp q (c := .d (.bool (ds.any fun z => PyData.eqv z d))) (DV.bl _) k⟩
theorem d2_notInD {K : PySem.W.Frag} {x y : Ce} {d : D} {ds : List D} (hx : Vw O x d) (hy : Vw O y (.list ds)) (sd : SeqAt.shaped d = true) (se : SeqAt.shaped (.list ds) = true) (k : R (.d (.bool (!ds.any fun z => PyData.eqv z d))) O) : D2 B (rNotInD K) x y O R := fun F H al v u Q b rp cx cy q =>
  ⟨d, ds, (hx.dv rp cx).dp, (hy.dv rp cy).dp, sd, se, kx_here rp q (c := .d (.bool (!ds.any fun z => PyData.eqv z d))) (DV.bl _) k⟩
def flatD : D → Bool
  | .list _ => false
  | .tuple _ => false
  | .dict _ => false
  | _ => true
theorem DV.flat {F : Hp} {v : V} {d : D} (h : DV F v d) (f : flatD d = true) : flatV v = true := by
  cases h <;> first | rfl | cases f
theorem DVs.flat {F : Hp} : ∀ {vs : List V} {ds : List D}, DVs F vs ds → ds.all flatD = true → vs.all flatV = true
  | _, _, .nil, _ => rfl
  | _, _, .cons h r, f => by
    rw [List.all_cons, Bool.and_eq_true] at f ⊢
    exact ⟨h.flat f.1, DVs.flat r f.2⟩
/-- == of flat data -/
def eqF : D → D → Bool := fun a b => match a, b with
  | .none, .none => true
  | .int i, .int j => i == j
  | .bool a, .bool b => a == b
  | .int i, .bool b => i == (if b then 1 else 0)
  | .bool b, .int i => (if b then 1 else 0) == i
  | .str x, .str y => x == y
  | _, _ => false
theorem isB' : True := trivial
end
end DL
/-! DL, part e: places, slices, built-ins, methods, walks, stores. -/
namespace DL
open PySem L2 PySem.Spec
set_option autoImplicit false
section
variable {B : Bs} {ρ : En} {O : Ow} {R : RX} {A : AE} {K : PySem.W.Frag}
/-- another value (a type, a class) -/
theorem dx_raw {v : V} (k : R (.v v) O) : DX B (tC v) ρ O R := fun F H al σ Q b r e q => q F H al O v (.v v) (.refl _ _ _) r rfl k
/-! ### x in y -/
theorem eqv_flat {F : Hp} {v u : V} {d e : D} (h1 : DV F v d) (h2 : DV F u e) (f1 : flatD d = true) (f2 : flatD e = true) : eqV v u = PyData.eqv d e := by
  cases h1 <;> first
    | exact absurd f1 Bool.false_ne_true
    | (cases h2 <;> first
        | exact absurd f2 Bool.false_ne_true
        | simp only [eqV, PyData.eqv]
        | rfl)
theorem inV_flat {F : Hp} {v : V} {d : D} (h1 : DV F v d) (f1 : flatD d = true) : ∀ {vs : List V} {ds : List D}, DVs F vs ds → ds.all flatD = true → inV v vs = ds.any fun z => PyData.eqv z d
  | _, _, .nil, _ => rfl
  | _, _, .cons h r, f => by
    rw [List.all_cons, Bool.and_eq_true] at f
    have ih := inV_flat h1 f1 r f.2
    unfold inV at ih ⊢
    rw [List.any_cons, List.any_cons, ih, eqv_flat h h1 f.1 f1]
/-- x in a list or tuple of flat data; a sign in a text; a text in a text -/
def rInA (K : PySem.W.Frag) : R2 := fun x y H Q => rIn K false x y H Q ∨ (fun x y H Q => (fun x y H Q => ∃ (c : Nat) (z : Str), x = .str ⟨#[c]⟩ ∧ y = .str z ∧ Q (.bl (decide (c ∈ z.cps.toList))) H) x y H Q ∨ (fun x y H Q => rInD K x y H Q ∨ (fun x y H Q => ∃ i j, x = .str i ∧ y = .str j ∧ Q (.bl (!(Builtin.Str.occurrences j i 0 j.length 1).isEmpty)) H) x y H Q) x y H Q) x y H Q
theorem op_inA {X : Cx} (hu : X.A.units + 65 < cLine) : OpR X (compareOp .In) (rInA X.K) := op_in_seq.or (op_in_sign.or ((op_inD hu).or op_in_str))
theorem rinT {H : Hp} {v u : V} {d : D} {ds : List D} (neg : Bool) {Q : VK} (hd : DV H v d) (hu : ∃ (a : Addr) (vs : List V), u = .ref a ∧ (SqL K H a vs ∨ SqT K H a vs) ∧ DVs H vs ds) (f1 : flatD d = true) (f2 : ds.all flatD = true) (k : Q (.bl (if neg then !(ds.any fun z => PyData.eqv z d) else ds.any fun z => PyData.eqv z d)) H) : rIn K neg v u H Q := by
  obtain ⟨a, vs, rfl, hs, r⟩ := hu
  exact ⟨a, vs, rfl, hs, hd.flat f1, r.flat f2, by rw [inV_flat hd f1 r f2]; exact k⟩
theorem d2_inL {x y : Ce} {d : D} {ds : List D} (hx : Vw O x d) (hy : Vw O y (.list ds)) (f1 : flatD d = true) (f2 : ds.all flatD = true) (k : R (.d (.bool (ds.any fun z => PyData.eqv z d))) O) : D2 B (rInA K) x y O R := d2_or fun F H al v u Q b rp cx cy q => by
  obtain ⟨a, vs, e, h1, r1, l1⟩ := Vw.list rp cy hy
  exact rinT false (hx.dv rp cx) ⟨a, vs, e, .inl (SqL.of h1), r1.mono rp.sub⟩ f1 f2 (kx_here rp q (c := .d (.bool (ds.any fun z => PyData.eqv z d))) (DV.bl _) k)
theorem d2_inT {x y : Ce} {d : D} {ds : List D} (hx : Vw O x d) (hy : y = .d (.tuple ds)) (f1 : flatD d = true) (f2 : ds.all flatD = true) (k : R (.d (.bool (ds.any fun z => PyData.eqv z d))) O) : D2 B (rInA K) x y O R := d2_or fun F H al v u Q b rp cx cy q => by
  subst hy
  obtain ⟨a, vs, e, h1, r1, l1⟩ := dv_tup rp.sub cy
  exact rinT false (hx.dv rp cx) ⟨a, vs, e, .inr (SqT.of h1), r1.mono rp.sub⟩ f1 f2 (kx_here rp q (c := .d (.bool (ds.any fun z => PyData.eqv z d))) (DV.bl _) k)
theorem d2_inSign {x y : Ce} {c : Nat} {z : Str} (hx : x = .d (.str ⟨#[c]⟩)) (hy : y = .d (.str z)) (k : R (.d (.bool (decide (c ∈ z.cps.toList)))) O) : D2 B (rInA K) x y O R := d2_or' (d2_or fun F H al v u Q b rp cx cy q => by
  subst hx hy
  cases cx
  cases cy
  exact ⟨c, z, rfl, rfl, kx_here rp q (c := .d (.bool (decide (c ∈ z.cps.toList)))) (DV.bl _) k⟩)
theorem d2_inDeep {x y : Ce} {d : D} {ds : List D} (hx : Vw O x d) (hy : Vw O y (.list ds)) (sd : SeqAt.shaped d = true) (se : SeqAt.shaped (.list ds) = true) (k : R (.d (.bool (ds.any fun z => PyData.eqv z d))) O) : D2 B (rInA K) x y O R := d2_or' (d2_or' (d2_or (d2_inD hx hy sd se k)))
theorem d2_inStr {x y : Ce} {i j : Str} (hx : x = .d (.str i)) (hy : y = .d (.str j)) (k : R (.d (.bool (!(Builtin.Str.occurrences j i 0 j.length 1).isEmpty))) O) : D2 B (rInA K) x y O R := d2_or' (d2_or' (d2_or' fun F H al v u Q b rp cx cy q => by
  subst hx hy
  cases cx
  cases cy
  exact ⟨i, j, rfl, rfl, kx_here rp q (c := .d (.bool (!(Builtin.Str.occurrences j i 0 j.length 1).isEmpty))) (DV.bl _) k⟩))
def rNotInA (K : PySem.W.Frag) : R2 := fun x y H Q => rIn K true x y H Q ∨ (fun x y H Q => rNotInD K x y H Q ∨ (fun x y H Q => ∃ (c : Nat) (z : Str), x = .str ⟨#[c]⟩ ∧ y = .str z ∧ Q (.bl (!decide (c ∈ z.cps.toList))) H) x y H Q) x y H Q
theorem op_notInA {X : Cx} (hu : X.A.units + 65 < cLine) : OpR X (compareOp .NotIn) (rNotInA X.K) := op_notIn_seq.or ((op_notInD hu).or op_notIn_sign)
theorem d2_notInL {x y : Ce} {d : D} {ds : List D} (hx : Vw O x d) (hy : Vw O y (.list ds)) (f1 : flatD d = true) (f2 : ds.all flatD = true) (k : R (.d (.bool (!ds.any fun z => PyData.eqv z d))) O) : D2 B (rNotInA K) x y O R := d2_or fun F H al v u Q b rp cx cy q => by
  obtain ⟨a, vs, e, h1, r1, l1⟩ := Vw.list rp cy hy
  exact rinT true (hx.dv rp cx) ⟨a, vs, e, .inl (SqL.of h1), r1.mono rp.sub⟩ f1 f2 (kx_here rp q (c := .d (.bool (!ds.any fun z => PyData.eqv z d))) (DV.bl _) k)
theorem d2_notInT {x y : Ce} {d : D} {ds : List D} (hx : Vw O x d) (hy : y = .d (.tuple ds)) (f1 : flatD d = true) (f2 : ds.all flatD = true) (k : R (.d (.bool (!ds.any fun z => PyData.eqv z d))) O) : D2 B (rNotInA K) x y O R := d2_or fun F H al v u Q b rp cx cy q => by
  subst hy
  obtain ⟨a, vs, e, h1, r1, l1⟩ := dv_tup rp.sub cy
  exact rinT true (hx.dv rp cx) ⟨a, vs, e, .inr (SqT.of h1), r1.mono rp.sub⟩ f1 f2 (kx_here rp q (c := .d (.bool (!ds.any fun z => PyData.eqv z d))) (DV.bl _) k)
theorem d2_notInDeep {x y : Ce} {d : D} {ds : List D} (hx : Vw O x d) (hy : Vw O y (.list ds)) (sd : SeqAt.shaped d = true) (se : SeqAt.shaped (.list ds) = true) (k : R (.d (.bool (!ds.any fun z => PyData.eqv z d))) O) : D2 B (rNotInA K) x y O R := d2_or' (d2_or (d2_notInD hx hy sd se k))
/-! ### places -/
theorem atI_dv {F : Hp} {vs : List V} {ds : List D} {i : Int} {d : D} (r : DVs F vs ds) (h : atI ds i = some d) : ∃ v, atI vs i = some v ∧ DV F v d := by
  unfold atI at h ⊢
  rw [r.length]
  cases e : ixN ds.length i with
  | none => rw [e] at h; cases h
  | some j =>
    rw [e] at h
    exact r.get h
theorem d2_ixL {x y : Ce} {ds : List D} {i : Int} {d : D} (hx : Vw O x (.list ds)) (hy : y = .d (.int i)) (hi : atI ds i = some d) (k : R (.d d) O) : D2 B (rIx K) x y O R := fun F H al v u Q b rp cx cy q => by
  subst hy
  obtain ⟨a, vs, rfl, h1, r1, l1⟩ := Vw.list rp cx hx
  obtain ⟨w, h2, h3⟩ := atI_dv r1 hi
  cases cy
  exact .inl ⟨a, vs, i, w, rfl, rfl, SqL.of h1, h2, kx_here rp q (c := .d d) h3 k⟩
theorem d2_ixT {x y : Ce} {ds : List D} {i : Int} {d : D} (hx : x = .d (.tuple ds)) (hy : y = .d (.int i)) (hi : atI ds i = some d) (k : R (.d d) O) : D2 B (rIx K) x y O R := fun F H al v u Q b rp cx cy q => by
  subst hx hy
  obtain ⟨a, vs, rfl, h1, r1, l1⟩ := dv_tup rp.sub cx
  obtain ⟨w, h2, h3⟩ := atI_dv r1 hi
  cases cy
  exact .inr (.inl ⟨a, vs, i, w, rfl, rfl, SqT.of h1, h2, kx_here rp q (c := .d d) h3 k⟩)
theorem d2_ixS {x y : Ce} {z : Str} {i : Int} {c : Nat} (hx : x = .d (.str z)) (hy : y = .d (.int i)) (hi : atI z.cps.toList i = some c) (k : R (.d (.str ⟨#[c]⟩)) O) : D2 B (rIx K) x y O R := fun F H al v u Q b rp cx cy q => by
  subst hx hy
  cases cx with
  | str _ hl =>
    cases cy
    exact .inr (.inr ⟨z, i, c, rfl, rfl, hl, hi, kx_here rp q (c := .d (.str ⟨#[c]⟩)) (DV.str _ (by show 1 ≤ sizeLine; rw [sizeLine_eq]; decide)) k⟩)
/-! ### slices -/
def DO (B : Bs) (to : TO) (ρ : En) (O : Ow) (R : Option Int → Ow → Prop) : Prop := ∀ (F H : Hp) (al : List Addr) (σ : L2.St) (Q : Option Int → Hp → Prop), B.p F H al → Rep F H al O → EnR F al σ ρ → (∀ (F' H' : Hp) (al' : List Addr) (O' : Ow) (o : Option Int), Ext F H al F' H' al' → Rep F' H' al' O' → R o O' → Q o H') → to σ H Q
theorem do_none {R : Option Int → Ow → Prop} (h : R none O) : DO B tNoPart ρ O R := fun F H al σ Q b rp e q => q F H al O none (.refl _ _ _) rp h
theorem do_some {te : TE} {R : Option Int → Ow → Prop} (h : DX B te ρ O fun c O1 => ∃ i, c = .d (.int i) ∧ R (some i) O1) : DO B (tPart te) ρ O R := fun F H al σ Q b rp e q =>
  h F H al σ _ b rp e fun F1 H1 al1 O1 v c x1 r1 c1 ⟨i, ec, hk⟩ => by
    subst ec
    cases c1
    exact ⟨i, rfl, q _ _ _ _ _ x1 r1 hk⟩
def D3 (B : Bs) (r : V → Option Int → Option Int → Hp → VK → Prop) (x : Ce) (lo hi : Option Int) (O : Ow) (R : RX) : Prop := ∀ (F H : Hp) (al : List Addr) (v : V) (Q : VK), B.p F H al → Rep F H al O → CeR F al v x → Kx F H al R Q → r v lo hi H Q
theorem dx_sl {r : V → Option Int → Option Int → Hp → VK → Prop} {te : TE} {tl th : TO} (h : DX B te ρ O fun x O1 => DO B tl ρ O1 fun lo O2 => DO B th ρ O2 fun hi O3 => D3 B r x lo hi O3 R) : DX B (tSl r te tl th) ρ O R := fun F H al σ Q b rp e q =>
  h F H al σ _ b rp e fun F1 H1 al1 O1 v x x1 r1 c1 h1 => h1 F1 H1 al1 σ _ (B.cl b x1) r1 (e.ext x1) fun F2 H2 al2 O2 lo x2 r2 h2 => h2 F2 H2 al2 σ _ (B.cl (B.cl b x1) x2) r2 ((e.ext x1).ext x2) fun F3 H3 al3 O3 hi x3 r3 h3 =>
    h3 F3 H3 al3 v Q (B.cl (B.cl (B.cl b x1) x2) x3) r3 ((c1.ext x2).ext x3) (q.step ((x1.trans x2).trans x3))
def cutD {α : Type} (xs : List α) (lo hi : Option Int) : List α := (xs.drop (HT.sIx xs.length 0 lo)).take (HT.sIx xs.length xs.length hi - HT.sIx xs.length 0 lo)
theorem cutD_length {α : Type} (xs : List α) (lo hi : Option Int) : (cutD xs lo hi).length ≤ xs.length := by
  unfold cutD
  rw [List.length_take, List.length_drop]
  omega
theorem dvs_cut {F : Hp} {vs : List V} {ds : List D} (r : DVs F vs ds) (lo hi : Option Int) : DVs F (cutV vs lo hi) (cutD ds lo hi) := by
  unfold cutV cutD
  rw [r.length]
  exact (r.drop _).take _
def rSlX (K : PySem.W.Frag) : V → Option Int → Option Int → Hp → VK → Prop := fun x lo hi H Q => rSlL K x lo hi H Q ∨ (fun x lo hi H Q => rSlA K x lo hi H Q ∨ rSlS x lo hi H Q) x lo hi H Q
theorem sl_X {X : Cx} : SlR X (DL.rSlX X.K) := sl_list.or (sl_tupA.or sl_str)
theorem d3_list {x : Ce} {ds : List D} {lo hi : Option Int} (hx : Vw O x (.list ds)) (k : R (.d (.list (cutD ds lo hi))) O) : D3 B (DL.rSlX K) x lo hi O R := fun F H al v Q b rp cx q => by
  obtain ⟨a, vs, rfl, h1, r1, l1⟩ := Vw.list rp cx hx
  exact .inl ⟨a, vs, rfl, SqL.of h1, kx_lst rp q (dvs_cut r1 lo hi) (Nat.le_trans (cutD_length _ _ _) l1) k⟩
theorem d3_tup {x : Ce} {ds : List D} {lo hi : Option Int} (hx : x = .d (.tuple ds)) (k : R (.d (.tuple (cutD ds lo hi))) O) : D3 B (DL.rSlX K) x lo hi O R := fun F H al v Q b rp cx q => by
  subst hx
  obtain ⟨a, vs, rfl, h1, r1, l1⟩ := dv_tup rp.sub cx
  refine .inr (.inl ⟨a, vs, rfl, SqT.of h1, fun hw => ?_, fun _ => kx_tup rp q (dvs_cut r1 lo hi) (Nat.le_trans (cutD_length _ _ _) l1) k⟩)
  have e : cutD ds lo hi = ds := by
    unfold cutD
    rw [r1.length] at hw
    rw [hw.1, hw.2]
    simp
  rw [e] at k
  exact kx_here rp q (c := .d (.tuple ds)) cx k
theorem d3_str {x : Ce} {z : Str} {lo hi : Option Int} (hx : x = .d (.str z)) (k : R (.d (.str (cutS z lo hi))) O) : D3 B (DL.rSlX K) x lo hi O R := fun F H al v Q b rp cx q => by
  subst hx
  cases cx with
  | str _ hl => exact .inr (.inr ⟨z, rfl, hl, kx_here rp q (c := .d (.str (cutS z lo hi))) (DV.str _ (Nat.le_trans (cutS_length z lo hi) hl)) k⟩)
/-- xs[::-1] -/
theorem dx_revL {te : TE} (h : DX B te ρ O fun x O1 => ∃ ds, Vw O1 x (.list ds) ∧ R (.d (.list ds.reverse)) O1) : DX B (tRevL K te) ρ O R := fun F H al σ Q b rp e q =>
  h F H al σ _ b rp e fun F1 H1 al1 O1 v c x1 r1 c1 ⟨ds, hx, hk⟩ => by
    obtain ⟨a, vs, rfl, h1, rr, l1⟩ := Vw.list r1 c1 hx
    exact ⟨a, vs, rfl, SqL.of h1, kx_lst r1 (q.step x1) rr.reverse (by rw [List.length_reverse]; exact l1) hk⟩
/-! ### built-ins -/
theorem dc_or {r r' : List V → Hp → VK → Prop} {xs : List Ce} (h : DC B r xs O R) : DC B (fun xs H Q => r xs H Q ∨ r' xs H Q) xs O R := fun F H al vs Q b rp c q => .inl (h F H al vs Q b rp c q)
theorem dc_or' {r r' : List V → Hp → VK → Prop} {xs : List Ce} (h : DC B r' xs O R) : DC B (fun xs H Q => r xs H Q ∨ r' xs H Q) xs O R := fun F H al vs Q b rp c q => .inr (h F H al vs Q b rp c q)
theorem cers1 {F : Hp} {al : List Addr} {vs : List V} {c : Ce} (h : CeRs F al vs [c]) : ∃ v, vs = [v] ∧ CeR F al v c := by
  cases h with
  | cons a b => cases b; exact ⟨_, rfl, a⟩
theorem cers2 {F : Hp} {al : List Addr} {vs : List V} {c c' : Ce} (h : CeRs F al vs [c, c']) : ∃ v v', vs = [v, v'] ∧ CeR F al v c ∧ CeR F al v' c' := by
  cases h with
  | cons a b =>
    obtain ⟨v', e, r⟩ := cers1 b
    subst e
    exact ⟨_, _, rfl, a, r⟩
def rLen (K : PySem.W.Frag) : List V → Hp → VK → Prop := fun xs H Q => ∃ x n, xs = [x] ∧ LenV K x H n ∧ Q (.int n) H
theorem call_lenA {X : Cx} : CallR X (.builtin "len") (DL.rLen X.K) := call_len
theorem dc_lenL {x : Ce} {ds : List D} (hx : Vw O x (.list ds)) (k : R (.d (.int ds.length)) O) : DC B (DL.rLen K) [x] O R := fun F H al vs Q b rp c q => by
  obtain ⟨v, rfl, cr⟩ := cers1 c
  obtain ⟨a, ws, rfl, h1, r1, l1⟩ := Vw.list rp cr hx
  refine ⟨_, ws.length, rfl, .inl ⟨ws, SqL.of h1, rfl⟩, ?_⟩
  rw [r1.length]
  exact kx_here rp q (c := .d (.int ds.length)) (DV.int _) k
theorem dc_lenT {x : Ce} {ds : List D} (hx : x = .d (.tuple ds)) (k : R (.d (.int ds.length)) O) : DC B (DL.rLen K) [x] O R := fun F H al vs Q b rp c q => by
  subst hx
  obtain ⟨v, rfl, cr⟩ := cers1 c
  obtain ⟨a, ws, rfl, h1, r1, l1⟩ := dv_tup rp.sub cr
  refine ⟨_, ws.length, rfl, .inr ⟨ws, SqT.of h1, rfl⟩, ?_⟩
  rw [r1.length]
  exact kx_here rp q (c := .d (.int ds.length)) (DV.int _) k
theorem dc_lenS {x : Ce} {z : Str} (hx : x = .d (.str z)) (k : R (.d (.int z.length)) O) : DC B (DL.rLen K) [x] O R := fun F H al vs Q b rp c q => by
  subst hx
  obtain ⟨v, rfl, cr⟩ := cers1 c
  cases cr with
  | str _ hl => exact ⟨_, z.length, rfl, ⟨hl, rfl⟩, kx_here rp q (c := .d (.int z.length)) (DV.int _) k⟩
def rInt : List V → Hp → VK → Prop := fun xs H Q => (fun xs H Q => (∃ i, xs = [.int i] ∧ Q (.int i) H) ∨ ∃ k, xs = [.bl k] ∧ Q (.int (if k then 1 else 0)) H) xs H Q ∨ (fun xs H Q => ∃ a n, xs = [.str a] ∧ PySem.intText? a = some n ∧ a.length ≤ 640 ∧ Q (.int n) H) xs H Q
theorem call_intA {X : Cx} : CallR X (.type "int") rInt := call_int1.or call_int_str
theorem dc_int {x : Ce} {i : Int} (hx : x = .d (.int i)) (k : R (.d (.int i)) O) : DC B rInt [x] O R := fun F H al vs Q b rp c q => by
  subst hx
  obtain ⟨v, rfl, cr⟩ := cers1 c
  cases cr
  exact .inl (.inl ⟨i, rfl, kx_here rp q (c := .d (.int i)) (DV.int _) k⟩)
theorem dc_intB {x : Ce} {i : Bool} (hx : x = .d (.bool i)) (k : R (.d (.int (if i then 1 else 0))) O) : DC B rInt [x] O R := fun F H al vs Q b rp c q => by
  subst hx
  obtain ⟨v, rfl, cr⟩ := cers1 c
  cases cr
  exact .inl (.inr ⟨i, rfl, kx_here rp q (c := .d (.int (if i then 1 else 0))) (DV.int _) k⟩)
theorem dc_intS {x : Ce} {z : Str} {n : Int} (hx : x = .d (.str z)) (hn : PySem.intText? z = some n) (hl : z.length ≤ 640) (k : R (.d (.int n)) O) : DC B rInt [x] O R := fun F H al vs Q b rp c q => by
  subst hx
  obtain ⟨v, rfl, cr⟩ := cers1 c
  cases cr
  exact .inr ⟨z, n, rfl, hn, hl, kx_here rp q (c := .d (.int n)) (DV.int _) k⟩
def rStrI : List V → Hp → VK → Prop := fun xs H Q => ∃ i, xs = [.int i] ∧ i.natAbs.log2 < 1920 ∧ Q (.str (toString i)) H
theorem call_strA {X : Cx} : CallR X (.type "str") rStrI := call_str_int
theorem dc_str {x : Ce} {i : Int} (hx : x = .d (.int i)) (hi : i.natAbs.log2 < 1920) (hl : (PySem.Str.ofString (toString i)).length ≤ sizeLine) (k : R (.d (.str (toString i))) O) : DC B rStrI [x] O R := fun F H al vs Q b rp c q => by
  subst hx
  obtain ⟨v, rfl, cr⟩ := cers1 c
  cases cr
  exact ⟨i, rfl, hi, kx_here rp q (c := .d (.str (toString i))) (DV.str _ hl) k⟩
def rList (K : PySem.W.Frag) : List V → Hp → VK → Prop := fun xs H Q => ∃ p ys, xs = [.ref p] ∧ (SqL K H p ys ∨ SqT K H p ys) ∧ ∀ l, H l = none → Q (.ref l) (upd H l (.lst ys))
theorem call_listA {X : Cx} : CallR X (.type "list") (rList X.K) := call_list_of
theorem dc_listL {x : Ce} {ds : List D} (hx : Vw O x (.list ds)) (k : R (.d (.list ds)) O) : DC B (rList K) [x] O R := fun F H al vs Q b rp c q => by
  obtain ⟨v, rfl, cr⟩ := cers1 c
  obtain ⟨a, ws, rfl, h1, r1, l1⟩ := Vw.list rp cr hx
  exact ⟨a, ws, rfl, .inl (SqL.of h1), kx_lst rp q r1 l1 k⟩
theorem dc_listT {x : Ce} {ds : List D} (hx : x = .d (.tuple ds)) (k : R (.d (.list ds)) O) : DC B (rList K) [x] O R := fun F H al vs Q b rp c q => by
  subst hx
  obtain ⟨v, rfl, cr⟩ := cers1 c
  obtain ⟨a, ws, rfl, h1, r1, l1⟩ := dv_tup rp.sub cr
  exact ⟨a, ws, rfl, .inr (SqT.of h1), kx_lst rp q r1 l1 k⟩
def rTuple (K : PySem.W.Frag) : List V → Hp → VK → Prop := fun xs H Q => ∃ p ys, xs = [.ref p] ∧ ((SqL K H p ys ∧ ∀ l, H l = none → Q (.ref l) (upd H l (.tup ys))) ∨ (SqT K H p ys ∧ Q (.ref p) H))
theorem call_tupleA {X : Cx} : CallR X (.type "tuple") (rTuple X.K) := call_tuple_of
theorem dc_tupleL {x : Ce} {ds : List D} (hx : Vw O x (.list ds)) (k : R (.d (.tuple ds)) O) : DC B (rTuple K) [x] O R := fun F H al vs Q b rp c q => by
  obtain ⟨v, rfl, cr⟩ := cers1 c
  obtain ⟨a, ws, rfl, h1, r1, l1⟩ := Vw.list rp cr hx
  exact ⟨a, ws, rfl, .inl ⟨SqL.of h1, kx_tup rp q r1 l1 k⟩⟩
theorem dc_tupleT {x : Ce} {ds : List D} (hx : x = .d (.tuple ds)) (k : R (.d (.tuple ds)) O) : DC B (rTuple K) [x] O R := fun F H al vs Q b rp c q => by
  subst hx
  obtain ⟨v, rfl, cr⟩ := cers1 c
  obtain ⟨a, ws, rfl, h1, r1, l1⟩ := dv_tup rp.sub cr
  exact ⟨a, ws, rfl, .inr ⟨SqT.of h1, kx_here rp q (c := .d (.tuple ds)) cr k⟩⟩
theorem dc_sum {x : Ce} {is : List Int} (hx : Vw O x (.list (is.map .int))) (k : R (.d (.int is.sum)) O) : DC B (rSum K) [x] O R := fun F H al vs Q b rp c q => by
  obtain ⟨v, rfl, cr⟩ := cers1 c
  obtain ⟨a, ws, rfl, h1, r1, l1⟩ := Vw.list rp cr hx
  have e := DVs.ints r1
  subst e
  exact ⟨a, is, rfl, SqL.of h1, kx_here rp q (c := .d (.int is.sum)) (DV.int _) k⟩
theorem dc_max {x : Ce} {is : List Int} (hx : Vw O x (.list (is.map .int))) (h0 : 0 < is.length) (k : ∀ m, m ∈ is → (∀ y, y ∈ is → y ≤ m) → R (.d (.int m)) O) : DC B (rMax K) [x] O R := fun F H al vs Q b rp c q => by
  obtain ⟨v, rfl, cr⟩ := cers1 c
  obtain ⟨a, ws, rfl, h1, r1, l1⟩ := Vw.list rp cr hx
  have e := DVs.ints r1
  subst e
  exact ⟨a, is, rfl, SqL.of h1, h0, fun m z z' => kx_here rp q (c := .d (.int m)) (DV.int _) (k m z z')⟩
theorem dc_min {x : Ce} {is : List Int} (hx : Vw O x (.list (is.map .int))) (h0 : 0 < is.length) (k : ∀ m, m ∈ is → (∀ y, y ∈ is → m ≤ y) → R (.d (.int m)) O) : DC B (rMin K) [x] O R := fun F H al vs Q b rp c q => by
  obtain ⟨v, rfl, cr⟩ := cers1 c
  obtain ⟨a, ws, rfl, h1, r1, l1⟩ := Vw.list rp cr hx
  have e := DVs.ints r1
  subst e
  exact ⟨a, is, rfl, SqL.of h1, h0, fun m z z' => kx_here rp q (c := .d (.int m)) (DV.int _) (k m z z')⟩
theorem dc_all {x : Ce} {bs : List Bool} (hx : Vw O x (.list (bs.map .bool))) (k : R (.d (.bool (bs.all id))) O) : DC B (rAll K) [x] O R := fun F H al vs Q b rp c q => by
  obtain ⟨v, rfl, cr⟩ := cers1 c
  obtain ⟨a, ws, rfl, h1, r1, l1⟩ := Vw.list rp cr hx
  have e := DVs.bools r1
  subst e
  exact ⟨a, bs, rfl, SqL.of h1, kx_here rp q (c := .d (.bool (bs.all id))) (DV.bl _) k⟩
theorem dc_any {x : Ce} {bs : List Bool} (hx : Vw O x (.list (bs.map .bool))) (k : R (.d (.bool (bs.any id))) O) : DC B (rAny K) [x] O R := fun F H al vs Q b rp c q => by
  obtain ⟨v, rfl, cr⟩ := cers1 c
  obtain ⟨a, ws, rfl, h1, r1, l1⟩ := Vw.list rp cr hx
  have e := DVs.bools r1
  subst e
  exact ⟨a, bs, rfl, SqL.of h1, kx_here rp q (c := .d (.bool (bs.any id))) (DV.bl _) k⟩
def rMin2 : List V → Hp → VK → Prop := fun xs H Q => ∃ i j, xs = [.int i, .int j] ∧ Q (.int (if j < i then j else i)) H
theorem call_min2A {X : Cx} (hc : X.calm = true) : CallR X (.builtin "min") rMin2 := call_min2 hc
def rMax2 : List V → Hp → VK → Prop := fun xs H Q => ∃ i j, xs = [.int i, .int j] ∧ Q (.int (if j > i then j else i)) H
theorem call_max2A {X : Cx} (hc : X.calm = true) : CallR X (.builtin "max") rMax2 := call_max2 hc
theorem dc_min2 {x y : Ce} {i j : Int} (hx : x = .d (.int i)) (hy : y = .d (.int j)) (k : R (.d (.int (if j < i then j else i))) O) : DC B rMin2 [x, y] O R := fun F H al vs Q b rp c q => by
  subst hx hy
  obtain ⟨v, u, rfl, c1, c2⟩ := cers2 c
  cases c1
  cases c2
  exact ⟨i, j, rfl, kx_here rp q (c := .d (.int (if j < i then j else i))) (DV.int _) k⟩
theorem dc_max2 {x y : Ce} {i j : Int} (hx : x = .d (.int i)) (hy : y = .d (.int j)) (k : R (.d (.int (if j > i then j else i))) O) : DC B rMax2 [x, y] O R := fun F H al vs Q b rp c q => by
  subst hx hy
  obtain ⟨v, u, rfl, c1, c2⟩ := cers2 c
  cases c1
  cases c2
  exact ⟨i, j, rfl, kx_here rp q (c := .d (.int (if j > i then j else i))) (DV.int _) k⟩
theorem dc_sorted {x : Ce} {is : List Int} (hx : Vw O x (.list (is.map .int))) (k : ∀ ns : List Int, ns.Perm is → ns.Pairwise (· ≤ ·) → R (.d (.list (ns.map .int))) O) : DC B (rSortedI K) [x] O R := fun F H al vs Q b rp c q => by
  obtain ⟨v, rfl, cr⟩ := cers1 c
  obtain ⟨a, ws, rfl, h1, r1, l1⟩ := Vw.list rp cr hx
  have e := DVs.ints r1
  subst e
  refine ⟨a, is, rfl, SqL.of h1, fun ns p hp hs hn => ?_⟩
  exact kx_lst rp q (DVs.of_ints ns) (by rw [List.length_map, hp.length_eq, ← List.length_map (f := PyData.int)]; exact l1) (k ns hp hs) p hn
/-! ### isinstance -/
def tyD : D → String
  | .none => "NoneType"
  | .bool _ => "bool"
  | .int _ => "int"
  | .str _ => "str"
  | .list _ => "list"
  | .tuple _ => "tuple"
  | .dict _ => "dict"
theorem DV.ty {H : Hp} {v : V} {d : D} (h : DV H v d) : TyX K H v (.type (tyD d)) := by
  cases h with
  | non => exact .base .non
  | bl b => exact .base (.bl b)
  | int i => exact .base (.int i)
  | str x _ => exact .base (.str x)
  | lst e _ _ => exact .base (.lst e)
  | tup e _ _ => exact .base (.tup e)
theorem dc_isi {x : Ce} {d : D} {T : String} {r : Bool} (hx : Vw O x d) (ht : kitB (tyD d) T = some r) (k : R (.d (.bool r)) O) : DC B (rIsi K) [x, .v (.ty T)] O R := fun F H al vs Q b rp c q => by
  obtain ⟨v, u, rfl, c1, c2⟩ := cers2 c
  have e : u = .ty T := c2
  subst e
  exact ⟨v, .ty T, _, _, r, rfl, .ty T, (hx.dv rp c1).ty, kit_ty ht, kx_here rp q (c := .d (.bool r)) (DV.bl _) k⟩
def isInt : D → Bool
  | .int _ => true
  | .bool _ => true
  | _ => false
def isBool : D → Bool
  | .bool _ => true
  | _ => false
def isStr : D → Bool
  | .str _ => true
  | _ => false
def isList : D → Bool
  | .list _ => true
  | _ => false
def isTuple : D → Bool
  | .tuple _ => true
  | _ => false
theorem kit_int (d : D) : kitB (tyD d) "int" = some (isInt d) := by cases d <;> (first | decide +kernel | (simp only [tyD, isInt]; decide +kernel))
theorem kit_bool (d : D) : kitB (tyD d) "bool" = some (isBool d) := by cases d <;> (simp only [tyD, isBool]; decide +kernel)
theorem kit_str (d : D) : kitB (tyD d) "str" = some (isStr d) := by cases d <;> (simp only [tyD, isStr]; decide +kernel)
theorem kit_list (d : D) : kitB (tyD d) "list" = some (isList d) := by cases d <;> (simp only [tyD, isList]; decide +kernel)
theorem kit_tuple (d : D) : kitB (tyD d) "tuple" = some (isTuple d) := by cases d <;> (simp only [tyD, isTuple]; decide +kernel)
/-! ### methods -/
/-- of a text -/
theorem dx_m1 {r : V → List V → Hp → VK → Prop} {to te : TE} (h : DX B to ρ O fun x O1 => (∃ z, x = .d (.str z)) ∧ DX B te ρ O1 fun y O2 => DM B r x [y] O2 R) : DX B (tM1 r to te) ρ O R := fun F H al σ Q b rp e q =>
  h F H al σ _ b rp e fun F1 H1 al1 O1 v c x1 r1 c1 ⟨⟨z, ez⟩, h1⟩ => by
    subst ez
    refine ⟨by cases c1; exact ⟨z, rfl⟩, h1 F1 H1 al1 σ _ (B.cl b x1) r1 (e.ext x1) fun F2 H2 al2 O2 u y x2 r2 c2 h2 => ?_⟩
    exact h2 F2 H2 al2 v [u] Q (B.cl (B.cl b x1) x2) r2 (c1.ext x2) (.cons c2 .nil) (q.step (x1.trans x2))
def rSplit : V → List V → Hp → VK → Prop := fun x xs H Q => ∃ a b, x = .str a ∧ xs = [.str b] ∧ (b.length == 0) = false ∧ a.length + 2 ≤ sizeLine ∧ rNewStrs (Txt.split a b) H Q
theorem mt_splitA {X : Cx} : MtR X "str.split" rSplit := mt_split
theorem dm_split {x y : Ce} {a b : Str} (hx : x = .d (.str a)) (hy : y = .d (.str b)) (hb : (b.length == 0) = false) (ha : a.length + 2 ≤ sizeLine) (hs : ∀ z ∈ Txt.split a b, z.length ≤ sizeLine) (hl : (Txt.split a b).length ≤ sizeLine) (k : R (.d (.list ((Txt.split a b).map .str))) O) : DM B rSplit x [y] O R := fun F H al v vs Q bb rp cx cy q => by
  subst hx hy
  obtain ⟨u, rfl, cu⟩ := cers1 cy
  cases cx
  cases cu
  exact ⟨a, b, rfl, rfl, hb, ha, kx_lst rp q (DVs.of_strs _ hs) (by rw [List.length_map]; exact hl) k⟩
def rJoin (K : PySem.W.Frag) : V → List V → Hp → VK → Prop := fun x xs H Q => ∃ a p, ∃ ys : List Str, x = .str a ∧ xs = [.ref p] ∧ (SqL K H p (ys.map V.str) ∨ SqT K H p (ys.map V.str)) ∧ (ys.map (·.length)).sum + ys.length * a.length ≤ 16777216 ∧ Q (.str (Txt.join a ys)) H
theorem mt_joinA {X : Cx} : MtR X "str.join" (rJoin X.K) := mt_join
theorem dm_join {x y : Ce} {a : Str} {ys : List Str} (hx : x = .d (.str a)) (hy : Vw O y (.list (ys.map .str))) (hl : (ys.map (·.length)).sum + ys.length * a.length ≤ 16777216) (hr : (Txt.join a ys).length ≤ sizeLine) (k : R (.d (.str (Txt.join a ys))) O) : DM B (rJoin K) x [y] O R := fun F H al v vs Q bb rp cx cy q => by
  subst hx
  obtain ⟨u, rfl, cu⟩ := cers1 cy
  cases cx
  obtain ⟨p, ws, rfl, h1, r1, l1⟩ := Vw.list rp cu hy
  have e := DVs.strs r1
  subst e
  exact ⟨a, p, ys, rfl, rfl, .inl (SqL.of h1), hl, kx_here rp q (c := .d (.str (Txt.join a ys))) (DV.str _ hr) k⟩
/-- of a list -/
theorem dx_bmL {r : V → List V → Hp → VK → Prop} {to : TE} {t : TA} (h : DX B to ρ O fun x O1 => (∃ ds, Vw O1 x (.list ds)) ∧ DA B t ρ O1 fun ys O2 => DM B r x ys O2 R) : DX B (tBM K "list" r to t) ρ O R := fun F H al σ Q b rp e q =>
  h F H al σ _ b rp e fun F1 H1 al1 O1 v c x1 r1 c1 ⟨⟨ds, hv⟩, h1⟩ => by
    obtain ⟨a, vs, ev, g1, rr, l1⟩ := Vw.list r1 c1 hv
    subst ev
    refine ⟨.inl ⟨rfl, vs, SqL.of g1⟩, h1 F1 H1 al1 σ _ (B.cl b x1) r1 (e.ext x1) fun F2 H2 al2 O2 us ys x2 r2 c2 h2 => ?_⟩
    exact h2 F2 H2 al2 _ us Q (B.cl (B.cl b x1) x2) r2 (c1.ext x2) c2 (q.step (x1.trans x2))
theorem dx_bmL0 {r : V → List V → Hp → VK → Prop} {to : TE} (h : DX B to ρ O fun x O1 => (∃ ds, Vw O1 x (.list ds)) ∧ DM B r x [] O1 R) : DX B (tBM0 K "list" r to) ρ O R := fun F H al σ Q b rp e q =>
  h F H al σ _ b rp e fun F1 H1 al1 O1 v c x1 r1 c1 ⟨⟨ds, hv⟩, h1⟩ => by
    obtain ⟨a, vs, ev, g1, rr, l1⟩ := Vw.list r1 c1 hv
    subst ev
    exact ⟨.inl ⟨rfl, vs, SqL.of g1⟩, h1 F1 H1 al1 _ [] Q (B.cl b x1) r1 c1 .nil (q.step x1)⟩
/-- an owned list's object is changed -/
theorem Rep.own_set {F H : Hp} {al : List Addr} {k : Nat} {a : Addr} {b b' : Ob} {o : HO} (rp : Rep F H al O) (hk : O[k]? = some (some b)) (ha : al[k]? = some a) (hF : F a = none) (hb : ObR F (upd H a o) al a b') : Rep F (upd H a o) al (O.set k (some b')) ∧ Ext F H al F (upd H a o) al := by
  have hne : ∀ j c, j ≠ k → al[j]? = some c → c ≠ a := fun j c hj hc z => by
    subst z
    have h1 := (List.getElem?_eq_some_iff.mp hc)
    have h2 := (List.getElem?_eq_some_iff.mp ha)
    exact hj ((List.getElem_inj rp.nd).mp (h1.2.trans h2.2.symm))
  refine ⟨⟨fun b u e => ?_, rp.nd, by simp [rp.len], fun x m => upd_some (rp.there x m), fun j c e => ?_⟩, ⟨Same.refl _, ⟨[], by simp⟩, fun x u e m => ?_, fun _ _ h => h, fun _ _ _ n => n⟩⟩
  · have hn : b ≠ a := fun z => by rw [z, hF] at e; cases e
    rw [upd_ne hn]; exact rp.sub b u e
  · rw [List.getElem?_set] at e
    by_cases hj : k = j
    · subst hj
      rw [if_pos rfl, if_pos (List.getElem?_eq_some_iff.mp hk).1] at e
      cases e
      exact ⟨a, ha, hF, hb⟩
    · rw [if_neg hj] at e
      obtain ⟨c', h1, h2, h3⟩ := rp.own j c e
      have hn := hne j c' (fun z => hj z.symm) h1
      exact ⟨c', h1, h2, h3.mono (Same.refl _) (fun _ _ q => q) fun o q => by rw [upd_ne hn]; exact q⟩
  · have hn : x ≠ a := fun z => m (z ▸ List.mem_of_getElem? ha)
    rw [upd_ne hn]; exact e
theorem Rep.own_get {F H : Hp} {al : List Addr} {k : Nat} {v : V} {ds : List D} (rp : Rep F H al O) (hk : O[k]? = some (some (.lst ds))) (cr : CeR F al v (.o k)) : ∃ (a : Addr) (vs : List V), v = .ref a ∧ al[k]? = some a ∧ F a = none ∧ H a = some (.lst vs) ∧ DVs F vs ds := by
  obtain ⟨a, h1, h2⟩ := cr
  obtain ⟨a', g1, g2, vs, g3, g4⟩ := rp.own k _ hk
  rw [h1] at g1
  cases g1
  exact ⟨a, vs, h2, h1, g2, g3, g4⟩
theorem dm_append {k : Nat} {ds : List D} {y : Ce} {d : D} (hk : O[k]? = some (some (.lst ds))) (hy : y = .d d) (hl : ds.length < sizeLine) (h : R (.d .none) (O.set k (some (.lst (ds ++ [d]))))) : DM B rAppend (.o k) [y] O R := fun F H al v vs Q bb rp cx cy q => by
  subst hy
  obtain ⟨u, rfl, cu⟩ := cers1 cy
  obtain ⟨a, ws, rfl, h1, h2, h3, h4⟩ := rp.own_get hk cx
  obtain ⟨r2, x2⟩ := rp.own_set (b' := .lst (ds ++ [d])) (o := .lst (ws ++ [u])) hk h1 h2 ⟨_, upd_same, h4.append (.cons cu .nil)⟩
  exact ⟨a, ws, u, rfl, rfl, h3, by rw [h4.length]; exact hl, q _ _ _ _ .non (.d .none) x2 r2 DV.non h⟩
theorem dm_extend {k : Nat} {ds es : List D} {y : Ce} (hk : O[k]? = some (some (.lst ds))) (hy : Vw O y (.list es)) (hl : ds.length + es.length ≤ sizeLine) (h : R (.d .none) (O.set k (some (.lst (ds ++ es))))) : DM B rExtend (.o k) [y] O R := fun F H al v vs Q bb rp cx cy q => by
  obtain ⟨u, rfl, cu⟩ := cers1 cy
  obtain ⟨a, ws, rfl, h1, h2, h3, h4⟩ := rp.own_get hk cx
  obtain ⟨a2, ws2, rfl, g1, g2, g3⟩ := Vw.list rp cu hy
  obtain ⟨r2, x2⟩ := rp.own_set (b' := .lst (ds ++ es)) (o := .lst (ws ++ ws2)) hk h1 h2 ⟨_, upd_same, h4.append g2⟩
  exact ⟨a, a2, ws, ws2, rfl, rfl, h3, g1, by rw [h4.length, g2.length]; exact hl, q _ _ _ _ .non (.d .none) x2 r2 DV.non h⟩
/-- found += words -/
theorem d2_ext {k : Nat} {ds es : List D} {y : Ce} (hk : O[k]? = some (some (.lst ds))) (hy : Vw O y (.list es)) (hl : ds.length + es.length ≤ sizeLine) (h : R (.o k) (O.set k (some (.lst (ds ++ es))))) : D2 B rExt2 (.o k) y O R := fun F H al v u Q bb rp cx cu q => by
  obtain ⟨a, ws, rfl, h1, h2, h3, h4⟩ := rp.own_get hk cx
  obtain ⟨a2, ws2, rfl, g1, g2, g3⟩ := Vw.list rp cu hy
  obtain ⟨r2, x2⟩ := rp.own_set (b' := .lst (ds ++ es)) (o := .lst (ws ++ ws2)) hk h1 h2 ⟨_, upd_same, h4.append g2⟩
  exact ⟨a, a2, ws, ws2, rfl, rfl, h3, g1, by rw [h4.length, g2.length]; exact hl, q _ _ _ _ (.ref a) (.o k) x2 r2 ⟨a, h1, rfl⟩ h⟩
def rIAddA : R2 := fun x y H Q => rI0 (fun i j => .int (i + j)) x y H Q ∨ rExt2 x y H Q
theorem iop_addA {X : Cx} : OpR X (inplaceOp .Add) rIAddA := iop_add.or iop_ext
theorem d2_iadd {x y : Ce} {i j : Int} (hx : x = .d (.int i)) (hy : y = .d (.int j)) (k : R (.d (.int (i + j))) O) : D2 B rIAddA x y O R := d2_or (d2_I0 hx hy (fun _ => .int _) k)
theorem d2_iext {k : Nat} {ds es : List D} {x y : Ce} (hx : x = .o k) (hk : O[k]? = some (some (.lst ds))) (hy : Vw O y (.list es)) (hl : ds.length + es.length ≤ sizeLine) (h : R (.o k) (O.set k (some (.lst (ds ++ es))))) : D2 B rIAddA x y O R := by
  subst hx
  exact d2_or' (d2_ext hk hy hl h)
/-- o[i] = v -/
theorem dg_sub {to ti : TE} {c : Ce} {R : En → Ow → Prop} (h : DX B to ρ O fun x O1 => DX B ti ρ O1 fun y O2 => ∃ (k : Nat) (ds : List D) (i : Int) (j : Nat) (d : D), x = .o k ∧ O2[k]? = some (some (.lst ds)) ∧ y = .d (.int i) ∧ ixN ds.length i = some j ∧ c = .d d ∧ R ρ (O2.set k (some (.lst (ds.set j d))))) : DG B (gSub to ti rSetL) c ρ O R := fun F H al v σ Q b rp cr e q =>
  h F H al σ _ b rp e fun F1 H1 al1 O1 o x x1 r1 c1 h1 => h1 F1 H1 al1 σ _ (B.cl b x1) r1 (e.ext x1) fun F2 H2 al2 O2 u y x2 r2 c2 ⟨k, ds, i, j, d, ex, hk, ey, hi, ec, hR⟩ => by
    subst ex ey ec
    obtain ⟨a, ws, rfl, h1, h2, h3, h4⟩ := r2.own_get hk (c1.ext x2)
    cases c2
    have cv : DV F2 v d := DV.mono (x1.trans x2).sub cr
    obtain ⟨r3, x3⟩ := r2.own_set (b' := .lst (ds.set j d)) (o := .lst (ws.set j v)) hk h1 h2 ⟨_, upd_same, h4.set cv j⟩
    exact ⟨a, ws, i, j, rfl, rfl, h3, by rw [h4.length]; exact hi, q _ _ _ _ _ _ ((x1.trans x2).trans x3) r3 (((e.ext x1).ext x2).ext x3) hR⟩
/-- a new list, owned -/
theorem dx_lstO {t : TA} (h : DA B t ρ O fun cs O1 => AllD cs fun ds => ds.length ≤ sizeLine ∧ R (.o O1.length) (O1 ++ [some (.lst ds)])) : DX B (tLst t) ρ O R := fun F H al σ Q b rp e q =>
  h F H al σ _ b rp e fun F1 H1 al1 O1 vs cs x1 r1 c1 ⟨ds, ed, hl, hk⟩ => by
    subst ed
    have rr := CeRs.ds c1
    refine ⟨by rw [rr.length]; exact hl, fun p hp => ?_⟩
    refine q _ _ _ _ (.ref p) (.o O1.length) (x1.trans (Ext.own_new hp)) (r1.own_new hp (b := .lst ds) ⟨vs, upd_same, rr⟩) ⟨p, ?_, rfl⟩ hk
    rw [List.getElem?_append_right (by rw [r1.len]; exact Nat.le_refl _), r1.len]
    simp
/-- the rest of the cells is forgotten -/
theorem Rep.forget {F H : Hp} {al : List Addr} {O' : Ow} (rp : Rep F H al O) (h : ∀ (k : Nat) b, O'[k]? = some (some b) → O[k]? = some (some b)) (hl : O'.length = O.length) : Rep F H al O' := ⟨rp.sub, rp.nd, by rw [rp.len, hl], rp.there, fun k b e => rp.own k b (h k b e)⟩
/-- an owned list is frozen -/
theorem dx_fz {te : TE} (h : DX B te ρ O fun x O1 => ∃ (k : Nat) (ds : List D), x = .o k ∧ O1[k]? = some (some (.lst ds)) ∧ ds.length ≤ sizeLine ∧ R (.d (.list ds)) (O1.set k none)) : DX B te ρ O R := fun F H al σ Q b rp e q =>
  h F H al σ _ b rp e fun F1 H1 al1 O1 v x x1 r1 c1 ⟨k, ds, ex, hk, hl, hR⟩ => by
    subst ex
    obtain ⟨a, ws, rfl, h1, h2, h3, h4⟩ := r1.own_get hk c1
    have hs : Same F1 (upd F1 a (.lst ws)) := same_upd (Same.refl _) h2
    refine q (upd F1 a (.lst ws)) H1 al1 (O1.set k none) (.ref a) (.d (.list ds)) (x1.trans ⟨hs, ⟨[], by simp⟩, fun _ _ e _ => e, fun _ _ m => m, fun y _ m n => ?_⟩) ⟨fun y u z => ?_, r1.nd, by simp [r1.len], r1.there, fun j c z => ?_⟩ (DV.lst upd_same hl (h4.mono hs)) hR
    · have : y ≠ a := fun z => m (z ▸ List.mem_of_getElem? h1)
      rw [upd_ne this]; exact n
    · by_cases hy : y = a
      · subst hy; rw [upd_same] at z; cases z; exact h3
      · rw [upd_ne hy] at z; exact r1.sub y u z
    · rw [List.getElem?_set] at z
      by_cases hj : k = j
      · subst hj
        rw [if_pos rfl] at z
        split at z <;> cases z
      · rw [if_neg hj] at z
        obtain ⟨c', g1, g2, g3⟩ := r1.own j c z
        have hn : c' ≠ a := fun w => by
          subst w
          have z1 := (List.getElem?_eq_some_iff.mp g1)
          have z2 := (List.getElem?_eq_some_iff.mp h1)
          exact hj ((List.getElem_inj r1.nd).mp (z2.2.trans z1.2.symm))
        exact ⟨c', g1, by rw [upd_ne hn]; exact g2, g3.mono hs (fun _ _ q => q) fun o q => q⟩
end
end DL
/-! DL, part f: what a for and a comprehension walk. -/
namespace DL
open PySem L2 PySem.Spec
set_option autoImplicit false
section
variable {B : Bs} {ρ : En} {O : Ow} {R : RX} {A : AE} {K : PySem.W.Frag}
theorem di_of {tl : TE} {R : List D → Ow → Prop} {wi : TI} {P : Ce → Ow → List D → Prop} (h : DX B tl ρ O fun c O1 => ∃ ds, P c O1 ds ∧ R ds O1)
    (w : ∀ (σ : L2.St) (H : Hp) (Rh : It → Hp → Prop), (tl σ H fun v H1 => ∃ J, (∃ (F1 : Hp) (al1 : List Addr) (O1 : Ow) (c : Ce) (ds : List D), Rep F1 H1 al1 O1 ∧ CeR F1 al1 v c ∧ P c O1 ds) → True ∧ Rh J H1) → True) : True := trivial
theorem walk_list {F : Hp} {a : Addr} {xs : List V} {ds : List D} (e : F a = some (.lst xs)) (r : DVs F xs ds) : WalkD (Itl K a) F ds := by
  refine ⟨fun H s => ⟨xs, SqL.of (s _ _ e), by rw [r.length]; exact Nat.le_refl _⟩, fun i H hi s => ?_, fun i F' H x H' hi s1 s2 hy => ?_⟩
  · obtain ⟨v, h1, h2⟩ := r.get (List.getElem?_eq_getElem hi)
    exact ⟨xs, v, SqL.of (s _ _ e), h1⟩
  · obtain ⟨rfl, hy⟩ := hy
    obtain ⟨v, h1, h2⟩ := r.get (List.getElem?_eq_getElem hi)
    have hx := hy xs (SqL.of (s2 _ _ (s1 _ _ e)))
    rw [h1] at hx
    cases hx
    exact ⟨F', _, List.getElem?_eq_getElem hi, Same.refl _, s2, Same.refl _, fun _ _ n => n, h2.mono s1⟩
theorem walk_tup {F : Hp} {a : Addr} {xs : List V} {ds : List D} (e : F a = some (.tup xs)) (r : DVs F xs ds) : WalkD (Itt K a) F ds := by
  refine ⟨fun H s => ⟨xs, SqT.of (s _ _ e), by rw [r.length]; exact Nat.le_refl _⟩, fun i H hi s => ?_, fun i F' H x H' hi s1 s2 hy => ?_⟩
  · obtain ⟨v, h1, h2⟩ := r.get (List.getElem?_eq_getElem hi)
    exact ⟨xs, v, SqT.of (s _ _ e), h1⟩
  · obtain ⟨rfl, hy⟩ := hy
    obtain ⟨v, h1, h2⟩ := r.get (List.getElem?_eq_getElem hi)
    have hx := hy xs (SqT.of (s2 _ _ (s1 _ _ e)))
    rw [h1] at hx
    cases hx
    exact ⟨F', _, List.getElem?_eq_getElem hi, Same.refl _, s2, Same.refl _, fun _ _ n => n, h2.mono s1⟩
theorem di_list {tl : TE} {R : List D → Ow → Prop} (h : DX B tl ρ O fun c O1 => ∃ ds, c = .d (.list ds) ∧ R ds O1) : DI B (iList K tl) ρ O R := fun F H al σ Rh b rp e q =>
  h F H al σ _ b rp e fun F1 H1 al1 O1 v c x1 r1 c1 ⟨ds, ec, hR⟩ => by
    subst ec
    cases c1 with
    | lst q1 l r => exact ⟨_, rfl, ⟨_, SqL.of (r1.sub _ _ q1)⟩, q F1 H1 al1 O1 _ ds x1 r1 (walk_list q1 r) l hR⟩
theorem di_tup {tl : TE} {R : List D → Ow → Prop} (h : DX B tl ρ O fun c O1 => ∃ ds, c = .d (.tuple ds) ∧ R ds O1) : DI B (iTup K tl) ρ O R := fun F H al σ Rh b rp e q =>
  h F H al σ _ b rp e fun F1 H1 al1 O1 v c x1 r1 c1 ⟨ds, ec, hR⟩ => by
    subst ec
    cases c1 with
    | tup q1 l r => exact ⟨_, rfl, ⟨_, SqT.of (r1.sub _ _ q1)⟩, q F1 H1 al1 O1 _ ds x1 r1 (walk_tup q1 r) l hR⟩
/-- the ints lo, lo + 1, .. (n of them) -/
def rgD (lo : Int) (n : Nat) : List D := (List.range n).map fun i => .int (lo + (i : Nat))
theorem rgD_length (lo : Int) (n : Nat) : (rgD lo n).length = n := by unfold rgD; simp
theorem rgD_get {lo : Int} {n i : Nat} (h : i < n) : (rgD lo n)[i]? = some (.int (lo + (i : Nat))) := by
  unfold rgD
  rw [List.getElem?_map, List.getElem?_range h]
  rfl
theorem walk_range {F : Hp} (lo : Int) (n : Nat) : WalkD (Itr lo n) F (rgD lo n) := by
  refine ⟨fun H s => by rw [rgD_length]; exact Nat.le_refl _, fun i H hi s => by rw [rgD_length] at hi; exact hi, fun i F' H x H' hi s1 s2 hy => ?_⟩
  rw [rgD_length] at hi
  obtain ⟨rfl, rfl⟩ := hy
  exact ⟨F', _, rgD_get hi, Same.refl _, s2, Same.refl _, fun _ _ n => n, .int _⟩
theorem di_rng1 {ta : TA} {R : List D → Ow → Prop} (h : DA B ta ρ O fun cs O1 => ∃ j : Int, cs = [.d (.int j)] ∧ j ≤ 16777216 ∧ -(2 ^ 62) ≤ j ∧ R (rgD 0 j.toNat) O1) : DI B (iRng1 ta) ρ O R := fun F H al σ Rh b rp e q =>
  h F H al σ _ b rp e fun F1 H1 al1 O1 vs cs x1 r1 c1 ⟨j, ec, hj, hj0, hR⟩ => by
    subst ec
    obtain ⟨v, rfl, cv⟩ := cers1 c1
    cases cv
    exact ⟨j, rfl, hj0, by omega, q F1 H1 al1 O1 _ _ x1 r1 (walk_range 0 j.toNat) (by rw [rgD_length, sizeLine_eq]; omega) hR⟩
theorem di_rng2 {ta : TA} {R : List D → Ow → Prop} (h : DA B ta ρ O fun cs O1 => ∃ i j : Int, cs = [.d (.int i), .d (.int j)] ∧ (-(2 ^ 62) ≤ i ∧ i < 2 ^ 62 ∧ -(2 ^ 62) ≤ j ∧ j < 2 ^ 62) ∧ (j - i).toNat ≤ 16777216 ∧ R (rgD i (j - i).toNat) O1) : DI B (iRng2 ta) ρ O R := fun F H al σ Rh b rp e q =>
  h F H al σ _ b rp e fun F1 H1 al1 O1 vs cs x1 r1 c1 ⟨i, j, ec, hj, hj0, hR⟩ => by
    subst ec
    obtain ⟨v, u, rfl, cv, cu⟩ := cers2 c1
    cases cv
    cases cu
    exact ⟨i, j, rfl, hj, q F1 H1 al1 O1 _ _ x1 r1 (walk_range i (j - i).toNat) (by rw [rgD_length, sizeLine_eq]; exact hj0) hR⟩
/-- pairs of the turn's number and the item -/
def enD (ds : List D) : List D := (List.range ds.length).map fun i => .tuple [.int (i : Nat), ds.getD i .none]
theorem enD_length (ds : List D) : (enD ds).length = ds.length := by unfold enD; simp
theorem enD_get {ds : List D} {i : Nat} {d : D} (h : ds[i]? = some d) : (enD ds)[i]? = some (.tuple [.int (i : Nat), d]) := by
  have hi := (List.getElem?_eq_some_iff.mp h).1
  unfold enD
  rw [List.getElem?_map, List.getElem?_range hi]
  show some (PyData.tuple [.int (i : Nat), ds.getD i .none]) = _
  rw [List.getD_eq_getElem?_getD, h]
  rfl
theorem two_le : ∀ x y : D, [x, y].length ≤ sizeLine := fun _ _ => by rw [sizeLine_eq]; show 2 ≤ 16777216; decide
theorem yld_tup {F' H H' : Hp} {T : Addr} {x y : V} {d e : D} (s2 : Same F' H) (hT : H T = none) (hd : DV F' x d) (he : DV F' y e) : Same F' (upd F' T (.tup [x, y])) ∧ Same (upd F' T (.tup [x, y])) (upd H T (.tup [x, y])) ∧ Same H (upd H T (.tup [x, y])) ∧ (∀ a, H a ≠ none → F' a = none → upd F' T (.tup [x, y]) a = none) ∧ DV (upd F' T (.tup [x, y])) (.ref T) (.tuple [d, e]) := by
  have hF : F' T = none := Same.free s2 hT
  refine ⟨same_upd (Same.refl _) hF, same_upd2 s2, same_upd (Same.refl _) hT, fun a h n => ?_, DV.tup_new hF (two_le d e) (.cons hd (.cons he .nil))⟩
  rw [upd_ne (fun z => by rw [z] at h; exact h hT)]
  exact n
theorem walk_enum {F : Hp} {a : Addr} {xs : List V} {ds : List D} (e : F a = some (.lst xs)) (r : DVs F xs ds) : WalkD (Ite K a) F (enD ds) := by
  refine ⟨fun H s => ⟨xs, SqL.of (s _ _ e), by rw [enD_length, r.length]; exact Nat.le_refl _⟩, fun i H hi s => ?_, fun i F' H x H' hi s1 s2 hy => ?_⟩
  · rw [enD_length] at hi
    obtain ⟨v, h1, h2⟩ := r.get (List.getElem?_eq_getElem hi)
    exact ⟨xs, v, SqL.of (s _ _ e), h1⟩
  · rw [enD_length] at hi
    obtain ⟨T, y, rfl, hT, rfl, hy⟩ := hy
    obtain ⟨v, h1, h2⟩ := r.get (List.getElem?_eq_getElem hi)
    have hx := hy xs (SqL.of (s2 _ _ (s1 _ _ e)))
    rw [h1] at hx
    cases hx
    obtain ⟨q1, q2, q3, q4, q5⟩ := yld_tup (H' := H) s2 hT (.int (i : Nat)) (h2.mono s1)
    exact ⟨_, _, enD_get (List.getElem?_eq_getElem hi), q1, q2, q3, q4, q5⟩
theorem di_enum {ta : TA} {R : List D → Ow → Prop} (h : DA B ta ρ O fun cs O1 => ∃ ds, cs = [.d (.list ds)] ∧ R (enD ds) O1) : DI B (iEnum K ta) ρ O R := fun F H al σ Rh b rp e q =>
  h F H al σ _ b rp e fun F1 H1 al1 O1 vs cs x1 r1 c1 ⟨ds, ec, hR⟩ => by
    subst ec
    obtain ⟨v, rfl, cv⟩ := cers1 c1
    cases cv with
    | lst q1 l r => exact ⟨_, _, rfl, SqL.of (r1.sub _ _ q1), q F1 H1 al1 O1 _ _ x1 r1 (walk_enum q1 r) (by rw [enD_length]; exact l) hR⟩
/-- pairs of two rows' items -/
def zpD (ds es : List D) : List D := List.zipWith (fun d e => .tuple [d, e]) ds es
theorem zpD_get {ds es : List D} {i : Nat} {d e : D} (h : ds[i]? = some d) (h' : es[i]? = some e) : (zpD ds es)[i]? = some (.tuple [d, e]) := by
  unfold zpD
  rw [List.getElem?_zipWith, h, h']
theorem zpD_length (ds es : List D) : (zpD ds es).length = min ds.length es.length := List.length_zipWith
theorem walk_zip {F : Hp} {a b : Addr} {xs ys : List V} {ds es : List D} (e : F a = some (.lst xs)) (r : DVs F xs ds) (e' : F b = some (.lst ys)) (r' : DVs F ys es) : WalkD (Itz K a b) F (zpD ds es) := by
  refine ⟨fun H s => ⟨xs, ys, SqL.of (s _ _ e), SqL.of (s _ _ e'), by rw [zpD_length, r.length, r'.length]; omega⟩, fun i H hi s => ?_, fun i F' H x H' hi s1 s2 hy => ?_⟩
  · rw [zpD_length] at hi
    have hd : i < ds.length := by omega
    have he : i < es.length := by omega
    obtain ⟨v, h1, h2⟩ := r.get (List.getElem?_eq_getElem hd)
    obtain ⟨u, g1, g2⟩ := r'.get (List.getElem?_eq_getElem he)
    exact ⟨xs, ys, v, u, SqL.of (s _ _ e), SqL.of (s _ _ e'), h1, g1⟩
  · rw [zpD_length] at hi
    have hd : i < ds.length := by omega
    have he : i < es.length := by omega
    obtain ⟨T, y, z, rfl, hT, rfl, hy, hz⟩ := hy
    obtain ⟨v, h1, h2⟩ := r.get (List.getElem?_eq_getElem hd)
    obtain ⟨u, g1, g2⟩ := r'.get (List.getElem?_eq_getElem he)
    have hx := hy xs (SqL.of (s2 _ _ (s1 _ _ e)))
    rw [h1] at hx
    cases hx
    have hx := hz ys (SqL.of (s2 _ _ (s1 _ _ e')))
    rw [g1] at hx
    cases hx
    obtain ⟨q1, q2, q3, q4, q5⟩ := yld_tup (H' := H) s2 hT (h2.mono s1) (g2.mono s1)
    exact ⟨_, _, zpD_get (List.getElem?_eq_getElem hd) (List.getElem?_eq_getElem he), q1, q2, q3, q4, q5⟩
theorem walk_zipT {F : Hp} {a b : Addr} {xs ys : List V} {ds es : List D} (e : F a = some (.tup xs)) (r : DVs F xs ds) (e' : F b = some (.tup ys)) (r' : DVs F ys es) : WalkD (RZ.ItzT K a b) F (zpD ds es) := by
  refine ⟨fun H s => ⟨xs, ys, SqT.of (s _ _ e), SqT.of (s _ _ e'), by rw [zpD_length, r.length, r'.length]; omega⟩, fun i H hi s => ?_, fun i F' H x H' hi s1 s2 hy => ?_⟩
  · rw [zpD_length] at hi
    have hd : i < ds.length := by omega
    have he : i < es.length := by omega
    obtain ⟨v, h1, h2⟩ := r.get (List.getElem?_eq_getElem hd)
    obtain ⟨u, g1, g2⟩ := r'.get (List.getElem?_eq_getElem he)
    exact ⟨xs, ys, v, u, SqT.of (s _ _ e), SqT.of (s _ _ e'), h1, g1⟩
  · rw [zpD_length] at hi
    have hd : i < ds.length := by omega
    have he : i < es.length := by omega
    obtain ⟨T, y, z, rfl, hT, rfl, hy, hz⟩ := hy
    obtain ⟨v, h1, h2⟩ := r.get (List.getElem?_eq_getElem hd)
    obtain ⟨u, g1, g2⟩ := r'.get (List.getElem?_eq_getElem he)
    have hx := hy xs (SqT.of (s2 _ _ (s1 _ _ e)))
    rw [h1] at hx
    cases hx
    have hx := hz ys (SqT.of (s2 _ _ (s1 _ _ e')))
    rw [g1] at hx
    cases hx
    obtain ⟨q1, q2, q3, q4, q5⟩ := yld_tup (H' := H) s2 hT (h2.mono s1) (g2.mono s1)
    exact ⟨_, _, zpD_get (List.getElem?_eq_getElem hd) (List.getElem?_eq_getElem he), q1, q2, q3, q4, q5⟩
/-- a text, sign by sign -/
def sgD (z : Str) : List D := z.cps.toList.map fun c => .str ⟨#[c]⟩
theorem one_le (c : Nat) : (⟨#[c]⟩ : Str).length ≤ sizeLine := by rw [sizeLine_eq]; show 1 ≤ 16777216; decide
theorem walk_str {F : Hp} (z : Str) : WalkD (Its z) F (sgD z) := by
  have hl : (sgD z).length = z.cps.size := by unfold sgD; simp
  refine ⟨fun H s => by rw [hl]; exact Nat.le_refl _, fun i H hi s => by rw [hl] at hi; exact hi, fun i F' H x H' hi s1 s2 hy => ?_⟩
  obtain ⟨rfl, c, hc, rfl⟩ := hy
  refine ⟨F', .str ⟨#[c]⟩, ?_, Same.refl _, s2, Same.refl _, fun _ _ n => n, .str _ (one_le c)⟩
  unfold sgD
  rw [List.getElem?_map, Array.getElem?_toList, hc]
  rfl
theorem di_str {te : TE} {R : List D → Ow → Prop} (h : DX B te ρ O fun c O1 => ∃ z, c = .d (.str z) ∧ R (sgD z) O1) : DI B (iStr te) ρ O R := fun F H al σ Rh b rp e q =>
  h F H al σ _ b rp e fun F1 H1 al1 O1 v c x1 r1 c1 ⟨z, ec, hR⟩ => by
    subst ec
    cases c1 with
    | str _ l => exact ⟨z, rfl, q F1 H1 al1 O1 _ _ x1 r1 (walk_str z) (by unfold sgD; rw [List.length_map, Array.length_toList]; exact l) hR⟩
end
end DL
/-! DL, part z: zip of a list or tuple with a list or tuple, in any mix. -/
namespace DL
open PySem L2 PySem.Spec
set_option autoImplicit false
/-- a list (k) or a tuple (not k) -/
def SqA (k : Bool) (K : PySem.W.Frag) (H : Hp) (a : Addr) (xs : List V) : Prop := if k then SqL K H a xs else SqT K H a xs
def ItA (k : Bool) (h : Heap) (it a : Addr) (i : Nat) : Prop := if k then h.IsListIter it a i else h.IsTupleIter it a i
def ArA (k : Bool) (h : Heap) (a : Addr) (its : Array Value) : Prop := if k then h.IsList a its else h.IsTuple a its
theorem Inv.sqA {X : Cx} {pins : List (Addr × Obj)} {σ : L2.St} {H : Hp} {s : Shared} {k : Bool} {a : Addr} {xs : List V} (I : Inv X pins σ H s) (h : SqA k X.K H a xs) : ∃ its : List Value, Vals xs its ∧ ArA k s.heap a its.toArray := by
  cases k with
  | true =>
    obtain ⟨its, r, p, _⟩ := I.list h
    exact ⟨its, r, p.isList⟩
  | false =>
    obtain ⟨its, r, p, _⟩ := I.tuple h
    exact ⟨its, r, p⟩
theorem Inv.sqA_inj {X : Cx} {pins : List (Addr × Obj)} {σ : L2.St} {H : Hp} {s : Shared} {k : Bool} {a : Addr} {xs ys : List V} (I : Inv X pins σ H s) (h : SqA k X.K H a xs) (h' : SqA k X.K H a ys) : xs = ys := by
  cases k with
  | true => exact I.list_inj h h'
  | false => exact I.tuple_inj h h'
theorem ItA.keep {k : Bool} {h h' : Heap} {it a : Addr} {i : Nat} (x : ItA k h it a i) (e : ∀ o, h.get? it = some o → h'.get? it = some o) : ItA k h' it a i := by
  cases k with
  | true => exact Heap.IsListIter.at x e
  | false => exact Heap.IsTupleIter.at x e
theorem ItA.obj {k : Bool} {h : Heap} {it a : Addr} {i : Nat} (x : ItA k h it a i) : ∃ o, h.get? it = some o ∧ ∀ v, o.data ≠ .cell v := by
  cases k with
  | true =>
    obtain ⟨o, e, _, d⟩ := x
    exact ⟨o, e, fun v q => by rw [d] at q; cases q⟩
  | false =>
    obtain ⟨o, e, _, d⟩ := x
    exact ⟨o, e, fun v q => by rw [d] at q; cases q⟩
theorem ArA.ne {k : Bool} {h : Heap} {it a b : Addr} {i : Nat} {j : Bool} {its : Array Value} (x : ItA j h it b i) (y : ArA k h a its) : a ≠ it := fun z => by
  subst z
  have hx : ∃ o vs, h.get? a = some o ∧ o.data = .fields vs := by
    cases j with
    | true => obtain ⟨o, e, _, d⟩ := x; exact ⟨o, _, e, d⟩
    | false => obtain ⟨o, e, _, d⟩ := x; exact ⟨o, _, e, d⟩
  have hy : ∃ o vs n, h.get? a = some o ∧ o.data = .seq vs n := by
    cases k with
    | true => obtain ⟨o, e, _, n, d⟩ := y; exact ⟨o, _, n, e, d⟩
    | false => obtain ⟨o, e, _, n, d⟩ := y; exact ⟨o, _, n, e, d⟩
  obtain ⟨o, vs, e, d⟩ := hx
  obtain ⟨o', ws, n, e', d'⟩ := hy
  rw [e] at e'
  cases e'
  rw [d] at d'
  cases d'
theorem ArA.lt {k : Bool} {h : Heap} {a : Addr} {its : Array Value} (y : ArA k h a its) : a < h.objs.size := by
  cases k with
  | true => obtain ⟨o, e, _⟩ := y; exact Heap.lt_size e
  | false => obtain ⟨o, e, _⟩ := y; exact Heap.lt_size e
theorem drawsA {prog : Program} {w : World} {A : Around} (hh : A.handled = none) (k : Bool) (it a : Addr) (hne : a ≠ it) (items : Array Value) :
    Draws prog w A it [it, a] items.size (fun i v => items[i]? = some v) (fun i h => ItA k h it a i ∧ ArA k h a items) := by
  cases k with
  | true => exact Draws.list hh it a hne items
  | false => exact Draws.tuple hh it a hne items
/-- the addresses of a zip's cells -/
structure ZApart (z TI TO i1 i2 : Addr) : Prop where
  TIz : TI ≠ z
  TOz : TO ≠ z
  TITO : TI ≠ TO
  TIi1 : TI ≠ i1
  TIi2 : TI ≠ i2
  TOi1 : TO ≠ i1
  TOi2 : TO ≠ i2
  zi1 : z ≠ i1
  zi2 : z ≠ i2
  i12 : i1 ≠ i2
def ItzA (k1 k2 : Bool) (K : PySem.W.Frag) (a b : Addr) : It :=
  ⟨fun i H => ∃ (xs ys : List V) (x y : V), SqA k1 K H a xs ∧ SqA k2 K H b ys ∧ xs[i]? = some x ∧ ys[i]? = some y,
    fun i H v H' => ∃ T x y, v = .ref T ∧ H T = none ∧ H' = upd H T (.tup [x, y]) ∧ (∀ xs, SqA k1 K H a xs → xs[i]? = some x) ∧ ∀ ys, SqA k2 K H b ys → ys[i]? = some y,
    fun i H => ∃ xs ys : List V, SqA k1 K H a xs ∧ SqA k2 K H b ys ∧ i = min xs.length ys.length⟩
def ZSt (k1 k2 : Bool) (z TI TO i1 i2 a b : Addr) (i : Nat) (h : Heap) : Prop := IsZip h z TI TO .none ∧ IsTupOf2 h TI (.ref i1) (.ref i2) ∧ (∃ x y, IsTupOf2 h TO x y) ∧ ItA k1 h i1 a i ∧ ItA k2 h i2 b i
section
variable {P : Program} {w : World} {K : PySem.W.Frag}
/-- what the library says of such a zip, where its two rows stand -/
theorem zwalk {A : Around} (hh : A.handled = none) {k1 k2 : Bool} {z TI TO i1 i2 a b : Addr} (S : ZApart z TI TO i1 i2) {xs ys : Array Value} (ha1 : a ≠ i1) (ha2 : a ≠ i2) (hb1 : b ≠ i1) (hb2 : b ≠ i2) (haz : a ≠ z) (hbz : b ≠ z) (haT : a ≠ TO) (hbT : b ≠ TO) :
    WalksT P w A z (z :: TI :: TO :: ([i1, a] ++ [i2, b])) [z, TO, i1, i2] (min xs.size ys.size) (fun i vals => ∃ x1 x2, xs[i]? = some x1 ∧ ys[i]? = some x2 ∧ vals = #[x1, x2])
      (fun i h => IsZip h z TI TO .none ∧ IsTupOf2 h TI (.ref i1) (.ref i2) ∧ (∃ a1 a2, IsTupOf2 h TO a1 a2) ∧ (ItA k1 h i1 a i ∧ ArA k1 h a xs) ∧ (ItA k2 h i2 b i ∧ ArA k2 h b ys))
      (fun i T h => IsZip h z TI TO (rawInt T) ∧ IsTupOf2 h TI (.ref i1) (.ref i2) ∧ (∃ a1 a2, IsTupOf2 h TO a1 a2) ∧ (ItA k1 h i1 a (i + 1) ∧ ArA k1 h a xs) ∧ (ItA k2 h i2 b (i + 1) ∧ ArA k2 h b ys) ∧ T ≠ z ∧ T ≠ TO ∧ T ≠ i1 ∧ T ≠ i2) := by
  have hin : A.in1.handled = none := hh
  refine WalksT.zipD2 (fp1 := [i1, a]) (fp2 := [i2, b]) ?_ (drawsA hin k1 i1 a ha1 xs) (drawsA hin k2 i2 b hb2 ys)
  have n2 : ∀ {x y c : Addr}, c ≠ x → y ≠ c → c ∉ [x, y] := fun h1 h2 m => by
    simp only [List.mem_cons, List.not_mem_nil, or_false] at m
    rcases m with m | m
    · exact h1 m
    · exact h2 m.symm
  exact ⟨S.TIz, S.TOz, S.TITO, S.TIi1, by simp, n2 S.zi1 haz, n2 S.TOi1 haT, S.TIi2, by simp, n2 S.zi2 hbz, n2 S.TOi2 hbT, n2 S.i12 hb1, n2 S.i12.symm ha2⟩
theorem mem45 {z TI TO i1 i2 c : Addr} (m : c ∈ [z, TO, i1, i2]) : c ∈ [z, TI, TO, i1, i2] := by
  simp only [List.mem_cons, List.not_mem_nil, or_false] at m ⊢
  rcases m with m | m | m | m
  · exact .inl m
  · exact .inr (.inr (.inl m))
  · exact .inr (.inr (.inr (.inl m)))
  · exact .inr (.inr (.inr (.inr m)))
theorem ar_ne_fields {k : Bool} {h : Heap} {a b : Addr} {its : Array Value} {c : Value} {vs : Array Value} (y : ArA k h a its) (e : h.get? b = some { cls := c, data := .fields vs }) : a ≠ b := fun z => by
  subst z
  cases k with
  | true => obtain ⟨o, e', _, n, d⟩ := y; rw [e] at e'; cases e'; cases d
  | false => obtain ⟨o, e', _, n, d⟩ := y; rw [e] at e'; cases e'; cases d
theorem turn_zipA {elts : List Expr} {kk : Nat} {tpos : Pos} {k1 k2 : Bool} {z TI TO i1 i2 a b : Addr} (S : ZApart z TI TO i1 i2) (hTa : a ≠ TO) (hTb : b ≠ TO) :
    Turn P w K (.Tuple elts kk tpos) (ItzA k1 k2 K a b) [z, TI, TO, i1, i2] z (ZSt k1 k2 z TI TO i1 i2 a b) where
  mem := by simp
  obj := fun i h st c hc => by
    obtain ⟨hz, hTI, ⟨x, y, hTO⟩, h1, h2⟩ := st
    have e' : c = z ∨ c = TI ∨ c = TO ∨ c = i1 ∨ c = i2 := by simpa using hc
    rcases e' with rfl | rfl | rfl | rfl | rfl
    · exact ⟨_, hz, fun v q => nomatch q⟩
    · exact ⟨_, hTI, fun v q => nomatch q⟩
    · exact ⟨_, hTO, fun v q => nomatch q⟩
    · exact h1.obj
    · exact h2.obj
  keep := fun i h h' st k => by
    obtain ⟨hz, hTI, ⟨x, y, hTO⟩, h1, h2⟩ := st
    exact ⟨k z (by simp) _ hz, k TI (by simp) _ hTI, ⟨x, y, k TO (by simp) _ hTO⟩, h1.keep fun o q => k i1 (by simp) o q, h2.keep fun o q => k i2 (by simp) o q⟩
  item := by
    intro X hP hw hK hc i pins s σ H E I hf st hg
    subst hP hw hK
    obtain ⟨hz, hTI, hTO, h1, h2⟩ := st
    obtain ⟨xs, ys, x, y, hqx, hqy, hx, hy⟩ := hg
    obtain ⟨its, rv, p⟩ := Inv.sqA I hqx
    obtain ⟨its2, rv2, p2⟩ := Inv.sqA I hqy
    obtain ⟨u, hu, ru⟩ := rv.get hx
    obtain ⟨u2, hu2, ru2⟩ := rv2.get hy
    have W := zwalk (P := X.prog) (w := X.w) (I.ok.hd hc) (k1 := k1) (k2 := k2) S (xs := its.toArray) (ys := its2.toArray) (ArA.ne h1 p) (ArA.ne h2 p) (ArA.ne h1 p2) (ArA.ne h2 p2) (ar_ne_fields p hz) (ar_ne_fields p2 hz) hTa hTb
    have hi : i < min its.toArray.size its2.toArray.size := by
      have l1 := (List.getElem?_eq_some_iff.mp hu).1
      have l2 := (List.getElem?_eq_some_iff.mp hu2).1
      simp only [List.size_toArray]
      omega
    refine W.item i s _ E hi ⟨hz, hTI, hTO, ⟨h1, p⟩, ⟨h2, p2⟩⟩ fun T vals h' tk ⟨x1, x2, e1, e2, ev⟩ hT hIs hMid hk => ?_
    refine ⟨_, rfl, ?_⟩
    have hap := W.apart i T h' hMid
    refine W.go elts kk tpos i T { s with heap := h', toks := tk } _ _ hMid fun h2' st2 hk2 => ?_
    obtain ⟨z1, z2, z3, ⟨z4, _⟩, z5, _⟩ := st2
    have e1' : x1 = u := by
      have : its.toArray[i]? = some u := by simpa using hu
      rw [this] at e1; exact (Option.some.inj e1).symm
    have e2' : x2 = u2 := by
      have : its2.toArray[i]? = some u2 := by simpa using hu2
      rw [this] at e2; exact (Option.some.inj e2).symm
    subst e1' e2' ev
    obtain ⟨oT, hoT, cT, nT, dT⟩ := hIs
    have hoT2 := hk2 T oT hap hoT
    have new : ObjOk X.prog X.w (upd H T (.tup [x, y])) h2' T (.tup [x, y]) := ⟨by show 2 ≤ sizeLine; decide, [x1, x2], .cons ru (.cons ru2 .nil), ⟨oT, hoT2, cT, nT, dT⟩⟩
    have I1 : Inv X pins σ (upd H T (.tup [x, y])) { s with heap := h2', toks := tk } :=
      I.turnedNew (t' := tk) (ch := [z, TI, TO, i1, i2]) (fun c o hb q => hk2 c o (fun m => hb (mem45 m)) (hk c o (fun m => hb (mem45 m)) q)) hf hT new
    refine ⟨.ref T, _, I1, rfl, ⟨T, x, y, rfl, I.hok.fresh hT, rfl, fun l hl => by rw [Inv.sqA_inj I hl hqx]; exact hx, fun l hl => by rw [Inv.sqA_inj I hl hqy]; exact hy⟩, ⟨z1, z2, z3, z4, z5⟩, fun c hcm => ?_⟩
    have hcT : c ≠ T := fun q => by
      subst q
      have hc0 := (hf c hcm).1
      have hlt : c < s.heap.objs.size := by
        obtain ⟨o, ho, _⟩ : ∃ o, s.heap.get? c = some o ∧ True := by
          have e' : c = z ∨ c = TI ∨ c = TO ∨ c = i1 ∨ c = i2 := by simpa using hcm
          obtain ⟨t1, t2, hTO'⟩ := hTO
          rcases e' with e | e | e | e | e
          · rw [e]; exact ⟨_, hz, trivial⟩
          · rw [e]; exact ⟨_, hTI, trivial⟩
          · rw [e]; exact ⟨_, hTO', trivial⟩
          · rw [e]; obtain ⟨o, q, _⟩ := h1.obj; exact ⟨o, q, trivial⟩
          · rw [e]; obtain ⟨o, q, _⟩ := h2.obj; exact ⟨o, q, trivial⟩
        exact Heap.lt_size ho
      exact absurd (Nat.lt_of_lt_of_le hlt hT) (Nat.lt_irrefl _)
    rw [upd_ne hcT]
    exact (hf c hcm).1
  done := by
    intro X hP hw hK hc i pins s σ H E I hf st hg
    subst hP hw hK
    obtain ⟨hz, hTI, hTO, h1, h2⟩ := st
    obtain ⟨xs, ys, hqx, hqy, hend⟩ := hg
    obtain ⟨its, rv, p⟩ := Inv.sqA I hqx
    obtain ⟨its2, rv2, p2⟩ := Inv.sqA I hqy
    have W := zwalk (P := X.prog) (w := X.w) (I.ok.hd hc) (k1 := k1) (k2 := k2) S (xs := its.toArray) (ys := its2.toArray) (ArA.ne h1 p) (ArA.ne h2 p) (ArA.ne h1 p2) (ArA.ne h2 p2) (ar_ne_fields p hz) (ar_ne_fields p2 hz) hTa hTb
    have hi : i = min its.toArray.size its2.toArray.size := by
      have l1 := rv.length
      have l2 := rv2.length
      simp only [List.size_toArray]
      omega
    subst hi
    refine W.done s _ E ⟨hz, hTI, hTO, ⟨h1, p⟩, ⟨h2, p2⟩⟩ fun h' tk hk => ⟨rfl, ?_⟩
    exact I.turnedL (t' := tk) (ch := [z, TI, TO, i1, i2]) (fun c o hb q => hk c o (fun m => hb (mem45 m)) q) hf
  self := fun A i s Q E st h => wpAny_pyIter_zip st.1 h
end
/-- zip(x, y), each a list or a tuple -/
def iZipX (K : PySem.W.Frag) (ta : TA) : TI := fun σ H R => ta σ H fun vs H1 => ∃ (k1 k2 : Bool) (a b : Addr) (xs ys : List V), vs = [.ref a, .ref b] ∧ SqA k1 K H1 a xs ∧ SqA k2 K H1 b ys ∧ R (ItzA k1 k2 K a b) H1
theorem begA (k : Bool) (a : Addr) (items : Array Value) : ∃ o, Begins (.ref a) o (fun h => ArA k h a items) ∧ ∀ h it, h.get? it = some o → ItA k h it a 0 := by
  cases k with
  | true => exact ⟨_, begins_list a items, fun h it e => ⟨_, e, rfl, rfl⟩⟩
  | false => exact ⟨_, begins_tuple a items, fun h it e => ⟨_, e, rfl, rfl⟩⟩
theorem pi_zipX {X : Cx} {e e2 : Expr} {ta : TA} {p pos tpos : Pos} {elts : List Expr} {kk : Nat} (hg : Gl X "zip") (hm : X.mg "zip" = none) (ha : PA X [e, e2] ta)
    (hs : starEach [e, e2] X.env = (false, eval e X.env) :: starEach [e2] X.env := by rfl) (hpl : (backTo pos (starEach [e2] X.env)).any (·.1) = false := by rfl) :
    PI X (.Tuple elts kk tpos) (.Call (.Name "zip" p) [e, e2] [] pos) (iZipX X.K ta) := by
  refine ⟨fun pins s σ H R I h => ?_⟩
  refine PyProof.Rows.Call_ (ld_blt I hg hm PyProof.Rows.boot_zip (PyProof.Rows.callWith_type1 (thn (ha.run pos pins s σ H _ I h) fun us s1 hh => ?_) hs hpl))
  obtain ⟨vs, H1, I1, r1, k1, k2, a, b, xs, ys, ex, hqx, hqy, q⟩ := hh
  subst ex
  cases r1 with
  | cons r rr =>
    cases rr with
    | cons r' rr =>
      cases rr
      cases r
      cases r'
      obtain ⟨its, rv, p1⟩ := Inv.sqA I1 hqx
      obtain ⟨its2, rv2, p2⟩ := Inv.sqA I1 hqy
      obtain ⟨o1, B1, g1⟩ := begA k1 a its.toArray
      obtain ⟨o2, B2, g2⟩ := begA k2 b its2.toArray
      have la : a < s1.heap.objs.size := ArA.lt p1
      have lb : b < s1.heap.objs.size := ArA.lt p2
      refine zip_begins2 B1 B2 p1 p2 fun h' hz hTI hTO h1 h2 hsz hk => wpAny_pyIter_zip hz ?_
      have I2 : Inv X pins σ H1 { s1 with heap := h' } := I1.kept (t' := s1.toks) hk
      have ne : ∀ i j : Nat, i ≠ j → (s1.heap.objs.size + i : Nat) ≠ s1.heap.objs.size + j := fun i j h z => h (by omega)
      have ne0 : ∀ j : Nat, j ≠ 0 → (s1.heap.objs.size + j : Nat) ≠ s1.heap.objs.size := fun j h z => h (by omega)
      have S : ZApart (s1.heap.objs.size + 4) (s1.heap.objs.size + 2) (s1.heap.objs.size + 3) s1.heap.objs.size (s1.heap.objs.size + 1) :=
        ⟨ne 2 4 (by decide), ne 3 4 (by decide), ne 2 3 (by decide), ne0 2 (by decide), ne 2 1 (by decide), ne0 3 (by decide), ne 3 1 (by decide), ne0 4 (by decide), ne 4 1 (by decide), (ne0 1 (by decide)).symm⟩
      refine ⟨s1.heap.objs.size + 4, [s1.heap.objs.size + 4, s1.heap.objs.size + 2, s1.heap.objs.size + 3, s1.heap.objs.size, s1.heap.objs.size + 1], _, _, H1, rfl, I2, turn_zipA S (Nat.ne_of_lt (Nat.lt_of_lt_of_le la (Nat.le_add_right _ _))) (Nat.ne_of_lt (Nat.lt_of_lt_of_le lb (Nat.le_add_right _ _))), ⟨hz, hTI, ⟨_, _, hTO⟩, g1 _ _ h1, g2 _ _ h2⟩, fun c hcm => ?_, q⟩
      have e' : c = s1.heap.objs.size + 4 ∨ c = s1.heap.objs.size + 2 ∨ c = s1.heap.objs.size + 3 ∨ c = s1.heap.objs.size ∨ c = s1.heap.objs.size + 1 := by simpa using hcm
      have hle : s1.heap.objs.size ≤ c := by
        rcases e' with z | z | z | z | z
        · rw [z]; exact Nat.le_add_right _ _
        · rw [z]; exact Nat.le_add_right _ _
        · rw [z]; exact Nat.le_add_right _ _
        · rw [z]; exact Nat.le_refl _
        · rw [z]; exact Nat.le_add_right _ _
      exact I1.fpOk hle (I1.hok.fresh hle)
section
variable {B : Bs} {ρ : En} {O : Ow}
/-- a row of data: a list or a tuple -/
def rowD (k : Bool) (ds : List D) : D := if k then .list ds else .tuple ds
theorem row_get {F : Hp} {v : V} {k : Bool} {ds : List D} (h : DV F v (rowD k ds)) : ∃ (a : Addr) (xs : List V), v = .ref a ∧ (∀ H K, Same F H → SqA k K H a xs) ∧ DVs F xs ds ∧ ds.length ≤ sizeLine := by
  cases k with
  | true =>
    cases (show DV F v (.list ds) from h) with
    | lst q l r => exact ⟨_, _, rfl, fun H K s => SqL.of (s _ _ q), r, l⟩
  | false =>
    cases (show DV F v (.tuple ds) from h) with
    | tup q l r => exact ⟨_, _, rfl, fun H K s => SqT.of (s _ _ q), r, l⟩
theorem walk_zipA {K : PySem.W.Frag} {F : Hp} {k1 k2 : Bool} {a b : Addr} {xs ys : List V} {ds es : List D} (e : ∀ H K, Same F H → SqA k1 K H a xs) (r : DVs F xs ds) (e' : ∀ H K, Same F H → SqA k2 K H b ys) (r' : DVs F ys es) : WalkD (ItzA k1 k2 K a b) F (zpD ds es) := by
  refine ⟨fun H s => ⟨xs, ys, e H K s, e' H K s, by rw [zpD_length, r.length, r'.length]⟩, fun i H hi s => ?_, fun i F' H x H' hi s1 s2 hy => ?_⟩
  · rw [zpD_length] at hi
    have hd : i < ds.length := by omega
    have he : i < es.length := by omega
    obtain ⟨v, h1, h2⟩ := r.get (List.getElem?_eq_getElem hd)
    obtain ⟨u, g1, g2⟩ := r'.get (List.getElem?_eq_getElem he)
    exact ⟨xs, ys, v, u, e H K s, e' H K s, h1, g1⟩
  · rw [zpD_length] at hi
    have hd : i < ds.length := by omega
    have he : i < es.length := by omega
    obtain ⟨T, y, z, rfl, hT, rfl, hy, hz⟩ := hy
    obtain ⟨v, h1, h2⟩ := r.get (List.getElem?_eq_getElem hd)
    obtain ⟨u, g1, g2⟩ := r'.get (List.getElem?_eq_getElem he)
    have hx := hy xs (e H K (s1.trans s2))
    rw [h1] at hx
    cases hx
    have hx := hz ys (e' H K (s1.trans s2))
    rw [g1] at hx
    cases hx
    obtain ⟨q1, q2, q3, q4, q5⟩ := yld_tup (H' := H) s2 hT (h2.mono s1) (g2.mono s1)
    exact ⟨_, _, zpD_get (List.getElem?_eq_getElem hd) (List.getElem?_eq_getElem he), q1, q2, q3, q4, q5⟩
theorem di_zip {K : PySem.W.Frag} {ta : TA} {R : List D → Ow → Prop} (h : DA B ta ρ O fun cs O1 => ∃ k1 k2 ds es, cs = [.d (rowD k1 ds), .d (rowD k2 es)] ∧ R (zpD ds es) O1) : DI B (iZipX K ta) ρ O R := fun F H al σ Rh b rp e q =>
  h F H al σ _ b rp e fun F1 H1 al1 O1 vs cs x1 r1 c1 ⟨k1, k2, ds, es, ec, hR⟩ => by
    subst ec
    obtain ⟨v, u, rfl, cv, cu⟩ := cers2 c1
    obtain ⟨a, xs, rfl, g1, g2, g3⟩ := row_get cv
    obtain ⟨b', ys, rfl, g1', g2', g3'⟩ := row_get cu
    exact ⟨k1, k2, a, b', xs, ys, rfl, g1 _ _ r1.sub, g1' _ _ r1.sub, q F1 H1 al1 O1 _ _ x1 r1 (walk_zipA g1 g2 g1' g2') (by rw [zpD_length]; omega) hR⟩
end
end DL
/-! DL, part g: defs that keep a promise, called by their names; a law's own start. -/
namespace DL
open PySem L2 PySem.Spec
set_option autoImplicit false
abbrev FnP (K : PySem.W.Frag) (x : Str) (st : Stmt) (f : Addr) (fd : FuncData) : Prop := FunD K x x (defArgs st) (defBody st) (defScope st) [] [] f fd
/-- a def that may be called by its name -/
structure Cl (P : Program) (w : World) (K : PySem.W.Frag) (mg : Str → Option Value) (base : Heap) (x : Str) (k n : Nat) (S : ASp) : Prop where
  ex : ∃ (f : Addr) (fd : FuncData) (ps : List Str), FnOk P w K mg base CX0 k f fd ps (spA n S) ∧ mg x = some (.ref f) ∧ PySem.W.keepIn K (.ref f) = true ∧ Binds K fd ps []
/-- a def as the top has left it -/
structure Df (K : PySem.W.Frag) (mg : Str → Option Value) (x : Str) (st : Stmt) : Prop where
  ex : ∃ (f : Addr) (fd : FuncData), FnP K x st f fd ∧ mg x = some (.ref f)
section
variable {P : Program} {w : World} {K : PySem.W.Frag} {mg : Str → Option Value} {base : Heap}
theorem cl_of {x : Str} {st : Stmt} {N ps : List Str} {n k : Nat} {S : ASp} (Fd : Df K mg x st) (sc : FnScope N ps (defScope st)) (hp : ps.length = n)
    (hb : ∀ (dV kV doc pm : Value) (an : Option Addr) (cdv ct : Value) (us : List Value), dV = .none → us.length = ps.length → bindArgs (PySem.W.fnOf x x (defArgs st) (defBody st) (defScope st) dV kV doc pm an cdv ct) ⟨us, []⟩ = pure (ps.zip us))
    (q : ∀ (f : Addr) (cdv : Value) (A : Around) (outer : List Env) (s : Shared) (H : Hp) (E : XK) (B : Bs) (cs : List Ce) (O : Ow) (R : RX) (X : XP), Room k (A.deeper (PyProof.Rows.envOfC x (defScope st) s.heap.objs.size f cdv)) → EX B X E → cs.length = n → S cs O R X →
      ∃ t, PSs (cxOf CX0 P w K mg base N x (defScope st) f cdv A outer s H E).nox (defBody st) t ∧ DS B t (startE N cs) O { nx := fun _ O' => R (.d .none) O', rt := R }) : Cl P w K mg base x (k + 1) n S := by
  obtain ⟨f, fd, F, hm⟩ := Fd.ex
  refine ⟨f, fd, ps, F.ok sc (spA_len hp) fun cdv A outer s H vs Q E hr hs => ?_, hm, F.kp, ?_⟩
  · obtain ⟨hn, F0, al, O, cs, R, X, rp, cr, s1, kq, kx⟩ := hs
    obtain ⟨t, ht, hd⟩ := q f cdv A outer s H E (Bs.from F0 H al) cs O R X hr (fun F' H' al' O' cls d fs x r z w => kx F' H' al' O' cls d fs x r z w) (by rw [← cr.length, hn]) s1
    exact ⟨t, ht.nox, hd F0 H al _ _ (Ext.refl _ _ _) rp (enr_start cr) ⟨fun F' H' al' O' σ' ρ' x r e w => kq F' H' al' O' .non (.d .none) x r DV.non w, kq, fun F' H' al' O' σ' ρ' x r e w => w.elim, fun F' H' al' O' σ' ρ' x r e w => w.elim⟩⟩
  · obtain ⟨oc, od, dV, kV, doc, pm, an, cdv, ct, osl, rfl, lk, hcd, hD, _⟩ := F.ex
    have e : dV = .none := by
      rcases hD with ⟨_, e⟩ | ⟨h, _⟩
      · exact e
      · exact absurd rfl h
    exact .all fun us hl => hb dV kV doc pm an cdv ct us e hl
theorem Cl.mono {x : Str} {k j n : Nat} {S : ASp} (c : Cl P w K mg base x k n S) (h : k ≤ j) : Cl P w K mg base x j n S := by
  obtain ⟨f, fd, ps, F, r⟩ := c.ex
  exact ⟨f, fd, ps, F.mono h, r⟩
theorem Cl.imp {x : Str} {k n : Nat} {S S' : ASp} (c : Cl P w K mg base x k n S) (h : ∀ cs O R X, S' cs O R X → S cs O R X) : Cl P w K mg base x k n S' := by
  obtain ⟨f, fd, ps, F, r⟩ := c.ex
  exact ⟨f, fd, ps, F.imp fun vs H Q E ⟨a, F0, al, O, cs, R, X, b, c, d, e⟩ => ⟨a, F0, al, O, cs, R, X, b, c, h _ _ _ _ d, e⟩, r⟩
end
section
variable {X : Cx} {x : Str} {p pos : Pos} {e : Expr} {es : List Expr} {t : TA} {k j n : Nat} {S : ASp}
theorem pe_cl (c : Cl X.prog X.w X.K X.mg X.base x k n S) (hr : Room j X.A) (hk : k ≤ j) (hg : Gl X x) (ha : PA X (e :: es) t)
    (hdb : (x == ("__debug__" : Str)) = false := by decide) (he : starEach (e :: es) X.env = (false, eval e X.env) :: starEach es X.env := by rfl) (hpl : (backTo pos (starEach es X.env)).any (·.1) = false := by rfl) :
    PE X (.Call (.Name x p) (e :: es) [] pos) (tCall (spA n S) [] E0 t) := by
  obtain ⟨f, fd, ps, F, hm, kp, b⟩ := c.ex
  exact pe_call F (hr.mono hk) hg hm kp b .nil pass0 ha hdb he hpl
end
section
variable {B : Bs} {ρ : En} {O : Ow} {R : RX} {A : AE} {K : PySem.W.Frag}
theorem dx_isN {ta : TE} (h : DX B ta ρ O fun c O1 => ∃ d, c = .d d ∧ R (.d (.bool (isNone d))) O1) : DX B (tIsN ta) ρ O R := fun F H al σ Q b rp e q =>
  h F H al σ _ b rp e fun F1 H1 al1 O1 v c x1 r1 c1 ⟨d, ed, hk⟩ => by
    subst ed
    show Q (.bl (decide (v = .non))) H1
    rw [DV.isN c1]
    exact q _ _ _ _ _ (.d (.bool (isNone d))) x1 r1 (DV.bl _) hk
theorem dx_notN {ta : TE} (h : DX B ta ρ O fun c O1 => ∃ d, c = .d d ∧ R (.d (.bool (!isNone d))) O1) : DX B (tNotN ta) ρ O R := fun F H al σ Q b rp e q =>
  h F H al σ _ b rp e fun F1 H1 al1 O1 v c x1 r1 c1 ⟨d, ed, hk⟩ => by
    subst ed
    show Q (.bl (!decide (v = .non))) H1
    rw [DV.isN c1]
    exact q _ _ _ _ _ (.d (.bool (!isNone d))) x1 r1 (DV.bl _) hk
theorem dx_neg {ta : TE} (h : DX B ta ρ O fun c O1 => ∃ i, c = .d (.int i) ∧ R (.d (.int (-i))) O1) : DX B (tUn (rU fun i => .int (-i)) ta) ρ O R := fun F H al σ Q b rp e q =>
  h F H al σ _ b rp e fun F1 H1 al1 O1 v c x1 r1 c1 ⟨i, ed, hk⟩ => by
    subst ed
    cases c1
    exact ⟨i, rfl, q _ _ _ _ _ (.d (.int (-i))) x1 r1 (DV.int _) hk⟩
/-- list(range(n)) -/
theorem dx_lstRg1 {ta : TE} (h : DX B ta ρ O fun c O1 => ∃ n : Nat, c = .d (.int n) ∧ n ≤ 16777216 ∧ R (.d (.list (rgD 0 n))) O1) : DX B (tLstRg (tRg1 ta)) ρ O R := fun F H al σ Q b rp e q =>
  h F H al σ _ b rp e fun F1 H1 al1 O1 v c x1 r1 c1 ⟨n, ed, hn, hk⟩ => by
    subst ed
    cases c1
    refine ⟨n, rfl, ⟨by omega, by omega, by omega, by omega, by omega⟩, ?_⟩
    have hr : DVs F1 (rgV 0 n) (rgD 0 n) := by
      have e1 : rgV 0 (n : Int) = ((List.range n).map fun i => (0 : Int) + (i : Nat)).map V.int := by unfold rgV; simp
      have e2 : rgD 0 n = ((List.range n).map fun i => (0 : Int) + (i : Nat)).map PyData.int := by unfold rgD; simp
      rw [e1, e2]
      exact DVs.of_ints _
    exact kx_lst r1 (q.step x1) hr (by rw [rgD_length, sizeLine_eq]; exact hn) hk
/-- the script's slice (the script is locked; it is told apart from data) -/
theorem d3_raw {a : Addr} {ns : List Int} {lo hi : Option Int} (hB : ∀ (F H : Hp) (al : List Addr), B.p F H al → Rep F H al O → SqL K H a (ns.map V.int)) (hl : ns.length ≤ sizeLine) (k : R (.d (.list (cutD (ns.map .int) lo hi))) O) : D3 B (DL.rSlX K) (.v (.ref a)) lo hi O R := fun F H al v Q b rp cx q => by
  have e : v = .ref a := cx
  subst e
  exact .inl ⟨a, _, rfl, hB F H al b rp, kx_lst rp q (dvs_cut (DVs.of_ints ns) lo hi) (Nat.le_trans (cutD_length _ _ _) (by rw [List.length_map]; exact hl)) k⟩
end
/-- a law's body: the script stands at a -/
theorem law_of {K : PySem.W.Frag} {t : TS} {N : List Str} {a : Addr} {ns : List Int} {H : Hp} {Q : VK} (hS : SqL K H a (ns.map V.int))
    (h : ∀ B : Bs, (∀ (F H : Hp) (al : List Addr) (O : Ow), B.p F H al → Rep F H al O → SqL K H a (ns.map V.int)) → DS B t (startE N [.v (.ref a)]) [] { nx := fun _ _ => False, rt := fun c _ => c = .d (.bool true) }) (hQ : ∀ H', Q (.bl true) H') : t { nx := fun _ H' => Q .non H', rt := Q } (L2.start N [.ref a]) H := by
  refine h (Bs.from H H []) (fun F1 H1 al O b rp => Same.seq (b.sub.trans rp.sub) hS) H H [] _ _ (Ext.refl _ _ _) ⟨Same.refl _, List.nodup_nil, rfl, fun _ m => (nomatch m), fun k b e => by simp at e⟩ (enr_start (.cons rfl .nil)) ⟨fun _ _ _ _ _ _ _ _ _ w => w.elim, fun F' H' al' O' v c x r cr e => ?_, fun _ _ _ _ _ _ _ _ _ w => w.elim, fun _ _ _ _ _ _ _ _ _ w => w.elim⟩
  subst e
  cases cr
  exact hQ H'
end DL
/-! DL, part h: comprehensions of two clauses; the common forms of the walks. -/
namespace DL
open PySem L2 PySem.Spec
set_option autoImplicit false
/-- a list that grows at p, beside all cells -/
def Gw (F1 H1 : Hp) (al1 : List Addr) (p : Addr) (F H : Hp) (al : List Addr) (O : Ow) (acc : List D) : Prop :=
  Ext F1 H1 al1 F H al ∧ Rep F H al O ∧ F p = none ∧ p ∉ al ∧ ∃ accV, H p = some (.lst accV) ∧ DVs F accV acc
section
variable {B : Bs} {ρ : En} {O : Ow} {R : RX} {A : AE} {F1 H1 F H : Hp} {al1 al : List Addr} {p : Addr} {acc : List D}
theorem Gw.start (rp : Rep F1 H1 al1 O) (hp : H1 p = none) : Gw F1 H1 al1 p F1 (upd H1 p (.lst [])) al1 O [] :=
  ⟨⟨Same.refl _, ⟨[], by simp⟩, fun a o q _ => by rw [upd_ne (ne_of_none q hp)]; exact q, fun _ _ z => z, fun _ _ _ z => z⟩, rp.beside hp, rp.freeF hp, rp.fresh hp, [], upd_same, .nil⟩
theorem Gw.go (g : Gw F1 H1 al1 p F H al O acc) {F' H' : Hp} {al' : List Addr} {O' : Ow} (x : Ext F H al F' H' al') (rp : Rep F' H' al' O') : Gw F1 H1 al1 p F' H' al' O' acc := by
  obtain ⟨x0, r0, hF, hal, accV, hH, dv⟩ := g
  exact ⟨x0.trans x, rp, x.noF p (ne_none_of hH) hal hF, x.out p (ne_none_of hH) hal, accV, x.keep p _ hH hal, dv.mono x.sub⟩
theorem Gw.put (g : Gw F1 H1 al1 p F H al O acc) (hp : H1 p = none) {y : V} {d : D} (h : DV F y d) : ∃ accV, H p = some (.lst accV) ∧ accV.length = acc.length ∧ Gw F1 H1 al1 p F (upd H p (.lst (accV ++ [y]))) al O (acc ++ [d]) := by
  obtain ⟨x0, r0, hF, hal, accV, hH, dv⟩ := g
  exact ⟨accV, hH, dv.length, ⟨x0.sub, x0.grow, fun a o q m => by rw [upd_ne (ne_of_none q hp)]; exact x0.keep a o q m, x0.out, x0.noF⟩, r0.poke hal hF, hF, hal, accV ++ [y], upd_same, dv.append (.cons h .nil)⟩
theorem Gw.fin (g : Gw F1 H1 al1 p F H al O acc) (hp : H1 p = none) (hl : acc.length ≤ sizeLine) {R : RX} {Q : VK} (k : Kx F1 H1 al1 R Q) (h : R (.d (.list acc)) O) : Q (.ref p) H := by
  obtain ⟨x0, r0, hF, hal, accV, hH, dv⟩ := g
  refine k (upd F p (.lst accV)) H al O (.ref p) (.d (.list acc)) ⟨fun a o q => ?_, x0.grow, x0.keep, x0.out, fun a q m n => ?_⟩ (r0.freeze hal hF hH) (DV.lst upd_same hl (dv.mono (same_upd (Same.refl _) hF))) h
  · have : a ≠ p := fun z => by subst z; have := x0.sub a o q; rw [hF] at this; cases this
    rw [upd_ne this]; exact x0.sub a o q
  · have : a ≠ p := fun z => by subst z; exact q hp
    rw [upd_ne this]; exact x0.noF a q m n
theorem dx_lc2 {wi wi1 : TI} {g g1 : TG} {tt tt1 : TT} {te : TE} {vs vs1 : List Nat} (h : DI B wi ρ O fun ds O1 => ∃ I : Nat → List D → Ow → Prop, I 0 [] O1 ∧
      (∀ (i : Nat) (d : D) (acc : List D) (O2 : Ow), ds[i]? = some d → I i acc O2 → ∃ as, GD g d as ∧ (∀ p ∈ as, p.1 ∈ vs) ∧
        DT Bs.any tt (setsD (wipeE ρ vs) as) O2 fun b O3 => Cs b (DI Bs.any wi1 (setsD (wipeE ρ vs) as) O3 fun es O4 => ∃ I1 : Nat → List D → Ow → Prop, I1 0 acc O4 ∧
          (∀ (j : Nat) (e : D) (acc2 : List D) (O5 : Ow), es[j]? = some e → I1 j acc2 O5 → ∃ bs, GD g1 e bs ∧ (∀ p ∈ bs, p.1 ∈ vs1) ∧
            DT Bs.any tt1 (setsD (wipeE (setsD (wipeE ρ vs) as) vs1) bs) O5 fun b O6 => Cs b (DX Bs.any te (setsD (wipeE (setsD (wipeE ρ vs) as) vs1) bs) O6 fun c O7 => IsD c fun x => acc2.length < sizeLine ∧ I1 (j + 1) (acc2 ++ [x]) O7) (I1 (j + 1) acc2 O6)) ∧
          (∀ (acc2 : List D) (O5 : Ow), I1 es.length acc2 O5 → I (i + 1) acc2 O5)) (I (i + 1) acc O3)) ∧
      (∀ (acc : List D) (O2 : Ow), I ds.length acc O2 → acc.length ≤ sizeLine ∧ R (.d (.list acc)) O2)) : DX B (tLc2 wi g tt wi1 g1 tt1 te vs vs1) ρ O R := fun F H al σ Q b rp e k => by
  refine h F H al σ _ b rp e fun F1 H1 al1 O1 J ds x1 r1 w hlen ⟨I, i0, step, fin⟩ => ?_
  intro Dl hD
  have e1 := e.ext x1
  refine ⟨fun i m H' => m = ds.length - i ∧ i ≤ ds.length ∧ ∃ F' al' O' acc, Gw F1 H1 al1 Dl F' H' al' O' acc ∧ I i acc O', ⟨ds.length, by simp, Nat.zero_le _, F1, al1, O1, [], .start r1 hD, i0⟩, ?_⟩
  rintro i m H' ⟨rfl, hi, F', al', O', acc, gw, inv⟩
  by_cases hlt : i < ds.length
  · right
    refine ⟨w.go i H' hlt (gw.1.sub.trans gw.2.1.sub), fun H'' => i + 1 ≤ ds.length ∧ ∃ F' al' O' acc, Gw F1 H1 al1 Dl F' H'' al' O' acc ∧ I (i + 1) acc O', fun H'' q => ⟨ds.length - (i + 1), by omega, rfl, q⟩, fun x H3 hy => ?_⟩
    obtain ⟨F3, d, hd, s1, s2, s3, n3, dx⟩ := w.yld i F' H' x H3 hlt gw.1.sub gw.2.1.sub hy
    obtain ⟨r3, x3⟩ := gw.2.1.turn s1 s2 s3 n3
    have gw3 := gw.go x3 r3
    obtain ⟨as, hg, hvs, ht⟩ := step i d acc O' hd inv
    refine hg F3 H3 x _ _ s2 dx fun ws hw => ⟨wipe_sets σ vs ws (hw.mem hvs) _ (wipe_wipe σ vs), ?_⟩
    have e3 : EnR F3 al' (setsV (L2.wipe σ vs) ws) (setsD (wipeE ρ vs) as) := ((e1.ext gw3.1).wipe vs).sets hw
    refine ht F3 H3 al' _ _ trivial r3 e3 fun F4 H4 al4 O4 bb x4 r4 hb => ite_of (fun z => ?_) fun z => ⟨hlt, F4, al4, O4, acc, gw3.go x4 r4, hb.2 z⟩
    refine hb.1 z F4 H4 al4 _ _ trivial r4 (e3.ext x4) fun F5 H5 al5 O5 J1 es x5 r5 w1 hlen1 ⟨I1, i10, step1, fin1⟩ => ?_
    have gw5 := (gw3.go x4 r4).go x5 r5
    have e5 := (e3.ext x4).ext x5
    refine ⟨fun j m H' => m = es.length - j ∧ j ≤ es.length ∧ ∃ F' al' O' acc, Same F5 F' ∧ Gw F1 H1 al1 Dl F' H' al' O' acc ∧ I1 j acc O' ∧ EnR F' al' (setsV (L2.wipe σ vs) ws) (setsD (wipeE ρ vs) as), ⟨es.length, by simp, Nat.zero_le _, F5, al5, O5, acc, Same.refl _, gw5, i10, e5⟩, ?_⟩
    rintro j m2 H6 ⟨rfl, hj, F6, al6, O6, acc6, ss, gw6, inv6, e6⟩
    by_cases hlt1 : j < es.length
    · right
      refine ⟨w1.go j H6 hlt1 (ss.trans gw6.2.1.sub), fun H'' => j + 1 ≤ es.length ∧ ∃ F' al' O' acc, Same F5 F' ∧ Gw F1 H1 al1 Dl F' H'' al' O' acc ∧ I1 (j + 1) acc O' ∧ EnR F' al' (setsV (L2.wipe σ vs) ws) (setsD (wipeE ρ vs) as),
        fun H'' q => ⟨es.length - (j + 1), by omega, rfl, q⟩, fun x' H7 hy' => ?_⟩
      obtain ⟨F7, d', hd', t1, t2, t3, n7, dx'⟩ := w1.yld j F6 H6 x' H7 hlt1 ss gw6.2.1.sub hy'
      obtain ⟨r7, x7⟩ := gw6.2.1.turn t1 t2 t3 n7
      have gw7 := gw6.go x7 r7
      have e7 := e6.ext x7
      obtain ⟨bs, hg1, hvs1, ht1⟩ := step1 j d' acc6 O6 hd' inv6
      refine hg1 F7 H7 x' _ _ t2 dx' fun ws1 hw1 => ⟨wipe_sets _ vs1 ws1 (hw1.mem hvs1) _ (wipe_wipe _ vs1), ?_⟩
      have e8 := (e7.wipe vs1).sets hw1
      refine ht1 F7 H7 al6 _ _ trivial r7 e8 fun F9 H9 al9 O9 b9 x9 r9 hb9 => ite_of (fun z9 => ?_) fun z9 => ⟨hlt1, F9, al9, O9, acc6, (ss.trans t1).trans x9.sub, gw7.go x9 r9, hb9.2 z9, e7.ext x9⟩
      refine hb9.1 z9 F9 H9 al9 _ _ trivial r9 (e8.ext x9) fun Fa Ha ala Oa y c xa ra ca ⟨dd, ec, hla, inva⟩ => ?_
      subst ec
      obtain ⟨accV, q1, q2, q3⟩ := ((gw7.go x9 r9).go xa ra).put hD ca
      exact ⟨accV, q1, by rw [q2]; exact hla, hlt1, Fa, ala, Oa, acc6 ++ [dd], ((ss.trans t1).trans x9.sub).trans xa.sub, q3, inva, (e7.ext x9).ext xa⟩
    · left
      have hje : j = es.length := by omega
      subst hje
      exact ⟨w1.stop H6 (ss.trans gw6.2.1.sub), hlt, F6, al6, O6, acc6, gw6, fin1 acc6 O6 inv6⟩
  · left
    have hie : i = ds.length := by omega
    subst hie
    obtain ⟨hl, hR⟩ := fin acc O' inv
    exact ⟨w.stop H' (gw.1.sub.trans gw.2.1.sub), gw.fin hD hl (k.step x1) hR⟩
end
end DL
namespace DL
open PySem L2 PySem.Spec
section
variable {B : Bs} {ρ : En} {O : Ow} {R : RX} {A : AE}
/-- [te for g in wi], each element by a function of the item -/
theorem dx_lcMap {wi : TI} {g : TG} {te : TE} {vs : List Nat} (f : D → D) (h : DI B wi ρ O fun ds O1 => (∀ d ∈ ds, ∃ as, GD g d as ∧ (∀ p ∈ as, p.1 ∈ vs) ∧ DX Bs.any te (setsD (wipeE ρ vs) as) O1 fun c O2 => c = .d (f d) ∧ O2 = O1) ∧ R (.d (.list (ds.map f))) O1) : DX B (tLc wi g tYes te vs) ρ O R := by
  refine dx_lc fun F H al σ Rh b rp e q => h F H al σ Rh b rp e fun F' H' al' O' J ds x r w hl ⟨h1, h2⟩ => q F' H' al' O' J ds x r w hl ⟨fun i acc O2 => acc = (ds.take i).map f ∧ O2 = O', ⟨rfl, rfl⟩, fun i d acc O2 hd hi ⟨ha, ho⟩ => ?_, fun acc O2 _ ⟨ha, ho⟩ => ?_⟩
  · subst ha ho
    obtain ⟨as, g1, g2, g3⟩ := h1 d (List.mem_of_getElem? hd)
    refine ⟨as, g1, g2, dt_yes (Cs.t (dx_mono g3 fun c O' ⟨ec, eo⟩ => ?_))⟩
    subst ec eo
    refine isD ⟨?_, rfl⟩
    have e : ds.take (i + 1) = ds.take i ++ [d] := by
      rw [List.take_add_one, hd]; rfl
    rw [e, List.map_append]
    rfl
  · subst ha ho
    rw [List.take_length]
    exact h2
/-- [te for g in wi if tt] -/
theorem dx_lcFlt {wi : TI} {g : TG} {tt : TT} {te : TE} {vs : List Nat} (p : D → Bool) (f : D → D) (h : DI B wi ρ O fun ds O1 => (∀ d ∈ ds, ∃ as, GD g d as ∧ (∀ p ∈ as, p.1 ∈ vs) ∧ DT Bs.any tt (setsD (wipeE ρ vs) as) O1 fun b O2 => b = p d ∧ O2 = O1 ∧ (b = true → DX Bs.any te (setsD (wipeE ρ vs) as) O1 fun c O2 => c = .d (f d) ∧ O2 = O1)) ∧ R (.d (.list ((ds.filter p).map f))) O1) : DX B (tLc wi g tt te vs) ρ O R := by
  refine dx_lc fun F H al σ Rh b rp e q => h F H al σ Rh b rp e fun F' H' al' O' J ds x r w hl ⟨h1, h2⟩ => q F' H' al' O' J ds x r w hl ⟨fun i acc O2 => acc = ((ds.take i).filter p).map f ∧ O2 = O', ⟨rfl, rfl⟩, fun i d acc O2 hd hi ⟨ha, ho⟩ => ?_, fun acc O2 _ ⟨ha, ho⟩ => ?_⟩
  · subst ha ho
    obtain ⟨as, g1, g2, g3⟩ := h1 d (List.mem_of_getElem? hd)
    have e : ds.take (i + 1) = ds.take i ++ [d] := by
      rw [List.take_add_one, hd]; rfl
    refine ⟨as, g1, g2, dt_mono g3 fun b O' ⟨eb, eo, k⟩ => ?_⟩
    subst eo
    refine ⟨fun hb => dx_mono (k hb) fun c O' ⟨ec, eo⟩ => ?_, fun hb => ⟨?_, rfl⟩⟩
    · subst ec eo
      refine isD ⟨?_, rfl⟩
      rw [e, List.filter_append, List.map_append, List.filter_cons, ← eb, hb]
      rfl
    · rw [e, List.filter_append, List.map_append, List.filter_cons, ← eb, hb]
      simp
  · subst ha ho
    rw [List.take_length]
    exact h2
/-- all of bools that are all True, told by the items -/
theorem dc_allMap {K : PySem.W.Frag} {ds : List D} {p : D → Bool} (k : R (.d (.bool (ds.all p))) O) : DC B (rAll K) [.d (.list (ds.map fun d => .bool (p d)))] O R := by
  have e : ds.map (fun d => PyData.bool (p d)) = (ds.map p).map PyData.bool := by simp
  rw [e]
  refine dc_all Vw.d ?_
  have e2 : (ds.map p).all id = ds.all p := by rw [List.all_map]; rfl
  rw [e2]
  exact k
theorem dc_anyMap {K : PySem.W.Frag} {ds : List D} {p : D → Bool} (k : R (.d (.bool (ds.any p))) O) : DC B (rAny K) [.d (.list (ds.map fun d => .bool (p d)))] O R := by
  have e : ds.map (fun d => PyData.bool (p d)) = (ds.map p).map PyData.bool := by simp
  rw [e]
  refine dc_any Vw.d ?_
  have e2 : (ds.map p).any id = ds.any p := by rw [List.any_map]; rfl
  rw [e2]
  exact k
end
/-! ### equal data -/
theorem shaped_int (i : Int) : SeqAt.shaped (.int i) = true := by simp [SeqAt.shaped, PyData.canLay0, PyData.depth]
theorem shaped_str {x : Str} (h : PyData.strOk x = true) : SeqAt.shaped (.str x) = true := by simp [SeqAt.shaped, PyData.canLay0, PyData.depth, h]
def flatN : D → Bool
  | .none => true
  | .bool _ => true
  | .int _ => true
  | _ => false
theorem shaped_bool (x : Bool) : SeqAt.shaped (.bool x) = true := by simp [SeqAt.shaped, PyData.canLay0, PyData.depth]
theorem shaped_none : SeqAt.shaped .none = true := by simp [SeqAt.shaped, PyData.canLay0, PyData.depth]
theorem lay_flat : ∀ ds : List D, ds.all flatN = true → PyData.canLayAll0 ds = true ∧ PyData.depthAll ds = 0
  | [], _ => by simp [PyData.canLayAll0, PyData.depthAll]
  | d :: ds, h => by
    rw [List.all_cons, Bool.and_eq_true] at h
    obtain ⟨h1, h2⟩ := lay_flat ds h.2
    cases d <;> first | exact absurd h.1 Bool.false_ne_true | simp [PyData.canLayAll0, PyData.depthAll, PyData.canLay0, PyData.depth, h1, h2]
theorem shaped_list {ds : List D} (h : ds.all flatN = true) : SeqAt.shaped (.list ds) = true := by
  obtain ⟨h1, h2⟩ := lay_flat ds h
  simp [SeqAt.shaped, PyData.canLay0, PyData.depth, h1, h2]
theorem shaped_tuple {ds : List D} (h : ds.all flatN = true) : SeqAt.shaped (.tuple ds) = true := by
  obtain ⟨h1, h2⟩ := lay_flat ds h
  simp [SeqAt.shaped, PyData.canLay0, PyData.depth, h1, h2]
theorem flatN_ints (is : List Int) : (is.map PyData.int).all flatN = true := by rw [List.all_map, List.all_eq_true]; intro x _; rfl
theorem flatN_bools (is : List Bool) : (is.map PyData.bool).all flatN = true := by rw [List.all_map, List.all_eq_true]; intro x _; rfl
theorem flat_ints (is : List Int) : (is.map PyData.int).all flatD = true := by rw [List.all_map, List.all_eq_true]; intro x _; rfl
theorem flat_bools (is : List Bool) : (is.map PyData.bool).all flatD = true := by rw [List.all_map, List.all_eq_true]; intro x _; rfl
theorem flat_strs (is : List Str) : (is.map PyData.str).all flatD = true := by rw [List.all_map, List.all_eq_true]; intro x _; rfl
theorem eqvAll_ints : ∀ is js : List Int, PyData.eqvAll (is.map .int) (js.map .int) = decide (is = js)
  | [], [] => by simp [PyData.eqvAll]
  | [], j :: js => by simp [PyData.eqvAll]
  | i :: is, [] => by simp [PyData.eqvAll]
  | i :: is, j :: js => by
    simp only [List.map_cons, PyData.eqvAll, PyData.eqv, eqvAll_ints is js]
    by_cases h : i = j
    · subst h; simp
    · simp [h]
theorem eqv_ints (is js : List Int) : PyData.eqv (.list (is.map .int)) (.list (js.map .int)) = decide (is = js) := by
  rw [PyData.eqv]; exact eqvAll_ints is js
theorem eqv_int (i j : Int) : PyData.eqv (.int i) (.int j) = decide (i = j) := by
  rw [PyData.eqv]; by_cases h : i = j <;> simp [h]
theorem eqv_str (x y : Str) : PyData.eqv (.str x) (.str y) = decide (x = y) := by
  rw [PyData.eqv]; by_cases h : x = y <;> simp [h]
theorem eqv_bool (x y : Bool) : PyData.eqv (.bool x) (.bool y) = decide (x = y) := by
  rw [PyData.eqv]; cases x <;> cases y <;> rfl
end DL
namespace DL
open PySem L2 PySem.Spec
set_option autoImplicit false
section
variable {B : Bs} {ρ : En} {O : Ow} {R : RX}
theorem getElem?_take_succ {α : Type} {l : List α} {i : Nat} {x : α} (h : l[i]? = some x) : l.take (i + 1) = l.take i ++ [x] := by
  rw [List.take_add_one, h]; rfl
theorem flatMap_take_len {α β : Type} (f : α → List β) (l : List α) (i : Nat) : ((l.take i).flatMap f).length ≤ (l.flatMap f).length := by
  have e : l.flatMap f = (l.take i).flatMap f ++ (l.drop i).flatMap f := by
    rw [← List.flatMap_append, List.take_append_drop]
  rw [e, List.length_append]; omega
theorem dx_lc2Map {wi wi1 : TI} {g g1 : TG} {te : TE} {vs vs1 : List Nat} (es : D → List D) (f : D → D → D)
    (h : DI B wi ρ O fun ds O1 => (∀ d ∈ ds, ∃ as, GD g d as ∧ (∀ p ∈ as, p.1 ∈ vs) ∧
        DI Bs.any wi1 (setsD (wipeE ρ vs) as) O1 fun es' O2 => es' = es d ∧ O2 = O1 ∧
          ∀ e ∈ es d, ∃ bs, GD g1 e bs ∧ (∀ p ∈ bs, p.1 ∈ vs1) ∧
            DX Bs.any te (setsD (wipeE (setsD (wipeE ρ vs) as) vs1) bs) O1 fun c O3 => c = .d (f d e) ∧ O3 = O1) ∧
      (ds.flatMap fun d => (es d).map (f d)).length ≤ sizeLine ∧ R (.d (.list (ds.flatMap fun d => (es d).map (f d)))) O1) :
    DX B (tLc2 wi g tYes wi1 g1 tYes te vs vs1) ρ O R := by
  refine dx_lc2 ?_
  intro F H al σ Q b rp e q
  refine h F H al σ Q b rp e fun F1 H1 al1 O1 J ds x1 r1 w hlen ⟨hd, hl, hR⟩ => q F1 H1 al1 O1 J ds x1 r1 w hlen ?_
  refine ⟨fun i acc O2 => O2 = O1 ∧ acc = (ds.take i).flatMap fun d => (es d).map (f d), ⟨rfl, by simp⟩, fun i d acc O2 hi hI => ?_, fun acc O2 hI => ?_⟩
  · obtain ⟨rfl, rfl⟩ := hI
    obtain ⟨as, h1, h2, h3⟩ := hd d (List.mem_of_getElem? hi)
    refine ⟨as, h1, h2, dt_yes (Cs.t ?_)⟩
    intro F H al σ Q b rp e q
    refine h3 F H al σ Q b rp e fun F1 H1 al1 O4 J es' x1 r1 w hlen ⟨e1, e2, h4⟩ => q F1 H1 al1 O4 J es' x1 r1 w hlen ?_
    subst e1 e2
    have ht : (ds.take (i + 1)).flatMap (fun d => (es d).map (f d)) = (ds.take i).flatMap (fun d => (es d).map (f d)) ++ (es d).map (f d) := by
      rw [getElem?_take_succ hi, List.flatMap_append]; simp
    refine ⟨fun j acc2 O5 => O5 = O4 ∧ acc2 = (ds.take i).flatMap (fun d => (es d).map (f d)) ++ ((es d).take j).map (f d), ⟨rfl, by simp⟩, fun j e acc2 O5 hj hI => ?_, fun acc2 O5 hI => ?_⟩
    · obtain ⟨rfl, rfl⟩ := hI
      obtain ⟨bs, g1, g2, g3⟩ := h4 e (List.mem_of_getElem? hj)
      refine ⟨bs, g1, g2, dt_yes (Cs.t ?_)⟩
      intro F H al σ Q b rp e' q
      refine g3 F H al σ Q b rp e' fun F5 H5 al5 O7 v c x5 r5 c5 hc => ?_
      obtain ⟨rfl, rfl⟩ := hc
      refine q F5 H5 al5 _ v _ x5 r5 c5 ⟨_, rfl, ?_, rfl, ?_⟩
      · have := flatMap_take_len (fun d => (es d).map (f d)) ds (i + 1)
        rw [ht] at this
        have hj2 : j < (es d).length := (List.getElem?_eq_some_iff.mp hj).1
        simp only [List.length_append, List.length_map, List.length_take] at this ⊢
        omega
      · rw [getElem?_take_succ hj, List.map_append, List.append_assoc]; rfl
    · obtain ⟨rfl, rfl⟩ := hI
      refine ⟨rfl, ?_⟩
      rw [ht, List.take_length]
  · obtain ⟨rfl, rfl⟩ := hI
    rw [List.take_length]
    exact ⟨hl, hR⟩
end
section
variable {B : Bs} {O : Ow} {R : RX}
theorem len_and {ds : List D} {q : Prop} (h : ds.length ≤ 64) (k : q) : ds.length ≤ sizeLine ∧ q := ⟨Nat.le_trans h (by decide), k⟩
theorem join_le (sep : Str) (l : List Str) : (Txt.join sep l).length ≤ (l.map (·.length)).sum + l.length * sep.length := by
  show (Builtin.Str.glued sep l).length ≤ _
  rw [StrLaws.glued_eq_join]
  induction l with
  | nil => exact Nat.zero_le _
  | cons a r ih =>
    cases r with
    | nil => simp [Str.join]
    | cons b r =>
      have e : Str.join sep (a :: b :: r) = a ++ sep ++ Str.join sep (b :: r) := rfl
      rw [e, Str.length_append, Str.length_append, List.map_cons, List.sum_cons, List.length_cons, Nat.add_mul]
      omega
/-- the digits of a whole number -/
def strI (i : Int) : Str := toString i
theorem log_small {i : Int} (h : i.natAbs ≤ 1000000) : i.natAbs.log2 < 1920 := by
  by_cases z : i.natAbs = 0
  · rw [z]; decide
  · exact (Nat.log2_lt z).mpr (Nat.lt_of_le_of_lt h (by decide))
theorem dc_strI {x : Ce} {i : Int} (hx : x = .d (.int i)) (hi : i.natAbs ≤ 1000000) (k : R (.d (.str (strI i))) O) : DC B rStrI [x] O R :=
  dc_str hx (log_small hi) (int_text_fits (log_small hi)) k
/-- the size of a row of words -/
def wl (ws : List Str) : Nat := (ws.map (·.length)).sum + ws.length
theorem wl_app (a b : List Str) : wl (a ++ b) = wl a + wl b := by
  unfold wl; rw [List.map_append, List.sum_append, List.length_append]; omega
theorem wl_cons (a : Str) (b : List Str) : wl (a :: b) = a.length + 1 + wl b := by
  unfold wl; simp; omega
theorem wl_nil : wl [] = 0 := rfl
theorem wl_len (a : List Str) : a.length ≤ wl a := by unfold wl; omega
theorem wl_join {sep : Str} (h : sep.length ≤ 1) (l : List Str) : (Txt.join sep l).length ≤ wl l := by
  refine Nat.le_trans (join_le sep l) ?_
  unfold wl
  have := Nat.mul_le_mul_left l.length h
  omega
theorem wl_flat {α : Type} (f : α → List Str) (m : Nat) (l : List α) (h : ∀ a ∈ l, wl (f a) ≤ m) : wl (l.flatMap f) ≤ l.length * m := by
  induction l with
  | nil => simp [wl]
  | cons a r ih =>
    rw [List.flatMap_cons, wl_app, List.length_cons, Nat.add_mul]
    have := h a List.mem_cons_self
    have := ih fun b hb => h b (List.mem_cons_of_mem _ hb)
    omega
theorem wl_map {α : Type} (f : α → Str) (m : Nat) (l : List α) (h : ∀ a ∈ l, (f a).length ≤ m) : wl (l.map f) ≤ l.length * (m + 1) := by
  induction l with
  | nil => simp [wl]
  | cons a r ih =>
    rw [List.map_cons, wl_cons, List.length_cons, Nat.add_mul]
    have := h a List.mem_cons_self
    have := ih fun b hb => h b (List.mem_cons_of_mem _ hb)
    omega
theorem strI_len {i : Int} (h : i.natAbs ≤ 1000000) : (strI i).length ≤ 8 := by
  have := int_text_length_le10 (a := i) (k := 7) (by decide) (by omega)
  unfold strI
  exact Nat.le_trans (Nat.le_of_eq (PySem.ofString_length (toString i))) this
theorem dm_joinW {K : PySem.W.Frag} {x y : Ce} {a : Str} {ys : List Str} (hx : x = .d (.str a)) (hy : Vw O y (.list (ys.map .str))) (ha : a.length ≤ 1) (hl : wl ys ≤ 10000000) (k : R (.d (.str (Txt.join a ys))) O) : DM B (rJoin K) x [y] O R := by
  refine dm_join hx hy ?_ ?_ k
  · have := Nat.mul_le_mul_left ys.length ha
    unfold wl at hl
    omega
  · have := wl_join ha ys
    unfold sizeLine
    omega
theorem dm_joinE {K : PySem.W.Frag} {x y : Ce} {a : Str} {ds : List D} (ys : List Str) (hx : x = .d (.str a)) (hy : y = .d (.list ds)) (hd : ds = ys.map .str) (ha : a.length ≤ 1) (hl : wl ys ≤ 10000000) (k : R (.d (.str (Txt.join a ys))) O) : DM B (rJoin K) x [y] O R := by
  subst hd hy
  exact dm_joinW hx Vw.d ha hl k
theorem wl_mem {ws : List Str} {x : Str} (h : x ∈ ws) : x.length + 1 ≤ wl ws := by
  induction ws with
  | nil => cases h
  | cons a r ih =>
    rw [wl_cons]
    cases h with
    | head => omega
    | tail _ h => have := ih h; omega
/-- whole numbers with commas -/
def commasI (vs : List Int) : Str := if vs = [] then "-" else Txt.join "," (vs.map strI)
theorem commas_len {vs : List Int} (h : ∀ v ∈ vs, v.natAbs ≤ 1000000) : (commasI vs).length ≤ vs.length * 9 + 1 := by
  unfold commasI
  split
  · have : ("-" : Str).length = 1 := by decide
    omega
  · have h1 := wl_join (sep := ",") (by decide) (vs.map strI)
    have h2 := wl_map strI 8 vs fun a ha => strI_len (h a ha)
    omega
end
end DL
namespace DL
open PySem L2 PySem.Spec
set_option autoImplicit false
/-- the owned cells as a def has left them: as many, and no new object among them -/
structure Lk (O O1 : Ow) : Prop where
  len : O1.length = O.length
  ins : ∀ (k : Nat) (C : Addr) (fs : List (Str × Ce)), O1[k]? = some (some (.ins C fs)) → O[k]? = some (some (.ins C fs))
theorem Lk.refl (O : Ow) : Lk O O := ⟨rfl, fun _ _ _ h => h⟩
theorem Lk.trans {O O1 O2 : Ow} (x : Lk O O1) (y : Lk O1 O2) : Lk O O2 := ⟨y.len.trans x.len, fun k C fs h => x.ins k C fs (y.ins k C fs h)⟩
theorem Lk.lst {O : Ow} (j : Nat) (ds : List D) : Lk O (O.set j (some (.lst ds))) := ⟨List.length_set, fun k C fs h => by
  rw [List.getElem?_set] at h
  split at h
  · split at h <;> cases h
  · exact h⟩
theorem Lk.non {O : Ow} (j : Nat) : Lk O (O.set j none) := ⟨List.length_set, fun k C fs h => by
  rw [List.getElem?_set] at h
  split at h
  · split at h <;> cases h
  · exact h⟩
theorem ins_lt {F : Hp} {al : List Addr} {ws : List (Str × V)} {fs : List (Str × Ce)} (pr : Paired (fun (p : Str × V) (q : Str × Ce) => p.1 = q.1 ∧ CeR F al p.2 q.2) ws fs) : ∀ p ∈ fs, ∀ j, p.2 = .o j → j < al.length := by
  induction pr with
  | nil => intro p hp; cases hp
  | cons h t ih =>
    intro p hp j e
    cases hp with
    | head =>
      have h2 := h.2
      rw [e] at h2
      obtain ⟨a, ha, _⟩ := h2
      exact (List.getElem?_eq_some_iff.mp ha).1
    | tail _ hp => exact ih p hp j e
theorem ins_cut {F : Hp} {al be : List Addr} {ws : List (Str × V)} {fs : List (Str × Ce)} (pr : Paired (fun (p : Str × V) (q : Str × Ce) => p.1 = q.1 ∧ CeR F (al ++ be) p.2 q.2) ws fs) : (∀ p ∈ fs, ∀ j, p.2 = .o j → j < al.length) → Paired (fun (p : Str × V) (q : Str × Ce) => p.1 = q.1 ∧ CeR F al p.2 q.2) ws fs := by
  induction pr with
  | nil => exact fun _ => .nil
  | @cons p q' ps qs h t ih =>
    intro hin
    refine .cons ⟨h.1, ?_⟩ (ih fun p hp => hin p (List.mem_cons_of_mem _ hp))
    have h2 := h.2
    have h3 := hin q' List.mem_cons_self
    cases e : q'.2 with
    | d x => rw [e] at h2; exact h2
    | v x => rw [e] at h2; exact h2
    | e cls fs => rw [e] at h2; exact h2
    | o j =>
      rw [e] at h2
      obtain ⟨a, ha, hv⟩ := h2
      rw [List.getElem?_append_left (h3 j e)] at ha
      exact ⟨a, ha, hv⟩
theorem Rep.trim {F H F' H' : Hp} {al al' : List Addr} {O O1 T : Ow} (r0 : Rep F H al O) (x : Ext F H al F' H' al') (r : Rep F' H' al' (O1 ++ T)) (l : Lk O O1) : Ext F H al F' H' al ∧ Rep F' H' al O1 := by
  have hl : O1.length = al.length := by rw [l.len, r0.len]
  obtain ⟨be, hbe⟩ := x.grow
  subst hbe
  refine ⟨⟨x.sub, ⟨[], by simp⟩, x.keep, fun a _ h => h, x.noF⟩, ⟨r.sub, (List.nodup_append.mp r.nd).1, hl.symm, fun a ha => r.there a (List.mem_append_left _ ha), fun k b hk => ?_⟩⟩
  have hk1 : k < O1.length := (List.getElem?_eq_some_iff.mp hk).1
  obtain ⟨a, ha, hF, ho⟩ := r.own k b (by rw [List.getElem?_append_left hk1]; exact hk)
  rw [List.getElem?_append_left (by omega)] at ha
  refine ⟨a, ha, hF, ?_⟩
  cases b with
  | lst xs => exact ho
  | dk kvs => exact ho
  | ins C fs =>
    obtain ⟨dx, ws, q, pr⟩ := ho
    obtain ⟨a0, _, _, ho0⟩ := r0.own k _ (l.ins k C fs hk)
    obtain ⟨_, ws0, _, pr0⟩ := ho0
    exact ⟨dx, ws, q, ins_cut pr (ins_lt pr0)⟩
/-- what a def gives back when its own cells are left behind -/
def Tr (O : Ow) (R : RX) : RX := fun c O' => ∃ (d : D) (O1 T : Ow), c = .d d ∧ O' = O1 ++ T ∧ Lk O O1 ∧ R (.d d) O1
theorem Tr.here {O : Ow} {R : RX} {d : D} (h : R (.d d) O) : Tr O R (.d d) O := ⟨d, O, [], rfl, by simp, .refl O, h⟩
theorem Tr.app {O T : Ow} {R : RX} {d : D} (h : R (.d d) O) : Tr O R (.d d) (O ++ T) := ⟨d, O, T, rfl, rfl, .refl O, h⟩
theorem Tr.of {O O1 T O' : Ow} {R : RX} {d : D} (e : O' = O1 ++ T) (l : Lk O O1) (h : R (.d d) O1) : Tr O R (.d d) O' := ⟨d, O1, T, rfl, e, l, h⟩
section
variable {P : Program} {w : World} {K : PySem.W.Frag} {mg : Str → Option Value} {base : Heap}
theorem cl_ofT {x : Str} {st : Stmt} {N ps : List Str} {n k : Nat} {S : ASp} (Fd : Df K mg x st) (sc : FnScope N ps (defScope st)) (hp : ps.length = n)
    (hb : ∀ (dV kV doc pm : Value) (an : Option Addr) (cdv ct : Value) (us : List Value), dV = .none → us.length = ps.length → bindArgs (PySem.W.fnOf x x (defArgs st) (defBody st) (defScope st) dV kV doc pm an cdv ct) ⟨us, []⟩ = pure (ps.zip us))
    (q : ∀ (f : Addr) (cdv : Value) (A : Around) (outer : List Env) (s : Shared) (H : Hp) (E : XK) (B : Bs) (cs : List Ce) (O : Ow) (R : RX) (X : XP), Room k (A.deeper (PyProof.Rows.envOfC x (defScope st) s.heap.objs.size f cdv)) → EX B X E → cs.length = n → S cs O R X →
      ∃ t, PSs (cxOf CX0 P w K mg base N x (defScope st) f cdv A outer s H E).nox (defBody st) t ∧ DS B t (startE N cs) O { nx := fun _ O' => Tr O R (.d .none) O', rt := Tr O R }) : Cl P w K mg base x (k + 1) n S := by
  obtain ⟨f, fd, F, hm⟩ := Fd.ex
  refine ⟨f, fd, ps, F.ok sc (spA_len hp) fun cdv A outer s H vs Q E hr hs => ?_, hm, F.kp, ?_⟩
  · obtain ⟨hn, F0, al, O, cs, R, X, rp, cr, s1, kq, kx⟩ := hs
    obtain ⟨t, ht, hd⟩ := q f cdv A outer s H E (Bs.from F0 H al) cs O R X hr (fun F' H' al' O' cls d fs x r z w => kx F' H' al' O' cls d fs x r z w) (by rw [← cr.length, hn]) s1
    refine ⟨t, ht.nox, hd F0 H al _ _ (Ext.refl _ _ _) rp (enr_start cr) ⟨fun F' H' al' O' σ' ρ' x r e w => ?_, fun F' H' al' O' v c x r z w => ?_, fun F' H' al' O' σ' ρ' x r e w => w.elim, fun F' H' al' O' σ' ρ' x r e w => w.elim⟩⟩
    · obtain ⟨d, O1, T, e1, rfl, l, w⟩ := w
      cases e1
      obtain ⟨x1, r1⟩ := rp.trim x r l
      exact kq F' H' al O1 .non (.d .none) x1 r1 DV.non w
    · obtain ⟨d, O1, T, rfl, rfl, l, w⟩ := w
      obtain ⟨x1, r1⟩ := rp.trim x r l
      exact kq F' H' al O1 v (.d d) x1 r1 z w
  · obtain ⟨oc, od, dV, kV, doc, pm, an, cdv, ct, osl, rfl, lk, hcd, hD, _⟩ := F.ex
    have e : dV = .none := by
      rcases hD with ⟨_, e⟩ | ⟨h, _⟩
      · exact e
      · exact absurd rfl h
    exact .all fun us hl => hb dV kV doc pm an cdv ct us e hl
end
end DL
namespace DL
open PySem L2 PySem.Spec
section
variable {B : Bs} {ρ : En} {O : Ow} {R : RX}
/-- a row put together anew, owned -/
theorem d2_addLO {K : PySem.W.Frag} {x y : Ce} {as bs : List D} (hx : Vw O x (.list as)) (hy : Vw O y (.list bs)) (hl : as.length + bs.length ≤ sizeLine) (k : R (.o O.length) (O ++ [some (.lst (as ++ bs))])) : D2 B (rAddA K) x y O R := d2_or' (d2_or' (d2_or fun F H al v u Q b rp cx cy q => by
  obtain ⟨a, vs, rfl, h1, r1, l1⟩ := Vw.list rp cx hx
  obtain ⟨b', ws, rfl, h2, r2, l2⟩ := Vw.list rp cy hy
  refine ⟨a, b', vs, ws, rfl, rfl, h1, h2, by rw [r1.length, r2.length]; exact hl, fun p hp => ?_⟩
  refine q _ _ _ _ (.ref p) (.o O.length) (Ext.own_new hp) (rp.own_new hp (b := .lst (as ++ bs)) ⟨vs ++ ws, upd_same, r1.append r2⟩) ⟨p, ?_, rfl⟩ k
  rw [List.getElem?_append_right (by rw [rp.len]; exact Nat.le_refl _), rp.len]
  simp))
end
end DL
/-! DX, part a: a caught exception that outlives its suite -/
namespace DL
open PySem L2 PySem.Spec PyProof.Rows
set_option autoImplicit false
theorem exv_ok {P : Program} {w : World} {H : Hp} {h : Heap} {a : Addr} {cls : Value} {d : Option Addr} {oe : Obj} {vs : Array Value} (e : h.get? a = some oe) (z : Zc cls d oe) (hd : oe.data = .fields vs) : ObjOk P w H h a (ExV cls d a) :=
  ⟨⟨oe, e, z, vs, hd⟩, ⟨oe, e⟩, fun _ _ ⟨o, q, r⟩ k => ⟨o, k o q, r⟩⟩
theorem exv_at {P : Program} {w : World} {H : Hp} {h : Heap} {a : Addr} {cls : Value} {d : Option Addr} (hok : HOk P w H h) (e : H a = some (ExV cls d a)) : ∃ oe : Obj, h.get? a = some oe ∧ Zc cls d oe ∧ ∃ vs, oe.data = .fields vs := (hok a _ e).1
/-- what the clause asks when the exception is kept past it -/
def wHold (K : PySem.W.Frag) (c : Value) (i : Nat) (ts : Addr → Value → Option Addr → TS) (Wout : WX) (D : Ends) : WX := fun cls d σ H =>
  ∃ b, PySem.W.exmOne K cls c = some b ∧ (b = true → ∀ a, H a = none → ts a cls d { nx := fun σ' H' => D.nx (σ'.set i none) (upd H' a (ExV cls d a)), rt := D.rt, bk := fun σ' H' => D.bk (σ'.set i none) H', ct := fun σ' H' => D.ct (σ'.set i none) H' } (σ.set i (some (.ref a))) H) ∧
    (b = false → Wout cls d σ H)
section
variable {X : Cx} {pins : List (Addr × Obj)} {σ : L2.St} {H : Hp} {s : Shared}
/-- an untracked object that the entry did not know is tracked -/
theorem inv_track {a : Addr} {o : HO} (I : Inv X pins σ H s) (ha : H a = none) (nL : a ≠ X.env.locals) (h0 : X.s_0.heap.get? a = none) (hT : ∀ b xs, X.H_0 b = some (.tup xs) → b ≠ a) (hF : ∀ b ob u, X.H_0 b = some (.frz ob u) → b ≠ a) (hB : ∀ b ps, X.H_0 b = some (.tbl ps) → b ≠ a)
    (hc : ∀ x c, X.env.cells.lookup x = some c → c ≠ a) (hp : ∀ p ∈ X.pn ++ pins, p.1 ≠ a) (new : ObjOk X.prog X.w (upd H a o) s.heap a o) : Inv X pins σ (upd H a o) s :=
  ⟨I.ok, I.os, I.bare,
    ⟨I.base.keep, I.base.slot, fun b u q n x => by rw [upd_ne (fun z => by rw [z, h0] at q; cases q)]; exact I.base.free b u q n x, I.base.there, fun b xs q => by rw [upd_ne (hT b xs q)]; exact I.base.tups b xs q,
      fun b ob u q => by rw [upd_ne (hF b ob u q)]; exact I.base.frzs b ob u q, fun b ps q => by obtain ⟨m, e⟩ := I.base.tbls b ps q; exact ⟨m, by rw [upd_ne (hB b ps q)]; exact e⟩⟩,
    I.loc, I.cell, by rw [upd_ne (Ne.symm nL)]; exact I.free, fun x c e => by rw [upd_ne (hc x c e)]; exact I.freeC x c e,
    fun p hpp => by have := I.pin p hpp; exact ⟨this.1, by rw [upd_ne (hp p hpp)]; exact this.2.1, this.2.2⟩, HOk.laidN I.hok (fun _ _ q => q) ha new, I.len⟩
variable {x n : Str} {c : Value} {i : Nat} {body suite : List Stmt} {b₀ : Stmt} {np pos pos' : Pos} {tb : WX → TS} {ts : Addr → Value → Option Addr → TS} {Wout : WX}
theorem ps_try_hold (hx : X.ex = []) (hs : X.stack = X.env :: X.outer) (hf : X.env.frame = some X.env.locals) (hN : X.N.Nodup) (hi : X.N[i]? = some n) (hln : X.env.kindOf n = some .local) (hc : Names X x c) (tk : Takes X Wout)
    (hb : ∀ (W : WX) (pn : List (Addr × Obj)) (xe : Value → Shared → Prop), Takes (X.tr pn xe) W → PassesOwn (model X.prog X.w) X.A X.env xe → PSs (X.tr pn xe) body (tb W))
    (hsu : ∀ (a : Addr) (oe : Obj) (cls : Value) (d : Option Addr) (pn : List (Addr × Obj)), Zc cls d oe → (∃ vs, oe.data = .fields vs) → PSs (X.suite a ((a, oe) :: pn)) (b₀ :: suite) (ts a cls d)) :
    PS X (.Try body [.ExceptHandler (some (.Name x np)) (some n) (b₀ :: suite) pos'] [] [] pos) (fun D σ H => tb (wHold X.K c i ts Wout D) D σ H) := by
  refine ⟨fun pins s σ H D I h => ?_⟩
  have ok := I.ok
  have hfr : X.A.frames = some (X.env :: X.outer) := by rw [ok.frames, hs]
  have hloc : Loc X.env.scope n := .inl hln
  refine wpAny_Try_except ?_
  have body := (hb (wHold X.K c i ts Wout D) (X.pn ++ pins) (fun e s₁ => wpAny (model X.prog X.w) X.A (noteFrame e X.env) (fun _ s₂ => wpAny (model X.prog X.w) X.A (setFlight e none)
    (fun _ s₃ => wpAny (model X.prog X.w) X.A (handleBy e X.env [.ExceptHandler (some (.Name x np)) (some n) (b₀ :: suite) pos']) (SP X pins D) X.xe s₃) X.xe s₂) X.xe s₁) (fun u s' xx => ?_) PassesOwn.looking).run [] s σ H D (I.toTry _) h
  · refine wpAny_mono body (fun f s1 hsp => ?_) (fun e s1 he => he)
    cases f with
    | next => obtain ⟨σ', H', J', q⟩ := hsp; exact wpAny_execs_nil ⟨σ', H', J'.ofTry ok, q⟩
    | brk => obtain ⟨σ', H', J', q⟩ := hsp; exact ⟨σ', H', J'.ofTry ok, q⟩
    | cont => obtain ⟨σ', H', J', q⟩ := hsp; exact ⟨σ', H', J'.ofTry ok, q⟩
    | ret u => obtain ⟨v, σ', H', J', r, q⟩ := hsp; exact ⟨v, σ', H', J'.ofTry ok, r, q⟩
  · obtain ⟨a, B, sI, pins', σ', H', cls, d, rfl, J', nb, up, sky, na, os, ag, b, hb1, hyes, hno⟩ := xx
    have J : Inv X pins σ' H' sI := J'.ofTry ok
    have sky' : Sky B (X.env :: X.outer) a (Zc cls d) X.env.locals s'.heap := by rw [← hs]; exact sky
    show wpAny (model X.prog X.w) X.A (noteFrame (.ref a) X.env) _ _ _
    refine Sky.land Zc.steady hfr hf sky' fun h3 fl3 up3 => ?_
    have J3 : Inv X pins σ' H' { s' with heap := h3 } := J.landed nb fl3.1 (up.trans up3) os ag
    obtain ⟨oe3, vs3, he3, hz3, hd3⟩ := fl3.there
    have nfr : a ∉ frs (X.env :: X.outer) := fun hm => by
      obtain ⟨_, o', e', hnf⟩ := fl3.2.2.1.mem hm
      rw [he3] at e'; cases e'
      exact hnf _ hd3
    have aI : sI.heap.get? a = none := by
      cases q : sI.heap.get? a with
      | none => rfl
      | some o =>
        have z := nb a o q (by rw [hs]; exact nfr)
        rw [fl3.2.1] at z
        cases z
    have nL : a ≠ X.env.locals := fun z => nfr (List.mem_filterMap.mpr ⟨X.env, List.mem_cons_self, by rw [hf, z]⟩)
    have nF : a ∉ X.fs := fun hm => by
      obtain ⟨e, he, q⟩ := List.mem_filterMap.mp hm
      exact nfr (List.mem_filterMap.mpr ⟨e, List.mem_cons_of_mem _ he, q⟩)
    have S3 := J3.suite he3 hd3 na nL nF
    refine wpAny_handleBy_cons (codeAny_handlers_test ?_) (by intro q; cases q)
    have LT : PySem.W.Looks (model X.prog X.w) h3 (typeOf (.ref a)) cls := fun A Q E s k q => wpAny_typeOf_ref (k _ _ he3) (by rw [hz3.1]; exact q)
    have LM := PySem.W.exm_one (M := model X.prog X.w) (J3.kIn) LT hb1
    have test : ∀ {Q : Value → Shared → Prop} {E : Value → Shared → Prop}, Q c { s' with heap := h3 } → wpAny (model X.prog X.w) (X.A.mark (some (.ref a))) (eval (.Name x np) X.env) Q E { s' with heap := h3 } := fun {Q E} q => by
      obtain ⟨hg, hdbg, hm | ⟨hm, hv, hnn⟩⟩ := hc
      · exact ld_glob (X := X.suite a ((a, oe3) :: (X.pn ++ pins))) S3 hg hm q hdbg
      · exact ld_blt (X := X.suite a ((a, oe3) :: (X.pn ++ pins))) S3 hg hm hv q hnn hdbg
    refine test (LM.here ?_)
    cases b with
    | true =>
      refine codeAny_handlers_suite_as ?_
      refine HandSPX.lands_againZ fl3 fun h4 fl4 up4 => ?_
      have J4 : Inv X pins σ' H' { s' with heap := h4 } := J.landed nb fl4.1 ((up.trans up3).trans up4) os ag
      obtain ⟨oe4, vs4, he4, hz4, hd4⟩ := fl4.there
      have S4 := J4.suite he4 hd4 na nL nF
      refine store_ok (X := X.suite a ((a, oe4) :: (X.pn ++ pins))) (v := .ref a) S4 hN hi hloc rfl (fun s5 S5 => ?_) (.inr hln)
      refine wpAny_mono ((hsu a oe4 cls d (X.pn ++ pins) hz4 ⟨_, hd4⟩).run [] s5 _ H' _ S5 (hyes rfl a na)) (fun f s6 hsp => ?_) (fun _ _ z => False.elim z)
      have end_ : ∀ {σ6 : L2.St} {H6 : Hp} {Q : Shared → Prop}, Inv (X.suite a ((a, oe4) :: (X.pn ++ pins))) [] σ6 H6 s6 → (∀ s7, Inv X pins (σ6.set i none) H6 s7 → Inv X pins (σ6.set i none) (upd H6 a (ExV cls d a)) s7 → Q s7) →
          wpAny (model X.prog X.w) X.A (do bindName X.env n .none; unbindBehindTheSuite X.env n pos') (fun _ s7 => Q s7) X.xe s6 := fun {σ6 H6 Q} S6 hq => gone_ok (X := X.suite a ((a, oe4) :: (X.pn ++ pins))) S6 hN hi hln fun s7 S7 => by
        have J7 := S7.unsuite ok
        obtain ⟨p1, p2, _⟩ := S7.pin (a, oe4) (List.mem_append_left _ List.mem_cons_self)
        have not0 : ∀ b, (∃ o, X.s_0.heap.get? b = some o) → b ∉ X.ex → b ≠ a := fun b ⟨o, q⟩ hx z => by
          obtain ⟨o', q'⟩ := J.base.there b o q hx
          rw [z, aI] at q'
          cases q'
        refine hq s7 J7 (inv_track J7 p2 nL ?_ (fun b xs q z => ?_) (fun b ob u q z => ?_) (fun b ps q z => ?_) (fun x c q z => ?_) (fun p hp z => ?_) (exv_ok p1 hz4 hd4))
        · cases q : X.s_0.heap.get? a with
          | none => rfl
          | some o => exact absurd rfl (not0 a ⟨o, q⟩ (by rw [hx]; simp))
        · have e := J.base.tups b xs q
          rw [z, na] at e; cases e
        · have e := J.base.frzs b ob u q
          rw [z, na] at e; cases e
        · obtain ⟨m, e⟩ := J.base.tbls b ps q
          rw [z, na] at e; cases e
        · obtain ⟨v, ⟨o, e, _⟩⟩ := J.cell x c q
          rw [z, aI] at e; cases e
        · have e := (J.pin p hp).1
          rw [z, aI] at e; cases e
      cases f with
      | next => obtain ⟨σ6, H6, S6, q6⟩ := hsp; exact end_ S6 fun s7 J7 T7 => ⟨_, _, T7, q6⟩
      | brk => obtain ⟨σ6, H6, S6, q6⟩ := hsp; exact end_ S6 fun s7 J7 T7 => ⟨_, _, J7, q6⟩
      | cont => obtain ⟨σ6, H6, S6, q6⟩ := hsp; exact end_ S6 fun s7 J7 T7 => ⟨_, _, J7, q6⟩
      | ret u => obtain ⟨v6, σ6, H6, S6, r6, q6⟩ := hsp; exact end_ S6 fun s7 J7 T7 => ⟨_, _, _, J7, r6, q6⟩
    | false =>
      show wpAny _ X.A (handleBy (.ref a) X.env []) _ _ _
      refine wpAny_handleBy_nil ?_
      obtain ⟨k1, k2, k3, oe, vs, T, oT, ts', he, hz, hd, h1, hr⟩ := id fl3
      unfold PySem.passOn
      refine wpAny_bind (wpAny_field he hd h1 ?_)
      rw [if_neg (show ¬ ((Value.ref T == Value.none) = true) from by simp)]
      have fin : wpAny (model X.prog X.w) X.A (setFlight (.ref a) X.env.frame) (fun _ s4 => wpAny (model X.prog X.w) X.A (throw (.ref a) : Sem Flow) (SP X pins D) X.xe s4) X.xe { s' with heap := h3 } := by
        rw [hf]
        refine HandSPX.setFlight_upZ fl3 fun h4 hh4 up4 => wpAny_throw (tk _ _ ?_)
        exact ⟨a, B, sI, pins, σ', H', cls, d, rfl, J, nb, (up.trans up3).trans up4, .inr (.inr (by rw [hs]; exact hh4)), na, os, ag, hno rfl⟩
      first
        | exact wpAny_bind (wpAny_pure (wpAny_bind fin))
        | exact wpAny_bind fin
end
end DL
/-! DX, part b: what may be asked of a kept exception -/
namespace DL
open PySem L2 PySem.Spec
set_option autoImplicit false
/-- what an own exception class must have -/
structure XcK (K : PySem.W.Frag) (C : Addr) : Prop where
  hcl : (PySem.W.clsIn K C).isSome = true
  ga : PySem.W.findIn K (.ref C) "__getattribute__" = some (some (.builtin "BaseException.__getattribute__"))
  gt : PySem.W.findIn K (.ref C) "__getattr__" = some none
  sub : PySem.W.subIn K (.ref C) (.type "BaseException") = some true
  cl : PySem.W.findIn K (.ref C) "__class__" = some (some (.builtin "object.__class__"))
  sp : PySem.W.specialIn K (.builtin "object.__class__") "__get__" = some (some (.builtin "getset_descriptor.__get__"))
  tk : PySem.W.takesIn K (.builtin "object.__class__") = some true
  mr : PySem.W.mroIn K C (.type "object") = some true
  hd : PySem.W.hasDictIn K C = true
def xcB (K : PySem.W.Frag) (C : Addr) : Bool :=
  (PySem.W.clsIn K C).isSome && (decide (PySem.W.findIn K (.ref C) "__getattribute__" = some (some (.builtin "BaseException.__getattribute__"))) && (decide (PySem.W.findIn K (.ref C) "__getattr__" = some none) && (decide (PySem.W.subIn K (.ref C) (.type "BaseException") = some true) &&
    (decide (PySem.W.findIn K (.ref C) "__class__" = some (some (.builtin "object.__class__"))) && (decide (PySem.W.specialIn K (.builtin "object.__class__") "__get__" = some (some (.builtin "getset_descriptor.__get__"))) && (decide (PySem.W.takesIn K (.builtin "object.__class__") = some true) &&
      (decide (PySem.W.mroIn K C (.type "object") = some true) && PySem.W.hasDictIn K C)))))))
theorem xcB_ok {K : PySem.W.Frag} {C : Addr} (h : xcB K C = true) : XcK K C := by
  unfold xcB at h
  simp only [Bool.and_eq_true, decide_eq_true_eq] at h
  obtain ⟨h1, h2, h3, h4, h5, h6, h7, h8, h9⟩ := h
  exact ⟨h1, h2, h3, h4, h5, h6, h7, h8, h9⟩
/-- the exception's own dict, if it has one -/
def XdH (H : Hp) (d : Option Addr) : Prop := d = none ∨ ∃ (a : Addr) (ws : List (Str × V)), d = some a ∧ H a = some (.xd ws)
/-- isinstance of a kept exception -/
def rIsX (K : PySem.W.Frag) : List V → Hp → VK → Prop := fun xs H Q => ∃ (a C : Addr) (d : Option Addr) (c : V) (b : Bool), xs = [.ref a, c] ∧ H a = some (ExV (.ref C) d a) ∧ XdH H d ∧ XcK K C ∧ (∀ u, RelV c u → PySem.W.kitOne K (.ref C) u = some b) ∧ Q (.bl b) H
theorem inst_exv {P : Program} {w : World} {H : Hp} {h : Heap} {a C : Addr} {d : Option Addr} (hok : HOk P w H h) (e : H a = some (ExV (.ref C) d a)) (hd : XdH H d) : ∃ (ox : Obj) (od : Option Obj), PySem.W.InstAt h a ox C od := by
  obtain ⟨oe, h1, h2, vs, h3⟩ := exv_at hok e
  rcases hd with rfl | ⟨dd, ws, rfl, hx⟩
  · exact ⟨oe, none, h1, h2.1, by unfold PySem.W.notCls; rw [h3] <;> rfl, by rw [h2.2]; trivial⟩
  · obtain ⟨mA, hns, hr⟩ : ObjOk P w H h dd (.xd ws) := hok dd _ hx
    obtain ⟨od, ho, hl⟩ := lookIn_ns hns
    exact ⟨oe, some od, h1, h2.1, by unfold PySem.W.notCls; rw [h3] <;> rfl, by rw [h2.2]; exact ho⟩
theorem call_isX {X : Cx} : CallR X (.builtin "isinstance") (rIsX X.K) := by
  intro pins s σ H xs us Q I r h
  obtain ⟨a, C, d, c, b, rfl, ha, hd, T, hk, q⟩ := h
  obtain ⟨u1, u2, rfl, r1, r2⟩ := vals2 r
  obtain rfl : u1 = Value.ref a := r1
  obtain ⟨ox, od, J⟩ := inst_exv I.hok ha hd
  exact PySem.W.kia_one (PySem.W.kitx_exc T.hcl T.ga T.gt T.sub T.cl T.sp T.tk T.mr) I.kIn J (hk u2 r2) (by simp) fun tk => ⟨.bl b, H, I.tok tk, rfl, q⟩
/-- a field of a kept exception -/
def tXv (K : PySem.W.Frag) (f : Str) (te : TE) : TE := fun σ H Q => te σ H fun x H1 => ∃ (a C dd : Addr) (fs : List (Str × V)) (v : V), x = .ref a ∧ H1 a = some (ExV (.ref C) (some dd) a) ∧ H1 dd = some (.xd fs) ∧ XcK K C ∧ PySem.W.findIn K (.ref C) f = some none ∧ fs.lookup f = some v ∧ Q v H1
theorem pe_xv {X : Cx} {e : Expr} {te : TE} {pos : Pos} {n : Str} (he : PE X e te) (hb : attributeBase e n X.env (eval e X.env) = eval e X.env := by rfl) : PE X (.Attribute e n pos) (tXv X.K n te) := by
  refine ⟨fun pins s σ H Q I h => ?_⟩
  refine attr_of hb (thn (he.run pins s σ H _ I h) fun u s1 hh => ?_)
  obtain ⟨x, H1, I1, rx, a, C, dd, fs, v, ex, ea, ed, T, hno, l, q⟩ := hh
  subst ex
  obtain rfl : u = Value.ref a := rx
  obtain ⟨oe, h1, h2, vs, h3⟩ := exv_at I1.hok ea
  obtain ⟨mA, hns, hr⟩ : ObjOk X.prog X.w H1 s1.heap dd (.xd fs) := I1.hok dd _ ed
  obtain ⟨od, ho, hl⟩ := lookIn_ns hns
  obtain ⟨u, hu, ru⟩ := RelO.some_of (v := v) (o := mA n) (by rw [← l]; exact hr n)
  have J : PySem.W.InstAt s1.heap a oe C (some od) := ⟨h1, h2.1, by unfold PySem.W.notCls; rw [h3] <;> rfl, by rw [h2.2]; exact ho⟩
  exact HandSPX.exc_get I1.kIn J T.ga T.gt T.sub (PySem.W.findObj_own T.hd hno rfl (by rw [hl, hu])) (handed_of ru) ⟨v, H1, I1.tok _, ru, q⟩
theorem method_own {prog : Program} {w : World} {A : Around} {E : Value → Shared → Prop} {s : Shared} {K : PySem.W.Frag} {B : Addr} {name : Str} {v : Value} {pl : Sem Bool} {Q : Value × List Value → Shared → Prop} (X : K.In s.heap) (tB : PySem.W.typeIn K (.ref B) = some (.type "type"))
    (hop : PySem.W.nsIn K cStatics "thirdparty.any" = some none) (e : PySem.W.findCls K (.ref B) (.type "type") name = some (.val v)) (hh : PySem.W.handedIn v = true) (h : Q (v, []) { s with toks := s.toks + 1 }) : wpAny (model prog w) A (getMethod (.ref B) name pl) Q E s := by
  have tL : PySem.W.Looks (model prog w) s.heap (typeOf (.ref B)) (.type "type") := PySem.W.looks_typeIn X tB
  have gL : PySem.W.findIn K (.type "type") "__getattribute__" = some (some (.builtin "type.__getattribute__")) := PySem.W.type_tga
  unfold getMethod specialOf
  refine wpAny_bind (wpAny_bind (tL.here ((PySem.W.looks_findIn X gL).here ?_)))
  dsimp only
  rw [if_pos PySem.W.canon_tga]
  refine wpAny_bind (wpAny_mono (Q := fun v => Q (v, [])) (E := E) ?_ (fun _ _ z => wpAny_pure z) fun _ _ z => z)
  exact PySem.W.cls_open X (PySem.W.looks_opaque X hop) tL gL (PySem.W.looks_hook X (r := none) (by rfl)) (by show PySem.W.subIn K _ _ = _; rfl) e (wpAny_pure (by show wpAny _ _ (handedOut v) _ _ _; rw [PySem.W.handedOut_of hh]; exact wpAny_pure h))
/-- Own.__init__(self, ..) of an own class that leaves it to ValueError -/
theorem pe_oinit {X : Cx} {e : Expr} {es : List Expr} {ta : TA} {x : Str} {B : Addr} {p1 p2 pos : Pos} {pl : Sem Bool} (hg : Gl X x) (hm : X.mg x = some (.ref B)) (hdb : (x == ("__debug__" : Str)) = false)
    (tB : PySem.W.typeIn X.K (.ref B) = some (.type "type")) (hop : PySem.W.nsIn X.K cStatics "thirdparty.any" = some none) (vV : PySem.W.findCls X.K (.ref B) (.type "type") "__init__" = some (.val (.builtin "ValueError.__init__"))) (ha : PA X (e :: es) ta)
    (hc : eval (.Call (.Attribute (.Name x p1) "__init__" p2) (e :: es) [] pos) X.env = (do
      let ov ← eval (.Name x p1) X.env
      standAt p2.atName
      let (f, first) ← holding [ov] (getMethod ov "__init__" pl)
      callWith pos f first (backTo pos (starEach (e :: es) X.env)) (backToKw pos (keywordEach [] X.env))) := by rfl)
    (he : starEach (e :: es) X.env = (false, eval e X.env) :: starEach es X.env := by rfl) (hpl : (backTo pos (starEach es X.env)).any (·.1) = false := by rfl) :
    PE X (.Call (.Attribute (.Name x p1) "__init__" p2) (e :: es) [] pos) (tVeI X.K ta) := by
  refine ⟨fun pins s σ H Q I h => ?_⟩
  refine PySem.W.methodCall_KW (ld_glob I hg hm ?_ hdb) hc
  refine method_own I.kIn tB hop vV (by decide +kernel) ?_
  show wpAny _ _ (callWith pos (Value.builtin "ValueError.__init__") [] (backTo pos (starEach (e :: es) X.env)) []) _ _ _
  refine PyProof.Rows.callWith_method1 (thn (ha.run pos pins _ σ H _ (I.tok _) h) fun us s1 ⟨vs, H1, I1, r1, a, C, ws, ev, hl, T, ea, q⟩ => ?_) he hpl
  subst ev
  cases r1 with
  | @cons _ u0 _ ur ra rw' =>
    obtain rfl : u0 = Value.ref a := ra
    exact oinit_ok T I1 ea (by rw [← Paired.length rw', sizeLine_eq]; omega) fun s' J => ⟨.non, H1, J, rfl, q⟩
end DL
/-! DX, part c: raising, catching, over plain data -/
namespace DL
open PySem L2 PySem.Spec
set_option autoImplicit false
section
variable {B : Bs} {ρ : En} {O : Ow} {R : RX} {A : AE} {K : PySem.W.Frag}
/-- where an exception goes at these slots -/
def EXs (B : Bs) (ρ : En) (X : XP) (W : WX) : Prop := ∀ (F H : Hp) (al : List Addr) (O : Ow) (σ : L2.St) (cls : Value) (d : Option Addr) (fs : List (Str × D)), B.p F H al → Rep F H al O → EnR F al σ ρ → XdF F d fs → X cls fs O → W cls d σ H
theorem exs_of {X : XP} {E : XK} (h : EX B X E) : EXs B ρ X fun cls d _ H => E cls d H := fun F H al O σ cls d fs b r _ x z => h F H al O cls d fs b r x z
theorem dx_callS {n : Nat} {S : ASp} {X : XP} {W : WX} {t : TA} (hE : EXs B ρ X W) (h : DA B t ρ O fun cs O1 => cs.length = n ∧ S cs O1 R X) : DX B (tCallS (spA n S) (WE W) t) ρ O R := fun F H al σ Q b rp e q =>
  h F H al σ _ b rp e fun F1 H1 al1 O1 vs cs x1 r1 c1 ⟨hn, hs⟩ =>
    ⟨by rw [c1.length, hn], F1, al1, O1, cs, R, X, r1, c1, hs, q.step x1, fun F' H' al' O' cls d fs x r z w => hE F' H' al' O' σ cls d fs (B.cl (B.cl b x1) x) r ((e.ext x1).ext x) z w⟩
/-- raise C('..') -/
def tRz (C : Addr) (W : WX) : TS := fun _ σ H => W (.ref C) none σ H
theorem ds_rz {C : Addr} {X : XP} {W : WX} (hE : EXs B ρ X W) (h : X (.ref C) [] O) : DS B (tRz C W) ρ O A := fun F H al σ D b rp e k => hE F H al O σ _ none [] b rp e (.inl ⟨rfl, rfl⟩) h
/-- what an own __init__ of the shape Base.__init__(self, ..); self.f = e keeps -/
def spInit (K : PySem.W.Frag) (f : Str) : Sp := fun vs H Q _ => ∃ (a C : Addr) (p : V), vs = [.ref a, p] ∧ OexC K C ∧ PySem.W.findIn K (.ref C) f = some none ∧ H a = some (exo a C none) ∧ ∀ dx, H dx = none → dx ≠ a → Q .non (upd (upd H dx (exd dx [(f, p)])) a (exo a C (some dx)))
/-- raise C(e) of such a class -/
def tRx (K : PySem.W.Frag) (C : Addr) (f : Str) (W : WX) (ta : TA) : TS := fun _ σ H => tMkO C (spInit K f) [] ta σ H fun cls d H' => W cls d σ H'
theorem ds_rx {C : Addr} {f : Str} {X : XP} {W : WX} {ta : TA} (hE : EXs B ρ X W) (T : OexC K C) (no : PySem.W.findIn K (.ref C) f = some none) (h : DA B ta ρ O fun cs O1 => ∃ d, cs = [.d d] ∧ X (.ref C) [(f, d)] O1) : DS B (tRx K C f W ta) ρ O A := fun F H al σ D b rp e k =>
  h F H al σ _ b rp e fun F1 H1 al1 O1 vs cs x1 r1 c1 ⟨d, ec, hx⟩ => by
    subst ec
    obtain ⟨v, rfl, cv⟩ := cers1 c1
    refine ⟨by simp, fun a ha => ⟨a, C, v, rfl, T, no, upd_same, fun dx hdx hne => ⟨rfl, dx, [(f, v)], upd_same, by rw [upd_ne hne, upd_same], by rw [upd_ne hne] at hdx; exact hdx, ?_⟩⟩⟩
    have hd : H1 dx = none := by rw [upd_ne hne] at hdx; exact hdx
    have eH : upd (del (upd (upd (upd H1 a (exo a C none)) dx (exd dx [(f, v)])) a (exo a C (some dx))) a) dx (.xd [(f, v)]) = upd H1 dx (.xd [(f, v)]) := by
      funext b
      by_cases h1 : b = dx
      · rw [h1, upd_same, upd_same]
      · rw [upd_ne h1, upd_ne h1]
        by_cases h2 : b = a
        · rw [h2, del_same, ha]
        · rw [del_ne h2, upd_ne h2, upd_ne h1, upd_ne h2]
    rw [eH]
    have x2 : Ext F1 H1 al1 (upd F1 dx (.xd [(f, v)])) (upd H1 dx (.xd [(f, v)])) al1 := Ext.laid r1 hd
    exact hE _ _ al1 O1 σ _ (some dx) [(f, d)] (B.cl (B.cl b x1) x2) (r1.laid hd) ((e.ext x1).ext x2) (.inr ⟨dx, _, rfl, upd_same, .cons ⟨rfl, DV.mono x2.sub cv⟩ .nil⟩) hx
/-- try: a call / except C as e: m = e -/
def tTryH (K : PySem.W.Frag) (c : Value) (i m : Nat) (tb : WX → TS) (Wout : WX) : TS := fun D σ H => tb (wHold K c i (fun _ _ _ => tAsg (tVar i) (gName m)) Wout D) D σ H
theorem ds_tryH {n i m : Nat} {c : Value} {S : ASp} {X : XP} {Wout : WX} {t : TA} (hm : m ≠ i) (hi : i < ρ.length) (hml : m < ρ.length) (h : DA B t ρ O fun cs O1 => cs.length = n ∧ S cs O1 (fun _ O2 => A.nx ρ O2) X)
    (hX : ∀ (cls : Value) (fs : List (Str × D)) (O' : Ow), X cls fs O' → PySem.W.exmOne K cls c = some true ∧ A.nx ((ρ.set m (some (.e cls fs))).set i none) O') : DS B (tTryH K c i m (fun W => tDrop (tCallS (spA n S) (WE W) t)) Wout) ρ O A := fun F H al σ D b rp e k => by
  refine h F H al σ _ b rp e fun F1 H1 al1 O1 vs cs x1 r1 c1 ⟨hn, hs⟩ => ?_
  refine ⟨by rw [c1.length, hn], F1, al1, O1, cs, _, X, r1, c1, hs, fun F2 H2 al2 O2 v x x2 r2 c2 w => k.nx F2 H2 al2 O2 σ ρ (x1.trans x2) r2 ((e.ext x1).ext x2) w, fun F2 H2 al2 O2 cls d fs x2 r2 z w => ?_⟩
  obtain ⟨hc, hk⟩ := hX cls fs O2 w
  refine ⟨true, hc, fun _ a ha => ?_, fun q => by cases q⟩
  have x3 : Ext F2 H2 al2 (upd F2 a (ExV cls d a)) (upd H2 a (ExV cls d a)) al2 := Ext.laid r2 ha
  have e2 := ((e.ext x1).ext x2).ext x3
  have hsl := e2.len
  refine ⟨.ref a, by rw [List.getElem?_set_self (by omega)], ?_⟩
  refine k.nx _ _ al2 O2 _ ((ρ.set m (some (.e cls fs))).set i none) ((x1.trans x2).trans x3) (r2.laid ha) ⟨by simp [hsl], fun j c' hj => ?_⟩ hk
  have q1 : j ≠ i := by
    intro z
    subst z
    rw [List.getElem?_set_self (by simpa using hi)] at hj
    cases hj
  rw [List.getElem?_set_ne (Ne.symm q1)] at hj ⊢
  by_cases hjm : j = m
  · subst hjm
    rw [List.getElem?_set_self hml] at hj
    cases hj
    refine ⟨.ref a, by rw [List.getElem?_set_self (by simp; omega)], a, d, rfl, upd_same, z.mono x3.sub⟩
  · rw [List.getElem?_set_ne (Ne.symm hjm)] at hj ⊢
    rw [List.getElem?_set_ne (Ne.symm q1)]
    exact e2.get j c' hj
theorem xdh_of {F H : Hp} {d : Option Addr} {fs : List (Str × D)} (s : Same F H) (h : XdF F d fs) : XdH H d := by
  rcases h with ⟨rfl, rfl⟩ | ⟨a, ws, rfl, h, _⟩
  · exact .inl rfl
  · exact .inr ⟨a, ws, rfl, s _ _ h⟩
theorem dc_isX {x y : Ce} {C : Addr} {fs : List (Str × D)} {c : V} {b : Bool} (hx : x = .e (.ref C) fs) (hy : y = .v c) (T : XcK K C) (hk : ∀ u, RelV c u → PySem.W.kitOne K (.ref C) u = some b) (k : R (.d (.bool b)) O) : DC B (rIsX K) [x, y] O R := fun F H al vs Q bb rp c q => by
  subst hx hy
  obtain ⟨v, u, rfl, cv, cu⟩ := cers2 c
  obtain ⟨a, d, rfl, h1, h2⟩ := cv
  obtain rfl : u = _ := cu
  exact ⟨a, C, d, _, b, rfl, rp.sub _ _ h1, xdh_of rp.sub h2, T, hk, kx_here rp q (c := .d (.bool b)) (DV.bl b) k⟩
theorem look_pair {F : Hp} {ws : List (Str × V)} {fs : List (Str × D)} {f : Str} {d : D} (hp : Paired (fun (p : Str × V) (q : Str × D) => p.1 = q.1 ∧ DV F p.2 q.2) ws fs) : fs.lookup f = some d → ∃ u, ws.lookup f = some u ∧ DV F u d := by
  induction hp with
  | nil => intro hl; cases hl
  | @cons p q ps qs hh ht ih =>
    intro hl
    obtain ⟨pn, pv⟩ := p
    obtain ⟨qn, qv⟩ := q
    obtain ⟨z1, z2⟩ := hh
    have z1 : pn = qn := z1
    subst z1
    rw [List.lookup_cons] at hl ⊢
    cases e : (f == pn) with
    | true =>
      rw [e] at hl
      cases hl
      exact ⟨pv, rfl, z2⟩
    | false =>
      rw [e] at hl
      exact ih hl
theorem dx_xv {f : Str} {te : TE} (h : DX B te ρ O fun c O1 => ∃ (C : Addr) (fs : List (Str × D)) (d : D), c = .e (.ref C) fs ∧ XcK K C ∧ PySem.W.findIn K (.ref C) f = some none ∧ fs.lookup f = some d ∧ R (.d d) O1) : DX B (tXv K f te) ρ O R := fun F H al σ Q b rp e q =>
  h F H al σ _ b rp e fun F1 H1 al1 O1 v c x1 r1 c1 ⟨C, fs, d, ec, T, hno, hl, hR⟩ => by
    subst ec
    obtain ⟨a, dd, rfl, h1, h2⟩ := c1
    rcases h2 with ⟨rfl, rfl⟩ | ⟨da, ws, rfl, h3, hp⟩
    · cases hl
    · obtain ⟨u, hu, ru⟩ := look_pair hp hl
      exact ⟨a, C, da, ws, u, rfl, r1.sub _ _ h1, r1.sub _ _ h3, T, hno, hu, q F1 H1 al1 O1 u (.d d) x1 r1 ru hR⟩
/-- is it None: of data, or a kept exception -/
inductive NoneC : Ce → Bool → Prop
  | d (x : D) : NoneC (.d x) (isNone x)
  | e (cls : Value) (fs : List (Str × D)) : NoneC (.e cls fs) false
theorem noneC_v {F : Hp} {al : List Addr} {v : V} {c : Ce} {b : Bool} (n : NoneC c b) (h : CeR F al v c) : decide (v = .non) = b := by
  cases n with
  | d x => cases h <;> simp [isNone]
  | e cls fs => obtain ⟨a, d, rfl, _⟩ := h; simp
theorem dx_isNx {ta : TE} (h : DX B ta ρ O fun c O1 => ∃ b, NoneC c b ∧ R (.d (.bool b)) O1) : DX B (tIsN ta) ρ O R := fun F H al σ Q b rp e q =>
  h F H al σ _ b rp e fun F1 H1 al1 O1 v c x1 r1 c1 ⟨bb, n, hR⟩ => by
    rw [noneC_v n c1]
    exact q F1 H1 al1 O1 _ (.d (.bool bb)) x1 r1 (DV.bl bb) hR
theorem dx_notNx {ta : TE} (h : DX B ta ρ O fun c O1 => ∃ b, NoneC c b ∧ R (.d (.bool (!b))) O1) : DX B (tNotN ta) ρ O R := fun F H al σ Q b rp e q =>
  h F H al σ _ b rp e fun F1 H1 al1 O1 v c x1 r1 c1 ⟨bb, n, hR⟩ => by
    rw [noneC_v n c1]
    exact q F1 H1 al1 O1 _ (.d (.bool (!bb))) x1 r1 (DV.bl (!bb)) hR
end
/-! ### the rules for the text -/
section
variable {X : Cx} {W : WX}
theorem ps_rz {C : Addr} {x m : Str} {j : Nat} {p p2 pos pos' : Pos} (hc : X.calm = true) (tk : Takes X W) (q : PySem.W.excIn X.K C He.veBase "ValueError.__new__" = true) (gC : X.mg x = some (.ref C)) (kC : PySem.W.keepIn X.K (.ref C) = true) (r : Raises X (.ref C)) (hg : Gl X x) (hdb : (x == ("__debug__" : Str)) = false := by decide) :
    PS X (.Raise (some (.Call (.Name x p) [.Constant (.str m) j p2] [] pos)) none pos') (tRz C W) := ps_raise hc tk (pmk_own PySem.F.excBase_ValueError q gC kC r hg hdb)
end
end DL
/-! DX, part d: defs that raise; classes with an own __init__ -/
namespace DL
open PySem L2 PySem.Spec
set_option autoImplicit false
/-- the look at a class with an own __init__ -/
def oexB (K : PySem.W.Frag) (C : Addr) : Bool := (match K.lookup C with
  | some ⟨.type "type", _, .cls cd, sl⟩ => (match cd.mro, sl.toList with
    | .ref C' :: bm, [_, _, _, _, some (.builtin n), _] => C' == C && (n == "ValueError.__new__" && (!cd.hasDel && (cd.hasDict && PySem.HandSPX.refsVE bm)))
    | _, _ => false)
  | _ => false) && (decide (PySem.W.findIn K (.ref C) "__setattr__" = some (some (.builtin "object.__setattr__"))) && (decide (PySem.W.subIn K (.ref C) (.type "BaseException") = some true) && (decide (PySem.W.typeIn K (.ref C) = some (.type "type")) && PySem.W.keepIn K (.ref C))))
theorem oexB_ok {K : PySem.W.Frag} {C : Addr} (q : oexB K C = true) : OexC K C := by
  unfold oexB at q
  rw [Bool.and_eq_true, Bool.and_eq_true, Bool.and_eq_true, Bool.and_eq_true, decide_eq_true_eq, decide_eq_true_eq, decide_eq_true_eq] at q
  obtain ⟨q, h1, h2, h3, h4⟩ := q
  refine ⟨?_, h1, h2, h3, h4⟩
  split at q
  · rename_i dd cd sl ho
    split at q
    · rename_i C' bm k0 k1 k2 k3 n k5 hm hs
      simp only [Bool.and_eq_true, beq_iff_eq, Bool.not_eq_true'] at q
      obtain ⟨rfl, rfl, hdel, hdict, ht⟩ := q
      obtain ⟨nm, bs, mro, ns, qn, hd, sn, sub, ab, col, dl⟩ := cd
      dsimp only at hm hdel hdict
      subst hm hdel hdict
      have hsl : sl = #[k0, k1, k2, k3, some (.builtin "ValueError.__new__"), k5] := by
        obtain ⟨l⟩ := sl
        simp only at hs
        rw [hs]
      subst hsl
      exact ⟨_, _, _, _, _, _, _, _, _, _, _, _, _, _, _, ho, ht⟩
    · cases q
  · cases q
section
variable {X : Cx} {W : WX} {k j n : Nat} {S : ASp} {x : Str}
theorem ps_rx {C fI : Addr} {fd : FuncData} {f x pn : Str} {e : Expr} {ta : TA} {p pos pos' : Pos} (hc : X.calm = true) (tk : Takes X W) (T : OexC X.K C) (iC : PySem.W.findIn X.K (.ref C) "__init__" = some (some (.ref fI))) (tI : PySem.W.typeIn X.K (.ref fI) = some (.type "function"))
    (F1 : FnOk X.prog X.w X.K X.mg X.base CX0 k fI fd ["self", pn] (spInit X.K f)) (hr : Room (k + 1) X.A) (hb : Binds X.K fd ["self", pn] []) (hg : Gl X x) (hm : X.mg x = some (.ref C)) (ha : PA X [e] ta) (hdb : (x == ("__debug__" : Str)) = false := by decide)
    (he : starEach (e :: []) X.env = (false, eval e X.env) :: starEach [] X.env := by rfl) (hpl : (backTo pos (starEach [] X.env)).any (·.1) = false := by rfl) : PS X (.Raise (some (.Call (.Name x p) [e] [] pos)) none pos') (tRx X.K C f W ta) :=
  ps_raise hc tk (pmk_oex T iC tI F1 hr hb .nil (fun _ _ _ _ _ _ _ z => z.elim) hg hm ha hdb he hpl)
/-- an own exception class with an __init__ that keeps one field -/
structure Xi (P : Program) (w : World) (K : PySem.W.Frag) (mg : Str → Option Value) (base : Heap) (x f pn : Str) (C : Addr) : Prop where
  o : OexC K C
  m : mg x = some (.ref C)
  no : PySem.W.findIn K (.ref C) f = some none
  kc : XcK K C
  init : ∃ (fI : Addr) (fd : FuncData), PySem.W.findIn K (.ref C) "__init__" = some (some (.ref fI)) ∧ PySem.W.typeIn K (.ref fI) = some (.type "function") ∧ FnOk P w K mg base CX0 1 fI fd ["self", pn] (spInit K f) ∧ Binds K fd ["self", pn] []
theorem ps_rxi {C : Addr} {f x pn : Str} {e : Expr} {ta : TA} {p pos pos' : Pos} (hc : X.calm = true) (tk : Takes X W) (T : Xi X.prog X.w X.K X.mg X.base x f pn C) (hr : Room k X.A) (h2 : 2 ≤ k) (hg : Gl X x) (ha : PA X [e] ta) (hdb : (x == ("__debug__" : Str)) = false := by decide)
    (he : starEach (e :: []) X.env = (false, eval e X.env) :: starEach [] X.env := by rfl) (hpl : (backTo pos (starEach [] X.env)).any (·.1) = false := by rfl) : PS X (.Raise (some (.Call (.Name x p) [e] [] pos)) none pos') (tRx X.K C f W ta) := by
  obtain ⟨fI, fd, h1, h3, h4, h5⟩ := T.init
  exact ps_rx hc tk T.o h1 h3 h4 (hr.mono h2) h5 hg T.m ha hdb he hpl
/-- a def that may raise, called by its name -/
structure ClX (P : Program) (w : World) (K : PySem.W.Frag) (mg : Str → Option Value) (base : Heap) (x : Str) (k n : Nat) (S : ASp) : Prop where
  ex : ∃ (f : Addr) (fd : FuncData) (ps : List Str), FnOk P w K mg base (L2.CX P w) k f fd ps (spA n S) ∧ mg x = some (.ref f) ∧ PySem.W.keepIn K (.ref f) = true ∧ Binds K fd ps []
theorem pe_clX {p pos : Pos} {e : Expr} {es : List Expr} {t : TA} (tk : Takes X W) (c : ClX X.prog X.w X.K X.mg X.base x k n S) (hr : Room j X.A) (hk : k ≤ j) (hg : Gl X x) (ha : PA X (e :: es) t)
    (hdb : (x == ("__debug__" : Str)) = false := by decide) (he : starEach (e :: es) X.env = (false, eval e X.env) :: starEach es X.env := by rfl) (hpl : (backTo pos (starEach es X.env)).any (·.1) = false := by rfl) :
    PE X (.Call (.Name x p) (e :: es) [] pos) (tCallS (spA n S) (WE W) t) := by
  obtain ⟨f, fd, ps, F, hm, kp, hb⟩ := c.ex
  exact pe_callS F (hr.mono hk) hg hm kp hb (fun σ => passAt tk σ) ha hdb he hpl
theorem pe_clX0 {p pos : Pos} {e : Expr} {es : List Expr} {t : TA} (c : ClX X.prog X.w X.K X.mg X.base x k n S) (hr : Room j X.A) (hk : k ≤ j) (hg : Gl X x) (ha : PA X (e :: es) t)
    (hdb : (x == ("__debug__" : Str)) = false := by decide) (he : starEach (e :: es) X.env = (false, eval e X.env) :: starEach es X.env := by rfl) (hpl : (backTo pos (starEach es X.env)).any (·.1) = false := by rfl) :
    PE X (.Call (.Name x p) (e :: es) [] pos) (tCall (spA n S) [] E0 t) := by
  obtain ⟨f, fd, ps, F, hm, kp, hb⟩ := c.ex
  exact pe_call F (hr.mono hk) hg hm kp hb .nil passL ha hdb he hpl
end
section
variable {P : Program} {w : World} {K : PySem.W.Frag} {mg : Str → Option Value} {base : Heap}
theorem clx_of {x : Str} {st : Stmt} {N ps : List Str} {n k : Nat} {S : ASp} (Fd : Df K mg x st) (sc : FnScope N ps (defScope st)) (hp : ps.length = n)
    (hb : ∀ (dV kV doc pm : Value) (an : Option Addr) (cdv ct : Value) (us : List Value), dV = .none → us.length = ps.length → bindArgs (PySem.W.fnOf x x (defArgs st) (defBody st) (defScope st) dV kV doc pm an cdv ct) ⟨us, []⟩ = pure (ps.zip us))
    (q : ∀ (f : Addr) (cdv : Value) (A : Around) (outer : List Env) (s : Shared) (H : Hp) (E : XK) (B : Bs) (cs : List Ce) (O : Ow) (R : RX) (X : XP), Room k (A.deeper (PyProof.Rows.envOfC x (defScope st) s.heap.objs.size f cdv)) → EX B X E → cs.length = n → S cs O R X →
      ∃ t, PSs (cxOf (L2.CX P w) P w K mg base N x (defScope st) f cdv A outer s H E) (defBody st) t ∧ DS B t (startE N cs) O { nx := fun _ O' => R (.d .none) O', rt := R }) : ClX P w K mg base x (k + 1) n S := by
  obtain ⟨f, fd, F, hm⟩ := Fd.ex
  refine ⟨f, fd, ps, F.ok sc (spA_len hp) fun cdv A outer s H vs Q E hr hs => ?_, hm, F.kp, ?_⟩
  · obtain ⟨hn, F0, al, O, cs, R, X, rp, cr, s1, kq, kx⟩ := hs
    obtain ⟨t, ht, hd⟩ := q f cdv A outer s H E (Bs.from F0 H al) cs O R X hr (fun F' H' al' O' cls d fs x r z w => kx F' H' al' O' cls d fs x r z w) (by rw [← cr.length, hn]) s1
    exact ⟨t, ht, hd F0 H al _ _ (Ext.refl _ _ _) rp (enr_start cr) ⟨fun F' H' al' O' σ' ρ' x r e w => kq F' H' al' O' .non (.d .none) x r DV.non w, kq, fun F' H' al' O' σ' ρ' x r e w => w.elim, fun F' H' al' O' σ' ρ' x r e w => w.elim⟩⟩
  · obtain ⟨oc, od, dV, kV, doc, pm, an, cdv, ct, osl, rfl, lk, hcd, hD, _⟩ := F.ex
    have e : dV = .none := by
      rcases hD with ⟨_, e⟩ | ⟨h, _⟩
      · exact e
      · exact absurd rfl h
    exact .all fun us hl => hb dV kV doc pm an cdv ct us e hl
end
end DL
/-! printed by gen.py: the defs' readings and derivations -/
namespace K82
open PySem L2 PySem.Spec DL
set_option autoImplicit false
def top (i : Nat) : Stmt := PySem.Challenge.pw_leastreasons_k82_half_cases_written_and.main.body.getD i (.Pass ⟨0, 0, 0, 0⟩)
theorem u65 {k : Nat} {A : Around} (hr : Room k A) : A.units + 65 < cLine := by have := hr.un; omega
theorem boo_ValueError : bootBuiltins ("ValueError" : Str) = some (.type "ValueError") := by decide +kernel
theorem boo_all : bootBuiltins ("all" : Str) = some (.builtin "all") := by decide +kernel
theorem boo_bool : bootBuiltins ("bool" : Str) = some (.type "bool") := by decide +kernel
theorem boo_enumerate : bootBuiltins ("enumerate" : Str) = some (.type "enumerate") := by decide +kernel
theorem boo_int : bootBuiltins ("int" : Str) = some (.type "int") := by decide +kernel
theorem boo_isinstance : bootBuiltins ("isinstance" : Str) = some (.builtin "isinstance") := by decide +kernel
theorem boo_len : bootBuiltins ("len" : Str) = some (.builtin "len") := by decide +kernel
theorem boo_list : bootBuiltins ("list" : Str) = some (.type "list") := by decide +kernel
theorem boo_range : bootBuiltins ("range" : Str) = some (.type "range") := by decide +kernel
theorem boo_str : bootBuiltins ("str" : Str) = some (.type "str") := by decide +kernel
theorem boo_zip : bootBuiltins ("zip" : Str) = some (.type "zip") := by decide +kernel
/-- what the top's names stand for -/
structure Tx (mg : Str → Option Value) : Prop where
  b_ValueError : mg "ValueError" = none
  b_all : mg "all" = none
  b_bool : mg "bool" = none
  b_enumerate : mg "enumerate" = none
  b_int : mg "int" = none
  b_isinstance : mg "isinstance" = none
  b_len : mg "len" = none
  b_list : mg "list" = none
  b_range : mg "range" = none
  b_str : mg "str" = none
  b_zip : mg "zip" = none
  c_DIGITS : ∃ u, mg "DIGITS" = some u ∧ RelV (.str ("0123456789" : Str)) u
  c_MOST_DIGITS : ∃ u, mg "MOST_DIGITS" = some u ∧ RelV (.int 9) u
  c_MOST_FIELDS : ∃ u, mg "MOST_FIELDS" = some u ∧ RelV (.int 24) u
  c_MOST_VALUES : ∃ u, mg "MOST_VALUES" = some u ∧ RelV (.int 6) u
section
variable {P : Program} {w : World} {K : PySem.W.Frag} {mg : Str → Option Value} {base : Heap}
/-! is_whole: 0 value -/
abbrev s_is_whole : Stmt := top 8
abbrev n_is_whole : List Str := ["value"]
theorem sc_is_whole : FnScope n_is_whole ["value"] (defScope s_is_whole) := C8.fnScope_by (by decide +kernel)
def t_is_whole (K : PySem.W.Frag) : TS :=
  (tRet (tAndV (tCB (rIsi K) (tCons (tVar 0) (tCons (tC (.ty "int")) tNil))) (tNotV (tCB (rIsi K) (tCons (tVar 0) (tCons (tC (.ty "bool")) tNil))))))
theorem der_is_whole (T : Tx mg) {k : Nat} {f : Addr} {cdv : Value} {A : Around} {outer : List Env} {s : Shared} {H : Hp} {E : XK}
    (hr : Room k (A.deeper (PyProof.Rows.envOfC "is_whole" (defScope s_is_whole) s.heap.objs.size f cdv))) : PSs (cxOf CX0 P w K mg base n_is_whole "is_whole" (defScope s_is_whole) f cdv A outer s H E).nox (defBody s_is_whole) (t_is_whole K) := by
  have nd := sc_is_whole.nd
  exact (pss_one (ps_ret (pe_and (pe_callB call_isi (by rfl) T.b_isinstance boo_isinstance (pa_cons (pv 0) (pa_cons (pe_bltn (v := .ty "int") (by rfl) T.b_int boo_int rfl) pa_nil))) (pe_one (pe_not (pe_callB call_isi (by rfl) T.b_isinstance boo_isinstance (pa_cons (pv 0) (pa_cons (pe_bltn (v := .ty "bool") (by rfl) T.b_bool boo_bool rfl) pa_nil))))))))
/-! is_below: 0 value, 1 bound -/
abbrev s_is_below : Stmt := top 9
abbrev n_is_below : List Str := ["value", "bound"]
theorem sc_is_below : FnScope n_is_below ["value", "bound"] (defScope s_is_below) := C8.fnScope_by (by decide +kernel)
def t_is_below (K : PySem.W.Frag) (S_is_whole : ASp) : TS :=
  (tRet (tAndV (tCall (spA 1 S_is_whole) [] E0 (tCons (tVar 0) tNil)) (tChain (rI0 fun i j => .bl (decide (i ≤ j))) (rI0 fun i j => .bl (decide (i < j))) (tC (.int 0)) (tVar 0) (tVar 1))))
theorem der_is_below (T : Tx mg) {k : Nat} {S_is_whole : ASp} {j_is_whole : Nat} (c_is_whole : Cl P w K mg base "is_whole" j_is_whole 1 S_is_whole) (h_is_whole : j_is_whole ≤ k) {f : Addr} {cdv : Value} {A : Around} {outer : List Env} {s : Shared} {H : Hp} {E : XK}
    (hr : Room k (A.deeper (PyProof.Rows.envOfC "is_below" (defScope s_is_below) s.heap.objs.size f cdv))) : PSs (cxOf CX0 P w K mg base n_is_below "is_below" (defScope s_is_below) f cdv A outer s H E).nox (defBody s_is_below) (t_is_below K S_is_whole) := by
  have nd := sc_is_below.nd
  exact (pss_one (ps_ret (pe_and (pe_cl c_is_whole hr h_is_whole (by rfl) (pa_cons (pv 0) pa_nil)) (pe_one (pe_chain op_le op_lt pe_int (pv 0) (pv 1))))))
/-! is_sizes: 0 value, 1 size -/
abbrev s_is_sizes : Stmt := top 10
abbrev n_is_sizes : List Str := ["value", "size"]
theorem sc_is_sizes : FnScope n_is_sizes ["value"] (defScope s_is_sizes) := C8.fnScope_by (by decide +kernel)
def t_is_sizes (K : PySem.W.Frag) (S_is_below : ASp) : TS :=
  (tSeq (tIfS (tOr (tNot (tB (tCB (rIsi K) (tCons (tVar 0) (tCons (tC (.ty "list")) tNil))))) (tTest (tOp (rI0 fun i j => .bl (decide (j < i))) (tCB (DL.rLen K) (tCons (tVar 0) tNil)) (tC (.int 24))))) (tRet (tC (.bl false))) tNext) (tRet (tCB (rAll K) (tCons (tLc (iList K (tVar 0)) (gName 1) tYes (tAndV (tCall (spA 2 S_is_below) [] E0 (tCons (tVar 1) (tCons (tOp (rAddA K) (tC (.int 6)) (tC (.int 1))) tNil))) (tOp (rI0 fun i j => .bl (decide (j < i))) (tVar 1) (tC (.int 1)))) [1]) tNil))))
theorem der_is_sizes (T : Tx mg) {k : Nat} {S_is_below : ASp} {j_is_below : Nat} (c_is_below : Cl P w K mg base "is_below" j_is_below 2 S_is_below) (h_is_below : j_is_below ≤ k) {f : Addr} {cdv : Value} {A : Around} {outer : List Env} {s : Shared} {H : Hp} {E : XK}
    (hr : Room k (A.deeper (PyProof.Rows.envOfC "is_sizes" (defScope s_is_sizes) s.heap.objs.size f cdv))) : PSs (cxOf CX0 P w K mg base n_is_sizes "is_sizes" (defScope s_is_sizes) f cdv A outer s H E).nox (defBody s_is_sizes) (t_is_sizes K S_is_below) := by
  have nd := sc_is_sizes.nd
  exact (pss_cons (ps_if (PW.pt (pw_or (pt_not (pt_val (pe_callB call_isi (by rfl) T.b_isinstance boo_isinstance (pa_cons (pv 0) (pa_cons (pe_bltn (v := .ty "list") (by rfl) T.b_list boo_list rfl) pa_nil))))) (pw_or1 (pt_cmpR op_gt (pe_callB DL.call_lenA (by rfl) T.b_len boo_len (pa_cons (pv 0) pa_nil)) (C8.pe_gc (by rfl) T.c_MOST_FIELDS) (nomark _))))) (pss_one (ps_ret pe_bl)) pss_nil) (pss_one (ps_ret (pe_callB (cr_all rfl) (by rfl) T.b_all boo_all (pa_cons (pe_lc (own := [("size", 1)]) rfl nd (pi_list (pv 0)) (blkOk_by (by kernel_rfl)) (fun _ _ _ _ _ => (pg_name (i := 1) nd rfl (by first | exact Or.inl rfl | exact Or.inr rfl))) (fun _ _ _ _ _ => pts_nil) (fun _ _ _ _ _ => (pe_and (pe_cl c_is_below hr h_is_below (by rfl) (pa_cons (pv 1) (pa_cons (pe_op op_addA (C8.pe_gc (by rfl) T.c_MOST_VALUES) pe_int) pa_nil))) (pe_one (pe_cmpR op_gt (pv 1) pe_int (nomark _)))))) pa_nil)))))
/-! is_half_row: 0 sizes, 1 value, 2 part, 3 size -/
abbrev s_is_half_row : Stmt := top 11
abbrev n_is_half_row : List Str := ["sizes", "value", "part", "size"]
theorem sc_is_half_row : FnScope n_is_half_row ["sizes", "value"] (defScope s_is_half_row) := C8.fnScope_by (by decide +kernel)
def t_is_half_row (K : PySem.W.Frag) (S_is_below : ASp) : TS :=
  (tSeq (tIfS (tOr (tNot (tB (tCB (rIsi K) (tCons (tVar 1) (tCons (tC (.ty "list")) tNil))))) (tTest (tOp (rNeA K) (tCB (DL.rLen K) (tCons (tVar 1) tNil)) (tCB (DL.rLen K) (tCons (tVar 0) tNil))))) (tRet (tC (.bl false))) tNext) (tRet (tCB (rAll K) (tCons (tLc (iZipX K (tCons (tVar 1) (tCons (tVar 0) tNil))) (gTup K 2 (gCons (gName 2) (gCons (gName 3) gNil))) tYes (tOrV (tIsN (tVar 2)) (tCall (spA 2 S_is_below) [] E0 (tCons (tVar 2) (tCons (tVar 3) tNil)))) [2, 3]) tNil))))
theorem der_is_half_row (T : Tx mg) {k : Nat} {S_is_below : ASp} {j_is_below : Nat} (c_is_below : Cl P w K mg base "is_below" j_is_below 2 S_is_below) (h_is_below : j_is_below ≤ k) {f : Addr} {cdv : Value} {A : Around} {outer : List Env} {s : Shared} {H : Hp} {E : XK}
    (hr : Room k (A.deeper (PyProof.Rows.envOfC "is_half_row" (defScope s_is_half_row) s.heap.objs.size f cdv))) : PSs (cxOf CX0 P w K mg base n_is_half_row "is_half_row" (defScope s_is_half_row) f cdv A outer s H E).nox (defBody s_is_half_row) (t_is_half_row K S_is_below) := by
  have nd := sc_is_half_row.nd
  exact (pss_cons (ps_if (PW.pt (pw_or (pt_not (pt_val (pe_callB call_isi (by rfl) T.b_isinstance boo_isinstance (pa_cons (pv 1) (pa_cons (pe_bltn (v := .ty "list") (by rfl) T.b_list boo_list rfl) pa_nil))))) (pw_or1 (pt_cmpR (op_neA hr.units) (pe_callB DL.call_lenA (by rfl) T.b_len boo_len (pa_cons (pv 1) pa_nil)) (pe_callB DL.call_lenA (by rfl) T.b_len boo_len (pa_cons (pv 0) pa_nil)) (nomark _))))) (pss_one (ps_ret pe_bl)) pss_nil) (pss_one (ps_ret (pe_callB (cr_all rfl) (by rfl) T.b_all boo_all (pa_cons (pe_lc (own := [("part", 2), ("size", 3)]) rfl nd (pi_zipX (by rfl) T.b_zip (pa_cons (pv 1) (pa_cons (pv 0) pa_nil))) (blkOk_by (by kernel_rfl)) (fun _ _ _ _ _ => (pg_tup rfl (pgs_cons (pg_name (i := 2) nd rfl (by first | exact Or.inl rfl | exact Or.inr rfl)) (pgs_cons (pg_name (i := 3) nd rfl (by first | exact Or.inl rfl | exact Or.inr rfl)) pgs_nil)))) (fun _ _ _ _ _ => pts_nil) (fun _ _ _ _ _ => (pe_or (pe_cmp (pc_isN (pv 2))) (pe_one (pe_cl c_is_below hr h_is_below (by rfl) (pa_cons (pv 2) (pa_cons (pv 3) pa_nil))))))) pa_nil)))))
/-! need_sizes: 0 sizes -/
abbrev s_need_sizes : Stmt := top 12
abbrev n_need_sizes : List Str := ["sizes"]
theorem sc_need_sizes : FnScope n_need_sizes ["sizes"] (defScope s_need_sizes) := C8.fnScope_by (by decide +kernel)
def t_need_sizes (K : PySem.W.Frag) (S_is_sizes : ASp) : TS :=
  (tIfS (tNot (tB (tCall (spA 1 S_is_sizes) [] E0 (tCons (tVar 0) tNil)))) tNever tNext)
theorem der_need_sizes (T : Tx mg) {k : Nat} {S_is_sizes : ASp} {j_is_sizes : Nat} (c_is_sizes : Cl P w K mg base "is_sizes" j_is_sizes 1 S_is_sizes) (h_is_sizes : j_is_sizes ≤ k) {f : Addr} {cdv : Value} {A : Around} {outer : List Env} {s : Shared} {H : Hp} {E : XK}
    (hr : Room k (A.deeper (PyProof.Rows.envOfC "need_sizes" (defScope s_need_sizes) s.heap.objs.size f cdv))) : PSs (cxOf CX0 P w K mg base n_need_sizes "need_sizes" (defScope s_need_sizes) f cdv A outer s H E).nox (defBody s_need_sizes) (t_need_sizes K S_is_sizes) := by
  have nd := sc_need_sizes.nd
  exact (pss_one (ps_if (pt_not (pt_val (pe_cl c_is_sizes hr h_is_sizes (by rfl) (pa_cons (pv 0) pa_nil)))) (pss_one ps_never) pss_nil))
/-! need_half: 0 sizes, 1 half -/
abbrev s_need_half : Stmt := top 13
abbrev n_need_half : List Str := ["sizes", "half"]
theorem sc_need_half : FnScope n_need_half ["sizes", "half"] (defScope s_need_half) := C8.fnScope_by (by decide +kernel)
def t_need_half (K : PySem.W.Frag) (S_is_half_row : ASp) : TS :=
  (tIfS (tNot (tB (tCall (spA 2 S_is_half_row) [] E0 (tCons (tVar 0) (tCons (tVar 1) tNil))))) tNever tNext)
theorem der_need_half (T : Tx mg) {k : Nat} {S_is_half_row : ASp} {j_is_half_row : Nat} (c_is_half_row : Cl P w K mg base "is_half_row" j_is_half_row 2 S_is_half_row) (h_is_half_row : j_is_half_row ≤ k) {f : Addr} {cdv : Value} {A : Around} {outer : List Env} {s : Shared} {H : Hp} {E : XK}
    (hr : Room k (A.deeper (PyProof.Rows.envOfC "need_half" (defScope s_need_half) s.heap.objs.size f cdv))) : PSs (cxOf CX0 P w K mg base n_need_half "need_half" (defScope s_need_half) f cdv A outer s H E).nox (defBody s_need_half) (t_need_half K S_is_half_row) := by
  have nd := sc_need_half.nd
  exact (pss_one (ps_if (pt_not (pt_val (pe_cl c_is_half_row hr h_is_half_row (by rfl) (pa_cons (pv 0) (pa_cons (pv 1) pa_nil))))) (pss_one ps_never) pss_nil))
/-! whole_of: 0 word, 1 digits, 2 sign -/
abbrev s_whole_of : Stmt := top 17
abbrev n_whole_of : List Str := ["word", "digits", "sign"]
theorem sc_whole_of : FnScope n_whole_of ["word"] (defScope s_whole_of) := C8.fnScope_by (by decide +kernel)
def t_whole_of (K : PySem.W.Frag) : TS :=
  (tSeq (tAsg (tIf (tTest (tOp (rEqA K) (tSl (DL.rSlX K) (tVar 0) tNoPart (tPart (tC (.int 1)))) (tC (.str ("-" : Str))))) (tSl (DL.rSlX K) (tVar 0) (tPart (tC (.int 1))) tNoPart) (tVar 0)) (gName 1)) (tSeq (tIfS (tOr (tTest (tOp (rEqA K) (tVar 1) (tC (.str ("" : Str))))) (tOr (tTest (tOp (rI0 fun i j => .bl (decide (j < i))) (tCB (DL.rLen K) (tCons (tVar 1) tNil)) (tC (.int 9)))) (tNot (tB (tCB (rAll K) (tCons (tLc (iStr (tVar 1)) (gName 2) tYes (tOp (rInA K) (tVar 2) (tC (.str ("0123456789" : Str)))) [2]) tNil)))))) (tRet (tC .non)) tNext) (tSeq (tIfS (tAnd (tTest (tOp (rEqA K) (tOp (rIx K) (tVar 1) (tC (.int 0))) (tC (.str ("0" : Str))))) (tTest (tOp (rNeA K) (tVar 0) (tC (.str ("0" : Str)))))) (tRet (tC .non)) tNext) (tRet (tCB rInt (tCons (tVar 0) tNil))))))
theorem der_whole_of (T : Tx mg) {k : Nat} {f : Addr} {cdv : Value} {A : Around} {outer : List Env} {s : Shared} {H : Hp} {E : XK}
    (hr : Room k (A.deeper (PyProof.Rows.envOfC "whole_of" (defScope s_whole_of) s.heap.objs.size f cdv))) : PSs (cxOf CX0 P w K mg base n_whole_of "whole_of" (defScope s_whole_of) f cdv A outer s H E).nox (defBody s_whole_of) (t_whole_of K) := by
  have nd := sc_whole_of.nd
  exact (pss_cons (ps_set (i := 1) nd rfl (by first | exact Or.inl rfl | exact Or.inr rfl) (pe_ifExp (pt_cmpR (op_eqA hr.units) (pe_slice DL.sl_X (pv 0) po_none (po_some pe_int)) pe_str (nomark _)) (pe_slice DL.sl_X (pv 0) (po_some pe_int) po_none) (pv 0))) (pss_cons (ps_if (PW.pt (pw_or (pt_cmpR (op_eqA hr.units) (pv 1) pe_str (nomark _)) (pw_or (pt_cmpR op_gt (pe_callB DL.call_lenA (by rfl) T.b_len boo_len (pa_cons (pv 1) pa_nil)) (C8.pe_gc (by rfl) T.c_MOST_DIGITS) (nomark _)) (pw_or1 (pt_not (pt_val (pe_callB (cr_all rfl) (by rfl) T.b_all boo_all (pa_cons (pe_lc (own := [("sign", 2)]) rfl nd (pi_str (pv 1)) (blkOk_by (by kernel_rfl)) (fun _ _ _ _ _ => (pg_name (i := 2) nd rfl (by first | exact Or.inl rfl | exact Or.inr rfl))) (fun _ _ _ _ _ => pts_nil) (fun _ _ _ _ _ => (pe_cmpR (op_inA (u65 hr)) (pv 2) (C8.pe_gc (by rfl) T.c_DIGITS) (by with_unfolding_all rfl)))) pa_nil)))))))) (pss_one (ps_ret pe_non)) pss_nil) (pss_cons (ps_if (PW.pt (pw_and (pt_cmpR (op_eqA hr.units) (pe_ix ix_seq (pv 1) pe_int (fun _ _ => rfl)) pe_str (nomark _)) (pw_and1 (pt_cmpR (op_neA hr.units) (pv 0) pe_str (nomark _))))) (pss_one (ps_ret pe_non)) pss_nil) (pss_one (ps_ret (pe_callTy call_intA (by rfl) T.b_int boo_int (pa_cons (pv 0) pa_nil)))))))
/-! write_case: 0 sizes, 1 half, 2 value -/
abbrev s_write_case : Stmt := top 18
abbrev n_write_case : List Str := ["sizes", "half", "value"]
theorem sc_write_case : FnScope n_write_case ["sizes", "half"] (defScope s_write_case) := C8.fnScope_by (by decide +kernel)
def t_write_case (K : PySem.W.Frag) (S_need_half : ASp) (S_need_sizes : ASp) : TS :=
  (tSeq (tDrop (tCall (spA 1 S_need_sizes) [] E0 (tCons (tVar 0) tNil))) (tSeq (tDrop (tCall (spA 2 S_need_half) [] E0 (tCons (tVar 0) (tCons (tVar 1) tNil)))) (tRet (tM1 (rJoin K) (tC (.str (" " : Str))) (tLc (iList K (tVar 1)) (gName 2) tYes (tIf (tB (tIsN (tVar 2))) (tC (.str ("?" : Str))) (tCB rStrI (tCons (tVar 2) tNil))) [2])))))
theorem der_write_case (T : Tx mg) {k : Nat} {S_need_half : ASp} {j_need_half : Nat} (c_need_half : Cl P w K mg base "need_half" j_need_half 2 S_need_half) (h_need_half : j_need_half ≤ k) {S_need_sizes : ASp} {j_need_sizes : Nat} (c_need_sizes : Cl P w K mg base "need_sizes" j_need_sizes 1 S_need_sizes) (h_need_sizes : j_need_sizes ≤ k) {f : Addr} {cdv : Value} {A : Around} {outer : List Env} {s : Shared} {H : Hp} {E : XK}
    (hr : Room k (A.deeper (PyProof.Rows.envOfC "write_case" (defScope s_write_case) s.heap.objs.size f cdv))) : PSs (cxOf CX0 P w K mg base n_write_case "write_case" (defScope s_write_case) f cdv A outer s H E).nox (defBody s_write_case) (t_write_case K S_need_half S_need_sizes) := by
  have nd := sc_write_case.nd
  exact (pss_cons (ps_expr (pe_cl c_need_sizes hr h_need_sizes (by rfl) (pa_cons (pv 0) pa_nil))) (pss_cons (ps_expr (pe_cl c_need_half hr h_need_half (by rfl) (pa_cons (pv 0) (pa_cons (pv 1) pa_nil)))) (pss_one (ps_ret (pe_m1 PySem.F.slot_str_join PySem.F.type_str_join mt_joinA pe_str (pe_lc (own := [("value", 2)]) rfl nd (pi_list (pv 1)) (blkOk_by (by kernel_rfl)) (fun _ _ _ _ _ => (pg_name (i := 2) nd rfl (by first | exact Or.inl rfl | exact Or.inr rfl))) (fun _ _ _ _ _ => pts_nil) (fun _ _ _ _ _ => (pe_ifExp (pt_cmp (pc_isN (pv 2))) pe_str (pe_callTy call_strA (by rfl) T.b_str boo_str (pa_cons (pv 2) pa_nil))))))))))
/-! read_case: 0 sizes, 1 text, 2 words, 3 found, 4 at, 5 size, 6 value -/
abbrev s_read_case : Stmt := top 19
abbrev n_read_case : List Str := ["sizes", "text", "words", "found", "at", "size", "value"]
theorem sc_read_case : FnScope n_read_case ["sizes", "text"] (defScope s_read_case) := C8.fnScope_by (by decide +kernel)
def t_read_case (K : PySem.W.Frag) (S_whole_of : ASp) (S_need_sizes : ASp) (C_InvalidText : Addr) (E : XK) : TS :=
  (tSeq (tDrop (tCall (spA 1 S_need_sizes) [] E0 (tCons (tVar 0) tNil))) (tSeq (tAsg (tIf (tTest (tOp (rNeA K) (tVar 1) (tC (.str ("" : Str))))) (tM1 rSplit (tVar 1) (tC (.str (" " : Str)))) (tLst tNil)) (gName 2)) (tSeq (tAsg (tLst tNil) (gName 3)) (tSeq (tFor (iEnum K (tCons (tVar 0) tNil)) (gTup K 2 (gCons (gName 4) (gCons (gName 5) gNil))) (tSeq (tIfS (tTest (tOp (rI0 fun i j => .bl (decide (j ≤ i))) (tVar 4) (tCB (DL.rLen K) (tCons (tVar 2) tNil)))) (tRx K C_InvalidText ("place" : Str) (fun cls d _ H => E cls d H) (tCons (tCB (DL.rLen K) (tCons (tVar 2) tNil)) tNil)) tNext) (tSeq (tAsg (tCall (spA 1 S_whole_of) [] E0 (tCons (tOp (rIx K) (tVar 2) (tVar 4)) tNil)) (gName 6)) (tSeq (tIfS (tAnd (tTest (tOp (rNeA K) (tOp (rIx K) (tVar 2) (tVar 4)) (tC (.str ("?" : Str))))) (tOr (tB (tIsN (tVar 6))) (tNot (tTest (tChain (rI0 fun i j => .bl (decide (i ≤ j))) (rI0 fun i j => .bl (decide (i < j))) (tC (.int 0)) (tVar 6) (tVar 5)))))) (tRx K C_InvalidText ("place" : Str) (fun cls d _ H => E cls d H) (tCons (tVar 4) tNil)) tNext) (tDrop (tBM K "list" rAppend (tVar 3) (tCons (tVar 6) tNil))))))) (tSeq (tIfS (tTest (tOp (rI0 fun i j => .bl (decide (j < i))) (tCB (DL.rLen K) (tCons (tVar 2) tNil)) (tCB (DL.rLen K) (tCons (tVar 0) tNil)))) (tRx K C_InvalidText ("place" : Str) (fun cls d _ H => E cls d H) (tCons (tCB (DL.rLen K) (tCons (tVar 0) tNil)) tNil)) tNext) (tRet (tVar 3)))))))
theorem der_read_case (T : Tx mg) {k : Nat} {S_whole_of : ASp} {j_whole_of : Nat} (c_whole_of : Cl P w K mg base "whole_of" j_whole_of 1 S_whole_of) (h_whole_of : j_whole_of ≤ k) {S_need_sizes : ASp} {j_need_sizes : Nat} (c_need_sizes : Cl P w K mg base "need_sizes" j_need_sizes 1 S_need_sizes) (h_need_sizes : j_need_sizes ≤ k) {C_InvalidText : Addr} (m_InvalidText : mg "InvalidText" = some (.ref C_InvalidText)) (x_InvalidText : Xi P w K mg base "InvalidText" "place" "place" C_InvalidText) (h2 : 2 ≤ k) {f : Addr} {cdv : Value} {A : Around} {outer : List Env} {s : Shared} {H : Hp} {E : XK}
    (hr : Room k (A.deeper (PyProof.Rows.envOfC "read_case" (defScope s_read_case) s.heap.objs.size f cdv))) : PSs (cxOf (L2.CX P w) P w K mg base n_read_case "read_case" (defScope s_read_case) f cdv A outer s H E) (defBody s_read_case) (t_read_case K S_whole_of S_need_sizes C_InvalidText E) := by
  have nd := sc_read_case.nd
  exact (pss_cons (ps_expr (pe_cl c_need_sizes hr h_need_sizes (by rfl) (pa_cons (pv 0) pa_nil))) (pss_cons (ps_set (i := 2) nd rfl (by first | exact Or.inl rfl | exact Or.inr rfl) (pe_ifExp (pt_cmpR (op_neA hr.units) (pv 1) pe_str (nomark _)) (pe_m1 PySem.F.slot_str_split PySem.F.type_str_split mt_splitA (pv 1) pe_str) (pe_lst pa_nil))) (pss_cons (ps_set (i := 3) nd rfl (by first | exact Or.inl rfl | exact Or.inr rfl) (pe_lst pa_nil)) (pss_cons (ps_for (passes_of rfl) rfl (pi_enum (by rfl) T.b_enumerate (pa_cons (pv 0) pa_nil)) (pg_tup rfl (pgs_cons (pg_name (i := 4) nd rfl (by first | exact Or.inl rfl | exact Or.inr rfl)) (pgs_cons (pg_name (i := 5) nd rfl (by first | exact Or.inl rfl | exact Or.inr rfl)) pgs_nil))) (pss_cons (ps_if (pt_cmpR op_ge (pv 4) (pe_callB DL.call_lenA (by rfl) T.b_len boo_len (pa_cons (pv 2) pa_nil)) (nomark _)) (pss_one (ps_rxi rfl (takes_of rfl rfl rfl rfl) x_InvalidText hr h2 (by rfl) (pa_cons (pe_callB DL.call_lenA (by rfl) T.b_len boo_len (pa_cons (pv 2) pa_nil)) pa_nil))) pss_nil) (pss_cons (ps_set (i := 6) nd rfl (by first | exact Or.inl rfl | exact Or.inr rfl) (pe_cl c_whole_of hr h_whole_of (by rfl) (pa_cons (pe_ix ix_seq (pv 2) (pv 4) (fun _ _ => rfl)) pa_nil))) (pss_cons (ps_if (PW.pt (pw_and (pt_cmpR (op_neA hr.units) (pe_ix ix_seq (pv 2) (pv 4) (fun _ _ => rfl)) pe_str (nomark _)) (pw_and1 (PW.pt (pw_or (pt_cmp (pc_isN (pv 6))) (pw_or1 (pt_not (pt_chain op_le op_lt pe_int (pv 6) (pv 5))))))))) (pss_one (ps_rxi rfl (takes_of rfl rfl rfl rfl) x_InvalidText hr h2 (by rfl) (pa_cons (pv 4) pa_nil))) pss_nil) (pss_one (ps_expr (pe_bm PySem.F.plainAttrs_list PySem.F.slot_list_append PySem.F.type_list_append mt_append (pv 3) (pa_cons (pv 6) pa_nil)))))))) (pss_cons (ps_if (pt_cmpR op_gt (pe_callB DL.call_lenA (by rfl) T.b_len boo_len (pa_cons (pv 2) pa_nil)) (pe_callB DL.call_lenA (by rfl) T.b_len boo_len (pa_cons (pv 0) pa_nil)) (nomark _)) (pss_one (ps_rxi rfl (takes_of rfl rfl rfl rfl) x_InvalidText hr h2 (by rfl) (pa_cons (pe_callB DL.call_lenA (by rfl) T.b_len boo_len (pa_cons (pv 0) pa_nil)) pa_nil))) pss_nil) (pss_one (ps_ret (pv 3))))))))
/-! _law_bag: 0 cell, 1 rest -/
abbrev s__law_bag : Stmt := top 21
abbrev n__law_bag : List Str := ["cell", "rest"]
theorem sc__law_bag : FnScope n__law_bag ["cell"] (defScope s__law_bag) := C8.fnScope_by (by decide +kernel)
def t__law_bag (K : PySem.W.Frag) : TS :=
  (tSeq (tAsg (tC (.int 0)) (gName 1)) (tSeq (tIfS (tTest (tOp (rI0 fun i j => .bl (decide (j ≤ i))) (tVar 0) (tOp (rI CPow fun i j => .int (i ^ j.toNat)) (tC (.int 10)) (tC (.int 18))))) (tAsg (tOp (rI0 fun i j => .int (i - j)) (tVar 0) (tOp (rI CPow fun i j => .int (i ^ j.toNat)) (tC (.int 10)) (tC (.int 18)))) (gName 1)) tNext) (tRet (tLst (tCons (tVar 1) (tCons (tOp (rI (fun _ j => 0 < j) fun i j => .int (i % j)) (tCB rInt (tCons (tVar 0) tNil)) (tC (.int 1000000000000000003))) (tCons (tC (.int 0)) tNil)))))))
theorem der__law_bag (T : Tx mg) {k : Nat} {f : Addr} {cdv : Value} {A : Around} {outer : List Env} {s : Shared} {H : Hp} {E : XK}
    (hr : Room k (A.deeper (PyProof.Rows.envOfC "_law_bag" (defScope s__law_bag) s.heap.objs.size f cdv))) : PSs (cxOf CX0 P w K mg base n__law_bag "_law_bag" (defScope s__law_bag) f cdv A outer s H E).nox (defBody s__law_bag) (t__law_bag K) := by
  have nd := sc__law_bag.nd
  exact (pss_cons (ps_set (i := 1) nd rfl (by first | exact Or.inl rfl | exact Or.inr rfl) pe_int) (pss_cons (ps_if (pt_cmpR op_ge (pv 0) (pe_op op_pow pe_int pe_int) (nomark _)) (pss_one (ps_set (i := 1) nd rfl (by first | exact Or.inl rfl | exact Or.inr rfl) (pe_op op_sub (pv 0) (pe_op op_pow pe_int pe_int)))) pss_nil) (pss_one (ps_ret (pe_lst (pa_cons (pv 1) (pa_cons (pe_op op_mod (pe_callTy call_intA (by rfl) T.b_int boo_int (pa_cons (pv 0) pa_nil)) pe_int) (pa_cons pe_int pa_nil))))))))
/-! _law_draw: 0 bag, 1 many, 2 turn, 3 mixed, 4 digit -/
abbrev s__law_draw : Stmt := top 22
abbrev n__law_draw : List Str := ["bag", "many", "turn", "mixed", "digit"]
theorem sc__law_draw : FnScope n__law_draw ["bag", "many"] (defScope s__law_draw) := C8.fnScope_by (by decide +kernel)
def t__law_draw (K : PySem.W.Frag) : TS :=
  (tSeq (tIfS (tTest (tOp (rI0 fun i j => .bl (decide (j < i))) (tOp (rIx K) (tVar 0) (tC (.int 0))) (tC (.int 0)))) (tSeq (tAsg (tOp (rI (fun _ j => 0 < j) fun i j => .int (i % j)) (tCB rInt (tCons (tOp (rIx K) (tVar 0) (tC (.int 0))) tNil)) (tVar 1)) (gName 4)) (tSeq (tAsg (tOp rFdA (tOp (rIx K) (tVar 0) (tC (.int 0))) (tVar 1)) (gSub (tVar 0) (tC (.int 0)) rSetL)) (tRet (tVar 4)))) tNext) (tSeq (tAsg (tOp (rAddA K) (tOp (rIx K) (tVar 0) (tC (.int 2))) (tC (.int 1))) (gSub (tVar 0) (tC (.int 2)) rSetL)) (tSeq (tAsg (tOp (rIx K) (tVar 0) (tC (.int 2))) (gName 2)) (tSeq (tAsg (tOp (rAddA K) (tOp rMulA (tOp (rAddA K) (tOp (rIx K) (tVar 0) (tC (.int 1))) (tC (.int 7))) (tOp (rAddA K) (tOp (rAddA K) (tOp rMulA (tOp rMulA (tC (.int 31)) (tVar 2)) (tVar 2)) (tOp rMulA (tC (.int 104729)) (tVar 2))) (tC (.int 13)))) (tOp rMulA (tC (.int 17)) (tVar 2))) (gName 3)) (tSeq (tAsg (tOp rFdA (tOp (rI (fun _ j => 0 < j) fun i j => .int (i % j)) (tCB rInt (tCons (tOp (rAddA K) (tOp rMulA (tVar 3) (tVar 3)) (tOp rMulA (tC (.int 999983)) (tVar 3))) tNil)) (tC (.int 1000000000000000009))) (tC (.int 1009))) (gName 3)) (tRet (tOp (rI (fun _ j => 0 < j) fun i j => .int (i % j)) (tOp rFdA (tOp (rI (fun _ j => 0 < j) fun i j => .int (i % j)) (tCB rInt (tCons (tOp (rAddA K) (tOp (rAddA K) (tOp rMulA (tVar 3) (tVar 3)) (tOp rMulA (tC (.int 65537)) (tVar 3))) (tVar 2)) tNil)) (tC (.int 2147483629))) (tC (.int 16))) (tVar 1))))))))
theorem der__law_draw (T : Tx mg) {k : Nat} {f : Addr} {cdv : Value} {A : Around} {outer : List Env} {s : Shared} {H : Hp} {E : XK}
    (hr : Room k (A.deeper (PyProof.Rows.envOfC "_law_draw" (defScope s__law_draw) s.heap.objs.size f cdv))) : PSs (cxOf CX0 P w K mg base n__law_draw "_law_draw" (defScope s__law_draw) f cdv A outer s H E).nox (defBody s__law_draw) (t__law_draw K) := by
  have nd := sc__law_draw.nd
  exact (pss_cons (ps_if (pt_cmpR op_gt (pe_ix ix_seq (pv 0) pe_int (fun _ _ => rfl)) pe_int (nomark _)) (pss_cons (ps_set (i := 4) nd rfl (by first | exact Or.inl rfl | exact Or.inr rfl) (pe_op op_mod (pe_callTy call_intA (by rfl) T.b_int boo_int (pa_cons (pe_ix ix_seq (pv 0) pe_int (fun _ _ => rfl)) pa_nil)) (pv 1))) (pss_cons (ps_asg (pe_op op_fdA (pe_ix ix_seq (pv 0) pe_int (fun _ _ => rfl)) (pv 1)) (pg_sub (pv 0) pe_int set_list)) (pss_one (ps_ret (pv 4))))) pss_nil) (pss_cons (ps_asg (pe_op op_addA (pe_ix ix_seq (pv 0) pe_int (fun _ _ => rfl)) pe_int) (pg_sub (pv 0) pe_int set_list)) (pss_cons (ps_set (i := 2) nd rfl (by first | exact Or.inl rfl | exact Or.inr rfl) (pe_ix ix_seq (pv 0) pe_int (fun _ _ => rfl))) (pss_cons (ps_set (i := 3) nd rfl (by first | exact Or.inl rfl | exact Or.inr rfl) (pe_op op_addA (pe_op op_mulA (pe_op op_addA (pe_ix ix_seq (pv 0) pe_int (fun _ _ => rfl)) pe_int) (pe_op op_addA (pe_op op_addA (pe_op op_mulA (pe_op op_mulA pe_int (pv 2)) (pv 2)) (pe_op op_mulA pe_int (pv 2))) pe_int)) (pe_op op_mulA pe_int (pv 2)))) (pss_cons (ps_set (i := 3) nd rfl (by first | exact Or.inl rfl | exact Or.inr rfl) (pe_op op_fdA (pe_op op_mod (pe_callTy call_intA (by rfl) T.b_int boo_int (pa_cons (pe_op op_addA (pe_op op_mulA (pv 3) (pv 3)) (pe_op op_mulA pe_int (pv 3))) pa_nil)) pe_int) pe_int)) (pss_one (ps_ret (pe_op op_mod (pe_op op_fdA (pe_op op_mod (pe_callTy call_intA (by rfl) T.b_int boo_int (pa_cons (pe_op op_addA (pe_op op_addA (pe_op op_mulA (pv 3) (pv 3)) (pe_op op_mulA pe_int (pv 3))) (pv 2)) pa_nil)) pe_int) pe_int) (pv 1)))))))))
/-! _law_whole: 0 found -/
abbrev s__law_whole : Stmt := top 23
abbrev n__law_whole : List Str := ["found"]
theorem sc__law_whole : FnScope n__law_whole ["found"] (defScope s__law_whole) := C8.fnScope_by (by decide +kernel)
def t__law_whole (K : PySem.W.Frag) : TS :=
  (tRet (tAndV (tCB (rIsi K) (tCons (tVar 0) (tCons (tC (.ty "int")) tNil))) (tNotV (tCB (rIsi K) (tCons (tVar 0) (tCons (tC (.ty "bool")) tNil))))))
theorem der__law_whole (T : Tx mg) {k : Nat} {f : Addr} {cdv : Value} {A : Around} {outer : List Env} {s : Shared} {H : Hp} {E : XK}
    (hr : Room k (A.deeper (PyProof.Rows.envOfC "_law_whole" (defScope s__law_whole) s.heap.objs.size f cdv))) : PSs (cxOf CX0 P w K mg base n__law_whole "_law_whole" (defScope s__law_whole) f cdv A outer s H E).nox (defBody s__law_whole) (t__law_whole K) := by
  have nd := sc__law_whole.nd
  exact (pss_one (ps_ret (pe_and (pe_callB call_isi (by rfl) T.b_isinstance boo_isinstance (pa_cons (pv 0) (pa_cons (pe_bltn (v := .ty "int") (by rfl) T.b_int boo_int rfl) pa_nil))) (pe_one (pe_not (pe_callB call_isi (by rfl) T.b_isinstance boo_isinstance (pa_cons (pv 0) (pa_cons (pe_bltn (v := .ty "bool") (by rfl) T.b_bool boo_bool rfl) pa_nil))))))))
/-! _law_sheet: 0 bag, 1 shape, 2 many, 3 k -/
abbrev s__law_sheet : Stmt := top 24
abbrev n__law_sheet : List Str := ["bag", "shape", "many", "k"]
theorem sc__law_sheet : FnScope n__law_sheet ["bag"] (defScope s__law_sheet) := C8.fnScope_by (by decide +kernel)
def t__law_sheet (K : PySem.W.Frag) (S__law_draw : ASp) : TS :=
  (tSeq (tAsg (tCall (spA 2 S__law_draw) [] E0 (tCons (tVar 0) (tCons (tC (.int 6)) tNil))) (gName 1)) (tSeq (tAsg (tC (.int 24)) (gName 2)) (tSeq (tIfS (tTest (tOp (rEqA K) (tVar 1) (tC (.int 0)))) (tAsg (tCall (spA 2 S__law_draw) [] E0 (tCons (tVar 0) (tCons (tC (.int 3)) tNil))) (gName 2)) (tIfS (tTest (tOp (rI0 fun i j => .bl (decide (j < i))) (tVar 1) (tC (.int 1)))) (tAsg (tCall (spA 2 S__law_draw) [] E0 (tCons (tVar 0) (tCons (tC (.int 25)) tNil))) (gName 2)) tNext)) (tRet (tLc (iRng1 (tCons (tVar 2) tNil)) (gName 3) tYes (tOp (rAddA K) (tC (.int 2)) (tCall (spA 2 S__law_draw) [] E0 (tCons (tVar 0) (tCons (tC (.int 5)) tNil)))) [3])))))
theorem der__law_sheet (T : Tx mg) {k : Nat} {S__law_draw : ASp} {j__law_draw : Nat} (c__law_draw : Cl P w K mg base "_law_draw" j__law_draw 2 S__law_draw) (h__law_draw : j__law_draw ≤ k) {f : Addr} {cdv : Value} {A : Around} {outer : List Env} {s : Shared} {H : Hp} {E : XK}
    (hr : Room k (A.deeper (PyProof.Rows.envOfC "_law_sheet" (defScope s__law_sheet) s.heap.objs.size f cdv))) : PSs (cxOf CX0 P w K mg base n__law_sheet "_law_sheet" (defScope s__law_sheet) f cdv A outer s H E).nox (defBody s__law_sheet) (t__law_sheet K S__law_draw) := by
  have nd := sc__law_sheet.nd
  exact (pss_cons (ps_set (i := 1) nd rfl (by first | exact Or.inl rfl | exact Or.inr rfl) (pe_cl c__law_draw hr h__law_draw (by rfl) (pa_cons (pv 0) (pa_cons pe_int pa_nil)))) (pss_cons (ps_set (i := 2) nd rfl (by first | exact Or.inl rfl | exact Or.inr rfl) pe_int) (pss_cons (ps_if (pt_cmpR (op_eqA hr.units) (pv 1) pe_int (nomark _)) (pss_one (ps_set (i := 2) nd rfl (by first | exact Or.inl rfl | exact Or.inr rfl) (pe_cl c__law_draw hr h__law_draw (by rfl) (pa_cons (pv 0) (pa_cons pe_int pa_nil))))) (pss_one (ps_if (pt_cmpR op_gt (pv 1) pe_int (nomark _)) (pss_one (ps_set (i := 2) nd rfl (by first | exact Or.inl rfl | exact Or.inr rfl) (pe_cl c__law_draw hr h__law_draw (by rfl) (pa_cons (pv 0) (pa_cons pe_int pa_nil))))) pss_nil))) (pss_one (ps_ret (pe_lc (own := [("k", 3)]) rfl nd (pi_range1 (by rfl) T.b_range (pa_cons (pv 2) pa_nil)) (blkOk_by (by kernel_rfl)) (fun _ _ _ _ _ => (pg_name (i := 3) nd rfl (by first | exact Or.inl rfl | exact Or.inr rfl))) (fun _ _ _ _ _ => pts_nil) (fun _ _ _ _ _ => (pe_op op_addA pe_int (pe_cl c__law_draw hr h__law_draw (by rfl) (pa_cons (pv 0) (pa_cons pe_int pa_nil)))))))))))
/-! _law_word: 0 bag, 1 some -/
abbrev s__law_word : Stmt := top 25
abbrev n__law_word : List Str := ["bag", "some"]
theorem sc__law_word : FnScope n__law_word ["bag"] (defScope s__law_word) := C8.fnScope_by (by decide +kernel)
def t__law_word (K : PySem.W.Frag) (S__law_draw : ASp) : TS :=
  (tSeq (tAsg (tLst (tCons (tC (.str ("?" : Str))) (tCons (tC (.str ("0" : Str))) (tCons (tC (.str ("1" : Str))) (tCons (tC (.str ("5" : Str))) (tCons (tC (.str ("6" : Str))) (tCons (tC (.str ("-1" : Str))) (tCons (tC (.str ("-0" : Str))) (tCons (tC (.str ("00" : Str))) (tCons (tC (.str ("01" : Str))) (tCons (tC (.str ("" : Str))) (tCons (tC (.str ("??" : Str))) (tCons (tC (.str ("1234567890" : Str))) (tCons (tC (.str ("a" : Str))) (tCons (tC (.str ("+1" : Str))) (tCons (tC (.str ("1_0" : Str))) (tCons (tC (.str ("-" : Str))) (tCons (tC (.str ("0,1" : Str))) tNil)))))))))))))))))) (gName 1)) (tSeq (tDrop (tBM K "list" rAppend (tVar 1) (tCons (tC (.str ("2\n" : Str))) tNil))) (tRet (tOp (rIx K) (tVar 1) (tCall (spA 2 S__law_draw) [] E0 (tCons (tVar 0) (tCons (tCB (DL.rLen K) (tCons (tVar 1) tNil)) tNil)))))))
theorem der__law_word (T : Tx mg) {k : Nat} {S__law_draw : ASp} {j__law_draw : Nat} (c__law_draw : Cl P w K mg base "_law_draw" j__law_draw 2 S__law_draw) (h__law_draw : j__law_draw ≤ k) {f : Addr} {cdv : Value} {A : Around} {outer : List Env} {s : Shared} {H : Hp} {E : XK}
    (hr : Room k (A.deeper (PyProof.Rows.envOfC "_law_word" (defScope s__law_word) s.heap.objs.size f cdv))) : PSs (cxOf CX0 P w K mg base n__law_word "_law_word" (defScope s__law_word) f cdv A outer s H E).nox (defBody s__law_word) (t__law_word K S__law_draw) := by
  have nd := sc__law_word.nd
  exact (pss_cons (ps_set (i := 1) nd rfl (by first | exact Or.inl rfl | exact Or.inr rfl) (pe_lst (pa_cons pe_str (pa_cons pe_str (pa_cons pe_str (pa_cons pe_str (pa_cons pe_str (pa_cons pe_str (pa_cons pe_str (pa_cons pe_str (pa_cons pe_str (pa_cons pe_str (pa_cons pe_str (pa_cons pe_str (pa_cons pe_str (pa_cons pe_str (pa_cons pe_str (pa_cons pe_str (pa_cons pe_str pa_nil))))))))))))))))))) (pss_cons (ps_expr (pe_bm PySem.F.plainAttrs_list PySem.F.slot_list_append PySem.F.type_list_append mt_append (pv 1) (pa_cons pe_str pa_nil))) (pss_one (ps_ret (pe_ix ix_seq (pv 1) (pe_cl c__law_draw hr h__law_draw (by rfl) (pa_cons (pv 0) (pa_cons (pe_callB DL.call_lenA (by rfl) T.b_len boo_len (pa_cons (pv 1) pa_nil)) pa_nil))) (fun _ _ => rfl))))))
/-! _law_spoiled: 0 bag, 1 words, 2 way, 3 at, 4 put -/
abbrev s__law_spoiled : Stmt := top 26
abbrev n__law_spoiled : List Str := ["bag", "words", "way", "at", "put"]
theorem sc__law_spoiled : FnScope n__law_spoiled ["bag", "words"] (defScope s__law_spoiled) := C8.fnScope_by (by decide +kernel)
def t__law_spoiled (K : PySem.W.Frag) (S__law_word : ASp) (S__law_draw : ASp) : TS :=
  (tSeq (tAsg (tCall (spA 2 S__law_draw) [] E0 (tCons (tVar 0) (tCons (tC (.int 6)) tNil))) (gName 2)) (tSeq (tAsg (tCall (spA 2 S__law_draw) [] E0 (tCons (tVar 0) (tCons (tOp (rAddA K) (tCB (DL.rLen K) (tCons (tVar 1) tNil)) (tC (.int 1))) tNil))) (gName 3)) (tSeq (tAsg (tCall (spA 1 S__law_word) [] E0 (tCons (tVar 0) tNil)) (gName 4)) (tSeq (tIfS (tTest (tOp (rEqA K) (tVar 2) (tC (.int 0)))) (tRet (tOp (rAddA K) (tOp (rAddA K) (tSl (DL.rSlX K) (tVar 1) tNoPart (tPart (tVar 3))) (tLst (tCons (tVar 4) tNil))) (tSl (DL.rSlX K) (tVar 1) (tPart (tOp (rAddA K) (tVar 3) (tC (.int 1)))) tNoPart))) tNext) (tSeq (tIfS (tTest (tOp (rEqA K) (tVar 2) (tC (.int 1)))) (tRet (tOp (rAddA K) (tOp (rAddA K) (tSl (DL.rSlX K) (tVar 1) tNoPart (tPart (tVar 3))) (tLst (tCons (tVar 4) tNil))) (tSl (DL.rSlX K) (tVar 1) (tPart (tVar 3)) tNoPart))) tNext) (tSeq (tIfS (tTest (tOp (rEqA K) (tVar 2) (tC (.int 2)))) (tRet (tOp (rAddA K) (tSl (DL.rSlX K) (tVar 1) tNoPart (tPart (tVar 3))) (tSl (DL.rSlX K) (tVar 1) (tPart (tOp (rAddA K) (tVar 3) (tC (.int 1)))) tNoPart))) tNext) (tSeq (tIfS (tTest (tOp (rEqA K) (tVar 2) (tC (.int 3)))) (tRet (tOp (rAddA K) (tOp (rAddA K) (tSl (DL.rSlX K) (tVar 1) tNoPart (tPart (tVar 3))) (tSl (DL.rSlX K) (tVar 1) (tPart (tVar 3)) (tPart (tOp (rAddA K) (tVar 3) (tC (.int 1)))))) (tSl (DL.rSlX K) (tVar 1) (tPart (tVar 3)) tNoPart))) tNext) (tSeq (tIfS (tTest (tOp (rEqA K) (tVar 2) (tC (.int 4)))) (tRet (tSl (DL.rSlX K) (tVar 1) tNoPart (tPart (tVar 3)))) tNext) (tRet (tVar 1))))))))))
theorem der__law_spoiled (T : Tx mg) {k : Nat} {S__law_word : ASp} {j__law_word : Nat} (c__law_word : Cl P w K mg base "_law_word" j__law_word 1 S__law_word) (h__law_word : j__law_word ≤ k) {S__law_draw : ASp} {j__law_draw : Nat} (c__law_draw : Cl P w K mg base "_law_draw" j__law_draw 2 S__law_draw) (h__law_draw : j__law_draw ≤ k) {f : Addr} {cdv : Value} {A : Around} {outer : List Env} {s : Shared} {H : Hp} {E : XK}
    (hr : Room k (A.deeper (PyProof.Rows.envOfC "_law_spoiled" (defScope s__law_spoiled) s.heap.objs.size f cdv))) : PSs (cxOf CX0 P w K mg base n__law_spoiled "_law_spoiled" (defScope s__law_spoiled) f cdv A outer s H E).nox (defBody s__law_spoiled) (t__law_spoiled K S__law_word S__law_draw) := by
  have nd := sc__law_spoiled.nd
  exact (pss_cons (ps_set (i := 2) nd rfl (by first | exact Or.inl rfl | exact Or.inr rfl) (pe_cl c__law_draw hr h__law_draw (by rfl) (pa_cons (pv 0) (pa_cons pe_int pa_nil)))) (pss_cons (ps_set (i := 3) nd rfl (by first | exact Or.inl rfl | exact Or.inr rfl) (pe_cl c__law_draw hr h__law_draw (by rfl) (pa_cons (pv 0) (pa_cons (pe_op op_addA (pe_callB DL.call_lenA (by rfl) T.b_len boo_len (pa_cons (pv 1) pa_nil)) pe_int) pa_nil)))) (pss_cons (ps_set (i := 4) nd rfl (by first | exact Or.inl rfl | exact Or.inr rfl) (pe_cl c__law_word hr h__law_word (by rfl) (pa_cons (pv 0) pa_nil))) (pss_cons (ps_if (pt_cmpR (op_eqA hr.units) (pv 2) pe_int (nomark _)) (pss_one (ps_ret (pe_op op_addA (pe_op op_addA (pe_slice DL.sl_X (pv 1) po_none (po_some (pv 3))) (pe_lst (pa_cons (pv 4) pa_nil))) (pe_slice DL.sl_X (pv 1) (po_some (pe_op op_addA (pv 3) pe_int)) po_none)))) pss_nil) (pss_cons (ps_if (pt_cmpR (op_eqA hr.units) (pv 2) pe_int (nomark _)) (pss_one (ps_ret (pe_op op_addA (pe_op op_addA (pe_slice DL.sl_X (pv 1) po_none (po_some (pv 3))) (pe_lst (pa_cons (pv 4) pa_nil))) (pe_slice DL.sl_X (pv 1) (po_some (pv 3)) po_none)))) pss_nil) (pss_cons (ps_if (pt_cmpR (op_eqA hr.units) (pv 2) pe_int (nomark _)) (pss_one (ps_ret (pe_op op_addA (pe_slice DL.sl_X (pv 1) po_none (po_some (pv 3))) (pe_slice DL.sl_X (pv 1) (po_some (pe_op op_addA (pv 3) pe_int)) po_none)))) pss_nil) (pss_cons (ps_if (pt_cmpR (op_eqA hr.units) (pv 2) pe_int (nomark _)) (pss_one (ps_ret (pe_op op_addA (pe_op op_addA (pe_slice DL.sl_X (pv 1) po_none (po_some (pv 3))) (pe_slice DL.sl_X (pv 1) (po_some (pv 3)) (po_some (pe_op op_addA (pv 3) pe_int)))) (pe_slice DL.sl_X (pv 1) (po_some (pv 3)) po_none)))) pss_nil) (pss_cons (ps_if (pt_cmpR (op_eqA hr.units) (pv 2) pe_int (nomark _)) (pss_one (ps_ret (pe_slice DL.sl_X (pv 1) po_none (po_some (pv 3))))) pss_nil) (pss_one (ps_ret (pv 1)))))))))))
/-! _law_value: 0 word, 1 size -/
abbrev s__law_value : Stmt := top 27
abbrev n__law_value : List Str := ["word", "size"]
theorem sc__law_value : FnScope n__law_value ["word", "size"] (defScope s__law_value) := C8.fnScope_by (by decide +kernel)
def t__law_value (K : PySem.W.Frag) : TS :=
  (tSeq (tIfS (tTest (tOp (rEqA K) (tVar 0) (tC (.str ("?" : Str))))) (tRet (tC .non)) tNext) (tSeq (tIfS (tAnd (tTest (tOp (rEqA K) (tCB (DL.rLen K) (tCons (tVar 0) tNil)) (tC (.int 1)))) (tAnd (tTest (tOp (rInA K) (tVar 0) (tC (.str ("012345" : Str))))) (tTest (tOp (rI0 fun i j => .bl (decide (i < j))) (tCB rInt (tCons (tVar 0) tNil)) (tVar 1))))) (tRet (tCB rInt (tCons (tVar 0) tNil))) tNext) (tRet (tUn (rU fun i => .int (-i)) (tC (.int 1))))))
theorem der__law_value (T : Tx mg) {k : Nat} {f : Addr} {cdv : Value} {A : Around} {outer : List Env} {s : Shared} {H : Hp} {E : XK}
    (hr : Room k (A.deeper (PyProof.Rows.envOfC "_law_value" (defScope s__law_value) s.heap.objs.size f cdv))) : PSs (cxOf CX0 P w K mg base n__law_value "_law_value" (defScope s__law_value) f cdv A outer s H E).nox (defBody s__law_value) (t__law_value K) := by
  have nd := sc__law_value.nd
  exact (pss_cons (ps_if (pt_cmpR (op_eqA hr.units) (pv 0) pe_str (nomark _)) (pss_one (ps_ret pe_non)) pss_nil) (pss_cons (ps_if (PW.pt (pw_and (pt_cmpR (op_eqA hr.units) (pe_callB DL.call_lenA (by rfl) T.b_len boo_len (pa_cons (pv 0) pa_nil)) pe_int (nomark _)) (pw_and (pt_cmpR (op_inA (u65 hr)) (pv 0) pe_str (by with_unfolding_all rfl)) (pw_and1 (pt_cmpR op_lt (pe_callTy call_intA (by rfl) T.b_int boo_int (pa_cons (pv 0) pa_nil)) (pv 1) (nomark _)))))) (pss_one (ps_ret (pe_callTy call_intA (by rfl) T.b_int boo_int (pa_cons (pv 0) pa_nil)))) pss_nil) (pss_one (ps_ret (pe_un un_neg pe_int)))))
/-! _law_wrong: 0 sheet, 1 words, 2 at -/
abbrev s__law_wrong : Stmt := top 28
abbrev n__law_wrong : List Str := ["sheet", "words", "at"]
theorem sc__law_wrong : FnScope n__law_wrong ["sheet", "words"] (defScope s__law_wrong) := C8.fnScope_by (by decide +kernel)
def t__law_wrong (K : PySem.W.Frag) (S__law_value : ASp) : TS :=
  (tSeq (tFor (iRng1 (tCons (tCB (DL.rLen K) (tCons (tVar 0) tNil)) tNil)) (gName 2) (tSeq (tIfS (tTest (tOp (rI0 fun i j => .bl (decide (j ≤ i))) (tVar 2) (tCB (DL.rLen K) (tCons (tVar 1) tNil)))) (tRet (tVar 2)) tNext) (tIfS (tTest (tOp (rEqA K) (tCall (spA 2 S__law_value) [] E0 (tCons (tOp (rIx K) (tVar 1) (tVar 2)) (tCons (tOp (rIx K) (tVar 0) (tVar 2)) tNil))) (tUn (rU fun i => .int (-i)) (tC (.int 1))))) (tRet (tVar 2)) tNext))) (tSeq (tIfS (tTest (tOp (rI0 fun i j => .bl (decide (j < i))) (tCB (DL.rLen K) (tCons (tVar 1) tNil)) (tCB (DL.rLen K) (tCons (tVar 0) tNil)))) (tRet (tCB (DL.rLen K) (tCons (tVar 0) tNil))) tNext) (tRet (tC .non))))
theorem der__law_wrong (T : Tx mg) {k : Nat} {S__law_value : ASp} {j__law_value : Nat} (c__law_value : Cl P w K mg base "_law_value" j__law_value 2 S__law_value) (h__law_value : j__law_value ≤ k) {f : Addr} {cdv : Value} {A : Around} {outer : List Env} {s : Shared} {H : Hp} {E : XK}
    (hr : Room k (A.deeper (PyProof.Rows.envOfC "_law_wrong" (defScope s__law_wrong) s.heap.objs.size f cdv))) : PSs (cxOf CX0 P w K mg base n__law_wrong "_law_wrong" (defScope s__law_wrong) f cdv A outer s H E).nox (defBody s__law_wrong) (t__law_wrong K S__law_value) := by
  have nd := sc__law_wrong.nd
  exact (pss_cons (ps_for PassesOwn.never rfl (pi_range1 (by rfl) T.b_range (pa_cons (pe_callB DL.call_lenA (by rfl) T.b_len boo_len (pa_cons (pv 0) pa_nil)) pa_nil)) (pg_name (i := 2) nd rfl (by first | exact Or.inl rfl | exact Or.inr rfl)) (pss_cons (ps_if (pt_cmpR op_ge (pv 2) (pe_callB DL.call_lenA (by rfl) T.b_len boo_len (pa_cons (pv 1) pa_nil)) (nomark _)) (pss_one (ps_ret (pv 2))) pss_nil) (pss_one (ps_if (pt_cmpR (op_eqA hr.units) (pe_cl c__law_value hr h__law_value (by rfl) (pa_cons (pe_ix ix_seq (pv 1) (pv 2) (fun _ _ => rfl)) (pa_cons (pe_ix ix_seq (pv 0) (pv 2) (fun _ _ => rfl)) pa_nil))) (pe_un un_neg pe_int) (nomark _)) (pss_one (ps_ret (pv 2))) pss_nil)))) (pss_cons (ps_if (pt_cmpR op_gt (pe_callB DL.call_lenA (by rfl) T.b_len boo_len (pa_cons (pv 1) pa_nil)) (pe_callB DL.call_lenA (by rfl) T.b_len boo_len (pa_cons (pv 0) pa_nil)) (nomark _)) (pss_one (ps_ret (pe_callB DL.call_lenA (by rfl) T.b_len boo_len (pa_cons (pv 0) pa_nil)))) pss_nil) (pss_one (ps_ret pe_non))))
/-! _law_caught: 0 sheet, 1 text, 2 caught, 3 e -/
abbrev s__law_caught : Stmt := top 29
abbrev n__law_caught : List Str := ["sheet", "text", "caught", "e"]
theorem sc__law_caught : FnScope n__law_caught ["sheet", "text"] (defScope s__law_caught) := C8.fnScope_by (by decide +kernel)
def t__law_caught (K : PySem.W.Frag) (S_read_case : ASp) (C_ReasonError : Addr) : TS :=
  (tSeq (tAsg (tC .non) (gName 2)) (tSeq (tTryH K (.ref C_ReasonError) 3 2 (fun W => tDrop (tCallS (spA 2 S_read_case) (WE W) (tCons (tVar 0) (tCons (tVar 1) tNil)))) (fun _ _ _ _ => False)) (tRet (tVar 2))))
theorem der__law_caught (T : Tx mg) {k : Nat} {S_read_case : ASp} {j_read_case : Nat} (c_read_case : ClX P w K mg base "read_case" j_read_case 2 S_read_case) (h_read_case : j_read_case ≤ k) {C_ReasonError : Addr} (m_ReasonError : mg "ReasonError" = some (.ref C_ReasonError)) {f : Addr} {cdv : Value} {A : Around} {outer : List Env} {s : Shared} {H : Hp} {E : XK}
    (hr : Room k (A.deeper (PyProof.Rows.envOfC "_law_caught" (defScope s__law_caught) s.heap.objs.size f cdv))) : PSs (cxOf CX0 P w K mg base n__law_caught "_law_caught" (defScope s__law_caught) f cdv A outer s H E).nox (defBody s__law_caught) (t__law_caught K S_read_case C_ReasonError) := by
  have nd := sc__law_caught.nd
  exact (pss_cons (ps_set (i := 2) nd rfl (by first | exact Or.inl rfl | exact Or.inr rfl) pe_non) (pss_cons (ps_try_hold (i := 3) (n := "e") (c := .ref C_ReasonError) (tb := fun W => tDrop (tCallS (spA 2 S_read_case) (WE W) (tCons (tVar 0) (tCons (tVar 1) tNil)))) (ts := fun _ _ _ => tAsg (tVar 3) (gName 2)) (Wout := fun _ _ _ _ => False) rfl rfl rfl nd rfl rfl ⟨by rfl, by decide, Or.inl m_ReasonError⟩ takes0 (fun W pn xe tk _ => pss_one (ps_expr (pe_clX tk c_read_case hr h_read_case (by rfl) (pa_cons (pv 0) (pa_cons (pv 1) pa_nil))))) (fun a oe cls d pn _ _ => pss_one (ps_set (i := 2) nd rfl (by first | exact Or.inl rfl | exact Or.inr rfl) (pv 3)))) (pss_one (ps_ret (pv 2)))))
/-! _law_refused: 0 caught, 1 wrong -/
abbrev s__law_refused : Stmt := top 30
abbrev n__law_refused : List Str := ["caught", "wrong"]
theorem sc__law_refused : FnScope n__law_refused ["caught", "wrong"] (defScope s__law_refused) := C8.fnScope_by (by decide +kernel)
def t__law_refused (K : PySem.W.Frag) (S__law_whole : ASp) (C_InvalidHalf : Addr) (C_InvalidSizes : Addr) (C_InvalidText : Addr) : TS :=
  (tSeq (tIfS (tOr (tNot (tB (tCB (rIsX K) (tCons (tVar 0) (tCons (tC (.ref C_InvalidText)) tNil))))) (tNot (tB (tCB (rIsX K) (tCons (tVar 0) (tCons (tC (.ty "ValueError")) tNil)))))) (tRet (tC (.bl false))) tNext) (tSeq (tIfS (tOr (tB (tCB (rIsX K) (tCons (tVar 0) (tCons (tC (.ref C_InvalidHalf)) tNil)))) (tB (tCB (rIsX K) (tCons (tVar 0) (tCons (tC (.ref C_InvalidSizes)) tNil))))) (tRet (tC (.bl false))) tNext) (tRet (tAndV (tCall (spA 1 S__law_whole) [] E0 (tCons (tXv K ("place" : Str) (tVar 0)) tNil)) (tOp (rEqA K) (tXv K ("place" : Str) (tVar 0)) (tVar 1))))))
theorem der__law_refused (T : Tx mg) {k : Nat} {S__law_whole : ASp} {j__law_whole : Nat} (c__law_whole : Cl P w K mg base "_law_whole" j__law_whole 1 S__law_whole) (h__law_whole : j__law_whole ≤ k) {C_InvalidHalf : Addr} (m_InvalidHalf : mg "InvalidHalf" = some (.ref C_InvalidHalf)) {C_InvalidSizes : Addr} (m_InvalidSizes : mg "InvalidSizes" = some (.ref C_InvalidSizes)) {C_InvalidText : Addr} (m_InvalidText : mg "InvalidText" = some (.ref C_InvalidText)) {f : Addr} {cdv : Value} {A : Around} {outer : List Env} {s : Shared} {H : Hp} {E : XK}
    (hr : Room k (A.deeper (PyProof.Rows.envOfC "_law_refused" (defScope s__law_refused) s.heap.objs.size f cdv))) : PSs (cxOf CX0 P w K mg base n__law_refused "_law_refused" (defScope s__law_refused) f cdv A outer s H E).nox (defBody s__law_refused) (t__law_refused K S__law_whole C_InvalidHalf C_InvalidSizes C_InvalidText) := by
  have nd := sc__law_refused.nd
  exact (pss_cons (ps_if (PW.pt (pw_or (pt_not (pt_val (pe_callB call_isX (by rfl) T.b_isinstance boo_isinstance (pa_cons (pv 0) (pa_cons (C8.pe_gc (by rfl) ⟨_, m_InvalidText, rfl⟩) pa_nil))))) (pw_or1 (pt_not (pt_val (pe_callB call_isX (by rfl) T.b_isinstance boo_isinstance (pa_cons (pv 0) (pa_cons (pe_bltn (v := .ty "ValueError") (by rfl) T.b_ValueError boo_ValueError rfl) pa_nil)))))))) (pss_one (ps_ret pe_bl)) pss_nil) (pss_cons (ps_if (PW.pt (pw_or (pt_val (pe_callB call_isX (by rfl) T.b_isinstance boo_isinstance (pa_cons (pv 0) (pa_cons (C8.pe_gc (by rfl) ⟨_, m_InvalidHalf, rfl⟩) pa_nil)))) (pw_or1 (pt_val (pe_callB call_isX (by rfl) T.b_isinstance boo_isinstance (pa_cons (pv 0) (pa_cons (C8.pe_gc (by rfl) ⟨_, m_InvalidSizes, rfl⟩) pa_nil))))))) (pss_one (ps_ret pe_bl)) pss_nil) (pss_one (ps_ret (pe_and (pe_cl c__law_whole hr h__law_whole (by rfl) (pa_cons (pe_xv (pv 0)) pa_nil)) (pe_one (pe_cmpR (op_eqA hr.units) (pe_xv (pv 0)) (pv 1) (nomark _))))))))
/-! _law_alike: 0 found, 1 due, 2 part -/
abbrev s__law_alike : Stmt := top 31
abbrev n__law_alike : List Str := ["found", "due", "part"]
theorem sc__law_alike : FnScope n__law_alike ["found", "due"] (defScope s__law_alike) := C8.fnScope_by (by decide +kernel)
def t__law_alike (K : PySem.W.Frag) (S__law_whole : ASp) : TS :=
  (tSeq (tIfS (tOr (tNot (tB (tCB (rIsi K) (tCons (tVar 0) (tCons (tC (.ty "list")) tNil))))) (tTest (tOp (rNeA K) (tLc (iList K (tVar 0)) (gName 2) (tAnd (tB (tNotN (tVar 2))) (tNot (tB (tCall (spA 1 S__law_whole) [] E0 (tCons (tVar 2) tNil))))) (tVar 2) [2]) (tLst tNil)))) (tRet (tC (.bl false))) tNext) (tRet (tOp (rEqA K) (tVar 0) (tVar 1))))
theorem der__law_alike (T : Tx mg) {k : Nat} {S__law_whole : ASp} {j__law_whole : Nat} (c__law_whole : Cl P w K mg base "_law_whole" j__law_whole 1 S__law_whole) (h__law_whole : j__law_whole ≤ k) {f : Addr} {cdv : Value} {A : Around} {outer : List Env} {s : Shared} {H : Hp} {E : XK}
    (hr : Room k (A.deeper (PyProof.Rows.envOfC "_law_alike" (defScope s__law_alike) s.heap.objs.size f cdv))) : PSs (cxOf CX0 P w K mg base n__law_alike "_law_alike" (defScope s__law_alike) f cdv A outer s H E).nox (defBody s__law_alike) (t__law_alike K S__law_whole) := by
  have nd := sc__law_alike.nd
  exact (pss_cons (ps_if (PW.pt (pw_or (pt_not (pt_val (pe_callB call_isi (by rfl) T.b_isinstance boo_isinstance (pa_cons (pv 0) (pa_cons (pe_bltn (v := .ty "list") (by rfl) T.b_list boo_list rfl) pa_nil))))) (pw_or1 (pt_cmpR (op_neA hr.units) (pe_lc (own := [("part", 2)]) rfl nd (pi_list (pv 0)) (blkOk_by (by kernel_rfl)) (fun _ _ _ _ _ => (pg_name (i := 2) nd rfl (by first | exact Or.inl rfl | exact Or.inr rfl))) (fun _ _ _ _ _ => (pts_one (PW.pt (pw_and (pt_cmp (pc_notN (pv 2))) (pw_and1 (pt_not (pt_val (pe_cl c__law_whole hr h__law_whole (by rfl) (pa_cons (pv 2) pa_nil))))))))) (fun _ _ _ _ _ => (pv 2))) (pe_lst pa_nil) (nomark _))))) (pss_one (ps_ret pe_bl)) pss_nil) (pss_one (ps_ret (pe_cmpR (op_eqA hr.units) (pv 0) (pv 1) (nomark _)))))
/-! law: 0 script, 1 cell, 2 bag, 3 sheet, 4 times, 5 often, 6 half, 7 words, 8 handed, 9 found, 10 k, 11 text, 12 wrong, 13 caught, 14 due, 15 size, 16 value, 17 at -/
abbrev s_law : Stmt := top 32
abbrev n_law : List Str := ["script", "cell", "bag", "sheet", "times", "often", "half", "words", "handed", "found", "k", "text", "wrong", "caught", "due", "size", "value", "at"]
theorem sc_law : FnScope n_law ["script"] (defScope s_law) := C8.fnScope_by (by decide +kernel)
def t_law (K : PySem.W.Frag) (S__law_alike : ASp) (S__law_value : ASp) (S__law_refused : ASp) (S__law_caught : ASp) (S__law_wrong : ASp) (S__law_spoiled : ASp) (S_write_case : ASp) (S__law_draw : ASp) (S__law_sheet : ASp) (S__law_bag : ASp) (S_read_case : ASp) : TS :=
  (tSeq (tFor (iList K (tOp (rAddA K) (tLst (tCons (tC (.int 0)) tNil)) (tSl (DL.rSlX K) (tVar 0) tNoPart (tPart (tC (.int 12)))))) (gName 1) (tSeq (tAsg (tCall (spA 1 S__law_bag) [] E0 (tCons (tVar 1) tNil)) (gName 2)) (tSeq (tAsg (tCall (spA 1 S__law_sheet) [] E0 (tCons (tVar 2) tNil)) (gName 3)) (tSeq (tAsg (tCall (spA 2 S__law_draw) [] E0 (tCons (tVar 2) (tCons (tC (.int 3)) tNil))) (gName 4)) (tSeq (tAsg (tOp (rAddA K) (tC (.int 2)) (tCall (spA 2 S__law_draw) [] E0 (tCons (tVar 2) (tCons (tC (.int 3)) tNil)))) (gName 5)) (tSeq (tAsg (tLc (iList K (tVar 3)) (gName 15) tYes (tOp (rIx K) (tLst (tCons (tCall (spA 2 S__law_draw) [] E0 (tCons (tVar 2) (tCons (tVar 15) tNil))) (tCons (tC .non) tNil))) (tCB rInt (tCons (tOp (rEqA K) (tCall (spA 2 S__law_draw) [] E0 (tCons (tVar 2) (tCons (tVar 5) tNil))) (tC (.int 0))) tNil))) [15]) (gName 6)) (tSeq (tAsg (tLc (iList K (tVar 6)) (gName 16) tYes (tIf (tB (tIsN (tVar 16))) (tC (.str ("?" : Str))) (tCB rStrI (tCons (tVar 16) tNil))) [16]) (gName 7)) (tSeq (tAsg (tLst (tCons (tCB (rList K) (tCons (tVar 3) tNil)) (tCons (tCB (rList K) (tCons (tVar 6) tNil)) tNil))) (gName 8)) (tSeq (tAsg (tCall (spA 2 S_write_case) [] E0 (tCons (tOp (rIx K) (tVar 8) (tC (.int 0))) (tCons (tOp (rIx K) (tVar 8) (tC (.int 1))) tNil))) (gName 9)) (tSeq (tIfS (tOr (tNot (tB (tCB (rIsi K) (tCons (tVar 9) (tCons (tC (.ty "str")) tNil))))) (tTest (tOp (rNeA K) (tVar 9) (tM1 (rJoin K) (tC (.str (" " : Str))) (tVar 7))))) (tRet (tC (.bl false))) tNext) (tSeq (tIfS (tNot (tB (tCall (spA 2 S__law_alike) [] E0 (tCons (tCall (spA 2 S_read_case) [] E0 (tCons (tOp (rIx K) (tVar 8) (tC (.int 0))) (tCons (tM1 (rJoin K) (tC (.str (" " : Str))) (tVar 7)) tNil))) (tCons (tVar 6) tNil))))) (tRet (tC (.bl false))) tNext) (tSeq (tFor (iRng1 (tCons (tVar 4) tNil)) (gName 10) (tAsg (tCall (spA 2 S__law_spoiled) [] E0 (tCons (tVar 2) (tCons (tVar 7) tNil))) (gName 7))) (tSeq (tAsg (tM1 (rJoin K) (tC (.str (" " : Str))) (tVar 7)) (gName 11)) (tSeq (tAsg (tLst tNil) (gName 7)) (tSeq (tIfS (tTest (tOp (rNeA K) (tVar 11) (tC (.str ("" : Str))))) (tAsg (tM1 rSplit (tVar 11) (tC (.str (" " : Str)))) (gName 7)) tNext) (tSeq (tAsg (tCall (spA 2 S__law_wrong) [] E0 (tCons (tVar 3) (tCons (tVar 7) tNil))) (gName 12)) (tSeq (tAsg (tCall (spA 2 S__law_caught) [] E0 (tCons (tOp (rIx K) (tVar 8) (tC (.int 0))) (tCons (tVar 11) tNil))) (gName 13)) (tSeq (tIfS (tB (tIsN (tVar 12))) (tSeq (tAsg (tLc (iRng1 (tCons (tCB (DL.rLen K) (tCons (tVar 3) tNil)) tNil)) (gName 17) tYes (tCall (spA 2 S__law_value) [] E0 (tCons (tOp (rIx K) (tVar 7) (tVar 17)) (tCons (tOp (rIx K) (tVar 3) (tVar 17)) tNil))) [17]) (gName 14)) (tIfS (tOr (tB (tNotN (tVar 13))) (tNot (tB (tCall (spA 2 S__law_alike) [] E0 (tCons (tCall (spA 2 S_read_case) [] E0 (tCons (tOp (rIx K) (tVar 8) (tC (.int 0))) (tCons (tVar 11) tNil))) (tCons (tVar 14) tNil)))))) (tRet (tC (.bl false))) tNext)) (tIfS (tNot (tB (tCall (spA 2 S__law_refused) [] E0 (tCons (tVar 13) (tCons (tVar 12) tNil))))) (tRet (tC (.bl false))) tNext)) (tIfS (tTest (tOp (rNeA K) (tVar 8) (tLst (tCons (tVar 3) (tCons (tVar 6) tNil))))) (tRet (tC (.bl false))) tNext))))))))))))))))))) (tRet (tC (.bl true))))
theorem der_law (T : Tx mg) {k : Nat} {S__law_alike : ASp} {j__law_alike : Nat} (c__law_alike : Cl P w K mg base "_law_alike" j__law_alike 2 S__law_alike) (h__law_alike : j__law_alike ≤ k) {S__law_value : ASp} {j__law_value : Nat} (c__law_value : Cl P w K mg base "_law_value" j__law_value 2 S__law_value) (h__law_value : j__law_value ≤ k) {S__law_refused : ASp} {j__law_refused : Nat} (c__law_refused : Cl P w K mg base "_law_refused" j__law_refused 2 S__law_refused) (h__law_refused : j__law_refused ≤ k) {S__law_caught : ASp} {j__law_caught : Nat} (c__law_caught : Cl P w K mg base "_law_caught" j__law_caught 2 S__law_caught) (h__law_caught : j__law_caught ≤ k) {S__law_wrong : ASp} {j__law_wrong : Nat} (c__law_wrong : Cl P w K mg base "_law_wrong" j__law_wrong 2 S__law_wrong) (h__law_wrong : j__law_wrong ≤ k) {S__law_spoiled : ASp} {j__law_spoiled : Nat} (c__law_spoiled : Cl P w K mg base "_law_spoiled" j__law_spoiled 2 S__law_spoiled) (h__law_spoiled : j__law_spoiled ≤ k) {S_write_case : ASp} {j_write_case : Nat} (c_write_case : Cl P w K mg base "write_case" j_write_case 2 S_write_case) (h_write_case : j_write_case ≤ k) {S__law_draw : ASp} {j__law_draw : Nat} (c__law_draw : Cl P w K mg base "_law_draw" j__law_draw 2 S__law_draw) (h__law_draw : j__law_draw ≤ k) {S__law_sheet : ASp} {j__law_sheet : Nat} (c__law_sheet : Cl P w K mg base "_law_sheet" j__law_sheet 1 S__law_sheet) (h__law_sheet : j__law_sheet ≤ k) {S__law_bag : ASp} {j__law_bag : Nat} (c__law_bag : Cl P w K mg base "_law_bag" j__law_bag 1 S__law_bag) (h__law_bag : j__law_bag ≤ k) {S_read_case : ASp} {j_read_case : Nat} (c_read_case : ClX P w K mg base "read_case" j_read_case 2 S_read_case) (h_read_case : j_read_case ≤ k) {f : Addr} {cdv : Value} {A : Around} {outer : List Env} {s : Shared} {H : Hp} {E : XK}
    (hr : Room k (A.deeper (PyProof.Rows.envOfC "law" (defScope s_law) s.heap.objs.size f cdv))) : PSs (cxOf CX0 P w K mg base n_law "law" (defScope s_law) f cdv A outer s H E).nox (defBody s_law) (t_law K S__law_alike S__law_value S__law_refused S__law_caught S__law_wrong S__law_spoiled S_write_case S__law_draw S__law_sheet S__law_bag S_read_case) := by
  have nd := sc_law.nd
  exact (pss_cons (ps_for PassesOwn.never rfl (pi_list (pe_op op_addA (pe_lst (pa_cons pe_int pa_nil)) (pe_slice DL.sl_X (pv 0) po_none (po_some pe_int)))) (pg_name (i := 1) nd rfl (by first | exact Or.inl rfl | exact Or.inr rfl)) (pss_cons (ps_set (i := 2) nd rfl (by first | exact Or.inl rfl | exact Or.inr rfl) (pe_cl c__law_bag hr h__law_bag (by rfl) (pa_cons (pv 1) pa_nil))) (pss_cons (ps_set (i := 3) nd rfl (by first | exact Or.inl rfl | exact Or.inr rfl) (pe_cl c__law_sheet hr h__law_sheet (by rfl) (pa_cons (pv 2) pa_nil))) (pss_cons (ps_set (i := 4) nd rfl (by first | exact Or.inl rfl | exact Or.inr rfl) (pe_cl c__law_draw hr h__law_draw (by rfl) (pa_cons (pv 2) (pa_cons pe_int pa_nil)))) (pss_cons (ps_set (i := 5) nd rfl (by first | exact Or.inl rfl | exact Or.inr rfl) (pe_op op_addA pe_int (pe_cl c__law_draw hr h__law_draw (by rfl) (pa_cons (pv 2) (pa_cons pe_int pa_nil))))) (pss_cons (by first | exact ps_setLc (i := 6) (own := [("size", 15)]) rfl nd rfl rfl (sw_true rfl rfl rfl (by kernel_rfl)) (pi_list (pv 3)) (blkOk_by (by kernel_rfl)) (fun _ _ _ _ _ => (pg_name (i := 15) nd rfl (by first | exact Or.inl rfl | exact Or.inr rfl))) (fun _ _ _ _ _ => pts_nil) (fun _ _ _ _ _ => (pe_ix ix_seq (pe_lst (pa_cons (pe_cl c__law_draw hr h__law_draw (by rfl) (pa_cons (pv 2) (pa_cons (pv 15) pa_nil))) (pa_cons pe_non pa_nil))) (pe_callTy call_intA (by rfl) T.b_int boo_int (pa_cons (pe_cmpR (op_eqA hr.units) (pe_cl c__law_draw hr h__law_draw (by rfl) (pa_cons (pv 2) (pa_cons (pv 5) pa_nil))) pe_int (nomark _)) pa_nil)) (fun _ _ => rfl))) | exact ps_set (i := 6) nd rfl (by first | exact Or.inl rfl | exact Or.inr rfl) (pe_lc (own := [("size", 15)]) rfl nd (pi_list (pv 3)) (blkOk_by (by kernel_rfl)) (fun _ _ _ _ _ => (pg_name (i := 15) nd rfl (by first | exact Or.inl rfl | exact Or.inr rfl))) (fun _ _ _ _ _ => pts_nil) (fun _ _ _ _ _ => (pe_ix ix_seq (pe_lst (pa_cons (pe_cl c__law_draw hr h__law_draw (by rfl) (pa_cons (pv 2) (pa_cons (pv 15) pa_nil))) (pa_cons pe_non pa_nil))) (pe_callTy call_intA (by rfl) T.b_int boo_int (pa_cons (pe_cmpR (op_eqA hr.units) (pe_cl c__law_draw hr h__law_draw (by rfl) (pa_cons (pv 2) (pa_cons (pv 5) pa_nil))) pe_int (nomark _)) pa_nil)) (fun _ _ => rfl))))) (pss_cons (by first | exact ps_setLc (i := 7) (own := [("value", 16)]) rfl nd rfl rfl (sw_true rfl rfl rfl (by kernel_rfl)) (pi_list (pv 6)) (blkOk_by (by kernel_rfl)) (fun _ _ _ _ _ => (pg_name (i := 16) nd rfl (by first | exact Or.inl rfl | exact Or.inr rfl))) (fun _ _ _ _ _ => pts_nil) (fun _ _ _ _ _ => (pe_ifExp (pt_cmp (pc_isN (pv 16))) pe_str (pe_callTy call_strA (by rfl) T.b_str boo_str (pa_cons (pv 16) pa_nil)))) | exact ps_set (i := 7) nd rfl (by first | exact Or.inl rfl | exact Or.inr rfl) (pe_lc (own := [("value", 16)]) rfl nd (pi_list (pv 6)) (blkOk_by (by kernel_rfl)) (fun _ _ _ _ _ => (pg_name (i := 16) nd rfl (by first | exact Or.inl rfl | exact Or.inr rfl))) (fun _ _ _ _ _ => pts_nil) (fun _ _ _ _ _ => (pe_ifExp (pt_cmp (pc_isN (pv 16))) pe_str (pe_callTy call_strA (by rfl) T.b_str boo_str (pa_cons (pv 16) pa_nil)))))) (pss_cons (ps_set (i := 8) nd rfl (by first | exact Or.inl rfl | exact Or.inr rfl) (pe_lst (pa_cons (pe_callTy call_listA (by rfl) T.b_list boo_list (pa_cons (pv 3) pa_nil)) (pa_cons (pe_callTy call_listA (by rfl) T.b_list boo_list (pa_cons (pv 6) pa_nil)) pa_nil)))) (pss_cons (ps_set (i := 9) nd rfl (by first | exact Or.inl rfl | exact Or.inr rfl) (pe_cl c_write_case hr h_write_case (by rfl) (pa_cons (pe_ix ix_seq (pv 8) pe_int (fun _ _ => rfl)) (pa_cons (pe_ix ix_seq (pv 8) pe_int (fun _ _ => rfl)) pa_nil)))) (pss_cons (ps_if (PW.pt (pw_or (pt_not (pt_val (pe_callB call_isi (by rfl) T.b_isinstance boo_isinstance (pa_cons (pv 9) (pa_cons (pe_bltn (v := .ty "str") (by rfl) T.b_str boo_str rfl) pa_nil))))) (pw_or1 (pt_cmpR (op_neA hr.units) (pv 9) (pe_m1 PySem.F.slot_str_join PySem.F.type_str_join mt_joinA pe_str (pv 7)) (nomark _))))) (pss_one (ps_ret pe_bl)) pss_nil) (pss_cons (ps_if (pt_not (pt_val (pe_cl c__law_alike hr h__law_alike (by rfl) (pa_cons (pe_clX0 c_read_case hr h_read_case (by rfl) (pa_cons (pe_ix ix_seq (pv 8) pe_int (fun _ _ => rfl)) (pa_cons (pe_m1 PySem.F.slot_str_join PySem.F.type_str_join mt_joinA pe_str (pv 7)) pa_nil))) (pa_cons (pv 6) pa_nil))))) (pss_one (ps_ret pe_bl)) pss_nil) (pss_cons (ps_for PassesOwn.never rfl (pi_range1 (by rfl) T.b_range (pa_cons (pv 4) pa_nil)) (pg_name (i := 10) nd rfl (by first | exact Or.inl rfl | exact Or.inr rfl)) (pss_one (ps_set (i := 7) nd rfl (by first | exact Or.inl rfl | exact Or.inr rfl) (pe_cl c__law_spoiled hr h__law_spoiled (by rfl) (pa_cons (pv 2) (pa_cons (pv 7) pa_nil)))))) (pss_cons (ps_set (i := 11) nd rfl (by first | exact Or.inl rfl | exact Or.inr rfl) (pe_m1 PySem.F.slot_str_join PySem.F.type_str_join mt_joinA pe_str (pv 7))) (pss_cons (ps_set (i := 7) nd rfl (by first | exact Or.inl rfl | exact Or.inr rfl) (pe_lst pa_nil)) (pss_cons (ps_if (pt_cmpR (op_neA hr.units) (pv 11) pe_str (nomark _)) (pss_one (ps_set (i := 7) nd rfl (by first | exact Or.inl rfl | exact Or.inr rfl) (pe_m1 PySem.F.slot_str_split PySem.F.type_str_split mt_splitA (pv 11) pe_str))) pss_nil) (pss_cons (ps_set (i := 12) nd rfl (by first | exact Or.inl rfl | exact Or.inr rfl) (pe_cl c__law_wrong hr h__law_wrong (by rfl) (pa_cons (pv 3) (pa_cons (pv 7) pa_nil)))) (pss_cons (ps_set (i := 13) nd rfl (by first | exact Or.inl rfl | exact Or.inr rfl) (pe_cl c__law_caught hr h__law_caught (by rfl) (pa_cons (pe_ix ix_seq (pv 8) pe_int (fun _ _ => rfl)) (pa_cons (pv 11) pa_nil)))) (pss_cons (ps_if (pt_cmp (pc_isN (pv 12))) (pss_cons (by first | exact ps_setLc (i := 14) (own := [("at", 17)]) rfl nd rfl rfl (sw_true rfl rfl rfl (by kernel_rfl)) (pi_range1 (by rfl) T.b_range (pa_cons (pe_callB DL.call_lenA (by rfl) T.b_len boo_len (pa_cons (pv 3) pa_nil)) pa_nil)) (blkOk_by (by kernel_rfl)) (fun _ _ _ _ _ => (pg_name (i := 17) nd rfl (by first | exact Or.inl rfl | exact Or.inr rfl))) (fun _ _ _ _ _ => pts_nil) (fun _ _ _ _ _ => (pe_cl c__law_value hr h__law_value (by rfl) (pa_cons (pe_ix ix_seq (pv 7) (pv 17) (fun _ _ => rfl)) (pa_cons (pe_ix ix_seq (pv 3) (pv 17) (fun _ _ => rfl)) pa_nil)))) | exact ps_set (i := 14) nd rfl (by first | exact Or.inl rfl | exact Or.inr rfl) (pe_lc (own := [("at", 17)]) rfl nd (pi_range1 (by rfl) T.b_range (pa_cons (pe_callB DL.call_lenA (by rfl) T.b_len boo_len (pa_cons (pv 3) pa_nil)) pa_nil)) (blkOk_by (by kernel_rfl)) (fun _ _ _ _ _ => (pg_name (i := 17) nd rfl (by first | exact Or.inl rfl | exact Or.inr rfl))) (fun _ _ _ _ _ => pts_nil) (fun _ _ _ _ _ => (pe_cl c__law_value hr h__law_value (by rfl) (pa_cons (pe_ix ix_seq (pv 7) (pv 17) (fun _ _ => rfl)) (pa_cons (pe_ix ix_seq (pv 3) (pv 17) (fun _ _ => rfl)) pa_nil)))))) (pss_one (ps_if (PW.pt (pw_or (pt_cmp (pc_notN (pv 13))) (pw_or1 (pt_not (pt_val (pe_cl c__law_alike hr h__law_alike (by rfl) (pa_cons (pe_clX0 c_read_case hr h_read_case (by rfl) (pa_cons (pe_ix ix_seq (pv 8) pe_int (fun _ _ => rfl)) (pa_cons (pv 11) pa_nil))) (pa_cons (pv 14) pa_nil)))))))) (pss_one (ps_ret pe_bl)) pss_nil))) (pss_one (ps_if (pt_not (pt_val (pe_cl c__law_refused hr h__law_refused (by rfl) (pa_cons (pv 13) (pa_cons (pv 12) pa_nil))))) (pss_one (ps_ret pe_bl)) pss_nil))) (pss_one (ps_if (pt_cmpR (op_neA hr.units) (pv 8) (pe_lst (pa_cons (pv 3) (pa_cons (pv 6) pa_nil))) (nomark _)) (pss_one (ps_ret pe_bl)) pss_nil)))))))))))))))))))) (pss_one (ps_ret pe_bl)))
end
end K82
namespace K82
open PySem L2 PySem.Spec DL
set_option autoImplicit false
/-- one step of a reading -/
local macro_rules | `(tactic| walk_at "d0") => `(tactic| first
  | (with_reducible refine DL.dx_op ?_) | ((with_reducible show DX _ (tVar _) _ _ _); refine DL.dx_var rfl ?_)
  | (with_reducible refine DL.dx_int ?_) | (with_reducible refine DL.dx_bl ?_) | (with_reducible refine DL.dx_non ?_) | ((with_reducible show DX _ (tC (.str _)) _ _ _); refine DL.dx_str (by decide) ?_)
  | (with_reducible refine DL.da_cons ?_) | (with_reducible refine DL.da_nil ?_)
  | (with_reducible refine DL.dx_cb ?_) | (with_reducible refine DL.dx_tup ?_) | (with_reducible refine DL.dx_call ?_)
  | (with_reducible refine DL.dx_raw ?_) | (with_reducible refine DL.len_and (by exact Nat.le_of_ble_eq_true rfl) ?_)
  | (with_reducible refine DL.dt_b ?_) | (with_reducible refine DL.dt_test ?_) | (with_reducible refine DL.dt_and ?_) | (with_reducible refine DL.dt_or ?_) | (with_reducible refine DL.dt_not ?_) | (with_reducible refine DL.dt_yes ?_)
  | (with_reducible refine DL.dx_if ?_) | (with_reducible refine DL.dx_andV ?_) | (with_reducible refine DL.dx_orV ?_) | (with_reducible refine DL.dx_notV ?_) | (with_reducible refine DL.dx_chain ?_)
  | (with_reducible refine DL.dx_sl ?_) | (with_reducible refine DL.do_none ?_) | (with_reducible refine DL.do_some ?_)
  | (with_reducible refine DL.dx_isN ?_) | (with_reducible refine DL.dx_notN ?_) | (with_reducible refine DL.dx_neg ?_)
  | (with_reducible refine DL.dx_m1 ?_) | (with_reducible refine DL.dx_bmL ?_)
  | (with_reducible refine DL.ds_seq ?_) | (with_reducible refine DL.ds_asg ?_) | (with_reducible refine DL.ds_drop ?_) | (with_reducible refine DL.ds_ret ?_) | (with_reducible refine DL.ds_if ?_) | (with_reducible refine DL.ds_next ?_) | (with_reducible refine DL.ds_asgG ?_)
  | (with_reducible refine DL.isB ?_) | (with_reducible refine DL.allD_cons ?_) | (with_reducible refine DL.allD_nil ?_)
  | (with_reducible refine DL.d2_add rfl rfl ?_) | (with_reducible refine DL.d2_sub rfl rfl ?_)
  | (with_reducible refine DL.d2_lt rfl rfl ?_) | (with_reducible refine DL.d2_le rfl rfl ?_) | (with_reducible refine DL.d2_gt rfl rfl ?_) | (with_reducible refine DL.d2_ge rfl rfl ?_)
  | (with_reducible refine DL.d2_eqI rfl rfl ?_) | (with_reducible refine DL.d2_eqS rfl rfl ?_) | (with_reducible refine DL.d2_eqB rfl rfl ?_) | (with_reducible refine DL.d2_neI rfl rfl ?_) | (with_reducible refine DL.d2_neS rfl rfl ?_)
  | (with_reducible refine DL.dc_isi Vw.d (DL.kit_int _) ?_) | (with_reducible refine DL.dc_isi Vw.d (DL.kit_bool _) ?_) | (with_reducible refine DL.dc_isi Vw.d (DL.kit_str _) ?_) | (with_reducible refine DL.dc_isi Vw.d (DL.kit_list _) ?_) | (with_reducible refine DL.dc_isi Vw.d (DL.kit_tuple _) ?_)
  | (with_reducible refine DL.dc_lenL Vw.d ?_) | (with_reducible refine DL.dc_lenT rfl ?_) | (with_reducible refine DL.dc_lenS rfl ?_)
  | (with_reducible refine DL.dc_int rfl ?_) | (with_reducible refine DL.dc_intB rfl ?_)
  | (with_reducible refine DL.dc_listL Vw.d ?_) | (with_reducible refine DL.dc_listT rfl ?_) | (with_reducible refine DL.dc_tupleL Vw.d ?_) | (with_reducible refine DL.dc_tupleT rfl ?_)
  | (with_reducible refine DL.d3_list Vw.d ?_) | (with_reducible refine DL.d3_tup rfl ?_) | (with_reducible refine DL.d3_str rfl ?_))
local macro_rules | `(tactic| walk_at "d1") => `(tactic| first | walk_at "d0" | (with_reducible refine DL.dx_lst ?_))
local macro_rules | `(tactic| walk_at "d") => `(tactic| repeat walk_at "d1")
local macro_rules | `(tactic| walk_at "n") => `(tactic| repeat walk_at "d0")
section
variable {P : Program} {w : World} {K : PySem.W.Frag} {mg : Str → Option Value} {base : Heap}
def isWhole : D → Bool
  | .int _ => true
  | _ => false
theorem isWhole_eq (d : D) : (isInt d && !isBool d) = isWhole d := by cases d <;> rfl
def S_is_whole : ASp := fun cs O R X => ∃ d, cs = [.d d] ∧ R (.d (.bool (isWhole d))) O
theorem ds_is_whole {B : Bs} {d : D} {O : Ow} {R : RX} (h : R (.d (.bool (isWhole d))) O) : DS B (t_is_whole K) (startE n_is_whole [.d d]) O { nx := fun _ O' => R (.d .none) O', rt := R } := by
  unfold t_is_whole
  walk_at "d"
  rw [← isWhole_eq] at h
  refine ⟨fun e => ?_, fun e => ?_⟩
  · walk_at "d"
    rw [e] at h
    exact h
  · rw [e] at h
    exact h
theorem is_whole_ok (T : Tx mg) (Fd : Df K mg "is_whole" s_is_whole) : Cl P w K mg base "is_whole" 1 1 S_is_whole := by
  refine cl_of Fd sc_is_whole rfl (fun _ _ _ _ _ _ _ us e hl => by subst e; exact match us, hl with | [_], _ => rfl) fun f cdv A outer s H E B cs O R X hr hE hn hs => ⟨_, der_is_whole T hr, ?_⟩
  obtain ⟨d, rfl, hR⟩ := hs
  exact ds_is_whole hR
def isBelow (d : D) (b : Int) : Bool := match d with
  | .int i => decide (0 ≤ i) && decide (i < b)
  | _ => false
def S_is_below : ASp := fun cs O R X => ∃ d b, cs = [.d d, .d (.int b)] ∧ R (.d (.bool (isBelow d b))) O
theorem ds_is_below {B : Bs} {d : D} {b : Int} {O : Ow} {R : RX} (h : R (.d (.bool (isBelow d b))) O) : DS B (t_is_below K S_is_whole) (startE n_is_below [.d d, .d (.int b)]) O { nx := fun _ O' => R (.d .none) O', rt := R } := by
  unfold t_is_below
  walk_at "d"
  refine ⟨rfl, d, rfl, ?_⟩
  walk_at "d"
  refine ⟨fun e => ?_, fun e => ?_⟩
  · cases d <;> first | exact absurd e Bool.false_ne_true | skip
    rename_i i
    walk_at "d"
    have h : R (.d (.bool (decide (0 ≤ i) && decide (i < b)))) O := h
    refine ⟨fun e => ?_, fun e => ?_⟩
    · walk_at "d"
      rw [e, Bool.true_and] at h
      exact h
    · rw [e, Bool.false_and] at h
      exact h
  · cases d <;> first | exact absurd e.symm Bool.false_ne_true | exact h
theorem is_below_ok (T : Tx mg) (Fd : Df K mg "is_below" s_is_below) (c1 : Cl P w K mg base "is_whole" 1 1 S_is_whole) : Cl P w K mg base "is_below" 2 2 S_is_below := by
  refine cl_of Fd sc_is_below rfl (fun _ _ _ _ _ _ _ us e hl => by subst e; exact match us, hl with | [_, _], _ => rfl) fun f cdv A outer s H E B cs O R X hr hE hn hs => ⟨_, der_is_below T c1 (Nat.le_refl _) hr, ?_⟩
  obtain ⟨d, b, rfl, hR⟩ := hs
  exact ds_is_below hR
/-! ### sheets -/
def iD (xs : List Int) : List D := xs.map .int
structure SzOk (sz : List Int) : Prop where
  len : sz.length ≤ 24
  rng : ∀ s ∈ sz, 2 ≤ s ∧ s ≤ 6
abbrev dSz (sz : List Int) : D := .list (iD sz)
theorem all_ints {xs : List Int} {p : D → Bool} : (iD xs).all p = xs.all fun x => p (.int x) := by unfold iD; rw [List.all_map]; rfl
theorem mem_ints {xs : List Int} {d : D} (h : d ∈ iD xs) : ∃ x ∈ xs, d = .int x := by
  obtain ⟨x, h1, h2⟩ := List.mem_map.mp h
  exact ⟨x, h1, h2.symm⟩
theorem ints_get {xs : List Int} {i : Nat} {x : Int} (h : xs[i]? = some x) : (iD xs)[i]? = some (.int x) := by unfold iD; rw [List.getElem?_map, h]; rfl
theorem ints_len (xs : List Int) : (iD xs).length = xs.length := List.length_map _
def S_is_sizes : ASp := fun cs O R X => ∃ sz, cs = [.d (dSz sz)] ∧ SzOk sz ∧ R (.d (.bool true)) O
theorem ds_is_sizes {B : Bs} {sz : List Int} {O : Ow} {R : RX} (hs : SzOk sz) (h : R (.d (.bool true)) O) : DS B (t_is_sizes K S_is_below) (startE n_is_sizes [.d (dSz sz)]) O { nx := fun _ O' => R (.d .none) O', rt := R } := by
  unfold t_is_sizes
  walk_at "d"
  refine Cs.isF rfl ?_
  walk_at "d"
  refine Cs.isF (decide_eq_false ?_) ?_
  · rw [ints_len]; have := hs.len; omega
  walk_at "d"
  refine dx_lcMap (fun d => .bool true) (di_list (dx_var rfl ⟨_, rfl, fun d hd => ?_, ?_⟩))
  · obtain ⟨x, hx, rfl⟩ := mem_ints hd
    refine ⟨_, gd_name, by simp, ?_⟩
    walk_at "d"
    refine ⟨rfl, _, _, rfl, ?_⟩
    walk_at "d"
    have hx' := hs.rng x hx
    refine Cs.isT ?_ ?_
    · unfold isBelow; simp; omega
    walk_at "d"
    exact ⟨by rw [decide_eq_true (by omega : (1 : Int) < x)], rfl⟩
  · walk_at "d"
    refine dc_allMap (p := fun _ => true) ?_
    rw [all_ints, List.all_eq_true.mpr fun _ _ => rfl]
    exact h
theorem is_sizes_ok (T : Tx mg) (Fd : Df K mg "is_sizes" s_is_sizes) (c1 : Cl P w K mg base "is_below" 2 2 S_is_below) : Cl P w K mg base "is_sizes" 3 1 S_is_sizes := by
  refine cl_of Fd sc_is_sizes rfl (fun _ _ _ _ _ _ _ us e hl => by subst e; exact match us, hl with | [_], _ => rfl) fun f cdv A outer s H E B cs O R X hr hE hn hs => ⟨_, der_is_sizes T c1 (Nat.le_refl _) hr, ?_⟩
  obtain ⟨sz, rfl, hz, hR⟩ := hs
  exact ds_is_sizes hz hR
def S_need_sizes : ASp := fun cs O R X => ∃ sz, cs = [.d (dSz sz)] ∧ SzOk sz ∧ R (.d .none) O
theorem need_sizes_ok (T : Tx mg) (Fd : Df K mg "need_sizes" s_need_sizes) (c1 : Cl P w K mg base "is_sizes" 3 1 S_is_sizes) : Cl P w K mg base "need_sizes" 4 1 S_need_sizes := by
  refine cl_of Fd sc_need_sizes rfl (fun _ _ _ _ _ _ _ us e hl => by subst e; exact match us, hl with | [_], _ => rfl) fun f cdv A outer s H E B cs O R X hr hE hn hs => ⟨_, der_need_sizes T c1 (Nat.le_refl _) hr, ?_⟩
  obtain ⟨sz, rfl, hz, hR⟩ := hs
  unfold t_need_sizes
  walk_at "d"
  refine ⟨rfl, sz, rfl, hz, ?_⟩
  walk_at "d"
  refine Cs.isF rfl ?_
  walk_at "d"
  exact hR
end
section
variable {P : Program} {w : World} {K : PySem.W.Frag} {mg : Str → Option Value} {base : Heap}
def bagD (r s t : Int) : Option Ob := some (.lst [.int r, .int s, .int t])
def BagOk (r s t : Int) (m : Nat) : Prop := 0 ≤ r ∧ 0 ≤ s ∧ s < 1000000000000000003 ∧ 0 ≤ t ∧ t ≤ m
/-- the bag lies at b, and has been asked at most m times past the script's cell -/
def BagAt (O : Ow) (b m : Nat) : Prop := ∃ r s t, O[b]? = some (bagD r s t) ∧ BagOk r s t m
/-- the same cells, but for the bag -/
def BagTo (O O' : Ow) (b m : Nat) : Prop := ∃ r s t, O' = O.set b (bagD r s t) ∧ b < O.length ∧ BagOk r s t m
theorem BagAt.lt {O : Ow} {b m : Nat} (h : BagAt O b m) : b < O.length := by
  obtain ⟨r, s, t, h, _⟩ := h
  exact (List.getElem?_eq_some_iff.mp h).1
theorem BagTo.at_ {O O' : Ow} {b m : Nat} (h : BagTo O O' b m) : BagAt O' b m := by
  obtain ⟨r, s, t, rfl, hl, ok⟩ := h
  exact ⟨r, s, t, by rw [List.getElem?_set_self hl], ok⟩
theorem BagAt.to {O : Ow} {b m : Nat} (h : BagAt O b m) : BagTo O O b m := by
  obtain ⟨r, s, t, h, ok⟩ := h
  obtain ⟨hl, he⟩ := List.getElem?_eq_some_iff.mp h
  exact ⟨r, s, t, by rw [← he, List.set_getElem_self], hl, ok⟩
theorem BagTo.trans {O O1 O2 : Ow} {b m n : Nat} (x : BagTo O O1 b m) (y : BagTo O1 O2 b n) : BagTo O O2 b n := by
  obtain ⟨r, s, t, rfl, hl, _⟩ := x
  obtain ⟨r', s', t', rfl, _, ok⟩ := y
  exact ⟨r', s', t', by rw [List.set_set], hl, ok⟩
theorem BagOk.mono {r s t : Int} {m n : Nat} (h : BagOk r s t m) (hm : m ≤ n) : BagOk r s t n := ⟨h.1, h.2.1, h.2.2.1, h.2.2.2.1, by have := h.2.2.2.2; omega⟩
theorem BagAt.mono {O : Ow} {b m n : Nat} (h : BagAt O b m) (hm : m ≤ n) : BagAt O b n := by
  obtain ⟨r, s, t, h, ok⟩ := h
  exact ⟨r, s, t, h, ok.mono hm⟩
theorem BagTo.mono {O O' : Ow} {b m n : Nat} (h : BagTo O O' b m) (hm : m ≤ n) : BagTo O O' b n := by
  obtain ⟨r, s, t, h, hl, ok⟩ := h
  exact ⟨r, s, t, h, hl, ok.mono hm⟩
theorem BagTo.lk {O O' : Ow} {b m : Nat} (h : BagTo O O' b m) : Lk O O' := by
  obtain ⟨r, s, t, rfl, _, _⟩ := h
  exact .lst b _
theorem BagTo.other {O O' : Ow} {b m k : Nat} (h : BagTo O O' b m) (hk : k ≠ b) : O'[k]? = O[k]? := by
  obtain ⟨r, s, t, rfl, _, _⟩ := h
  rw [List.getElem?_set_ne (Ne.symm hk)]
theorem BagTo.app {O O' T : Ow} {b m : Nat} (h : BagTo O O' b m) : BagTo (O ++ T) (O' ++ T) b m := by
  obtain ⟨r, s, t, rfl, hl, ok⟩ := h
  exact ⟨r, s, t, by rw [List.set_append_left _ _ hl], by rw [List.length_append]; omega, ok⟩
/-- past a new cell the bag's change stays within the first cells -/
theorem BagTo.under {O T O' : Ow} {b m : Nat} (hb : b < O.length) (h : BagTo (O ++ T) O' b m) : ∃ O1, O' = O1 ++ T ∧ BagTo O O1 b m := by
  obtain ⟨r, s, t, rfl, hl, ok⟩ := h
  exact ⟨O.set b (bagD r s t), by rw [List.set_append_left _ _ hb], r, s, t, rfl, hb, ok⟩
theorem BagTo.length {O O' : Ow} {b m : Nat} (h : BagTo O O' b m) : O'.length = O.length := h.lk.len
def S_law_bag : ASp := fun cs O R X => ∃ c, cs = [.d (.int c)] ∧ ∀ r s, BagOk r s 0 0 → R (.o O.length) (O ++ [bagD r s 0])
theorem law_bag_ok (T : Tx mg) (Fd : Df K mg "_law_bag" s__law_bag) : Cl P w K mg base "_law_bag" 1 1 S_law_bag := by
  refine cl_of Fd sc__law_bag rfl (fun _ _ _ _ _ _ _ us e hl => by subst e; exact match us, hl with | [_], _ => rfl) fun f cdv A outer s H E B cs O R X hr hE hn hs => ⟨_, der__law_bag T hr, ?_⟩
  obtain ⟨c, rfl, hR⟩ := hs
  have h18 : CPow 10 18 := ⟨by decide, by decide, by decide⟩
  unfold t__law_bag
  walk_at "d"
  refine d2_pow rfl rfl h18 ?_
  walk_at "d"
  have m1 := Int.emod_nonneg c (show (1000000000000000003 : Int) ≠ 0 by decide)
  have m2 := Int.emod_lt_of_pos c (show (0 : Int) < 1000000000000000003 by decide)
  refine ⟨fun e => ?_, fun e => ?_⟩
  · walk_at "d"
    refine d2_pow rfl rfl h18 ?_
    walk_at "n"
    refine dx_lstO ?_
    walk_at "d"
    refine d2_mod rfl rfl (by decide) ?_
    walk_at "d"
    refine hR _ _ ⟨?_, m1, m2, by decide, by decide⟩
    have := of_decide_eq_true e
    have e1 : (10 : Int) ^ ((18 : Int).toNat) = 1000000000000000000 := by decide
    rw [e1] at this ⊢
    omega
  · walk_at "n"
    refine dx_lstO ?_
    walk_at "d"
    refine d2_mod rfl rfl (by decide) ?_
    walk_at "d"
    exact hR _ _ ⟨by decide, m1, m2, by decide, by decide⟩
abbrev TMAX : Nat := 1000000
def S_law_draw : ASp := fun cs O R X => ∃ b m t, cs = [.o b, .d (.int m)] ∧ 0 < m ∧ m ≤ 5000 ∧ BagAt O b t ∧ t + 1 ≤ TMAX ∧ ∀ x O', 0 ≤ x → x < m → BagTo O O' b (t + 1) → R (.d (.int x)) O'
theorem log_of {x : Int} {k : Nat} (h0 : 0 ≤ x) (h : x < 2 ^ k) : x.natAbs.log2 ≤ k := by
  by_cases z : x.natAbs = 0
  · rw [z]; exact Nat.zero_le _
  · refine Nat.le_of_lt ((Nat.log2_lt z).mpr ?_)
    have e : ((2 : Int) ^ k) = ((2 ^ k : Nat) : Int) := by simp
    rw [e] at h
    omega
theorem mix_le {s t : Int} (h1 : 0 ≤ s) (h2 : s < 1000000000000000003) (h3 : 0 ≤ t) (h4 : t ≤ 1000000) : 0 ≤ (s + 7) * (31 * t * t + 104729 * t + 13) + 17 * t ∧ (s + 7) * (31 * t * t + 104729 * t + 13) + 17 * t < 2 ^ 200 := by
  have a1 : 0 ≤ t * t := Int.mul_nonneg h3 h3
  have a2 : t * t ≤ 1000000 * 1000000 := Int.mul_le_mul h4 h4 h3 (by decide)
  have e : 31 * t * t = 31 * (t * t) := by rw [Int.mul_assoc]
  have p0 : 0 ≤ 31 * t * t + 104729 * t + 13 := by rw [e]; omega
  have p1 : 31 * t * t + 104729 * t + 13 ≤ 100000000000000 := by rw [e]; omega
  have b1 := Int.mul_nonneg (show 0 ≤ s + 7 by omega) p0
  have b2 : (s + 7) * (31 * t * t + 104729 * t + 13) ≤ 1000000000000000010 * 100000000000000 := Int.mul_le_mul (by omega) p1 p0 (by decide)
  constructor
  · omega
  · refine Int.lt_of_le_of_lt (Int.add_le_add b2 (show 17 * t ≤ 17000000 by omega)) (by decide)
theorem le3 {a b c : D} : [a, b, c].length ≤ sizeLine := by show 3 ≤ 2 ^ 24; decide
theorem ix3_0 {a b c : D} : atI [a, b, c] 0 = some a := rfl
theorem ix3_1 {a b c : D} : atI [a, b, c] 1 = some b := rfl
theorem ix3_2 {a b c : D} : atI [a, b, c] 2 = some c := rfl
theorem law_draw_ok (T : Tx mg) (Fd : Df K mg "_law_draw" s__law_draw) : Cl P w K mg base "_law_draw" 1 2 S_law_draw := by
  refine cl_of Fd sc__law_draw rfl (fun _ _ _ _ _ _ _ us e hl => by subst e; exact match us, hl with | [_, _], _ => rfl) fun f cdv A outer s H E B cs O R X hr hE hn hs => ⟨_, der__law_draw T hr, ?_⟩
  obtain ⟨b, m, t0, rfl, m0, m1, ⟨r, s, t, hb, hk⟩, ht, hR⟩ := hs
  obtain ⟨k1, k2, k3, k4, k5⟩ := hk
  have hb1 : O[b]? = some (some (.lst [.int r, .int s, .int t])) := hb
  have hbl := (List.getElem?_eq_some_iff.mp hb).1
  have ht2 : t ≤ 1000000 := by unfold TMAX at ht; omega
  unfold t__law_draw
  walk_at "d"
  refine d2_ixL (Vw.o hb1 le3) rfl ix3_0 ?_
  walk_at "d"
  refine ⟨fun e => ?_, fun e => ?_⟩
  · have r0 := of_decide_eq_true e
    walk_at "d"
    refine d2_ixL (Vw.o hb1 le3) rfl ix3_0 ?_
    walk_at "d"
    refine d2_mod rfl rfl m0 ?_
    walk_at "d"
    refine d2_ixL (Vw.o hb1 le3) rfl ix3_0 ?_
    walk_at "d"
    refine d2_fd rfl rfl ⟨m0, by omega⟩ ?_
    refine dg_sub ?_
    walk_at "d"
    refine ⟨b, _, 0, 0, _, rfl, hb1, rfl, rfl, rfl, ?_⟩
    walk_at "d"
    refine hR _ _ (Int.emod_nonneg _ (by omega)) (Int.emod_lt_of_pos _ m0) ⟨r / m, s, t, rfl, hbl, Int.ediv_nonneg k1 (by omega), k2, k3, k4, by omega⟩
  · walk_at "d"
    refine d2_ixL (Vw.o hb1 le3) rfl ix3_2 ?_
    walk_at "d"
    refine dg_sub ?_
    walk_at "d"
    refine ⟨b, _, 2, 2, _, rfl, hb1, rfl, rfl, rfl, ?_⟩
    have hb2 : (O.set b (some (.lst [.int r, .int s, .int (t + 1)])))[b]? = some (some (.lst [.int r, .int s, .int (t + 1)])) := by rw [List.getElem?_set_self hbl]
    show DS B _ _ (O.set b (some (.lst [.int r, .int s, .int (t + 1)]))) _
    walk_at "d"
    refine d2_ixL (Vw.o hb2 le3) rfl ix3_2 ?_
    walk_at "d"
    refine d2_ixL (Vw.o hb2 le3) rfl ix3_1 ?_
    walk_at "d"
    refine d2_mul rfl rfl (.inl (by constructor <;> decide)) ?_
    walk_at "d"
    refine d2_mul rfl rfl (.inr (by constructor <;> omega)) ?_
    walk_at "d"
    refine d2_mul rfl rfl (.inl (by constructor <;> decide)) ?_
    walk_at "d"
    refine d2_mul rfl rfl (.inl (by constructor <;> omega)) ?_
    walk_at "d"
    refine d2_mul rfl rfl (.inl (by constructor <;> decide)) ?_
    walk_at "d"
    have ht3 : t + 1 ≤ 1000000 := by unfold TMAX at ht; omega
    obtain ⟨x0, x1⟩ := mix_le k2 k3 (show 0 ≤ t + 1 by omega) ht3
    generalize (s + 7) * (31 * (t + 1) * (t + 1) + 104729 * (t + 1) + 13) + 17 * (t + 1) = x at x0 x1 ⊢
    have lx := log_of x0 x1
    refine d2_mulW rfl rfl (by unfold CMulW; omega) ?_
    walk_at "d"
    refine d2_mul rfl rfl (.inl (by constructor <;> decide)) ?_
    walk_at "d"
    refine d2_mod rfl rfl (by decide) ?_
    walk_at "d"
    refine d2_fd rfl rfl (by constructor <;> decide) ?_
    walk_at "d"
    have y1 := Int.emod_nonneg (x * x + 999983 * x) (show (1000000000000000009 : Int) ≠ 0 by decide)
    have y2 := Int.emod_lt_of_pos (x * x + 999983 * x) (show (0 : Int) < 1000000000000000009 by decide)
    have y3 : 0 ≤ (x * x + 999983 * x) % 1000000000000000009 / 1009 ∧ (x * x + 999983 * x) % 1000000000000000009 / 1009 < 1000000000000000009 := by omega
    generalize (x * x + 999983 * x) % 1000000000000000009 / 1009 = y at y3 ⊢
    refine d2_mul rfl rfl (.inl (by constructor <;> omega)) ?_
    walk_at "d"
    refine d2_mul rfl rfl (.inl (by constructor <;> decide)) ?_
    walk_at "d"
    refine d2_mod rfl rfl (by decide) ?_
    walk_at "d"
    refine d2_fd rfl rfl (by constructor <;> decide) ?_
    walk_at "d"
    refine d2_mod rfl rfl m0 ?_
    exact hR _ _ (Int.emod_nonneg _ (by omega)) (Int.emod_lt_of_pos _ m0) ⟨r, s, t + 1, rfl, hbl, k1, k2, k3, by omega, by omega⟩
end
section
variable {P : Program} {w : World} {K : PySem.W.Frag} {mg : Str → Option Value} {base : Heap}
theorem BagAt.app {O : Ow} (T : Ow) {b m : Nat} (h : BagAt O b m) : BagAt (O ++ T) b m := by
  have hl := h.lt
  obtain ⟨r, s, t, h, ok⟩ := h
  exact ⟨r, s, t, by rw [List.getElem?_append_left hl]; exact h, ok⟩
theorem getLast1 {O : Ow} {n : Nat} (x : Option Ob) (h : O.length = n) : (O ++ [x])[n]? = some x := by
  subst h
  rw [List.getElem?_append_right (Nat.le_refl _)]; simp
theorem setLast1 {O : Ow} {n : Nat} (x y : Option Ob) (h : O.length = n) : (O ++ [x]).set n y = O ++ [y] := by
  subst h
  rw [List.set_append_right _ _ (Nat.le_refl _)]; simp
theorem rg_get {n i : Nat} {d : D} (h : (rgD 0 n)[i]? = some d) : i < n := by
  have := (List.getElem?_eq_some_iff.mp h).1
  rwa [rgD_length] at this
theorem iD_snoc (vs : List Int) (x : Int) : iD (vs ++ [x]) = iD vs ++ [.int x] := by unfold iD; rw [List.map_append]; rfl
theorem iD_nil : iD [] = [] := rfl
theorem at2 {a b : D} {y : Int} (h0 : 0 ≤ y) (h1 : y < 2) : atI [a, b] y = some (if y = 0 then a else b) := by
  have h : y = 0 ∨ y = 1 := by omega
  rcases h with rfl | rfl <;> rfl
/-- a row of so many numbers, each within its bounds -/
def Ints (lo hi : Int) (n : Nat) (vs : List Int) : Prop := vs.length = n ∧ ∀ v ∈ vs, lo ≤ v ∧ v ≤ hi
theorem Ints.nil {lo hi : Int} : Ints lo hi 0 [] := ⟨rfl, fun v h => by cases h⟩
theorem Ints.snoc {lo hi : Int} {n : Nat} {vs : List Int} (h : Ints lo hi n vs) {x : Int} (h0 : lo ≤ x) (h1 : x ≤ hi) : Ints lo hi (n + 1) (vs ++ [x]) := ⟨by rw [List.length_append, h.1]; rfl, fun v hv => by
  rcases List.mem_append.mp hv with q | q
  · exact h.2 v q
  · rw [List.mem_singleton.mp q]; exact ⟨h0, h1⟩⟩
theorem rg_val {n i : Nat} {d : D} (h : (rgD 0 n)[i]? = some d) : d = .int (i : Int) := by
  have hi := rg_get h
  rw [rgD_get hi] at h
  cases h
  rw [Int.zero_add]
end
section
open PySem.NumText (AllDigits digitsVal)
variable {P : Program} {w : World} {K : PySem.W.Frag} {mg : Str → Option Value} {base : Heap}
/-- the signs of a text -/
abbrev sg (z : Str) : List Nat := z.cps.toList
theorem str_ext {a b : Str} (h : sg a = sg b) : a = b := by
  obtain ⟨⟨x⟩⟩ := a
  obtain ⟨⟨y⟩⟩ := b
  have h : x = y := h
  rw [h]
theorem str_iff {a b : Str} : a = b ↔ sg a = sg b := ⟨fun h => by rw [h], str_ext⟩
theorem len_sg (z : Str) : z.length = (sg z).length := (Array.length_toList).symm
theorem sg_cut (z : Str) (lo hi : Option Int) : sg (cutS z lo hi) = cutD (sg z) lo hi := by
  unfold cutS cutD
  rw [len_sg z]
theorem cut_first {α : Type} (xs : List α) : cutD xs none (some 1) = xs.take 1 := by
  unfold cutD
  rw [HT.sIx_none]
  have : HT.sIx xs.length xs.length (some 1) = min 1 xs.length := HT.sIx_nat _ _ 1
  rw [this, List.drop_zero, Nat.sub_zero]
  cases xs with
  | nil => rfl
  | cons a r => simp
theorem cut_rest {α : Type} (xs : List α) : cutD xs (some 1) none = xs.drop 1 := by
  unfold cutD
  rw [HT.sIx_none]
  have : HT.sIx xs.length 0 (some 1) = min 1 xs.length := HT.sIx_nat _ _ 1
  rw [this]
  cases xs with
  | nil => rfl
  | cons a r => simp
def dig (c : Nat) : Bool := decide (48 ≤ c) && decide (c ≤ 57)
def minus (cs : List Nat) : Bool := decide (cs.take 1 = [45])
def restC (cs : List Nat) : List Nat := if minus cs = true then cs.drop 1 else cs
/-- the whole number that a word tells -/
def wholeC (cs : List Nat) : Option Int :=
  if restC cs = [] ∨ 9 < (restC cs).length ∨ (restC cs).all dig = false then none
  else if (restC cs).head? = some 48 ∧ cs ≠ [48] then none
  else some (if minus cs = true then -((digitsVal (restC cs) : Nat) : Int) else ((digitsVal (restC cs) : Nat) : Int))
def optD : Option Int → D
  | none => .none
  | some i => .int i
def S_whole_of : ASp := fun cs O R X => ∃ z : Str, cs = [.d (.str z)] ∧ R (.d (optD (wholeC (sg z)))) O
def digD : D → D
  | .str z => .bool (match sg z with | [c] => dig c | _ => false)
  | d => d
theorem dig_mem (c : Nat) : decide (c ∈ sg ("0123456789" : Str)) = dig c := by
  have e : sg ("0123456789" : Str) = [48, 49, 50, 51, 52, 53, 54, 55, 56, 57] := by decide
  rw [e]
  unfold dig
  by_cases h : 48 ≤ c ∧ c ≤ 57
  · have h1 : c = 48 ∨ c = 49 ∨ c = 50 ∨ c = 51 ∨ c = 52 ∨ c = 53 ∨ c = 54 ∨ c = 55 ∨ c = 56 ∨ c = 57 := by omega
    rcases h1 with rfl | rfl | rfl | rfl | rfl | rfl | rfl | rfl | rfl | rfl <;> decide
  · have h1 : c ∉ [48, 49, 50, 51, 52, 53, 54, 55, 56, 57] := by
      intro z
      simp only [List.mem_cons, List.not_mem_nil, or_false] at z
      omega
    rw [decide_eq_false h1]
    by_cases h2 : 48 ≤ c
    · rw [decide_eq_true h2, decide_eq_false (by omega)]; rfl
    · rw [decide_eq_false h2]; rfl
theorem all_digs (z : Str) : ((sgD z).map digD) = ((sg z).map fun c => PyData.bool (dig c)) := by
  unfold sgD
  rw [List.map_map]; rfl
theorem dc_allB {B : Bs} {O : Ow} {R : RX} {α : Type} {l : List α} {p : α → Bool} (k : R (.d (.bool (l.all p))) O) : DC B (rAll K) [.d (.list (l.map fun c => .bool (p c)))] O R := by
  have h := dc_allMap (B := B) (O := O) (R := R) (K := K) (ds := l.map fun c => PyData.bool (p c)) (p := fun d => match d with | .bool b => b | _ => false) (by
    rw [List.all_map]
    exact k)
  rw [List.map_map] at h
  exact h
theorem digs_all {cs : List Nat} (h : cs.all dig = true) : AllDigits cs := fun c hc => by
  have := List.all_eq_true.mp h c hc
  unfold dig at this
  simp at this
  exact this
theorem whole_of_ok (T : Tx mg) (Fd : Df K mg "whole_of" s_whole_of) : Cl P w K mg base "whole_of" 1 1 S_whole_of := by
  refine cl_of Fd sc_whole_of rfl (fun _ _ _ _ _ _ _ us e hl => by subst e; exact match us, hl with | [_], _ => rfl) fun f cdv A outer s H E B cs O R X hr hE hn hs => ⟨_, der_whole_of T hr, ?_⟩
  obtain ⟨z, rfl, hR⟩ := hs
  unfold t_whole_of
  have eM : decide (cutS z none (some 1) = ("-" : Str)) = minus (sg z) := by
    unfold minus
    rw [decide_eq_decide, str_iff, sg_cut, cut_first]
    exact Iff.rfl
  refine ds_seqM (fun ρ' O' => ∃ y : Str, sg y = restC (sg z) ∧ ρ' = [some (.d (.str z)), some (.d (.str y)), none] ∧ O' = O) ?_ ?_
  · walk_at "d"
    refine ⟨1, rfl, ?_⟩
    walk_at "d"
    rw [eM]
    refine ⟨fun e => ?_, fun e => ?_⟩
    · walk_at "d"
      refine ⟨1, rfl, ?_⟩
      walk_at "d"
      refine ⟨_, ?_, rfl, rfl⟩
      rw [sg_cut, cut_rest]
      unfold restC
      rw [if_pos e]
    · walk_at "d"
      refine ⟨z, ?_, rfl, rfl⟩
      unfold restC
      rw [e]; rfl
  intro ρ' O' ⟨y, hy, hρ, hO⟩
  rw [hρ, hO]
  have e0 : ∀ x : Bool, x = true ↔ x = true := fun x => Iff.rfl
  refine ds_seqM (fun ρ' O' => (ρ' = [some (.d (.str z)), some (.d (.str y)), none] ∧ O' = O) ∧ ¬ (restC (sg z) = [] ∨ 9 < (restC (sg z)).length ∨ (restC (sg z)).all dig = false)) ?_ ?_
  · walk_at "d"
    have none_of : (restC (sg z) = [] ∨ 9 < (restC (sg z)).length ∨ (restC (sg z)).all dig = false) → R (.d .none) O := fun h => by
      unfold wholeC at hR
      rw [if_pos h] at hR
      exact hR
    refine ⟨fun e => ?_, fun e => ?_⟩
    · have e := of_decide_eq_true e
      refine Cs.t ?_
      walk_at "d"
      exact none_of (.inl (by rw [← hy, e]; rfl))
    · have e1 := of_decide_eq_false e
      have n1 : restC (sg z) ≠ [] := fun q => e1 (str_ext (by rw [hy, q]; rfl))
      walk_at "d"
      rw [len_sg y, hy]
      refine ⟨fun e => ?_, fun e => ?_⟩
      · have e := of_decide_eq_true e
        refine Cs.t ?_
        walk_at "d"
        exact none_of (.inr (.inl (by omega)))
      · have e2 := of_decide_eq_false e
        walk_at "d"
        refine dx_lcMap digD (di_str (dx_var rfl ⟨_, rfl, fun d hd => ?_, ?_⟩))
        · unfold sgD at hd
          obtain ⟨c, hc, rfl⟩ := List.mem_map.mp hd
          refine ⟨_, gd_name, by simp, ?_⟩
          walk_at "d"
          refine d2_inSign rfl rfl ⟨?_, rfl⟩
          rw [dig_mem]
          rfl
        rw [all_digs, hy]
        walk_at "d"
        refine dc_allB ?_
        walk_at "d"
        refine ⟨fun e => ?_, fun e => ?_⟩
        · walk_at "d"
          exact none_of (.inr (.inr (by revert e; cases (restC (sg z)).all dig <;> simp)))
        · walk_at "d"
          refine ⟨⟨rfl, rfl⟩, fun h => ?_⟩
          rcases h with h | h | h
          · exact n1 h
          · omega
          · rw [h] at e; exact absurd e (by decide)
  intro ρ' O' ⟨⟨hρ, hO⟩, hn⟩
  rw [hρ, hO]
  unfold wholeC at hR
  rw [if_neg hn] at hR
  have hd : AllDigits (restC (sg z)) := digs_all (by
    cases q : (restC (sg z)).all dig with
    | true => rfl
    | false => exact absurd (.inr (.inr q)) hn)
  have hne : restC (sg z) ≠ [] := fun q => hn (.inl q)
  have hl9 : (restC (sg z)).length ≤ 9 := by
    cases Nat.lt_or_ge 9 (restC (sg z)).length with
    | inl q => exact absurd (.inr (.inl q)) hn
    | inr q => exact q
  obtain ⟨c0, cr, hc⟩ : ∃ c0 cr, restC (sg z) = c0 :: cr := by
    cases q : restC (sg z) with
    | nil => exact absurd q hne
    | cons a r => exact ⟨a, r, rfl⟩
  have hz640 : z.length ≤ 640 := by
    rw [len_sg z]
    unfold restC at hl9
    split at hl9
    · rw [List.length_drop] at hl9; omega
    · omega
  refine ds_seqM (fun ρ' O' => (ρ' = [some (.d (.str z)), some (.d (.str y)), none] ∧ O' = O) ∧ ¬ ((restC (sg z)).head? = some 48 ∧ sg z ≠ [48])) ?_ ?_
  · walk_at "d"
    refine d2_ixS (c := c0) rfl rfl (by show atI (sg y) ((0 : Nat) : Int) = _; rw [hy, hc]; exact atI_nat rfl) ?_
    walk_at "d"
    have ez : decide ((⟨#[c0]⟩ : Str) = ("0" : Str)) = decide (c0 = 48) := by
      rw [decide_eq_decide, str_iff]
      constructor
      · intro h
        have h : [c0] = [48] := h
        exact (List.cons.inj h).1
      · intro h; rw [h]; rfl
    rw [ez]
    refine ⟨fun e => ?_, fun e => ?_⟩
    · have e := of_decide_eq_true e
      walk_at "d"
      refine ⟨fun e2 => ?_, fun e2 => ?_⟩
      · have e2 : ¬ z = ("0" : Str) := fun q => by rw [q] at e2; exact absurd e2 (by decide)
        walk_at "d"
        rw [if_pos ⟨by rw [hc, e]; rfl, fun q => e2 (str_ext q)⟩] at hR
        exact hR
      · have e2 : z = ("0" : Str) := Decidable.byContradiction fun q => by rw [decide_eq_false q] at e2; exact absurd e2 (by decide)
        walk_at "d"
        exact ⟨⟨rfl, rfl⟩, fun h => h.2 (by rw [e2]; rfl)⟩
    · have e := of_decide_eq_false e
      refine Cs.f ?_
      walk_at "d"
      exact ⟨⟨rfl, rfl⟩, fun h => e (by rw [hc] at h; exact Option.some.inj h.1)⟩
  intro ρ' O' ⟨⟨hρ, hO⟩, hn2⟩
  rw [hρ, hO]
  rw [if_neg hn2] at hR
  walk_at "n"
  have hv : PySem.intText? z = some (if minus (sg z) = true then -((digitsVal (restC (sg z)) : Nat) : Int) else ((digitsVal (restC (sg z)) : Nat) : Int)) := by
    cases hm : minus (sg z) with
    | true =>
      have e1 : restC (sg z) = (sg z).drop 1 := by unfold restC; rw [if_pos hm]
      have e2 : (sg z).take 1 = [45] := of_decide_eq_true hm
      have e3 : sg z = 45 :: restC (sg z) := by
        rw [e1]
        conv => lhs; rw [← List.take_append_drop 1 (sg z), e2]
        rfl
      exact intText_neg e3 hd hne (by omega)
    | false =>
      have e1 : restC (sg z) = sg z := by unfold restC; rw [hm]; rfl
      rw [e1] at hd hne ⊢
      exact intText_digits hd hne (by omega)
  exact dc_intS rfl hv hz640 hR
end
section
open PySem.NumText (AllDigits digitsVal)
variable {P : Program} {w : World} {K : PySem.W.Frag} {mg : Str → Option Value} {base : Heap}
abbrev hD (h : List (Option Int)) : List D := h.map optD
structure HalfOk (sz : List Int) (h : List (Option Int)) : Prop where
  len : h.length = sz.length
  rng : ∀ (i : Nat) (v s : Int), h[i]? = some (some v) → sz[i]? = some s → 0 ≤ v ∧ v < s
theorem zp_get {A B : List D} {d : D} (h : d ∈ zpD A B) : ∃ (i : Nat) (a b : D), A[i]? = some a ∧ B[i]? = some b ∧ d = .tuple [a, b] := by
  obtain ⟨i, hi⟩ := List.getElem?_of_mem h
  unfold zpD at hi
  rw [List.getElem?_zipWith] at hi
  cases e1 : A[i]? with
  | none => rw [e1] at hi; cases hi
  | some a =>
    cases e2 : B[i]? with
    | none => rw [e1, e2] at hi; cases hi
    | some b => rw [e1, e2] at hi; cases hi; exact ⟨i, a, b, e1, e2, rfl⟩
theorem get_opt {h : List (Option Int)} {i : Nat} {d : D} (e : (hD h)[i]? = some d) : ∃ x, h[i]? = some x ∧ d = optD x := by
  unfold hD at e
  rw [List.getElem?_map] at e
  cases q : h[i]? with
  | none => rw [q] at e; cases e
  | some y => rw [q] at e; cases e; exact ⟨y, rfl, rfl⟩
theorem get_int {vs : List Int} {i : Nat} {d : D} (e : (iD vs)[i]? = some d) : ∃ x, vs[i]? = some x ∧ d = .int x := by
  unfold iD at e
  rw [List.getElem?_map] at e
  cases q : vs[i]? with
  | none => rw [q] at e; cases e
  | some y => rw [q] at e; cases e; exact ⟨y, rfl, rfl⟩
def S_is_half_row : ASp := fun cs O R X => ∃ sz h, cs = [.d (dSz sz), .d (.list (hD h))] ∧ SzOk sz ∧ HalfOk sz h ∧ R (.d (.bool true)) O
theorem is_half_row_ok (T : Tx mg) (Fd : Df K mg "is_half_row" s_is_half_row) (c1 : Cl P w K mg base "is_below" 2 2 S_is_below) : Cl P w K mg base "is_half_row" 3 2 S_is_half_row := by
  refine cl_of Fd sc_is_half_row rfl (fun _ _ _ _ _ _ _ us e hl => by subst e; exact match us, hl with | [_, _], _ => rfl) fun f cdv A outer s H E B cs O R X hr hE hn hs => ⟨_, der_is_half_row (k := 2) T c1 (by decide) hr, ?_⟩
  obtain ⟨sz, h, rfl, hz, hh, hR⟩ := hs
  unfold t_is_half_row
  walk_at "d"
  refine Cs.isF rfl ?_
  walk_at "d"
  refine Cs.isF ?_ ?_
  · rw [List.length_map, ints_len, hh.len]; simp
  walk_at "d"
  refine dx_lcMap (fun d => .bool true) (di_zip ?_)
  walk_at "d"
  refine ⟨true, true, _, _, rfl, fun d hd => ?_, ?_⟩
  · obtain ⟨i, a, b, e1, e2, rfl⟩ := zp_get hd
    obtain ⟨x, hx, rfl⟩ := get_opt e1
    obtain ⟨s, hs, rfl⟩ := get_int e2
    refine ⟨_, gd_tup (gds_cons gd_name (gds_cons gd_name gds_nil)) rfl, by simp, ?_⟩
    walk_at "d1"
    walk_at "d1"
    walk_at "d1"
    cases x with
    | none =>
      refine ⟨_, rfl, ?_⟩
      walk_at "d"
      refine Cs.isT rfl ?_
      exact ⟨rfl, rfl⟩
    | some v =>
      refine ⟨_, rfl, ?_⟩
      walk_at "d"
      refine Cs.isF rfl ?_
      walk_at "d"
      have hv := hh.rng i v s hx hs
      refine ⟨rfl, _, _, rfl, ?_, rfl⟩
      unfold isBelow
      show Ce.d (.bool (decide (0 ≤ v) && decide (v < s))) = _
      rw [decide_eq_true hv.1, decide_eq_true hv.2]; rfl
  walk_at "d"
  refine dc_allMap (p := fun _ => true) ?_
  rw [List.all_eq_true.mpr fun _ _ => rfl]
  exact hR
def S_need_half : ASp := fun cs O R X => ∃ sz h, cs = [.d (dSz sz), .d (.list (hD h))] ∧ SzOk sz ∧ HalfOk sz h ∧ R (.d .none) O
theorem need_half_ok (T : Tx mg) (Fd : Df K mg "need_half" s_need_half) (c1 : Cl P w K mg base "is_half_row" 3 2 S_is_half_row) : Cl P w K mg base "need_half" 4 2 S_need_half := by
  refine cl_of Fd sc_need_half rfl (fun _ _ _ _ _ _ _ us e hl => by subst e; exact match us, hl with | [_, _], _ => rfl) fun f cdv A outer s H E B cs O R X hr hE hn hs => ⟨_, der_need_half T c1 (Nat.le_refl _) hr, ?_⟩
  obtain ⟨sz, h, rfl, hz, hh, hR⟩ := hs
  unfold t_need_half
  walk_at "d"
  refine ⟨rfl, sz, h, rfl, hz, hh, ?_⟩
  walk_at "d"
  refine Cs.isF rfl ?_
  walk_at "d"
  exact hR
def wordV : Option Int → Str
  | none => "?"
  | some v => strI v
def wordD : D → D
  | .none => .str "?"
  | .int v => .str (strI v)
  | d => d
theorem words_eq (h : List (Option Int)) : (hD h).map wordD = (h.map wordV).map .str := by
  unfold hD
  rw [List.map_map, List.map_map]
  refine List.map_congr_left fun x _ => ?_
  cases x <;> rfl
theorem half_small {sz : List Int} {h : List (Option Int)} (hz : SzOk sz) (hh : HalfOk sz h) : ∀ v, some v ∈ h → 0 ≤ v ∧ v < 6 := fun v hv => by
  obtain ⟨i, hi⟩ := List.getElem?_of_mem hv
  have hl : i < sz.length := by rw [← hh.len]; exact (List.getElem?_eq_some_iff.mp hi).1
  have h1 := hh.rng i v sz[i] hi (List.getElem?_eq_getElem hl)
  have h2 := hz.rng _ (List.getElem_mem hl)
  omega
theorem wl_half {sz : List Int} {h : List (Option Int)} (hz : SzOk sz) (hh : HalfOk sz h) : wl (h.map wordV) ≤ 1000 := by
  have h1 := wl_map wordV 8 h fun x hx => by
    cases x with
    | none => show ("?" : Str).length ≤ 8; decide
    | some v => have := half_small hz hh v hx; exact strI_len (by omega)
  have h2 := hh.len
  have h3 := hz.len
  omega
/-- the row of words of a half case, as the law and the program write it -/
theorem dx_words {B : Bs} {O : Ow} {R : RX} {ρ : En} {i j : Nat} {sz : List Int} {h : List (Option Int)} (hj : j < ρ.length) (hi : ρ[i]? = some (some (.d (.list (hD h))))) (hz : SzOk sz) (hh : HalfOk sz h) (k : R (.d (.list ((h.map wordV).map .str))) O) :
    DX B (tLc (iList K (tVar i)) (gName j) tYes (tIf (tB (tIsN (tVar j))) (tC (.str ("?" : Str))) (tCB rStrI (tCons (tVar j) tNil))) [j]) ρ O R := by
  refine dx_lcMap wordD (di_list (dx_var hi ⟨_, rfl, fun d hd => ?_, ?_⟩))
  · obtain ⟨x, hx, rfl⟩ := List.mem_map.mp hd
    refine ⟨_, gd_name, by simp, ?_⟩
    have ej : (setsD (wipeE ρ [j]) [(j, optD x)])[j]? = some (some (.d (optD x))) := by
      show ((ρ.set j none).set j (some (.d (optD x))))[j]? = _
      rw [List.getElem?_set_self (by simpa using hj)]
    refine dx_if (dt_b (dx_isN (dx_var ej ⟨_, rfl, ?_⟩)))
    cases x with
    | none =>
      refine isB (Cs.isT rfl ?_)
      exact dx_str (by decide) ⟨rfl, rfl⟩
    | some v =>
      refine isB (Cs.isF rfl ?_)
      refine dx_cb (da_cons (dx_var ej (da_nil ?_)))
      have := half_small hz hh v hx
      exact dc_strI rfl (by omega) ⟨rfl, rfl⟩
  · rw [words_eq]; exact k
def S_write_case : ASp := fun cs O R X => ∃ sz h, cs = [.d (dSz sz), .d (.list (hD h))] ∧ SzOk sz ∧ HalfOk sz h ∧ R (.d (.str (Txt.join " " (h.map wordV)))) O
theorem write_case_ok (T : Tx mg) (Fd : Df K mg "write_case" s_write_case) (c1 : Cl P w K mg base "need_half" 4 2 S_need_half) (c2 : Cl P w K mg base "need_sizes" 4 1 S_need_sizes) : Cl P w K mg base "write_case" 5 2 S_write_case := by
  refine cl_of Fd sc_write_case rfl (fun _ _ _ _ _ _ _ us e hl => by subst e; exact match us, hl with | [_, _], _ => rfl) fun f cdv A outer s H E B cs O R X hr hE hn hs => ⟨_, der_write_case (k := 4) T c1 (by decide) c2 (by decide) hr, ?_⟩
  obtain ⟨sz, h, rfl, hz, hh, hR⟩ := hs
  unfold t_write_case
  walk_at "d"
  refine ⟨rfl, sz, rfl, hz, ?_⟩
  walk_at "d"
  refine ⟨rfl, sz, h, rfl, hz, hh, ?_⟩
  walk_at "d"
  refine ⟨⟨_, rfl⟩, ?_⟩
  refine dx_words (sz := sz) (h := h) (by show 2 < 3; decide) rfl hz hh ?_
  have := wl_half hz hh
  exact dm_joinE (h.map wordV) rfl rfl rfl (by decide) (by omega) hR
end
section
open PySem.NumText (AllDigits digitsVal)
variable {P : Program} {w : World} {K : PySem.W.Frag} {mg : Str → Option Value} {base : Heap}
theorem fold_ge : ∀ (cs : List Nat) (a : Nat), a ≤ cs.foldl (fun acc c => acc * 10 + (c - 48)) a
  | [], a => Nat.le_refl _
  | c :: cs, a => Nat.le_trans (show a ≤ a * 10 + (c - 48) by omega) (fold_ge cs _)
theorem val_ge {c : Nat} {cs : List Nat} (h : 49 ≤ c) : 1 ≤ digitsVal (c :: cs) := by
  show 1 ≤ cs.foldl (fun acc c => acc * 10 + (c - 48)) (0 * 10 + (c - 48))
  exact Nat.le_trans (by omega) (fold_ge cs _)
theorem val_ge2 {c e : Nat} {cs : List Nat} (h : 49 ≤ c) : 10 ≤ digitsVal (c :: e :: cs) := by
  show 10 ≤ cs.foldl (fun acc c => acc * 10 + (c - 48)) ((0 * 10 + (c - 48)) * 10 + (e - 48))
  exact Nat.le_trans (by omega) (fold_ge cs _)
/-- a word of a value below six has one sign -/
theorem whole_small {cs : List Nat} {v : Int} (h : wholeC cs = some v) (h0 : 0 ≤ v) (h6 : v < 6) : ∃ c, cs = [c] ∧ 48 ≤ c ∧ c ≤ 53 ∧ v = (c : Int) - 48 := by
  unfold wholeC at h
  split at h
  · cases h
  · rename_i n1
    split at h
    · cases h
    · rename_i n2
      have hne : restC cs ≠ [] := fun q => n1 (.inl q)
      have hd : (restC cs).all dig = true := by
        cases q : (restC cs).all dig with
        | true => rfl
        | false => exact absurd (.inr (.inr q)) n1
      cases e : restC cs with
      | nil => exact absurd e hne
      | cons c r =>
        rw [e] at h n2 hd
        have hc : 48 ≤ c ∧ c ≤ 57 := digs_all hd c List.mem_cons_self
        cases hm : minus cs with
        | true =>
          rw [hm] at h
          have h := Option.some.inj h
          have e2 : cs.take 1 = [45] := of_decide_eq_true hm
          have hc48 : c ≠ 48 := fun q => n2 ⟨by rw [q]; rfl, fun z => by rw [z] at e2; exact absurd e2 (by decide)⟩
          have := val_ge (c := c) (cs := r) (by omega)
          simp only [if_true] at h
          omega
        | false =>
          rw [hm] at h
          have h := Option.some.inj h
          have e1 : restC cs = cs := by unfold restC; rw [hm]; rfl
          rw [e1] at e
          subst e
          simp only [Bool.false_eq_true, if_false] at h
          cases r with
          | nil =>
            have hv : digitsVal [c] = 0 * 10 + (c - 48) := rfl
            exact ⟨c, rfl, hc.1, by omega, by omega⟩
          | cons d r =>
            have hc48 : c ≠ 48 := fun q => n2 ⟨by rw [q]; rfl, fun z => by cases z⟩
            have := val_ge2 (c := c) (e := d) (cs := r) (by omega)
            omega
theorem whole_one {c : Nat} (h : 48 ≤ c ∧ c ≤ 57) : wholeC [c] = some ((c : Int) - 48) := by
  have hm : minus [c] = false := by
    unfold minus
    exact decide_eq_false fun z => by have z := (List.cons.inj (show [c] = [45] from z)).1; omega
  have hr : restC [c] = [c] := by unfold restC; rw [hm]; rfl
  unfold wholeC
  rw [hr, hm]
  rw [if_neg, if_neg]
  · have hv : digitsVal [c] = 0 * 10 + (c - 48) := rfl
    simp only [Bool.false_eq_true, if_false]
    rw [hv]
    congr 1
    omega
  · intro z
    exact z.2 (by have := Option.some.inj z.1; rw [this])
  · intro z
    rcases z with z | z | z
    · cases z
    · exact absurd z (by show ¬ 9 < 1; decide)
    · have : dig c = true := by unfold dig; rw [decide_eq_true h.1, decide_eq_true h.2]; rfl
      rw [List.all_cons, this] at z
      cases z
/-- the word stands for a value of the field, or for none -/
def okW (z : Str) (s : Int) : Bool := decide (z = ("?" : Str)) || (match wholeC (sg z) with | some v => decide (0 ≤ v) && decide (v < s) | none => false)
/-- where a row of words goes wrong first -/
def bad : List Int → List Str → Nat → Option Nat
  | [], [], _ => none
  | [], _ :: _, k => some k
  | _ :: _, [], k => some k
  | s :: sz, z :: ws, k => if okW z s = true then bad sz ws (k + 1) else some k
theorem bad_at {sz : List Int} {ws : List Str} {i : Nat} {s : Int} (hs : sz[i]? = some s) : bad (sz.drop i) (ws.drop i) i = match ws[i]? with | none => some i | some z => if okW z s = true then bad (sz.drop (i + 1)) (ws.drop (i + 1)) (i + 1) else some i := by
  obtain ⟨hi, es⟩ := List.getElem?_eq_some_iff.mp hs
  rw [List.drop_eq_getElem_cons hi, es]
  cases e : ws[i]? with
  | none =>
    have : ws.drop i = [] := List.drop_eq_nil_of_le (List.getElem?_eq_none_iff.mp e)
    rw [this]; rfl
  | some z =>
    obtain ⟨hj, ez⟩ := List.getElem?_eq_some_iff.mp e
    rw [List.drop_eq_getElem_cons hj, ez]; rfl
theorem bad_end {sz : List Int} {ws : List Str} (h : sz.length ≤ ws.length) : bad (sz.drop sz.length) (ws.drop sz.length) sz.length = if sz.length < ws.length then some sz.length else none := by
  rw [List.drop_length]
  by_cases q : sz.length < ws.length
  · rw [if_pos q, List.drop_eq_getElem_cons q]; rfl
  · rw [if_neg q, List.drop_eq_nil_of_le (by omega)]; rfl
def wordsOf (z : Str) : List Str := if z = ("" : Str) then [] else Txt.split z " "
end
section
variable {P : Program} {w : World} {K : PySem.W.Frag} {mg : Str → Option Value} {base : Heap}
theorem join_len (y : Str) : ∀ ts : List Str, ts ≠ [] → (Str.join y ts).length + y.length = (ts.map (·.length)).sum + ts.length * y.length
  | [], h => absurd rfl h
  | [a], _ => by simp [Str.join]
  | a :: b :: r, _ => by
    have ih := join_len y (b :: r) (by simp)
    have e : Str.join y (a :: b :: r) = a ++ y ++ Str.join y (b :: r) := rfl
    rw [e, Str.length_append, Str.length_append, List.map_cons, List.sum_cons, List.length_cons, Nat.add_mul]
    omega
theorem split_len (z : Str) : (Txt.split z " ").length ≤ z.length + 1 ∧ ∀ t ∈ Txt.split z " ", t.length ≤ z.length := by
  have hj := StrLaws.join_split z " "
  have hy : (" " : Str).length = 1 := by decide
  by_cases h : Txt.split z " " = []
  · rw [h]; exact ⟨Nat.zero_le _, fun t ht => by cases ht⟩
  · have h1 := join_len " " _ h
    rw [hj, hy] at h1
    refine ⟨by omega, fun t ht => ?_⟩
    have h2 := wl_mem ht
    have h3 : 1 ≤ (Txt.split z " ").length := List.length_pos_iff.mpr h
    unfold wl at h2
    have h4 : ∀ (l : List Str) (t : Str), t ∈ l → t.length ≤ (l.map (·.length)).sum - 0 := fun l t ht => by
      induction l with
      | nil => cases ht
      | cons a r ih =>
        rw [List.map_cons, List.sum_cons]
        cases ht with
        | head => omega
        | tail _ h => have := ih h; omega
    have h5 : ∀ (l : List Str) (t : Str), t ∈ l → t.length + (l.length - 1) ≤ (l.map (·.length)).sum + (l.length - 1) := fun l t ht => by have := h4 l t ht; omega
    have := h5 _ t ht
    omega
theorem wordsOf_len (z : Str) : (wordsOf z).length ≤ z.length + 1 := by
  unfold wordsOf
  split
  · exact Nat.zero_le _
  · exact (split_len z).1
def S_read_case (CT : Addr) : ASp := fun cs O R X => ∃ (sz : List Int) (z : Str), cs = [.d (dSz sz), .d (.str z)] ∧ SzOk sz ∧ z.length ≤ 1000000 ∧
  match bad sz (wordsOf z) 0 with
  | none => ∀ T, R (.d (.list (hD ((wordsOf z).map fun t => wholeC (sg t))))) (O ++ T)
  | some k => ∀ T, X (.ref CT) [("place", .int (k : Nat))] (O ++ T)
abbrev sD (ws : List Str) : List D := ws.map .str
theorem sD_len (a : List Str) : (sD a).length = a.length := List.length_map _
theorem get_str {ws : List Str} {i : Nat} {t : Str} (h : ws[i]? = some t) : (sD ws)[i]? = some (.str t) := by
  unfold sD
  rw [List.getElem?_map, h]; rfl
theorem okW_opt (t : Str) (s : Int) : okW t s = (decide (t = ("?" : Str)) || (match wholeC (sg t) with | some v => decide (0 ≤ v) && decide (v < s) | none => false)) := rfl
theorem whole_q : wholeC (sg ("?" : Str)) = none := by decide
end
section
variable {P : Program} {w : World} {K : PySem.W.Frag} {mg : Str → Option Value} {base : Heap}
theorem en_get {vs : List Int} {i : Nat} {d : D} (h : (enD (iD vs))[i]? = some d) : ∃ s, vs[i]? = some s ∧ d = .tuple [.int (i : Nat), .int s] := by
  have hi : i < vs.length := by
    have := (List.getElem?_eq_some_iff.mp h).1
    rwa [enD_length, ints_len] at this
  rw [enD_get (ints_get (List.getElem?_eq_getElem hi))] at h
  cases h
  exact ⟨_, List.getElem?_eq_getElem hi, rfl⟩
theorem noneOpt (o : Option Int) : isNone (optD o) = o.isNone := by cases o <;> rfl
theorem read_case_ok {CT : Addr} (T : Tx mg) (Fd : Df K mg "read_case" s_read_case) (c1 : Cl P w K mg base "whole_of" 1 1 S_whole_of) (c2 : Cl P w K mg base "need_sizes" 4 1 S_need_sizes) (x1 : Xi P w K mg base "InvalidText" "place" "place" CT) : ClX P w K mg base "read_case" 5 2 (S_read_case CT) := by
  refine clx_of Fd sc_read_case rfl (fun _ _ _ _ _ _ _ us e hl => by subst e; exact match us, hl with | [_, _], _ => rfl) fun f cdv A outer s H E B cs O R X hr hE hn hs => ⟨_, der_read_case (k := 4) T c1 (by decide) c2 (by decide) x1.m x1 (by decide) hr, ?_⟩
  obtain ⟨sz, z, rfl, hz, hl, hR⟩ := hs
  have hE2 : ∀ ρ, EXs B ρ X fun cls d _ H => E cls d H := fun ρ => exs_of hE
  have hwl := wordsOf_len z
  have hzl := hz.len
  unfold t_read_case
  have hbad : ∀ k, bad sz (wordsOf z) 0 = some k → ∀ T, X (.ref CT) [("place", .int (k : Nat))] (O ++ T) := fun k h => by rw [h] at hR; exact hR
  have hgood : bad sz (wordsOf z) 0 = none → ∀ T, R (.d (.list (hD ((wordsOf z).map fun t => wholeC (sg t))))) (O ++ T) := fun h => by rw [h] at hR; exact hR
  clear hR
  walk_at "n"
  refine ⟨rfl, sz, rfl, hz, ?_⟩
  refine ds_seqM (fun ρ' O' => ρ' = [some (.d (dSz sz)), some (.d (.str z)), some (.d (.list (sD (wordsOf z)))), none, none, none, none] ∧ O' = O) ?_ ?_
  · walk_at "n"
    refine ⟨fun e => ?_, fun e => ?_⟩
    · have e : z ≠ ("" : Str) := fun q => by rw [decide_eq_true q] at e; exact absurd e (by decide)
      walk_at "n"
      refine ⟨⟨_, rfl⟩, ?_⟩
      walk_at "n"
      obtain ⟨l1, l2⟩ := split_len z
      refine dm_split rfl rfl (by decide) (by unfold sizeLine; omega) (fun t ht => by have := l2 t ht; unfold sizeLine; omega) (by unfold sizeLine; omega) ?_
      refine ⟨?_, rfl⟩
      unfold wordsOf
      rw [if_neg e]
      rfl
    · have e : z = ("" : Str) := Decidable.byContradiction fun q => by rw [decide_eq_false q] at e; exact absurd e (by decide)
      walk_at "d"
      refine ⟨?_, rfl⟩
      unfold wordsOf
      rw [if_pos e]
      rfl
  intro ρ' O' ⟨hρ, hO⟩
  rw [hρ, hO]
  generalize hws : wordsOf z = ws at *
  walk_at "n"
  refine dx_lstO ?_
  walk_at "n"
  refine ds_for (di_enum ?_)
  walk_at "n"
  refine ⟨_, rfl, fun i ρ2 O2 => ∃ v4 v5 v6, ρ2 = [some (.d (dSz sz)), some (.d (.str z)), some (.d (.list (sD ws))), some (.o O.length), v4, v5, v6] ∧ O2 = O ++ [some (.lst (hD ((ws.take i).map fun t => wholeC (sg t))))] ∧ bad sz ws 0 = bad (sz.drop i) (ws.drop i) i ∧ i ≤ ws.length,
    ⟨none, none, none, rfl, rfl, rfl, Nat.zero_le _⟩, fun i d ρ2 O2 hd ⟨v4, v5, v6, e1, e2, e3, e4⟩ => ?_, fun ρ2 O2 ⟨v4, v5, v6, e1, e2, e3, e4⟩ => ?_⟩
  · obtain ⟨s, hs, rfl⟩ := en_get hd
    have hi : i < sz.length := (List.getElem?_eq_some_iff.mp hs).1
    subst e1 e2
    refine ⟨_, gd_tup (gds_cons gd_name (gds_cons gd_name gds_nil)) rfl, ?_⟩
    rw [bad_at hs] at e3
    walk_at "n"
    rw [sD_len]
    refine ⟨fun e => ?_, fun e => ?_⟩
    · have e := of_decide_eq_true e
      have hn : ws[i]? = none := List.getElem?_eq_none_iff.mpr (by omega)
      rw [hn] at e3
      have hk : i = ws.length := by omega
      refine ds_rx (hE2 _) x1.o x1.no ?_
      walk_at "n"
      refine ⟨_, rfl, ?_⟩
      rw [sD_len, ← hk]
      exact hbad i e3 _
    · have e := of_decide_eq_false e
      have hlt : i < ws.length := by omega
      obtain ⟨t, ht⟩ : ∃ t, ws[i]? = some t := ⟨_, List.getElem?_eq_getElem hlt⟩
      rw [ht] at e3
      have e3 : bad sz ws 0 = if okW t s = true then bad (sz.drop (i + 1)) (ws.drop (i + 1)) (i + 1) else some i := e3
      walk_at "n"
      refine d2_ixL Vw.d rfl (atI_nat (get_str ht)) ?_
      walk_at "n"
      refine ⟨rfl, t, rfl, ?_⟩
      have raise_ : okW t s = false → ∀ A, DS B (tRx K CT ("place" : Str) (fun cls d _ H => E cls d H) (tCons (tVar 4) tNil)) [some (.d (dSz sz)), some (.d (.str z)), some (.d (.list (sD ws))), some (.o O.length), some (.d (.int (i : Nat))), some (.d (.int s)), some (.d (optD (wholeC (sg t))))] (O ++ [some (.lst (hD ((ws.take i).map fun t => wholeC (sg t))))]) A := fun hk A => by
        refine ds_rx (hE2 _) x1.o x1.no ?_
        walk_at "n"
        refine ⟨_, rfl, ?_⟩
        rw [hk] at e3
        exact hbad i e3 _
      refine ds_seqM (fun ρ' O' => ρ' = [some (.d (dSz sz)), some (.d (.str z)), some (.d (.list (sD ws))), some (.o O.length), some (.d (.int (i : Nat))), some (.d (.int s)), some (.d (optD (wholeC (sg t))))] ∧ O' = O ++ [some (.lst (hD ((ws.take i).map fun t => wholeC (sg t))))] ∧ okW t s = true) ?_ ?_
      · walk_at "n"
        refine d2_ixL Vw.d rfl (atI_nat (get_str ht)) ?_
        walk_at "n"
        by_cases hq : t = ("?" : Str)
        · refine Cs.isF (by rw [decide_eq_true hq]; rfl) ?_
          refine Cs.f ?_
          refine ds_next ⟨rfl, rfl, ?_⟩
          unfold okW
          rw [decide_eq_true hq]; rfl
        · refine Cs.isT (by rw [decide_eq_false hq]; rfl) ?_
          cases hv : wholeC (sg t) with
          | none =>
            have hk : okW t s = false := by unfold okW; rw [decide_eq_false hq, hv]; rfl
            walk_at "n"
            refine ⟨_, rfl, ?_⟩
            walk_at "n"
            refine Cs.isT rfl ?_
            refine Cs.t ?_
            have := raise_ hk
            rw [hv] at this
            exact this _
          | some v =>
            have hk : okW t s = (decide (0 ≤ v) && decide (v < s)) := by unfold okW; rw [decide_eq_false hq, hv]; rfl
            walk_at "n"
            refine ⟨_, rfl, ?_⟩
            walk_at "n"
            refine Cs.isF rfl ?_
            walk_at "n"
            rw [hv] at raise_
            by_cases h0 : 0 ≤ v
            · refine Cs.isT (decide_eq_true h0) ?_
              walk_at "n"
              by_cases h1 : v < s
              · refine Cs.isF (by rw [decide_eq_true h1]; rfl) ?_
                refine ds_next ⟨rfl, rfl, ?_⟩
                rw [hk, decide_eq_true h0, decide_eq_true h1]; rfl
              · refine Cs.isT (by rw [decide_eq_false h1]; rfl) ?_
                exact raise_ (by rw [hk, decide_eq_false h1, Bool.and_false]) _
            · refine Cs.isF (decide_eq_false h0) ?_
              walk_at "n"
              refine Cs.isT rfl ?_
              exact raise_ (by rw [hk, decide_eq_false h0]; rfl) _
      intro ρ' O' ⟨hρ, hO, hk⟩
      rw [hρ, hO]
      rw [if_pos hk] at e3
      have hlen : (hD ((ws.take i).map fun t => wholeC (sg t))).length < sizeLine := by
        rw [List.length_map, List.length_map, List.length_take]; unfold sizeLine; omega
      walk_at "n"
      refine ⟨⟨_, Vw.o (getLast1 _ rfl) (Nat.le_of_lt hlen)⟩, ?_⟩
      walk_at "n"
      refine dm_append (getLast1 _ rfl) rfl hlen ?_
      rw [setLast1 _ _ rfl]
      refine ⟨_, _, _, rfl, ?_, e3, hlt⟩
      rw [getElem?_take_succ ht, List.map_append, hD, hD, List.map_append]
      rfl
  · subst e1 e2
    rw [enD_length, ints_len] at e3 e4
    rw [bad_end e4] at e3
    rw [enD_length, ints_len]
    walk_at "n"
    rw [sD_len, ints_len]
    refine ⟨fun e => ?_, fun e => ?_⟩
    · have e := of_decide_eq_true e
      rw [if_pos (by omega)] at e3
      refine ds_rx (hE2 _) x1.o x1.no ?_
      walk_at "n"
      refine ⟨_, rfl, ?_⟩
      rw [ints_len]
      exact hbad _ e3 _
    · have e := of_decide_eq_false e
      rw [if_neg (by omega)] at e3
      refine ds_next ?_
      refine ds_ret (dx_fz ?_)
      walk_at "n"
      have ht : ws.take sz.length = ws := List.take_of_length_le (by omega)
      refine ⟨_, _, rfl, getLast1 _ rfl, by rw [List.length_map, List.length_map, List.length_take]; unfold sizeLine; omega, ?_⟩
      rw [setLast1 _ _ rfl, ht]
      exact hgood e3 _
end
section
open PySem.NumText (AllDigits digitsVal)
variable {P : Program} {w : World} {K : PySem.W.Frag} {mg : Str → Option Value} {base : Heap}
def valL (t : Str) (s : Int) : D := if t = ("?" : Str) then .none else match wholeC (sg t) with
  | some v => if 0 ≤ v ∧ v < s then .int v else .int (-1)
  | none => .int (-1)
theorem valL_bad {t : Str} {s : Int} (hq : t ≠ ("?" : Str)) (h : ∀ v, wholeC (sg t) = some v → ¬ (0 ≤ v ∧ v < s)) : valL t s = .int (-1) := by
  unfold valL
  rw [if_neg hq]
  cases e : wholeC (sg t) with
  | none => rfl
  | some v => exact if_neg (h v e)
theorem law_whole_ok (T : Tx mg) (Fd : Df K mg "_law_whole" s__law_whole) : Cl P w K mg base "_law_whole" 1 1 S_is_whole := by
  refine cl_of Fd sc__law_whole rfl (fun _ _ _ _ _ _ _ us e hl => by subst e; exact match us, hl with | [_], _ => rfl) fun f cdv A outer s H E B cs O R X hr hE hn hs => ⟨_, der__law_whole T hr, ?_⟩
  obtain ⟨d, rfl, hR⟩ := hs
  unfold t__law_whole
  walk_at "d"
  rw [← isWhole_eq] at hR
  refine ⟨fun e => ?_, fun e => ?_⟩
  · walk_at "d"
    rw [e] at hR
    exact hR
  · rw [e] at hR
    exact hR
def S_law_value : ASp := fun cs O R X => ∃ (t : Str) (s : Int), cs = [.d (.str t), .d (.int s)] ∧ 2 ≤ s ∧ s ≤ 6 ∧ R (.d (valL t s)) O
theorem six_mem (c : Nat) : c ∈ sg ("012345" : Str) ↔ 48 ≤ c ∧ c ≤ 53 := by
  have e : sg ("012345" : Str) = [48, 49, 50, 51, 52, 53] := by decide
  rw [e]
  simp only [List.mem_cons, List.not_mem_nil, or_false]
  omega
theorem law_value_ok (T : Tx mg) (Fd : Df K mg "_law_value" s__law_value) : Cl P w K mg base "_law_value" 1 2 S_law_value := by
  refine cl_of Fd sc__law_value rfl (fun _ _ _ _ _ _ _ us e hl => by subst e; exact match us, hl with | [_, _], _ => rfl) fun f cdv A outer s H E B cs O R X hr hE hn hs => ⟨_, der__law_value T hr, ?_⟩
  obtain ⟨t, s, rfl, s2, s6, hR⟩ := hs
  unfold t__law_value
  walk_at "d"
  refine ⟨fun e => ?_, fun e => ?_⟩
  · have e := of_decide_eq_true e
    walk_at "d"
    unfold valL at hR
    rw [if_pos e] at hR
    exact hR
  have hq := of_decide_eq_false e
  refine ds_next ?_
  refine ds_seqM (fun ρ' O' => (ρ' = [some (.d (.str t)), some (.d (.int s))] ∧ O' = O) ∧ ∀ v, wholeC (sg t) = some v → ¬ (0 ≤ v ∧ v < s)) ?_ ?_
  · walk_at "d"
    rw [len_sg t]
    refine ⟨fun e => ?_, fun e => ?_⟩
    · have e := of_decide_eq_true e
      obtain ⟨c, hc⟩ : ∃ c, sg t = [c] := by
        cases q : sg t with
        | nil => rw [q] at e; cases e
        | cons a r =>
          cases r with
          | nil => exact ⟨a, rfl⟩
          | cons b r => rw [q] at e; simp at e; omega
      have ht : t = ⟨#[c]⟩ := str_ext hc
      subst ht
      walk_at "d"
      refine d2_inSign rfl rfl ?_
      walk_at "d"
      refine ⟨fun e2 => ?_, fun e2 => ?_⟩
      · have h6 := (six_mem c).mp (of_decide_eq_true e2)
        have hw := whole_one (c := c) (by omega)
        have hv : PySem.intText? (⟨#[c]⟩ : Str) = some ((c : Int) - 48) := by
          rw [PySem.intText_digits (x := ⟨#[c]⟩) (fun d hd => by have := List.mem_singleton.mp (show d ∈ [c] from hd); omega) (by simp) (by show 1 ≤ 4300; decide)]
          show some (((0 * 10 + (c - 48) : Nat)) : Int) = _
          congr 1
          omega
        walk_at "d"
        refine dc_intS rfl hv (by show 1 ≤ 640; decide) ?_
        walk_at "d"
        refine ⟨fun e3 => ?_, fun e3 => ?_⟩
        · have e3 := of_decide_eq_true e3
          walk_at "d"
          refine dc_intS rfl hv (by show 1 ≤ 640; decide) ?_
          unfold valL at hR
          rw [if_neg hq, show sg (⟨#[c]⟩ : Str) = [c] from rfl, hw] at hR
          have hR : R (.d (if 0 ≤ (c : Int) - 48 ∧ (c : Int) - 48 < s then .int ((c : Int) - 48) else .int (-1))) O := hR
          rw [if_pos ⟨by omega, e3⟩] at hR
          exact hR
        · have e3 := of_decide_eq_false e3
          walk_at "d"
          refine ⟨⟨rfl, rfl⟩, fun v h => ?_⟩
          rw [show sg (⟨#[c]⟩ : Str) = [c] from rfl, hw] at h
          cases h
          omega
      · have e2 := of_decide_eq_false e2
        refine Cs.f ?_
        walk_at "d"
        refine ⟨⟨rfl, rfl⟩, fun v h hv => ?_⟩
        obtain ⟨c', h1, h2, h3, _⟩ := whole_small h hv.1 (by omega)
        have : c = c' := (List.cons.inj (show [c] = [c'] from h1)).1
        exact e2 ((six_mem c).mpr (by omega))
    · have e := of_decide_eq_false e
      refine Cs.f ?_
      walk_at "d"
      refine ⟨⟨rfl, rfl⟩, fun v h hv => ?_⟩
      obtain ⟨c', h1, h2, h3, _⟩ := whole_small h hv.1 (by omega)
      rw [h1] at e
      exact e rfl
  intro ρ' O' ⟨⟨hρ, hO⟩, hn⟩
  rw [hρ, hO]
  rw [valL_bad hq hn] at hR
  walk_at "d"
  exact ⟨1, rfl, hR⟩
end
section
variable {P : Program} {w : World} {K : PySem.W.Frag} {mg : Str → Option Value} {base : Heap}
theorem valL_cases (t : Str) (s : Int) : (okW t s = true ∧ (valL t s = .none ∨ ∃ v, 0 ≤ v ∧ valL t s = .int v)) ∨ (okW t s = false ∧ valL t s = .int (-1)) := by
  unfold okW valL
  by_cases hq : t = ("?" : Str)
  · left
    rw [decide_eq_true hq, if_pos hq]
    exact ⟨rfl, .inl rfl⟩
  · rw [decide_eq_false hq, if_neg hq]
    cases e : wholeC (sg t) with
    | none => right; exact ⟨rfl, rfl⟩
    | some v =>
      by_cases h : 0 ≤ v ∧ v < s
      · left
        refine ⟨by simp [h.1, h.2], .inr ⟨v, h.1, if_pos h⟩⟩
      · right
        refine ⟨?_, if_neg h⟩
        show (false || (decide (0 ≤ v) && decide (v < s))) = false
        by_cases h0 : 0 ≤ v
        · rw [decide_eq_true h0, decide_eq_false fun q => h ⟨h0, q⟩]; rfl
        · rw [decide_eq_false h0]; rfl
def placeD : Option Nat → D
  | none => .none
  | some k => .int (k : Nat)
def S_law_wrong : ASp := fun cs O R X => ∃ (sz : List Int) (ws : List Str), cs = [.d (dSz sz), .d (.list (sD ws))] ∧ SzOk sz ∧ R (.d (placeD (bad sz ws 0))) O
theorem law_wrong_ok (T : Tx mg) (Fd : Df K mg "_law_wrong" s__law_wrong) (c1 : Cl P w K mg base "_law_value" 1 2 S_law_value) : Cl P w K mg base "_law_wrong" 2 2 S_law_wrong := by
  refine cl_of Fd sc__law_wrong rfl (fun _ _ _ _ _ _ _ us e hl => by subst e; exact match us, hl with | [_, _], _ => rfl) fun f cdv A outer s H E B cs O R X hr hE hn hs => ⟨_, der__law_wrong (k := 1) T c1 (by decide) hr, ?_⟩
  obtain ⟨sz, ws, rfl, hz, hR⟩ := hs
  have hzl := hz.len
  unfold t__law_wrong
  refine ds_seq ?_
  refine ds_for (di_rng1 ?_)
  walk_at "n"
  rw [ints_len]
  refine ⟨_, rfl, by omega, by omega, fun i ρ2 O2 => ∃ v2, ρ2 = [some (.d (dSz sz)), some (.d (.list (sD ws))), v2] ∧ O2 = O ∧ bad sz ws 0 = bad (sz.drop i) (ws.drop i) i ∧ i ≤ ws.length, ⟨none, rfl, rfl, rfl, Nat.zero_le _⟩,
    fun i d ρ2 O2 hd ⟨v2, e1, e2, e3, e4⟩ => ?_, fun ρ2 O2 ⟨v2, e1, e2, e3, e4⟩ => ?_⟩
  · have hi := rg_get hd
    have hv := rg_val hd
    subst e1 e2 hv
    rw [Int.toNat_natCast] at hi
    have hs : sz[i]? = some sz[i] := List.getElem?_eq_getElem hi
    have hsr := hz.rng _ (List.getElem_mem hi)
    rw [bad_at hs] at e3
    refine ⟨_, gd_name, ?_⟩
    walk_at "n"
    rw [sD_len]
    refine ⟨fun e => ?_, fun e => ?_⟩
    · have e := of_decide_eq_true e
      have hn : ws[i]? = none := List.getElem?_eq_none_iff.mpr (by omega)
      rw [hn] at e3
      have e3 : bad sz ws 0 = some i := e3
      rw [e3] at hR
      walk_at "n"
      exact hR
    · have e := of_decide_eq_false e
      have hlt : i < ws.length := by omega
      obtain ⟨t, ht⟩ : ∃ t, ws[i]? = some t := ⟨_, List.getElem?_eq_getElem hlt⟩
      rw [ht] at e3
      have e3 : bad sz ws 0 = if okW t sz[i] = true then bad (sz.drop (i + 1)) (ws.drop (i + 1)) (i + 1) else some i := e3
      walk_at "n"
      refine d2_ixL Vw.d rfl (atI_nat (get_str ht)) ?_
      walk_at "n"
      refine d2_ixL Vw.d rfl (atI_nat (ints_get hs)) ?_
      walk_at "n"
      refine ⟨rfl, t, sz[i], rfl, hsr.1, hsr.2, ?_⟩
      walk_at "n"
      refine ⟨1, rfl, ?_⟩
      rcases valL_cases t sz[i] with ⟨ho, hv | ⟨v, hv0, hv⟩⟩ | ⟨ho, hv⟩
      · rw [hv]
        refine d2_eqD Vw.d Vw.d shaped_none (shaped_int _) ?_
        walk_at "n"
        refine Cs.isF (by decide) ?_
        refine ds_next ⟨_, rfl, rfl, ?_, hlt⟩
        rw [if_pos ho] at e3
        exact e3
      · rw [hv]
        refine d2_eqI rfl rfl ?_
        walk_at "n"
        refine Cs.isF (decide_eq_false (by omega)) ?_
        refine ds_next ⟨_, rfl, rfl, ?_, hlt⟩
        rw [if_pos ho] at e3
        exact e3
      · rw [hv]
        refine d2_eqI rfl rfl ?_
        walk_at "n"
        refine Cs.isT (by decide) ?_
        walk_at "n"
        rw [ho] at e3
        have e3 : bad sz ws 0 = some i := e3
        rw [e3] at hR
        exact hR
  · subst e1 e2
    rw [rgD_length, Int.toNat_natCast] at e3 e4
    rw [bad_end e4] at e3
    walk_at "n"
    rw [sD_len, ints_len]
    refine ⟨fun e => ?_, fun e => ?_⟩
    · have e := of_decide_eq_true e
      rw [e3, if_pos (by omega)] at hR
      walk_at "n"
      rw [ints_len]
      exact hR
    · have e := of_decide_eq_false e
      rw [e3, if_neg (by omega)] at hR
      walk_at "n"
      exact hR
def S_law_caught (CT : Addr) : ASp := fun cs O R X => ∃ (sz : List Int) (z : Str), cs = [.d (dSz sz), .d (.str z)] ∧ SzOk sz ∧ z.length ≤ 1000000 ∧
  match bad sz (wordsOf z) 0 with
  | none => ∀ T, R (.d .none) (O ++ T)
  | some k => ∀ T, R (.e (.ref CT) [("place", .int (k : Nat))]) (O ++ T)
theorem law_caught_ok {CT CR : Addr} (T : Tx mg) (Fd : Df K mg "_law_caught" s__law_caught) (c1 : ClX P w K mg base "read_case" 5 2 (S_read_case CT)) (mR : mg "ReasonError" = some (.ref CR)) (ex : PySem.W.exmOne K (.ref CT) (.ref CR) = some true) : Cl P w K mg base "_law_caught" 6 2 (S_law_caught CT) := by
  refine cl_of Fd sc__law_caught rfl (fun _ _ _ _ _ _ _ us e hl => by subst e; exact match us, hl with | [_, _], _ => rfl) fun f cdv A outer s H E B cs O R X hr hE hn hs => ⟨_, der__law_caught (k := 5) T c1 (by decide) mR hr, ?_⟩
  obtain ⟨sz, z, rfl, hz, hl, hR⟩ := hs
  unfold t__law_caught
  walk_at "n"
  refine ds_tryH (X := fun cls fs O' => ∃ (k : Nat) (T : Ow), cls = .ref CT ∧ fs = [(("place" : Str), PyData.int (k : Nat))] ∧ O' = O ++ T ∧ bad sz (wordsOf z) 0 = some k) (by decide) (by show 3 < 4; decide) (by show 2 < 4; decide) ?_ ?_
  · walk_at "n"
    refine ⟨rfl, sz, z, rfl, hz, hl, ?_⟩
    generalize e : bad sz (wordsOf z) 0 = bd at hR ⊢
    cases bd with
    | none =>
      intro T
      walk_at "n"
      exact hR T
    | some k => exact fun T => ⟨k, T, rfl, rfl, rfl, rfl⟩
  · rintro cls fs O' ⟨k, T, rfl, rfl, rfl, e⟩
    refine ⟨ex, ?_⟩
    rw [e] at hR
    walk_at "n"
    exact hR T
end
section
variable {P : Program} {w : World} {K : PySem.W.Frag} {mg : Str → Option Value} {base : Heap}
/-- what is told of the four classes -/
structure XF (K : PySem.W.Frag) (CT CR CH CS : Addr) : Prop where
  kc : XcK K CT
  no : PySem.W.findIn K (.ref CT) "place" = some none
  k1 : PySem.W.kitOne K (.ref CT) (.ref CT) = some true
  k2 : PySem.W.kitOne K (.ref CT) (.type "ValueError") = some true
  k3 : PySem.W.kitOne K (.ref CT) (.ref CH) = some false
  k4 : PySem.W.kitOne K (.ref CT) (.ref CS) = some false
  ex : PySem.W.exmOne K (.ref CT) (.ref CR) = some true
theorem look1 (f : Str) (d : D) : List.lookup f [(f, d)] = some d := by simp [List.lookup]
def S_law_refused (CT : Addr) : ASp := fun cs O R X => ∃ k : Nat, cs = [.e (.ref CT) [("place", .int (k : Nat))], .d (.int (k : Nat))] ∧ R (.d (.bool true)) O
theorem law_refused_ok {CT CR CH CS : Addr} (T : Tx mg) (Fd : Df K mg "_law_refused" s__law_refused) (c1 : Cl P w K mg base "_law_whole" 1 1 S_is_whole) (xf : XF K CT CR CH CS) (mH : mg "InvalidHalf" = some (.ref CH)) (mS : mg "InvalidSizes" = some (.ref CS)) (mT : mg "InvalidText" = some (.ref CT)) : Cl P w K mg base "_law_refused" 2 2 (S_law_refused CT) := by
  refine cl_of Fd sc__law_refused rfl (fun _ _ _ _ _ _ _ us e hl => by subst e; exact match us, hl with | [_, _], _ => rfl) fun f cdv A outer s H E B cs O R X hr hE hn hs => ⟨_, der__law_refused (k := 1) T c1 (by decide) mH mS mT hr, ?_⟩
  obtain ⟨k, rfl, hR⟩ := hs
  have r1 : ∀ {C : Addr} {b : Bool}, PySem.W.kitOne K (.ref CT) (.ref C) = some b → ∀ u, RelV (.ref C) u → PySem.W.kitOne K (.ref CT) u = some b := fun h u r => by
    have r : u = _ := r
    rw [r]; exact h
  unfold t__law_refused
  walk_at "n"
  refine dc_isX rfl rfl xf.kc (r1 xf.k1) ?_
  walk_at "n"
  refine Cs.f ?_
  walk_at "n"
  refine dc_isX rfl rfl xf.kc (fun u r => by have r : u = _ := r; rw [r]; exact xf.k2) ?_
  walk_at "n"
  refine Cs.f ?_
  walk_at "n"
  refine dc_isX rfl rfl xf.kc (r1 xf.k3) ?_
  walk_at "n"
  refine Cs.f ?_
  walk_at "n"
  refine dc_isX rfl rfl xf.kc (r1 xf.k4) ?_
  walk_at "n"
  refine Cs.f ?_
  walk_at "n"
  refine dx_xv (dx_var rfl ⟨CT, _, _, rfl, xf.kc, xf.no, look1 _ _, ?_⟩)
  walk_at "n"
  refine ⟨rfl, _, rfl, ?_⟩
  walk_at "n"
  refine Cs.isT rfl ?_
  walk_at "n"
  refine dx_xv (dx_var rfl ⟨CT, _, _, rfl, xf.kc, xf.no, look1 _ _, ?_⟩)
  walk_at "n"
  rw [decide_eq_true rfl]
  exact hR
theorem eqv_opt (o : Option Int) : PyData.eqv (optD o) (optD o) = true := by
  cases o with
  | none => simp [optD, PyData.eqv]
  | some v => show PyData.eqv (.int v) (.int v) = true; rw [eqv_int]; exact decide_eq_true rfl
theorem eqv_half (h : List (Option Int)) : PyData.eqvAll (hD h) (hD h) = true := by
  induction h with
  | nil => simp [hD, PyData.eqvAll]
  | cons a r ih =>
    show PyData.eqvAll (optD a :: hD r) (optD a :: hD r) = true
    simp only [PyData.eqvAll, Bool.and_eq_true]
    exact ⟨eqv_opt a, ih⟩
theorem flat_half (h : List (Option Int)) : (hD h).all flatN = true := by
  unfold hD
  rw [List.all_map, List.all_eq_true]
  intro x _
  cases x <;> rfl
theorem shaped_half (h : List (Option Int)) : SeqAt.shaped (.list (hD h)) = true := shaped_list (flat_half h)
def S_law_alike : ASp := fun cs O R X => ∃ h : List (Option Int), cs = [.d (.list (hD h)), .d (.list (hD h))] ∧ R (.d (.bool true)) O
theorem law_alike_ok (T : Tx mg) (Fd : Df K mg "_law_alike" s__law_alike) (c1 : Cl P w K mg base "_law_whole" 1 1 S_is_whole) : Cl P w K mg base "_law_alike" 2 2 S_law_alike := by
  refine cl_of Fd sc__law_alike rfl (fun _ _ _ _ _ _ _ us e hl => by subst e; exact match us, hl with | [_, _], _ => rfl) fun f cdv A outer s H E B cs O R X hr hE hn hs => ⟨_, der__law_alike (k := 1) T c1 (by decide) hr, ?_⟩
  obtain ⟨h, rfl, hR⟩ := hs
  unfold t__law_alike
  walk_at "d"
  refine Cs.f ?_
  walk_at "d"
  refine dx_lcFlt (fun _ => false) (fun d => d) (di_list (dx_var rfl ⟨_, rfl, fun d hd => ?_, ?_⟩))
  · obtain ⟨o, ho, rfl⟩ := List.mem_map.mp hd
    refine ⟨_, gd_name, by simp, ?_⟩
    cases o with
    | none =>
      walk_at "d"
      refine ⟨.none, rfl, ?_⟩
      walk_at "d"
      refine Cs.isF rfl ?_
      exact ⟨rfl, rfl, fun q => by cases q⟩
    | some v =>
      walk_at "d"
      refine ⟨.int v, rfl, ?_⟩
      walk_at "d"
      refine Cs.isT rfl ?_
      walk_at "d"
      refine ⟨rfl, .int v, rfl, ?_⟩
      walk_at "d"
      exact ⟨rfl, rfl, fun q => by cases q⟩
  rw [show (hD h).filter (fun _ => false) = [] from List.filter_eq_nil_iff.mpr fun _ _ => by simp, List.map_nil]
  walk_at "d"
  refine d2_neD Vw.d Vw.d (shaped_list (ds := []) rfl) (shaped_list (ds := []) rfl) ?_
  walk_at "d"
  refine Cs.isF (by decide) ?_
  walk_at "d"
  refine d2_eqD Vw.d Vw.d (shaped_half h) (shaped_half h) ?_
  have e : PyData.eqv (.list (hD h)) (.list (hD h)) = true := by
    simp only [PyData.eqv]
    exact eqv_half h
  rw [e]
  exact hR
end
section
variable {P : Program} {w : World} {K : PySem.W.Frag} {mg : Str → Option Value} {base : Heap}
def S_sheet : ASp := fun cs O R X => ∃ b t, cs = [.o b] ∧ BagAt O b t ∧ t + 40 ≤ TMAX ∧ ∀ sz O', SzOk sz → BagTo O O' b (t + 40) → R (.d (dSz sz)) O'
theorem sheet_ok (T : Tx mg) (Fd : Df K mg "_law_sheet" s__law_sheet) (c1 : Cl P w K mg base "_law_draw" 1 2 S_law_draw) : Cl P w K mg base "_law_sheet" 2 1 S_sheet := by
  refine cl_of Fd sc__law_sheet rfl (fun _ _ _ _ _ _ _ us e hl => by subst e; exact match us, hl with | [_], _ => rfl) fun f cdv A outer s H E B cs O R X hr hE hn hs => ⟨_, der__law_sheet (k := 1) T c1 (by decide) hr, ?_⟩
  obtain ⟨b, t, rfl, hb, ht, hR⟩ := hs
  unfold t__law_sheet
  walk_at "n"
  refine ⟨rfl, b, _, t, rfl, by decide, by decide, hb, by omega, fun x O1 x0 x1 h1 => ?_⟩
  refine ds_seq (ds_asg (dx_int ?_))
  refine ds_seqM (fun ρ' O' => ∃ n, ρ' = [some (.o b), some (.d (.int x)), some (.d (.int n)), none] ∧ 0 ≤ n ∧ n ≤ 24 ∧ BagTo O O' b (t + 2)) ?_ ?_
  · walk_at "n"
    refine ⟨fun e => ?_, fun e => ?_⟩
    · walk_at "n"
      refine ⟨rfl, b, _, _, rfl, by decide, by decide, h1.at_, by omega, fun y O2 y0 y1 h2 => ?_⟩
      exact ⟨y, rfl, y0, by omega, (h1.trans h2).mono (by omega)⟩
    · walk_at "n"
      refine ⟨fun e => ?_, fun e => ?_⟩
      · walk_at "n"
        refine ⟨rfl, b, _, _, rfl, by decide, by decide, h1.at_, by omega, fun y O2 y0 y1 h2 => ?_⟩
        exact ⟨y, rfl, y0, by omega, (h1.trans h2).mono (by omega)⟩
      · refine ds_next ?_
        exact ⟨24, rfl, by decide, by decide, h1.mono (by omega)⟩
  intro ρ' O2 ⟨n, hρ, n0, n1, h2⟩
  rw [hρ]
  walk_at "n"
  refine dx_lc (di_rng1 ?_)
  walk_at "n"
  refine ⟨n, rfl, by omega, by omega, fun i acc O4 => ∃ vs, acc = iD vs ∧ Ints 2 6 i vs ∧ BagTo O O4 b (t + 2 + i), ⟨[], rfl, .nil, h2⟩, fun i d acc O4 hd hi ⟨vs, e1, e2, e3⟩ => ⟨_, gd_name, by simp, ?_⟩, fun acc O4 _ ⟨vs, e1, e2, e3⟩ => ?_⟩
  · have hi := rg_get hd
    walk_at "n"
    refine Cs.t ?_
    walk_at "n"
    refine ⟨rfl, b, _, _, rfl, by decide, by decide, e3.at_, by omega, fun u O5 u0 u1 h5 => ?_⟩
    walk_at "n"
    exact ⟨_, rfl, vs ++ [2 + u], by rw [iD_snoc, e1], e2.snoc (by omega) (by omega), e3.trans h5⟩
  · rw [rgD_length] at e2 e3
    subst e1
    exact hR vs O4 ⟨by rw [e2.1]; omega, fun s hs => by have := e2.2 s hs; omega⟩ (e3.mono (by omega))
/-- a row of short words -/
def Wds (n : Nat) (ws : List Str) : Prop := ws.length ≤ n ∧ ∀ t ∈ ws, t.length ≤ 20
def S_word : ASp := fun cs O R X => ∃ b t, cs = [.o b] ∧ BagAt O b t ∧ t + 1 ≤ TMAX ∧ ∀ (z : Str) O', z.length ≤ 20 → BagTo O O' b (t + 1) → R (.d (.str z)) O'
def someW : List Str := ["?", "0", "1", "5", "6", "-1", "-0", "00", "01", "", "??", "1234567890", "a", "+1", "1_0", "-", "0,1", "2\n"]
theorem some_at {y : Int} (h0 : 0 ≤ y) (h1 : y < 18) : ∃ z : Str, atI (sD someW) y = some (.str z) ∧ z.length ≤ 20 := by
  obtain ⟨i, rfl⟩ : ∃ i : Nat, y = i := ⟨y.toNat, by omega⟩
  have hi : i < someW.length := by show i < 18; omega
  refine ⟨someW[i], atI_nat (get_str (List.getElem?_eq_getElem hi)), ?_⟩
  have : ∀ t ∈ someW, t.length ≤ 20 := by decide
  exact this _ (List.getElem_mem hi)
theorem word_ok (T : Tx mg) (Fd : Df K mg "_law_word" s__law_word) (c1 : Cl P w K mg base "_law_draw" 1 2 S_law_draw) : Cl P w K mg base "_law_word" 2 1 S_word := by
  refine cl_ofT Fd sc__law_word rfl (fun _ _ _ _ _ _ _ us e hl => by subst e; exact match us, hl with | [_], _ => rfl) fun f cdv A outer s H E B cs O R X hr hE hn hs => ⟨_, der__law_word (k := 1) T c1 (by decide) hr, ?_⟩
  obtain ⟨b, t, rfl, hb, ht, hR⟩ := hs
  have hbl := hb.lt
  unfold t__law_word
  walk_at "n"
  refine dx_lstO ?_
  walk_at "n"
  have hl17 : ∀ l : List D, l.length = 17 → l.length < sizeLine := fun l h => by rw [h]; unfold sizeLine; decide
  refine ⟨⟨_, Vw.o (getLast1 _ rfl) (Nat.le_of_lt (hl17 _ rfl))⟩, ?_⟩
  walk_at "n"
  refine dm_append (getLast1 _ rfl) rfl (hl17 _ rfl) ?_
  rw [setLast1 _ _ rfl]
  walk_at "n"
  refine dc_lenL (Vw.o (getLast1 _ rfl) (by show 18 ≤ 2 ^ 24; decide)) ?_
  walk_at "n"
  refine ⟨rfl, b, _, t, rfl, by show (0 : Int) < 18; decide, by show (18 : Int) ≤ 5000; decide, hb.app _, by omega, fun y Oa y0 y1 ha => ?_⟩
  obtain ⟨O1, rfl, h1⟩ := ha.under hbl
  obtain ⟨z, hz, hzl⟩ := some_at y0 y1
  refine d2_ixL (Vw.o (getLast1 _ h1.length) (by show 18 ≤ 2 ^ 24; decide)) rfl hz ?_
  exact Tr.of rfl h1.lk (hR z O1 hzl h1)
theorem cut_sD (ws : List Str) (lo hi : Option Int) : cutD (sD ws) lo hi = sD (cutD ws lo hi) := by
  unfold cutD sD
  rw [List.length_map, List.map_take, List.map_drop]
theorem cut_wds {n : Nat} {ws : List Str} (h : Wds n ws) (lo hi : Option Int) : Wds n (cutD ws lo hi) := ⟨Nat.le_trans (cutD_length _ _ _) h.1, fun t ht => h.2 t (by unfold cutD at ht; exact List.mem_of_mem_drop (List.mem_of_mem_take ht))⟩
theorem Wds.app {m n : Nat} {as bs : List Str} (x : Wds m as) (y : Wds n bs) : Wds (m + n) (as ++ bs) := ⟨by rw [List.length_append]; have := x.1; have := y.1; omega, fun t ht => (List.mem_append.mp ht).elim (x.2 t) (y.2 t)⟩
theorem Wds.mono {m n : Nat} {as : List Str} (x : Wds m as) (h : m ≤ n) : Wds n as := ⟨Nat.le_trans x.1 h, x.2⟩
def S_spoiled : ASp := fun cs O R X => ∃ (b : Nat) (ws : List Str) (t n : Nat), cs = [.o b, .d (.list (sD ws))] ∧ Wds n ws ∧ n ≤ 1000 ∧ BagAt O b t ∧ t + 3 ≤ TMAX ∧ ∀ ws' O', Wds (3 * n + 1) ws' → BagTo O O' b (t + 3) → R (.d (.list (sD ws'))) O'
theorem sD_app (a b : List Str) : sD (a ++ b) = sD a ++ sD b := List.map_append
theorem spoiled_ok (T : Tx mg) (Fd : Df K mg "_law_spoiled" s__law_spoiled) (c1 : Cl P w K mg base "_law_word" 2 1 S_word) (c2 : Cl P w K mg base "_law_draw" 1 2 S_law_draw) : Cl P w K mg base "_law_spoiled" 3 2 S_spoiled := by
  refine cl_of Fd sc__law_spoiled rfl (fun _ _ _ _ _ _ _ us e hl => by subst e; exact match us, hl with | [_, _], _ => rfl) fun f cdv A outer s H E B cs O R X hr hE hn hs => ⟨_, der__law_spoiled (k := 2) T c1 (by decide) c2 (by decide) hr, ?_⟩
  obtain ⟨b, ws, t, n, rfl, hw, hn1, hb, ht, hR⟩ := hs
  have hwl := hw.1
  unfold t__law_spoiled
  walk_at "n"
  refine ⟨rfl, b, _, t, rfl, by decide, by decide, hb, by omega, fun x O1 x0 x1 h1 => ?_⟩
  walk_at "n"
  rw [sD_len]
  refine ⟨rfl, b, _, _, rfl, by omega, by omega, h1.at_, by omega, fun y O2 y0 y1 h2 => ?_⟩
  walk_at "n"
  refine ⟨rfl, b, _, rfl, h2.at_, by omega, fun z O3 hz h3 => ?_⟩
  have hT : BagTo O O3 b (t + 3) := ((h1.trans h2).trans h3).mono (by omega)
  have fin : ∀ (l : List D) (ws' : List Str), l = sD ws' → Wds (3 * n + 1) ws' → R (.d (.list l)) O3 := fun l ws' e h => by rw [e]; exact hR ws' O3 h hT
  have hz1 : Wds 1 [z] := ⟨Nat.le_refl _, fun q hq => by rw [List.mem_singleton.mp hq]; exact hz⟩
  have hc := fun lo hi => cut_wds hw lo hi
  have hcl : ∀ lo hi, (cutD (sD ws) lo hi).length ≤ n := fun lo hi => by rw [cut_sD, sD_len]; exact (hc lo hi).1
  walk_at "n"
  refine ⟨fun e => ?_, fun e => ?_⟩
  · walk_at "n"
    refine ⟨_, rfl, ?_⟩
    walk_at "d"
    refine d2_addL Vw.d Vw.d (by have := hcl none (some y); simp only [List.length_cons, List.length_nil, sizeLine, Nat.reducePow]; omega) ?_
    walk_at "d"
    refine ⟨_, rfl, ?_⟩
    walk_at "d"
    refine d2_addL Vw.d Vw.d (by have := hcl none (some y); have := hcl (some (y + 1)) none; rw [List.length_append]; simp only [List.length_cons, List.length_nil, sizeLine, Nat.reducePow]; omega) ?_
    refine fin _ (cutD ws none (some y) ++ [z] ++ cutD ws (some (y + 1)) none) (by rw [sD_app, sD_app, cut_sD, cut_sD]; rfl) ((((hc _ _).app hz1).app (hc _ _)).mono (by omega))
  walk_at "n"
  refine ⟨fun e => ?_, fun e => ?_⟩
  · walk_at "n"
    refine ⟨_, rfl, ?_⟩
    walk_at "d"
    refine d2_addL Vw.d Vw.d (by have := hcl none (some y); simp only [List.length_cons, List.length_nil, sizeLine, Nat.reducePow]; omega) ?_
    walk_at "d"
    refine ⟨_, rfl, ?_⟩
    walk_at "d"
    refine d2_addL Vw.d Vw.d (by have := hcl none (some y); have := hcl (some y) none; rw [List.length_append]; simp only [List.length_cons, List.length_nil, sizeLine, Nat.reducePow]; omega) ?_
    refine fin _ (cutD ws none (some y) ++ [z] ++ cutD ws (some y) none) (by rw [sD_app, sD_app, cut_sD, cut_sD]; rfl) ((((hc _ _).app hz1).app (hc _ _)).mono (by omega))
  walk_at "n"
  refine ⟨fun e => ?_, fun e => ?_⟩
  · walk_at "n"
    refine ⟨_, rfl, ?_⟩
    walk_at "d"
    refine ⟨_, rfl, ?_⟩
    walk_at "d"
    refine d2_addL Vw.d Vw.d (by have := hcl none (some y); have := hcl (some (y + 1)) none; simp only [sizeLine, Nat.reducePow]; omega) ?_
    refine fin _ (cutD ws none (some y) ++ cutD ws (some (y + 1)) none) (by rw [sD_app, cut_sD, cut_sD]) (((hc _ _).app (hc _ _)).mono (by omega))
  walk_at "n"
  refine ⟨fun e => ?_, fun e => ?_⟩
  · walk_at "n"
    refine ⟨_, rfl, ?_⟩
    walk_at "d"
    refine ⟨_, rfl, ?_⟩
    walk_at "d"
    refine ⟨_, rfl, ?_⟩
    walk_at "d"
    refine d2_addL Vw.d Vw.d (by have := hcl none (some y); have := hcl (some y) (some (y + 1)); simp only [sizeLine, Nat.reducePow]; omega) ?_
    walk_at "d"
    refine ⟨_, rfl, ?_⟩
    walk_at "d"
    refine d2_addL Vw.d Vw.d (by have := hcl none (some y); have := hcl (some y) (some (y + 1)); have := hcl (some y) none; rw [List.length_append]; simp only [sizeLine, Nat.reducePow]; omega) ?_
    refine fin _ (cutD ws none (some y) ++ cutD ws (some y) (some (y + 1)) ++ cutD ws (some y) none) (by rw [sD_app, sD_app, cut_sD, cut_sD, cut_sD]) ((((hc _ _).app (hc _ _)).app (hc _ _)).mono (by omega))
  walk_at "n"
  refine ⟨fun e => ?_, fun e => ?_⟩
  · walk_at "n"
    refine ⟨_, rfl, ?_⟩
    walk_at "d"
    exact fin _ (cutD ws none (some y)) (cut_sD _ _ _) ((hc _ _).mono (by omega))
  walk_at "n"
  exact fin _ ws rfl (hw.mono (by omega))
end
section
variable {P : Program} {w : World} {K : PySem.W.Frag} {mg : Str → Option Value} {base : Heap}
theorem shaped_two {as bs : List D} (ha : as.all flatN = true) (hb : bs.all flatN = true) : SeqAt.shaped (.list [.list as, .list bs]) = true := by
  obtain ⟨a1, a2⟩ := lay_flat as ha
  obtain ⟨b1, b2⟩ := lay_flat bs hb
  simp [SeqAt.shaped, PyData.canLay0, PyData.canLayAll0, PyData.depth, PyData.depthAll, a1, a2, b1, b2]
theorem eqv_two (sz : List Int) (h : List (Option Int)) : PyData.eqv (.list [.list (iD sz), .list (hD h)]) (.list [.list (iD sz), .list (hD h)]) = true := by
  have e1 : PyData.eqv (.list (iD sz)) (.list (iD sz)) = true := by
    show PyData.eqv (.list (sz.map .int)) (.list (sz.map .int)) = true
    rw [eqv_ints]; exact decide_eq_true rfl
  have e2 : PyData.eqv (.list (hD h)) (.list (hD h)) = true := by
    simp only [PyData.eqv]
    exact eqv_half h
  have e3 : PyData.eqvAll [.list (iD sz), .list (hD h)] [.list (iD sz), .list (hD h)] = true := by
    simp only [PyData.eqvAll, e1, e2, Bool.and_true]
  simp only [PyData.eqv]
  exact e3
/-- what a value's word is -/
theorem word_val {v : Int} (h0 : 0 ≤ v) (h6 : v < 6) : sg (strI v) = [(48 + v.toNat)] := by
  have h : v = 0 ∨ v = 1 ∨ v = 2 ∨ v = 3 ∨ v = 4 ∨ v = 5 := by omega
  rcases h with rfl | rfl | rfl | rfl | rfl | rfl <;> decide
theorem wordV_whole {o : Option Int} (h : ∀ v, o = some v → 0 ≤ v ∧ v < 6) : wholeC (sg (wordV o)) = o ∧ 32 ∉ sg (wordV o) ∧ sg (wordV o) ≠ [] := by
  cases o with
  | none => exact ⟨by decide, by decide, by decide⟩
  | some v =>
    obtain ⟨h0, h6⟩ := h v rfl
    show wholeC (sg (strI v)) = some v ∧ _
    show _ ∧ 32 ∉ sg (strI v) ∧ sg (strI v) ≠ []
    rw [word_val h0 h6, whole_one (by omega)]
    refine ⟨by congr 1; omega, fun q => ?_, by simp⟩
    have := List.mem_singleton.mp q
    omega
theorem half_words {sz : List Int} {h : List (Option Int)} (hz : SzOk sz) (hh : HalfOk sz h) : wordsOf (Txt.join " " (h.map wordV)) = h.map wordV := by
  have hw : ∀ o ∈ h, wholeC (sg (wordV o)) = o ∧ 32 ∉ sg (wordV o) ∧ sg (wordV o) ≠ [] := fun o ho => wordV_whole fun v e => half_small hz hh v (by rw [← e]; exact ho)
  unfold wordsOf
  cases e : h with
  | nil => rw [if_pos (by decide)]; rfl
  | cons o r =>
    have hs : Txt.split (Txt.join " " ((o :: r).map wordV)) " " = (o :: r).map wordV :=
      TL.split_join (s := 32) (S := []) (by decide) (by rw [← Array.all_toList]; decide) (by simp) fun p hp => by
        obtain ⟨x, hx, rfl⟩ := List.mem_map.mp hp
        exact (hw x (by rw [e]; exact hx)).2.1
    rw [if_neg, hs]
    intro q
    rw [q] at hs
    have h1 : Txt.split ("" : Str) " " = [("" : Str)] := by decide
    rw [h1] at hs
    have h2 : ("" : Str) = wordV o := (List.cons.inj hs).1
    exact (hw o (by rw [e]; exact List.mem_cons_self)).2.2 (by rw [← h2]; rfl)
theorem half_whole {sz : List Int} {h : List (Option Int)} (hz : SzOk sz) (hh : HalfOk sz h) : (h.map wordV).map (fun t => wholeC (sg t)) = h := by
  rw [List.map_map]
  conv => rhs; rw [← List.map_id h]
  refine List.map_congr_left fun o ho => ?_
  exact (wordV_whole fun v e => half_small hz hh v (by rw [← e]; exact ho)).1
theorem bad_half : ∀ (sz : List Int) (h : List (Option Int)) (k : Nat), h.length = sz.length → (∀ (i : Nat) (v s : Int), h[i]? = some (some v) → sz[i]? = some s → 0 ≤ v ∧ v < s) → (∀ o ∈ h, wholeC (sg (wordV o)) = o) → bad sz (h.map wordV) k = none
  | [], [], _, _, _, _ => rfl
  | s :: sz, [], _, hl, _, _ => by cases hl
  | [], o :: h, _, hl, _, _ => by cases hl
  | s :: sz, o :: h, k, hl, hr, hw => by
    have ok : okW (wordV o) s = true := by
      unfold okW
      cases o with
      | none => rfl
      | some v =>
        have h1 := hr 0 v s rfl rfl
        have h2 := hw (some v) List.mem_cons_self
        rw [h2]
        show (_ || (decide (0 ≤ v) && decide (v < s))) = true
        rw [decide_eq_true h1.1, decide_eq_true h1.2, Bool.and_true, Bool.or_true]
    show (if okW (wordV o) s = true then bad sz (h.map wordV) (k + 1) else some k) = none
    rw [if_pos ok]
    exact bad_half sz h (k + 1) (by simpa using hl) (fun i v s e1 e2 => hr (i + 1) v s (by simpa using e1) (by simpa using e2)) fun o ho => hw o (List.mem_cons_of_mem _ ho)
theorem valL_ok {t : Str} {s : Int} (h : okW t s = true) : valL t s = optD (wholeC (sg t)) := by
  unfold okW at h
  unfold valL
  by_cases hq : t = ("?" : Str)
  · rw [if_pos hq, hq]; rfl
  · rw [decide_eq_false hq, Bool.false_or] at h
    rw [if_neg hq]
    cases e : wholeC (sg t) with
    | none => rw [e] at h; cases h
    | some v =>
      rw [e] at h
      have h : (decide (0 ≤ v) && decide (v < s)) = true := h
      rw [Bool.and_eq_true, decide_eq_true_eq, decide_eq_true_eq] at h
      exact if_pos h
theorem bad_none : ∀ (sz : List Int) (ws : List Str) (k : Nat), bad sz ws k = none → ws.length = sz.length ∧ ∀ (i : Nat) (t : Str) (s : Int), ws[i]? = some t → sz[i]? = some s → okW t s = true
  | [], [], _, _ => ⟨rfl, fun i t s h => by simp at h⟩
  | [], _ :: _, _, h => by cases h
  | _ :: _, [], _, h => by cases h
  | s :: sz, z :: ws, k, h => by
    have h : (if okW z s = true then bad sz ws (k + 1) else some k) = none := h
    by_cases ok : okW z s = true
    · rw [if_pos ok] at h
      obtain ⟨h1, h2⟩ := bad_none sz ws (k + 1) h
      refine ⟨by simp [h1], fun i t s' e1 e2 => ?_⟩
      cases i with
      | zero => cases e1; cases e2; exact ok
      | succ i => exact h2 i t s' (by simpa using e1) (by simpa using e2)
    · rw [if_neg ok] at h; cases h
end
section
variable {P : Program} {w : World} {K : PySem.W.Frag} {mg : Str → Option Value} {base : Heap}
theorem cut_int {ns : List Int} {lo hi : Option Int} {d : D} (h : d ∈ cutD (ns.map PyData.int) lo hi) : ∃ i, d = .int i := by
  unfold cutD at h
  obtain ⟨i, _, e⟩ := List.mem_map.mp (List.mem_of_mem_drop (List.mem_of_mem_take h))
  exact ⟨i, e.symm⟩
theorem hD_snoc (h : List (Option Int)) (o : Option Int) : hD (h ++ [o]) = hD h ++ [optD o] := by unfold hD; rw [List.map_append]; rfl
def dueD (W : List Str) : D → D
  | .int i => optD (wholeC (sg (W.getD i.toNat "")))
  | _ => .none
theorem due_eq (W : List Str) : (rgD 0 W.length).map (dueD W) = hD (W.map fun t => wholeC (sg t)) := by
  unfold rgD hD
  rw [List.map_map, List.map_map]
  refine List.ext_getElem? fun i => ?_
  rw [List.getElem?_map, List.getElem?_map]
  by_cases h : i < W.length
  · rw [List.getElem?_range h, List.getElem?_eq_getElem h]
    show some (optD (wholeC (sg (W.getD ((0 : Int) + (i : Nat)).toNat "")))) = some (optD (wholeC (sg W[i])))
    rw [Int.zero_add, Int.toNat_natCast, List.getD_eq_getElem?_getD, List.getElem?_eq_getElem h]
    rfl
  · rw [List.getElem?_eq_none_iff.mpr (by rw [List.length_range]; omega), List.getElem?_eq_none_iff.mpr (by omega)]
    rfl
theorem law_run {B : Bs} {a CT : Addr} {ns : List Int} (hl : ns.length ≤ 63) (hB : ∀ (F H : Hp) (al : List Addr) (O : Ow), B.p F H al → Rep F H al O → SqL K H a (ns.map V.int)) :
    DS B (t_law K S_law_alike S_law_value (S_law_refused CT) (S_law_caught CT) S_law_wrong S_spoiled S_write_case S_law_draw S_sheet S_law_bag (S_read_case CT)) (startE n_law [.v (.ref a)]) [] { nx := fun _ _ => False, rt := fun c _ => c = .d (.bool true) } := by
  unfold t_law
  walk_at "d"
  refine ds_for (di_list ?_)
  walk_at "d"
  refine ⟨12, rfl, ?_⟩
  refine d3_raw (ns := ns) (fun F H al b r => hB F H al _ b r) (by unfold sizeLine; omega) ?_
  have hcl := cutD_length (ns.map PyData.int) none (some 12)
  rw [List.length_map] at hcl
  refine d2_addL Vw.d Vw.d (by simp only [List.length_cons, List.length_nil, sizeLine, Nat.reducePow]; omega) ?_
  refine ⟨_, rfl, fun i ρ2 O2 => ∃ T : En, T.length = 17 ∧ ρ2 = some (.v (.ref a)) :: T, ⟨List.replicate 17 none, rfl, rfl⟩, fun i d ρ2 O2 hd ⟨T, hT, hρ⟩ => ⟨_, gd_name, ?_⟩, fun ρ2 O2 ⟨T, hT, hρ⟩ => ?_⟩
  · subst hρ
    obtain ⟨c, rfl⟩ : ∃ c, d = .int c := by
      rcases List.mem_append.mp (List.mem_of_getElem? hd) with h | h
      · exact ⟨0, List.mem_singleton.mp h⟩
      · exact cut_int h
    obtain ⟨u1, u2, u3, u4, u5, u6, u7, u8, u9, u10, u11, u12, u13, u14, u15, u16, u17, rfl⟩ : ∃ u1 u2 u3 u4 u5 u6 u7 u8 u9 u10 u11 u12 u13 u14 u15 u16 u17, T = [u1, u2, u3, u4, u5, u6, u7, u8, u9, u10, u11, u12, u13, u14, u15, u16, u17] := by
      match T, hT with
      | [u1, u2, u3, u4, u5, u6, u7, u8, u9, u10, u11, u12, u13, u14, u15, u16, u17], _ => exact ⟨u1, u2, u3, u4, u5, u6, u7, u8, u9, u10, u11, u12, u13, u14, u15, u16, u17, rfl⟩
    walk_at "n"
    refine ⟨rfl, c, rfl, fun r s ok => ?_⟩
    have hb : BagAt (O2 ++ [bagD r s 0]) O2.length 0 := ⟨r, s, 0, getLast1 _ rfl, ok⟩
    walk_at "n"
    refine ⟨rfl, _, 0, rfl, hb, by decide, fun sz O3 hz h3 => ?_⟩
    walk_at "n"
    refine ⟨rfl, _, _, _, rfl, by decide, by decide, h3.at_, by decide, fun tm O4 tm0 tm1 h4 => ?_⟩
    walk_at "n"
    refine ⟨rfl, _, _, _, rfl, by decide, by decide, h4.at_, by decide, fun of O5 of0 of1 h5 => ?_⟩
    walk_at "n"
    have hzl := hz.len
    have hb5 := h5.at_
    refine dx_lc (di_list (dx_var rfl ⟨_, rfl, fun i acc O6 => ∃ h, acc = hD h ∧ h.length = i ∧ (∀ (j : Nat) (v s : Int), h[j]? = some (some v) → sz[j]? = some s → 0 ≤ v ∧ v < s) ∧ BagAt O6 O2.length (42 + 2 * i), ⟨[], rfl, rfl, fun j v s q => by simp at q, hb5⟩, fun i d acc O6 hd hi ⟨h, e1, e2, e3, e4⟩ => ⟨_, gd_name, by simp, ?_⟩, fun acc O6 _ ⟨h, e1, e2, e3, e4⟩ => ?_⟩))
    · obtain ⟨s, hs, rfl⟩ := get_int hd
      have hsr := hz.rng s (List.mem_of_getElem? hs)
      have hil : i < sz.length := (List.getElem?_eq_some_iff.mp hs).1
      walk_at "n"
      refine Cs.t ?_
      walk_at "d"
      refine ⟨rfl, _, _, _, rfl, by omega, by omega, e4, by unfold TMAX; omega, fun v O7 v0 v1 h7 => ?_⟩
      walk_at "d"
      refine ⟨rfl, _, _, _, rfl, by omega, by omega, h7.at_, by unfold TMAX; omega, fun q O8 q0 q1 h8 => ?_⟩
      walk_at "d"
      obtain ⟨o, ho, hov⟩ : ∃ o : Option Int, atI [PyData.int v, .none] (if decide (q = 0) = true then 1 else 0) = some (optD o) ∧ ∀ x, o = some x → x = v := by
        by_cases z : q = 0
        · exact ⟨none, by rw [decide_eq_true z]; rfl, fun x e => by cases e⟩
        · exact ⟨some v, by rw [decide_eq_false z]; rfl, fun x e => by cases e; rfl⟩
      refine d2_ixL Vw.d rfl ho ?_
      refine ⟨_, rfl, h ++ [o], by rw [hD_snoc, e1], by rw [List.length_append, e2]; rfl, fun j x s' g1 g2 => ?_, h8.at_.mono (by omega)⟩
      by_cases hj : j < h.length
      · rw [List.getElem?_append_left hj] at g1
        exact e3 j x s' g1 g2
      · have hj2 : j = h.length := by
          have := (List.getElem?_eq_some_iff.mp g1).1
          rw [List.length_append] at this
          simp at this
          omega
        subst hj2
        rw [List.getElem?_append_right (Nat.le_refl _)] at g1
        simp at g1
        rw [e2, hs] at g2
        cases g2
        have := hov x g1
        omega
    subst e1
    have hh : HalfOk sz h := ⟨by rw [e2, ints_len], e3⟩
    have hww := wl_half hz hh
    walk_at "n"
    refine dx_words (sz := sz) (h := h) (by show 16 < 18; decide) rfl hz hh ?_
    walk_at "d"
    refine d2_ixL (d := .list (iD sz)) Vw.d rfl rfl ?_
    walk_at "d"
    refine d2_ixL (d := .list (hD h)) Vw.d rfl rfl ?_
    walk_at "d"
    refine ⟨rfl, sz, h, rfl, hz, hh, ?_⟩
    walk_at "d"
    refine Cs.f ?_
    walk_at "d"
    refine ⟨⟨_, rfl⟩, ?_⟩
    walk_at "d"
    refine dm_joinE (h.map wordV) rfl rfl rfl (by decide) (by omega) ?_
    walk_at "d"
    refine Cs.isF (by simp) ?_
    walk_at "d"
    refine d2_ixL (d := .list (iD sz)) Vw.d rfl rfl ?_
    walk_at "d"
    refine ⟨⟨_, rfl⟩, ?_⟩
    walk_at "d"
    refine dm_joinE (h.map wordV) rfl rfl rfl (by decide) (by omega) ?_
    walk_at "d"
    have hw0 := half_words hz hh
    have hb0 : bad sz (wordsOf (Txt.join " " (h.map wordV))) 0 = none := by
      rw [hw0]
      exact bad_half sz h 0 hh.len hh.rng fun o ho => (wordV_whole fun v e => half_small hz hh v (by rw [← e]; exact ho)).1
    have hjl := wl_join (sep := " ") (by decide) (h.map wordV)
    refine ⟨rfl, sz, _, rfl, hz, by omega, ?_⟩
    rw [hb0]
    intro T0
    rw [hw0, half_whole hz hh]
    walk_at "d"
    refine ⟨rfl, h, rfl, ?_⟩
    walk_at "d"
    refine Cs.isF rfl ?_
    refine ds_next ?_
    have e4' : BagAt (O6 ++ T0) O2.length 92 := (e4.mono (by rw [ints_len]; omega)).app T0
    refine ds_seqM (fun ρ' O' => ∃ ws x10, ρ' = [some (.v (.ref a)), some (.d (.int c)), some (.o O2.length), some (.d (dSz sz)), some (.d (.int tm)), some (.d (.int (2 + of))), some (.d (.list (hD h))), some (.d (.list (sD ws))), some (.d (.list [.list (iD sz), .list (hD h)])), some (.d (.str (Txt.join " " (h.map wordV)))), x10, u11, u12, u13, u14, u15, u16, u17] ∧ Wds 400 ws) ?_ ?_
    · refine ds_for (di_rng1 ?_)
      walk_at "n"
      refine ⟨tm, rfl, by omega, by omega, fun i ρ' O' => ∃ ws x10 n, ρ' = [some (.v (.ref a)), some (.d (.int c)), some (.o O2.length), some (.d (dSz sz)), some (.d (.int tm)), some (.d (.int (2 + of))), some (.d (.list (hD h))), some (.d (.list (sD ws))), some (.d (.list [.list (iD sz), .list (hD h)])), some (.d (.str (Txt.join " " (h.map wordV)))), x10, u11, u12, u13, u14, u15, u16, u17] ∧ Wds n ws ∧ n + 1 ≤ 25 * 4 ^ i ∧ BagAt O' O2.length (92 + 3 * i), ⟨h.map wordV, u10, 24, rfl, ⟨by rw [List.length_map, hh.len]; exact hz.len, fun t ht => ?_⟩, by decide, e4'⟩, fun i d ρ' O' hd ⟨ws, x10, n, g1, g2, g3, g4⟩ => ⟨_, gd_name, ?_⟩, fun ρ' O' ⟨ws, x10, n, g1, g2, g3, g4⟩ => ?_⟩
      · obtain ⟨o, ho, rfl⟩ := List.mem_map.mp ht
        cases o with
        | none => show ("?" : Str).length ≤ 20; decide
        | some v =>
          have := half_small hz hh v ho
          have := strI_len (i := v) (by omega)
          show (strI v).length ≤ 20
          omega
      · have hi := rg_get hd
        subst g1
        have h4 : 4 ^ i ≤ 4 ^ 2 := Nat.pow_le_pow_right (by decide) (by omega)
        have h5 : 4 ^ (i + 1) = 4 ^ i * 4 := Nat.pow_succ 4 i
        walk_at "n"
        refine ⟨rfl, _, ws, _, n, rfl, g2, by omega, g4, by unfold TMAX; omega, fun ws' O9 k1 k2 => ?_⟩
        exact ⟨ws', some (.d d), 3 * n + 1, rfl, k1, by omega, k2.at_.mono (by omega)⟩
      · rw [rgD_length] at g3
        have h4 : 4 ^ tm.toNat ≤ 4 ^ 2 := Nat.pow_le_pow_right (by decide) (by omega)
        exact ⟨ws, x10, g1, g2.mono (by omega)⟩
    intro ρ' O9 ⟨ws, x10, hρ, hW⟩
    rw [hρ]
    have hwl : wl ws ≤ 400 * 21 := by
      have h1 := wl_map (fun t : Str => t) 20 ws hW.2
      rw [List.map_id'] at h1
      have := hW.1
      omega
    walk_at "n"
    refine ⟨⟨_, rfl⟩, ?_⟩
    walk_at "n"
    refine dm_joinE ws rfl rfl rfl (by decide) (by omega) ?_
    have hjl2 := wl_join (sep := " ") (by decide) ws
    generalize hz2 : Txt.join " " ws = z at hjl2
    refine ds_seq (ds_asg (dx_lst (da_nil (allD_nil (len_and (by decide) ?_)))))
    refine ds_seqM (fun ρ' O' => ρ' = [some (.v (.ref a)), some (.d (.int c)), some (.o O2.length), some (.d (dSz sz)), some (.d (.int tm)), some (.d (.int (2 + of))), some (.d (.list (hD h))), some (.d (.list (sD (wordsOf z)))), some (.d (.list [.list (iD sz), .list (hD h)])), some (.d (.str (Txt.join " " (h.map wordV)))), x10, some (.d (.str z)), u12, u13, u14, u15, u16, u17] ∧ O' = O9) ?_ ?_
    · walk_at "n"
      refine ⟨fun e => ?_, fun e => ?_⟩
      · have e : z ≠ ("" : Str) := fun q => by rw [decide_eq_true q] at e; exact absurd e (by decide)
        walk_at "n"
        refine ⟨⟨_, rfl⟩, ?_⟩
        walk_at "n"
        obtain ⟨l1, l2⟩ := split_len z
        refine dm_split rfl rfl (by decide) (by unfold sizeLine; omega) (fun t ht => by have := l2 t ht; unfold sizeLine; omega) (by unfold sizeLine; omega) ?_
        refine ⟨?_, rfl⟩
        unfold wordsOf
        rw [if_neg e]
        rfl
      · have e : z = ("" : Str) := Decidable.byContradiction fun q => by rw [decide_eq_false q] at e; exact absurd e (by decide)
        refine ds_next ⟨?_, rfl⟩
        unfold wordsOf
        rw [if_pos e]
        rfl
    intro ρ' O' ⟨hρ, hO⟩
    rw [hρ, hO]
    walk_at "n"
    refine ⟨rfl, sz, wordsOf z, rfl, hz, ?_⟩
    walk_at "n"
    refine d2_ixL (d := .list (iD sz)) Vw.d rfl rfl ?_
    walk_at "n"
    refine ⟨rfl, sz, z, rfl, hz, by omega, ?_⟩
    have hbn := bad_none sz (wordsOf z) 0
    have hwz := wordsOf_len z
    generalize hws : wordsOf z = W at *
    cases hbd : bad sz W 0 with
    | none =>
      obtain ⟨q1, q2⟩ := hbn hbd
      intro T1
      walk_at "n"
      refine ⟨.none, rfl, ?_⟩
      walk_at "n"
      refine Cs.isT rfl ?_
      walk_at "n"
      refine dx_lcMap (dueD W) (di_rng1 ?_)
      walk_at "n"
      rw [ints_len]
      refine ⟨_, rfl, by omega, by omega, fun d hd => ?_, ?_⟩
      · obtain ⟨i, hi⟩ := List.getElem?_of_mem hd
        have hil := rg_get hi
        have hv := rg_val hi
        subst hv
        rw [Int.toNat_natCast] at hil
        have hs : sz[i]? = some sz[i] := List.getElem?_eq_getElem hil
        have ht : W[i]? = some W[i] := List.getElem?_eq_getElem (by omega)
        have hsr := hz.rng _ (List.getElem_mem hil)
        refine ⟨_, gd_name, by simp, ?_⟩
        walk_at "n"
        refine d2_ixL Vw.d rfl (atI_nat (get_str ht)) ?_
        walk_at "n"
        refine d2_ixL Vw.d rfl (atI_nat (ints_get hs)) ?_
        walk_at "n"
        refine ⟨rfl, W[i], sz[i], rfl, hsr.1, hsr.2, ?_, rfl⟩
        rw [valL_ok (q2 i _ _ ht hs)]
        unfold dueD
        show _ = Ce.d (optD (wholeC (sg (W.getD ((i : Int).toNat) ""))))
        rw [Int.toNat_natCast, List.getD_eq_getElem?_getD, ht]
        rfl
      rw [Int.toNat_natCast, ← q1, due_eq]
      walk_at "n"
      refine ⟨.none, rfl, ?_⟩
      walk_at "n"
      refine Cs.isF rfl ?_
      walk_at "n"
      refine d2_ixL (d := .list (iD sz)) Vw.d rfl rfl ?_
      walk_at "n"
      refine ⟨rfl, sz, z, rfl, hz, by omega, ?_⟩
      rw [hws, hbd]
      intro T2
      walk_at "n"
      refine ⟨rfl, W.map fun t => wholeC (sg t), rfl, ?_⟩
      walk_at "n"
      refine Cs.isF rfl ?_
      refine ds_next ?_
      walk_at "d"
      refine d2_neD Vw.d Vw.d (shaped_two (flatN_ints sz) (flat_half h)) (shaped_two (flatN_ints sz) (flat_half h)) ?_
      walk_at "n"
      refine Cs.isF (by rw [eqv_two]; rfl) ?_
      refine ds_next ⟨_, ?_, rfl⟩
      rfl
    | some k =>
      intro T1
      walk_at "n"
      refine ⟨.int (k : Nat), rfl, ?_⟩
      walk_at "n"
      refine Cs.isF rfl ?_
      walk_at "n"
      refine ⟨rfl, k, rfl, ?_⟩
      walk_at "n"
      refine Cs.isF rfl ?_
      refine ds_next ?_
      walk_at "d"
      refine d2_neD Vw.d Vw.d (shaped_two (flatN_ints sz) (flat_half h)) (shaped_two (flatN_ints sz) (flat_half h)) ?_
      walk_at "n"
      refine Cs.isF (by rw [eqv_two]; rfl) ?_
      refine ds_next ⟨_, ?_, rfl⟩
      rfl
  · subst hρ
    walk_at "d"
    rfl
end
def clsBody : Stmt → List Stmt
  | .ClassDef (body := b) .. => b
  | _ => []
abbrev s_init : Stmt := (clsBody (top 4)).getD 0 (.Pass ⟨0, 0, 0, 0⟩)
theorem sc_init : FnScope ["self", "place"] ["self", "place"] (defScope s_init) := C8.fnScope_by (by decide +kernel)
section
variable {P : Program} {w : World} {K : PySem.W.Frag} {mg : Str → Option Value} {base : Heap}
theorem init_ok {fI CB : Addr} {fd : FuncData} (F : FunD K "__init__" "InvalidText.__init__" (defArgs s_init) (defBody s_init) (defScope s_init) [] [] fI fd) (mB : mg "ReasonError" = some (.ref CB)) (tB : PySem.W.typeIn K (.ref CB) = some (.type "type")) (hop : PySem.W.nsIn K cStatics "thirdparty.any" = some none) (vV : PySem.W.findCls K (.ref CB) (.type "type") "__init__" = some (.val (.builtin "ValueError.__init__"))) : FnOk P w K mg base CX0 1 fI fd ["self", "place"] (spInit K "place") := by
  have nd := sc_init.nd
  refine F.ok sc_init (fun vs H Q E h => ?_) (fun cdv A outer s H vs Q E hr h => ⟨_, pss_cons (ps_expr (pe_oinit (by rfl) mB (by decide) tB hop vV (pa_cons (pv 0) (pa_cons pe_str pa_nil)))) (pss_one (ps_ost (pv 0) (pv 1))), ?_⟩)
  · obtain ⟨a, C, p, rfl, _⟩ := h
    rfl
  · obtain ⟨a, C, p, rfl, T, no, ha, hk⟩ := h
    refine ⟨_, rfl, a, C, _, rfl, by simp, T, ha, ?_⟩
    refine ⟨_, rfl, _, rfl, a, C, rfl, T, no, .inl ⟨ha, fun dx h1 h2 => hk dx h1 h2⟩⟩
end
section
variable {P : Program} {w : World} {K : PySem.W.Frag} {mg : Str → Option Value} {base : Heap}
structure Defs (K : PySem.W.Frag) (mg : Str → Option Value) : Prop where
  is_whole : Df K mg "is_whole" s_is_whole
  is_below : Df K mg "is_below" s_is_below
  is_sizes : Df K mg "is_sizes" s_is_sizes
  is_half_row : Df K mg "is_half_row" s_is_half_row
  need_sizes : Df K mg "need_sizes" s_need_sizes
  need_half : Df K mg "need_half" s_need_half
  whole_of : Df K mg "whole_of" s_whole_of
  write_case : Df K mg "write_case" s_write_case
  read_case : Df K mg "read_case" s_read_case
  d_law_bag : Df K mg "_law_bag" s__law_bag
  d_law_draw : Df K mg "_law_draw" s__law_draw
  d_law_whole : Df K mg "_law_whole" s__law_whole
  d_law_sheet : Df K mg "_law_sheet" s__law_sheet
  d_law_word : Df K mg "_law_word" s__law_word
  d_law_spoiled : Df K mg "_law_spoiled" s__law_spoiled
  d_law_value : Df K mg "_law_value" s__law_value
  d_law_wrong : Df K mg "_law_wrong" s__law_wrong
  d_law_caught : Df K mg "_law_caught" s__law_caught
  d_law_refused : Df K mg "_law_refused" s__law_refused
  d_law_alike : Df K mg "_law_alike" s__law_alike
def spLaw (K : PySem.W.Frag) : Sp := fun vs H Q _ => ∃ (a : Addr) (ns : List Int), vs = [.ref a] ∧ ns.length ≤ 63 ∧ SqL K H a (ns.map V.int) ∧ ∀ H', Q (.bl true) H'
theorem law_fn {f CT CR CH CS : Addr} {fd : FuncData} (T : Tx mg) (D : Defs K mg) (xi : Xi P w K mg base "InvalidText" "place" "place" CT) (xf : XF K CT CR CH CS) (mR : mg "ReasonError" = some (.ref CR)) (mH : mg "InvalidHalf" = some (.ref CH)) (mS : mg "InvalidSizes" = some (.ref CS)) (F : FnP K "law" s_law f fd) : FnOk P w K mg base CX0 7 f fd ["script"] (spLaw K) := by
  have whole := is_whole_ok (P := P) (w := w) (base := base) T D.is_whole
  have below := is_below_ok (P := P) (w := w) (base := base) T D.is_below whole
  have sizes := is_sizes_ok T D.is_sizes below
  have needs := need_sizes_ok T D.need_sizes sizes
  have halfr := is_half_row_ok T D.is_half_row below
  have needh := need_half_ok T D.need_half halfr
  have write := write_case_ok T D.write_case needh needs
  have wof := whole_of_ok (P := P) (w := w) (base := base) T D.whole_of
  have read := read_case_ok T D.read_case wof needs xi
  have bag := law_bag_ok (P := P) (w := w) (base := base) T D.d_law_bag
  have draw := law_draw_ok (P := P) (w := w) (base := base) T D.d_law_draw
  have lwhole := law_whole_ok (P := P) (w := w) (base := base) T D.d_law_whole
  have sheet := sheet_ok T D.d_law_sheet draw
  have word := word_ok T D.d_law_word draw
  have spoil := spoiled_ok T D.d_law_spoiled word draw
  have lval := law_value_ok (P := P) (w := w) (base := base) T D.d_law_value
  have wrong := law_wrong_ok T D.d_law_wrong lval
  have caught := law_caught_ok T D.d_law_caught read mR xf.ex
  have refused := law_refused_ok T D.d_law_refused lwhole xf mH mS xi.m
  have alike := law_alike_ok T D.d_law_alike lwhole
  refine F.ok sc_law (fun vs H Q E h => ?_) (fun cdv A outer s H vs Q E hr h => ⟨_, PSs.nox (der_law (k := 6) T alike (by decide) lval (by decide) refused (by decide) caught (by decide) wrong (by decide) spoil (by decide) write (by decide) draw (by decide) sheet (by decide) bag (by decide) read (by decide) hr), ?_⟩)
  · obtain ⟨a, ns, rfl, _⟩ := h
    rfl
  · obtain ⟨a, ns, rfl, hl, hS, hQ⟩ := h
    exact law_of hS (fun B hB => law_run hl hB) hQ
end
section
def d_is_whole : He.DefD := ⟨("is_whole", none), "is_whole", "is_whole", defArgs s_is_whole, defBody s_is_whole, defScope s_is_whole, [], []⟩
def d_is_below : He.DefD := ⟨("is_below", none), "is_below", "is_below", defArgs s_is_below, defBody s_is_below, defScope s_is_below, [], []⟩
def d_is_sizes : He.DefD := ⟨("is_sizes", none), "is_sizes", "is_sizes", defArgs s_is_sizes, defBody s_is_sizes, defScope s_is_sizes, [], []⟩
def d_is_half_row : He.DefD := ⟨("is_half_row", none), "is_half_row", "is_half_row", defArgs s_is_half_row, defBody s_is_half_row, defScope s_is_half_row, [], []⟩
def d_need_sizes : He.DefD := ⟨("need_sizes", none), "need_sizes", "need_sizes", defArgs s_need_sizes, defBody s_need_sizes, defScope s_need_sizes, [], []⟩
def d_need_half : He.DefD := ⟨("need_half", none), "need_half", "need_half", defArgs s_need_half, defBody s_need_half, defScope s_need_half, [], []⟩
def d_whole_of : He.DefD := ⟨("whole_of", none), "whole_of", "whole_of", defArgs s_whole_of, defBody s_whole_of, defScope s_whole_of, [], []⟩
def d_write_case : He.DefD := ⟨("write_case", none), "write_case", "write_case", defArgs s_write_case, defBody s_write_case, defScope s_write_case, [], []⟩
def d_read_case : He.DefD := ⟨("read_case", none), "read_case", "read_case", defArgs s_read_case, defBody s_read_case, defScope s_read_case, [], []⟩
def d__law_bag : He.DefD := ⟨("_law_bag", none), "_law_bag", "_law_bag", defArgs s__law_bag, defBody s__law_bag, defScope s__law_bag, [], []⟩
def d__law_draw : He.DefD := ⟨("_law_draw", none), "_law_draw", "_law_draw", defArgs s__law_draw, defBody s__law_draw, defScope s__law_draw, [], []⟩
def d__law_whole : He.DefD := ⟨("_law_whole", none), "_law_whole", "_law_whole", defArgs s__law_whole, defBody s__law_whole, defScope s__law_whole, [], []⟩
def d__law_sheet : He.DefD := ⟨("_law_sheet", none), "_law_sheet", "_law_sheet", defArgs s__law_sheet, defBody s__law_sheet, defScope s__law_sheet, [], []⟩
def d__law_word : He.DefD := ⟨("_law_word", none), "_law_word", "_law_word", defArgs s__law_word, defBody s__law_word, defScope s__law_word, [], []⟩
def d__law_spoiled : He.DefD := ⟨("_law_spoiled", none), "_law_spoiled", "_law_spoiled", defArgs s__law_spoiled, defBody s__law_spoiled, defScope s__law_spoiled, [], []⟩
def d__law_value : He.DefD := ⟨("_law_value", none), "_law_value", "_law_value", defArgs s__law_value, defBody s__law_value, defScope s__law_value, [], []⟩
def d__law_wrong : He.DefD := ⟨("_law_wrong", none), "_law_wrong", "_law_wrong", defArgs s__law_wrong, defBody s__law_wrong, defScope s__law_wrong, [], []⟩
def d__law_caught : He.DefD := ⟨("_law_caught", none), "_law_caught", "_law_caught", defArgs s__law_caught, defBody s__law_caught, defScope s__law_caught, [], []⟩
def d__law_refused : He.DefD := ⟨("_law_refused", none), "_law_refused", "_law_refused", defArgs s__law_refused, defBody s__law_refused, defScope s__law_refused, [], []⟩
def d__law_alike : He.DefD := ⟨("_law_alike", none), "_law_alike", "_law_alike", defArgs s__law_alike, defBody s__law_alike, defScope s__law_alike, [], []⟩
def d_law : He.DefD := ⟨("law", none), "law", "law", defArgs s_law, defBody s_law, defScope s_law, [], []⟩
def d_init : He.DefD := ⟨("InvalidText", some "__init__"), "__init__", "InvalidText.__init__", defArgs s_init, defBody s_init, defScope s_init, [], []⟩
def fn : List He.DefD := ([d_is_whole, d_is_below, d_is_sizes, d_is_half_row, d_need_sizes, d_need_half, d_whole_of, d_write_case, d_read_case, d__law_bag, d__law_draw, d__law_whole, d__law_sheet, d__law_word, d__law_spoiled, d__law_value, d__law_wrong, d__law_caught, d__law_refused, d__law_alike, d_law, d_init] : List He.DefD)
def fa : List He.Fa := ([.glo "is_whole", .glo "is_below", .glo "is_sizes", .glo "is_half_row", .glo "need_sizes", .glo "need_half", .glo "whole_of", .glo "write_case", .glo "read_case", .glo "_law_bag", .glo "_law_draw", .glo "_law_whole", .glo "_law_sheet", .glo "_law_word", .glo "_law_spoiled", .glo "_law_value", .glo "_law_wrong", .glo "_law_caught", .glo "_law_refused", .glo "_law_alike", .glo "law", .free "ValueError", .free "all", .free "bool", .free "enumerate", .free "int", .free "isinstance", .free "len", .free "list", .free "range"] : List He.Fa) ++ ([.free "str", .free "zip", .str "DIGITS" "0123456789", .int "MOST_DIGITS" 9, .int "MOST_FIELDS" 24, .int "MOST_VALUES" 6, .glo "InvalidText", .glo "ReasonError", .glo "InvalidHalf", .glo "InvalidSizes"] : List He.Fa)
def loose : List Str := (["ReasonError", "InvalidSizes", "InvalidHalf", "InvalidText", "MOST_FIELDS", "MOST_VALUES", "DIGITS", "MOST_DIGITS", "is_whole", "is_below", "is_sizes", "is_half_row", "need_sizes", "need_half", "whole_of", "write_case", "read_case", "_law_bag", "_law_draw", "_law_whole", "_law_sheet", "_law_word", "_law_spoiled", "_law_value", "_law_wrong", "_law_caught", "_law_refused", "_law_alike"] : List Str)
abbrev R : PySem.W.OpenRow := PySem.W.OpenLaw.row PySem.Challenge.rw_leastreasons_k82_half_cases_written_and
/-- the look at the classes -/
def xb (K : PySem.W.Frag) : Bool :=
  let T := He.ga K "InvalidText"; let B := He.ga K "ReasonError"; let H := He.ga K "InvalidHalf"; let S := He.ga K "InvalidSizes"; let I := He.ma K T "__init__"
  oexB K T && (xcB K T && (decide (PySem.W.findIn K (.ref T) "place" = some none) && (decide (PySem.W.findIn K (.ref T) "__init__" = some (some (.ref I))) && (decide (PySem.W.typeIn K (.ref I) = some (.type "function")) &&
    (decide (PySem.W.kitOne K (.ref T) (.ref T) = some true) && (decide (PySem.W.kitOne K (.ref T) (.type "ValueError") = some true) && (decide (PySem.W.kitOne K (.ref T) (.ref H) = some false) && (decide (PySem.W.kitOne K (.ref T) (.ref S) = some false) &&
      (decide (PySem.W.exmOne K (.ref T) (.ref B) = some true) && (decide (PySem.W.typeIn K (.ref B) = some (.type "type")) && (decide (PySem.W.nsIn K cStatics "thirdparty.any" = some none) &&
        (match PySem.W.findCls K (.ref B) (.type "type") "__init__" with | some (.val (.builtin n)) => n == "ValueError.__init__" | _ => false))))))))))))
def asX (g : Addr → Option Obj) : List Addr := He.asD g 4 ++ [cStatics]
def obX (g : Addr → Option Obj) : He.AlD × Bool := (He.obsD fa fn (He.frG g (asX g)), xb (He.frG g (asX g)))
def hk : PySem.W.Hook where
  α := He.AlD × Bool
  obs := fun s => obX s.heap.get?
  val := fun _ => (He.valD fn, true)
  says := fun _ h => ∃ K : PySem.W.Frag, K.In h ∧ He.SaysD fa fn K ∧ xb K = true
  of := fun _ _ e => ⟨_, He.frG_in, congrArg Prod.fst e, congrArg Prod.snd e⟩
  keeps := fun _ _ _ ⟨K, hK, c⟩ k => ⟨K, PySem.W.Frag.In.keeps hK k, c⟩
def ob (s : PySem.W.SharedT) : He.AlD × Bool := obX (HandSHeadRun.getT s)
theorem ob_eq (s : PySem.W.SharedT) : ob s = hk.obs s.abs := by
  have e : HandSHeadRun.getT s = s.abs.heap.get? := funext (HandSHeadRun.getT_eq s)
  show obX (HandSHeadRun.getT s) = obX s.abs.heap.get?
  rw [e]
theorem run (w : World) : HandSHeadRun.RunEq R (PySem.W.view R.prog [32]) hk ob 2000 loose w := by
  intro os
  kernel_rfl
theorem df_of {K : PySem.W.Frag} {h : Heap} {mg : Str → Option Value} (X : K.In h) (G : h.Ns mainGlobals mg) (c : He.SaysD fa fn K) (i : Nat) {x : Str} {st : Stmt} (hd : fn[i]? = some ⟨(x, none), x, x, defArgs st, defBody st, defScope st, [], []⟩) (hf : fa[i]? = some (.glo x)) : Df K mg x st := by
  obtain ⟨fd, F⟩ := c.def_ i hd
  exact ⟨_, fd, F, He.glo_ok X G (c.fact i hf)⟩
theorem tx_of {K : PySem.W.Frag} {h : Heap} {mg : Str → Option Value} (X : K.In h) (G : h.Ns mainGlobals mg) (c : He.SaysD fa fn K) : Tx mg := by
  refine ⟨He.free_ok X G (c.fact 21 rfl), He.free_ok X G (c.fact 22 rfl), He.free_ok X G (c.fact 23 rfl), He.free_ok X G (c.fact 24 rfl), He.free_ok X G (c.fact 25 rfl), He.free_ok X G (c.fact 26 rfl), He.free_ok X G (c.fact 27 rfl), He.free_ok X G (c.fact 28 rfl), He.free_ok X G (c.fact 29 rfl), He.free_ok X G (c.fact 30 rfl), He.free_ok X G (c.fact 31 rfl), ?_, ?_, ?_, ?_⟩
  · obtain ⟨t, e⟩ := He.str_ok X G (c.fact 32 rfl)
    exact ⟨_, e, ⟨t, rfl⟩⟩
  · obtain ⟨t, e⟩ := He.int_ok X G (c.fact 33 rfl)
    exact ⟨_, e, ⟨t, rfl⟩⟩
  · obtain ⟨t, e⟩ := He.int_ok X G (c.fact 34 rfl)
    exact ⟨_, e, ⟨t, rfl⟩⟩
  · obtain ⟨t, e⟩ := He.int_ok X G (c.fact 35 rfl)
    exact ⟨_, e, ⟨t, rfl⟩⟩
theorem defs_of {K : PySem.W.Frag} {h : Heap} {mg : Str → Option Value} (X : K.In h) (G : h.Ns mainGlobals mg) (c : He.SaysD fa fn K) : Defs K mg := ⟨df_of X G c 0 rfl rfl, df_of X G c 1 rfl rfl, df_of X G c 2 rfl rfl, df_of X G c 3 rfl rfl, df_of X G c 4 rfl rfl, df_of X G c 5 rfl rfl, df_of X G c 6 rfl rfl, df_of X G c 7 rfl rfl, df_of X G c 8 rfl rfl, df_of X G c 9 rfl rfl, df_of X G c 10 rfl rfl, df_of X G c 11 rfl rfl, df_of X G c 12 rfl rfl, df_of X G c 13 rfl rfl, df_of X G c 14 rfl rfl, df_of X G c 15 rfl rfl, df_of X G c 16 rfl rfl, df_of X G c 17 rfl rfl, df_of X G c 18 rfl rfl, df_of X G c 19 rfl rfl⟩
theorem facts {P : Program} {w : World} {K : PySem.W.Frag} {h : Heap} {mg : Str → Option Value} {f : Addr} (X : K.In h) (G : h.Ns mainGlobals mg) (hfa : mg ("law" : Str) = some (.ref f)) (c : He.SaysD fa fn K) (hx : xb K = true) :
    ∃ fd : FuncData, (∀ (s : Shared) (v : Value), BindsTo s fd ⟨[v], []⟩ [("script", v)]) ∧ ∀ base : Heap, K.In base → base.Ns mainGlobals mg → FnOk P w K mg base CX0 7 f fd ["script"] (spLaw K) := by
  obtain ⟨fd, F⟩ := c.def_ 20 (d := d_law) rfl
  obtain ⟨fdI, FI⟩ := c.def_ 21 (d := d_init) rfl
  have e := hfa.symm.trans (He.glo_ok X G (c.fact 20 (f := .glo "law") rfl))
  cases e
  have b := FunD.bindsA (ps := ["script"]) F fun _ _ _ _ _ _ us hl => match us, hl with | [_], _ => rfl
  have mT := He.glo_ok X G (c.fact 36 (f := .glo "InvalidText") rfl)
  have mB := He.glo_ok X G (c.fact 37 (f := .glo "ReasonError") rfl)
  have mH := He.glo_ok X G (c.fact 38 (f := .glo "InvalidHalf") rfl)
  have mS := He.glo_ok X G (c.fact 39 (f := .glo "InvalidSizes") rfl)
  unfold xb at hx
  simp only [Bool.and_eq_true, decide_eq_true_eq] at hx
  obtain ⟨o1, o2, o3, o4, o5, o6, o7, o8, o9, o10, o11, o12, o13⟩ := hx
  have vV : PySem.W.findCls K (.ref (He.ga K "ReasonError")) (.type "type") "__init__" = some (.val (.builtin "ValueError.__init__")) := by
    split at o13
    · rename_i n hn
      rw [hn, beq_iff_eq.mp o13]
    · cases o13
  have bI : Binds K fdI ["self", "place"] [] := FI.bindsN fun _ _ _ _ _ _ us hl => match us, hl with | [_, _], _ => rfl
  exact ⟨fd, fun s v => b s [v] rfl, fun base _ _ => law_fn (tx_of X G c) (defs_of X G c) ⟨oexB_ok o1, mT, o3, xcB_ok o2, _, fdI, o4, o5, init_ok FI mB o11 o12 vV, bI⟩ ⟨xcB_ok o2, o3, o6, o7, o8, o9, o10⟩ mB mH mS F⟩
end
end K82
open PySem PySem.W PySem.Calls PyProof.Rows
theorem PySem.Challenge.cw_leastreasons_k82_half_cases_written_and_holds : PySem.Challenge.rw_leastreasons_k82_half_cases_written_and.Holds := by
  w_on; o_law
  refine HandSHeadRun.head_any (r := OpenLaw.row PySem.Challenge.rw_leastreasons_k82_half_cases_written_and) (q := view (OpenLaw.row PySem.Challenge.rw_leastreasons_k82_half_cases_written_and).prog [32]) (H := K82.hk) (ob := K82.ob) (M := 2000) (loose := K82.loose) (d := HandSHeadRun.topDef (OpenLaw.row PySem.Challenge.rw_leastreasons_k82_half_cases_written_and).prog 32) (kwd := []) K82.ob_eq
    (by kernel_rfl) (fun s => by kernel_rfl) K82.run (by kernel_rfl) (by kernel_rfl) (by kernel_rfl) (by rfl) (by first | assumption | decide +kernel) (by decide +kernel) ⟨rfl, rfl, rfl, rfl, rfl, by decide +kernel⟩ ?hw ?hc
  case hw => w_witness2
  case hc =>
    refine L2.walk_ofE (l := PySem.Challenge.rw_leastreasons_k82_half_cases_written_and) (n := 63) (k := 7) (x := "script") (CX := L2.CX0) rfl (by decide) (by kernel_rfl) ⟨rfl, by decide, by decide⟩ ?F (fun _ _ _ _ z => z)
    intro w mg fa h Y G hmg0
    obtain ⟨K, KX, c, hx⟩ := Y
    have hmg : mg ("law" : PySem.Str) = some (.ref fa) := by
      have e : (HandSHeadRun.topDef (OpenLaw.row PySem.Challenge.rw_leastreasons_k82_half_cases_written_and).prog 32).name = ("law" : PySem.Str) := by kernel_rfl
      rw [← e]
      exact hmg0
    obtain ⟨fd, hb, hF⟩ := K82.facts (P := (PySem.Challenge.rw_leastreasons_k82_half_cases_written_and).prog) (w := w) KX G hmg c hx
    exact ⟨K, fd, K82.spLaw K, KX, hb, fun H a ns hl _ hS => ⟨a, ns, rfl, hl, hS, fun _ => rfl⟩, hF⟩
