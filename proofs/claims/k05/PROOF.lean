import PyProof.Rows.All
import Wide.All
import OpenK.AllK
import Wide.FinOn
import HandS.ForMost
import HandS.Head0
import HandS.Head1
import HandS.Head2
import HandS.HeadHook1
import HandS.HeadHook2
import HandS.Exc
import HandS.TupAny
import HandS.TupLe
import HandS.Wide
import HandS.IsInst
import PyProof.NeKinds
import PyProof.Walk
import PyProof.FactsAll.dict
import HandS.Style
import HandS.Iter
import HandS.Zip
import PyProof.Draws
import KE.GoesMore
import HandS.Strs
import HandS.SortOrd
import KE.KRevSl
import HandS.Text
import HandS.More
import HandS.HeadWalk
import HandS.Flow
import HandS.RaiseMore
import KE.GoesZip
import PyProof.EnumMake
import KE.KSortTupAny
import KE.KDictPairs
import HandS.ExcInit
import HandS.ExcOwn
import HandS.ExcIs
import HandS.ExcField
import KE.KExcInit
import KE.KStrBytes
import PySem.Challenge.RW_promptbook_k05_change_of_dress
set_option Elab.async false
set_option linter.all false
set_option maxRecDepth 100000
namespace DL
open PySem L2
structure Kx where
  K : PySem.W.Frag
  cls : Nat → Addr
  fns : Nat → Addr
inductive D where
  | non | bl (b : Bool) | int (i : Int) | str (x : List Nat) | tup (xs : List D) | lst (xs : List D) | dct (ks : List Key) (xs : List D)
  | obj (c : Nat) (ns : List Str) (xs : List D) | fn (i : Nat) | ref (n : Nat) | scr (ns : List Int)
inductive Cell where
  | lst (xs : List D) | dct (ks : List Key) (xs : List D) | ins (c : Nat) (ns : List Str) (xs : List D) | pool
structure Sto where
  cs : List Cell
  n : Nat
abbrev sOf (l : List Nat) : Str := ⟨l.toArray⟩
def frzC : Cell → Option D
  | .lst xs => some (.lst xs)
  | .dct ks xs => some (.dct ks xs)
  | .ins c ns xs => some (.obj c ns xs)
  | .pool => none
def SqP (K : PySem.W.Frag) (B : Hp) (a : Addr) (xs : List V) : Prop := (∃ o : Obj, B a = some (.frz o (.tup xs)) ∧ o.dict = none) ∨
  ∃ (o : Obj) (its : Array Value) (n : Nat), K.lookup a = some o ∧ o.cls = .type "tuple" ∧ o.dict = none ∧ o.data = .seq its n ∧ its.size ≤ sizeLine ∧ Vals xs its.toList
def ExC (cls : Value) (d : Option Addr) (a : Addr) : HO := .ext fun h => ∃ (oe : Obj) (vs : Array Value), h.get? a = some oe ∧ oe.cls = cls ∧ oe.dict = d ∧ oe.data = .fields vs
def XdAt (B : Hp) (d : Option Addr) (ns : List Str) (vs : List V) : Prop := match d with
  | none => ns = []
  | some x => B x = some (.xd (ns.zip vs))
theorem XdAt.mono {B B' : Hp} {d : Option Addr} {ns : List Str} {vs : List V} (s : Same B B') (h : XdAt B d ns vs) : XdAt B' d ns vs := by
  cases d with
  | none => exact h
  | some x => exact s _ _ h
mutual
inductive Rep (K : Kx) (B : Hp) (ρ : List Addr) : V → D → Prop
  | non : Rep K B ρ .non .non
  | bl (b : Bool) : Rep K B ρ (.bl b) (.bl b)
  | int (i : Int) : Rep K B ρ (.int i) (.int i)
  | str (x : List Nat) : Rep K B ρ (.str (sOf x)) (.str x)
  | tup {a : Addr} {vs : List V} {ds : List D} : SqP K.K B a vs → RepL K B ρ vs ds → Rep K B ρ (.ref a) (.tup ds)
  | lst {a : Addr} {vs : List V} {ds : List D} : B a = some (.lst vs) → RepL K B ρ vs ds → Rep K B ρ (.ref a) (.lst ds)
  | dct {a : Addr} {ks : List Key} {vs : List V} {ds : List D} : B a = some (.dK (ks.zip vs)) → ks.length = vs.length → RepL K B ρ vs ds → Rep K B ρ (.ref a) (.dct ks ds)
  | obj {a dx : Addr} {c : Nat} {ns : List Str} {vs : List V} {ds : List D} : c < 1000 → B a = some (.ins (K.cls c) dx (ns.zip vs)) → B dx = some (.own a) → ns.length = vs.length → RepL K B ρ vs ds → Rep K B ρ (.ref a) (.obj c ns ds)
  | exn {a : Addr} {dx : Option Addr} {c : Nat} {ns : List Str} {vs : List V} {ds : List D} : 1000 ≤ c → B a = some (ExC (.ref (K.cls c)) dx a) → XdAt B dx ns vs → ns.length = vs.length → RepL K B ρ vs ds → Rep K B ρ (.ref a) (.obj c ns ds)
  | fn (i : Nat) : Rep K B ρ (.ref (K.fns i)) (.fn i)
  | ref {a : Addr} {n : Nat} : ρ[n]? = some a → Rep K B ρ (.ref a) (.ref n)
  | scr {a : Addr} {ns : List Int} : SqL K.K B a (ns.map V.int) → Rep K B ρ (.ref a) (.scr ns)
inductive RepL (K : Kx) (B : Hp) (ρ : List Addr) : List V → List D → Prop
  | nil : RepL K B ρ [] []
  | cons {v : V} {vs : List V} {d : D} {ds : List D} : Rep K B ρ v d → RepL K B ρ vs ds → RepL K B ρ (v :: vs) (d :: ds)
end
inductive RepC (K : Kx) (B : Hp) (ρ : List Addr) (N : Nat) (a : Addr) : HO → Cell → Prop
  | lst {vs : List V} {xs : List D} : RepL K B ρ vs xs → RepC K B ρ N a (.lst vs) (.lst xs)
  | dct {ks : List Key} {vs : List V} {xs : List D} : ks.length = vs.length → RepL K B ρ vs xs → RepC K B ρ N a (.dK (ks.zip vs)) (.dct ks xs)
  | ins {dx : Addr} {c : Nat} {ns : List Str} {vs : List V} {xs : List D} : c < 1000 → B dx = some (.own a) → ns.length = vs.length → RepL K B ρ vs xs → RepC K B ρ N a (.ins (K.cls c) dx (ns.zip vs)) (.ins c ns xs)
  | pool {x y z : Int} : 0 ≤ x → 0 ≤ y → y < 1000000007 → 0 ≤ z → z ≤ 1000000 + N → RepC K B ρ N a (.lst [.int x, .int y, .int z]) .pool
theorem SqP.sq {K : PySem.W.Frag} {B : Hp} {a : Addr} {vs : List V} (h : SqP K B a vs) : SqT K B a vs := by
  rcases h with ⟨o, h, _⟩ | ⟨o, its, n, h1, h2, _, h3, h4, h5⟩
  · exact .inl (.inr ⟨o, h⟩)
  · exact .inr ⟨o, its, n, h1, h2, h3, h4, h5⟩
theorem sqT_up {K : PySem.W.Frag} {B B' : Hp} {a : Addr} {vs : List V} (s : Same B B') (h : SqT K B a vs) : SqT K B' a vs := by
  rcases h with (h | ⟨o, h⟩) | h
  · exact .inl (.inl (s _ _ h))
  · exact .inl (.inr ⟨o, s _ _ h⟩)
  · exact .inr h
theorem sqT_mono {K : PySem.W.Frag} {B B' : Hp} {a : Addr} {vs : List V} (s : Same B B') (h : SqP K B a vs) : SqT K B' a vs := sqT_up s h.sq
theorem sqP_mono {K : PySem.W.Frag} {B B' : Hp} {a : Addr} {vs : List V} (s : Same B B') (h : SqP K B a vs) : SqP K B' a vs := by
  rcases h with ⟨o, h, hd⟩ | h
  · exact .inl ⟨o, s _ _ h, hd⟩
  · exact .inr h
theorem SqP.new {K : PySem.W.Frag} {B : Hp} {p : Addr} {vs : List V} {o : Obj} (h : o.dict = none) : SqP K (upd B p (.frz o (.tup vs))) p vs := .inl ⟨o, upd_same, h⟩
mutual
theorem Rep.mono {K : Kx} {B B' : Hp} {ρ ρ' : List Addr} (s : Same B B') (hr : ∀ (n : Nat) (a : Addr), ρ[n]? = some a → ρ'[n]? = some a) : ∀ {v : V} {d : D}, Rep K B ρ v d → Rep K B' ρ' v d
  | _, _, .non => .non
  | _, _, .bl b => .bl b
  | _, _, .int b => .int b
  | _, _, .str b => .str b
  | _, _, .tup h t => .tup (sqP_mono s h) (RepL.mono s hr t)
  | _, _, .lst h t => .lst (s _ _ h) (RepL.mono s hr t)
  | _, _, .scr h => .scr (s.seq h)
  | _, _, .dct h l t => .dct (s _ _ h) l (RepL.mono s hr t)
  | _, _, .obj h0 h h2 l t => .obj h0 (s _ _ h) (s _ _ h2) l (RepL.mono s hr t)
  | _, _, .exn h0 h1 h2 l t => .exn h0 (s _ _ h1) (h2.mono s) l (RepL.mono s hr t)
  | _, _, .fn i => .fn i
  | _, _, .ref h => .ref (hr _ _ h)
theorem RepL.mono {K : Kx} {B B' : Hp} {ρ ρ' : List Addr} (s : Same B B') (hr : ∀ (n : Nat) (a : Addr), ρ[n]? = some a → ρ'[n]? = some a) : ∀ {v : List V} {d : List D}, RepL K B ρ v d → RepL K B' ρ' v d
  | _, _, .nil => .nil
  | _, _, .cons h t => .cons (Rep.mono s hr h) (RepL.mono s hr t)
end
section
variable {K : Kx} {B B1 B2 : Hp} {ρ ρ1 ρ2 : List Addr} {H H1 H2 : Hp} {S S1 : Sto} {a : Addr} {o : HO} {c : Cell} {N N' : Nat}
theorem RepC.mono (s : Same B B1) (hr : ∀ (n : Nat) (a : Addr), ρ[n]? = some a → ρ1[n]? = some a) (hN : N ≤ N') (h : RepC K B ρ N a o c) : RepC K B1 ρ1 N' a o c := by
  cases h with
  | lst r => exact .lst (r.mono s hr)
  | dct l r => exact .dct l (r.mono s hr)
  | ins h0 h l r => exact .ins h0 (s _ _ h) l (r.mono s hr)
  | pool h1 h2 h3 h4 h5 => exact .pool h1 h2 h3 h4 (by omega)
theorem RepL.length : ∀ {vs : List V} {ds : List D}, RepL K B ρ vs ds → vs.length = ds.length
  | _, _, .nil => rfl
  | _, _, .cons _ t => by simp [RepL.length t]
theorem RepL.append : ∀ {vs us : List V} {ds es : List D}, RepL K B ρ vs ds → RepL K B ρ us es → RepL K B ρ (vs ++ us) (ds ++ es)
  | _, _, _, _, .nil, h => h
  | _, _, _, _, .cons h t, r => .cons h (RepL.append t r)
theorem RepL.get : ∀ {vs : List V} {ds : List D} {i : Nat} {d : D}, RepL K B ρ vs ds → ds[i]? = some d → ∃ v, vs[i]? = some v ∧ Rep K B ρ v d
  | _, _, _, _, .nil, h => by simp at h
  | _, _, 0, _, .cons h _, e => by simp at e; subst e; exact ⟨_, rfl, h⟩
  | _, _, i + 1, d, .cons _ t, e => by
    obtain ⟨v, h1, h2⟩ := RepL.get (i := i) (d := d) t (by simpa using e)
    exact ⟨v, by simpa using h1, h2⟩
theorem RepL.take : ∀ {vs : List V} {ds : List D} (n : Nat), RepL K B ρ vs ds → RepL K B ρ (vs.take n) (ds.take n)
  | _, _, 0, _ => .nil
  | _, _, _ + 1, .nil => .nil
  | _, _, n + 1, .cons r t => .cons r (RepL.take n t)
theorem RepL.drop : ∀ {vs : List V} {ds : List D} (n : Nat), RepL K B ρ vs ds → RepL K B ρ (vs.drop n) (ds.drop n)
  | _, _, 0, r => r
  | _, _, _ + 1, .nil => .nil
  | _, _, n + 1, .cons _ t => RepL.drop n t
theorem RepL.set {v : V} {d : D} (r : Rep K B ρ v d) : ∀ {vs : List V} {ds : List D} (i : Nat), RepL K B ρ vs ds → RepL K B ρ (vs.set i v) (ds.set i d)
  | _, _, _, .nil => .nil
  | _, _, 0, .cons _ t => .cons r t
  | _, _, i + 1, .cons q t => .cons q (RepL.set r i t)
theorem RepL.erase : ∀ {vs : List V} {ds : List D} (i : Nat), RepL K B ρ vs ds → RepL K B ρ (vs.eraseIdx i) (ds.eraseIdx i)
  | _, _, _, .nil => by simpa using RepL.nil
  | _, _, 0, .cons _ t => t
  | _, _, i + 1, .cons q t => .cons q (RepL.erase i t)
theorem RepL.insert {v : V} {d : D} (r : Rep K B ρ v d) {vs : List V} {ds : List D} (h : RepL K B ρ vs ds) (i : Nat) : RepL K B ρ (vs.take i ++ v :: vs.drop i) (ds.take i ++ d :: ds.drop i) :=
  (h.take i).append (.cons r (h.drop i))
theorem RepL.reverse {vs : List V} {ds : List D} (h : RepL K B ρ vs ds) : RepL K B ρ vs.reverse ds.reverse := by
  induction vs generalizing ds with
  | nil => cases h; exact .nil
  | cons v vs ih =>
    cases h with
    | cons h t =>
      simp only [List.reverse_cons]
      exact (ih t).append (.cons h .nil)
structure Cells (K : Kx) (B : Hp) (ρ : List Addr) (H : Hp) (S : Sto) : Prop where
  same : Same B H
  len : ρ.length = S.cs.length
  nd : ρ.Nodup
  apart : ∀ a ∈ ρ, B a = none
  cell : ∀ (n : Nat) (a : Addr) (c : Cell), ρ[n]? = some a → S.cs[n]? = some c → ∃ o, H a = some o ∧ RepC K B ρ S.n a o c
structure Ext (B : Hp) (ρ : List Addr) (H : Hp) (B' : Hp) (ρ' : List Addr) (H' : Hp) : Prop where
  base : Same B B'
  new : ∀ a o, B' a = some o → B a = none → H a = none
  refs : ∃ more, ρ' = ρ ++ more ∧ ∀ a ∈ more, H a = none
  keep : ∀ a o, H a = some o → a ∉ ρ → H' a = some o
  there : ∀ a o, H a = some o → H' a ≠ none
theorem Ext.refl (B : Hp) (ρ : List Addr) (H : Hp) : Ext B ρ H B ρ H := ⟨.refl _, fun a o h n => (by rw [n] at h; cases h), ⟨[], by simp, by simp⟩, fun _ _ h _ => h, fun _ _ h => by rw [h]; simp⟩
theorem Ext.rho (e : Ext B ρ H B1 ρ1 H1) : ∀ (n : Nat) (a : Addr), ρ[n]? = some a → ρ1[n]? = some a := fun n a h => by
  obtain ⟨m, rfl, _⟩ := e.refs
  rw [List.getElem?_append_left (List.getElem?_eq_some_iff.mp h).1]
  exact h
theorem Ext.free (e : Ext B ρ H B1 ρ1 H1) {a : Addr} (h : H1 a = none) : H a = none := by
  cases q : H a with
  | none => rfl
  | some o => exact absurd h (e.there a o q)
theorem Ext.tr (e : Ext B ρ H B1 ρ1 H1) (f : Ext B1 ρ1 H1 B2 ρ2 H2) : Ext B ρ H B2 ρ2 H2 := by
  refine ⟨e.base.trans f.base, fun a o h n => ?_, ?_, fun a o h hn => ?_, fun a o h => ?_⟩
  · cases q : B1 a with
    | none => exact e.free (f.new a o h q)
    | some u => exact e.new a u q n
  · obtain ⟨m, rfl, hm⟩ := e.refs
    obtain ⟨m2, rfl, hm2⟩ := f.refs
    refine ⟨m ++ m2, by simp, fun a ha => ?_⟩
    rcases List.mem_append.mp ha with h | h
    · exact hm a h
    · exact e.free (hm2 a h)
  · have h1 := e.keep a o h hn
    refine f.keep a o h1 fun z => ?_
    obtain ⟨m, rfl, hm⟩ := e.refs
    rcases List.mem_append.mp z with z | z
    · exact hn z
    · rw [hm a z] at h; cases h
  · cases q : H1 a with
    | none => exact absurd q (e.there a o h)
    | some u => exact f.there a u q
theorem Rep.ext (e : Ext B ρ H B1 ρ1 H1) {v : V} {d : D} (h : Rep K B ρ v d) : Rep K B1 ρ1 v d := h.mono e.base e.rho
theorem RepL.ext (e : Ext B ρ H B1 ρ1 H1) {v : List V} {d : List D} (h : RepL K B ρ v d) : RepL K B1 ρ1 v d := h.mono e.base e.rho
theorem RepC.ext (e : Ext B ρ H B1 ρ1 H1) (h : RepC K B ρ N a o c) : RepC K B1 ρ1 N a o c := h.mono e.base e.rho (Nat.le_refl _)
theorem Cells.there (c : Cells K B ρ H S) {p : Addr} (hp : p ∈ ρ) : H p ≠ none := by
  obtain ⟨n, hn, e⟩ := List.getElem_of_mem hp
  have hS : n < S.cs.length := by rw [← c.len]; exact hn
  obtain ⟨vs, h, _⟩ := c.cell n p S.cs[n] (by rw [List.getElem?_eq_getElem hn, e]) (List.getElem?_eq_getElem hS)
  rw [h]; simp
theorem ext_new (c : Cells K B ρ H S) {p : Addr} (np : H p = none) : B p = none ∧ p ∉ ρ :=
  ⟨c.same.free np, fun z => c.there z np⟩
theorem Cells.lay (c : Cells K B ρ H S) {p : Addr} {o : HO} (np : H p = none) : Cells K (upd B p o) ρ (upd H p o) S ∧ Ext B ρ H (upd B p o) ρ (upd H p o) := by
  obtain ⟨nB, nr⟩ := ext_new c np
  have sB : Same B (upd B p o) := fun a u h => by rw [upd_ne (ne_of_none h nB)]; exact h
  refine ⟨⟨fun a u h => ?_, c.len, c.nd, fun a ha => ?_, fun n a xs h1 h2 => ?_⟩, ⟨sB, fun a u h n => ?_, ⟨[], by simp, by simp⟩, fun a u h _ => ?_, fun a u h => ?_⟩⟩
  · by_cases e : a = p
    · subst e; rw [upd_same] at h ⊢; exact h
    · rw [upd_ne e] at h ⊢; exact c.same a u h
  · rw [upd_ne (show a ≠ p from fun z => nr (z ▸ ha))]; exact c.apart a ha
  · obtain ⟨vs, h, r⟩ := c.cell n a xs h1 h2
    exact ⟨vs, by rw [upd_ne (ne_of_none h np)]; exact h, r.mono sB (fun _ _ z => z) (Nat.le_refl _)⟩
  · by_cases e : a = p
    · subst e; exact np
    · rw [upd_ne e, n] at h; cases h
  · rw [upd_ne (ne_of_none h np)]; exact h
  · rw [upd_ne (ne_of_none h np), h]; simp
theorem Cells.drop (c : Cells K B ρ H S) {p : Addr} {o : HO} (np : H p = none) : Cells K B ρ (upd H p o) S ∧ Ext B ρ H B ρ (upd H p o) := by
  refine ⟨⟨fun a u h => ?_, c.len, c.nd, c.apart, fun n a xs h1 h2 => ?_⟩, ⟨.refl _, fun a u h n => (by rw [n] at h; cases h), ⟨[], by simp, by simp⟩, fun a u h _ => ?_, fun a u h => ?_⟩⟩
  · rw [upd_ne (ne_of_none (c.same a u h) np)]; exact c.same a u h
  · obtain ⟨vs, h, r⟩ := c.cell n a xs h1 h2
    exact ⟨vs, by rw [upd_ne (ne_of_none h np)]; exact h, r⟩
  · rw [upd_ne (ne_of_none h np)]; exact h
  · rw [upd_ne (ne_of_none h np), h]; simp
theorem Cells.know (c : Cells K B ρ H S) {p : Addr} {o : HO} (h : H p = some o) (nB : B p = none) (nr : p ∉ ρ) : Cells K (upd B p o) ρ H S ∧ Same B (upd B p o) := by
  have sB : Same B (upd B p o) := fun a u h => by rw [upd_ne (ne_of_none h nB)]; exact h
  refine ⟨⟨fun a u q => ?_, c.len, c.nd, fun a ha => ?_, fun n a xs h1 h2 => ?_⟩, sB⟩
  · by_cases e : a = p
    · subst e; rw [upd_same] at q; cases q; exact h
    · rw [upd_ne e] at q; exact c.same a u q
  · rw [upd_ne (show a ≠ p from fun z => nr (z ▸ ha))]; exact c.apart a ha
  · obtain ⟨vs, h, r⟩ := c.cell n a xs h1 h2
    exact ⟨vs, h, r.mono sB (fun _ _ z => z) (Nat.le_refl _)⟩
theorem Cells.opened (c : Cells K B ρ H S) {p : Addr} {o : HO} {k : Cell} (h : H p = some o) (nB : B p = none) (nr : p ∉ ρ) (r : RepC K B ρ S.n p o k) : Cells K B (ρ ++ [p]) H ⟨S.cs ++ [k], S.n⟩ := by
  have hr : ∀ (n : Nat) (a : Addr), ρ[n]? = some a → (ρ ++ [p])[n]? = some a := fun n a h => by
    rw [List.getElem?_append_left (List.getElem?_eq_some_iff.mp h).1]; exact h
  refine ⟨c.same, by simp [c.len], ?_, fun a ha => ?_, fun n a ys h1 h2 => ?_⟩
  · rw [List.nodup_append]
    refine ⟨c.nd, by simp, fun a ha b hb => ?_⟩
    rw [List.mem_singleton] at hb
    subst hb
    exact fun z => nr (z ▸ ha)
  · rcases List.mem_append.mp ha with z | z
    · exact c.apart a z
    · rw [List.mem_singleton] at z; subst z; exact nB
  · by_cases hn : n < ρ.length
    · rw [List.getElem?_append_left hn] at h1
      rw [List.getElem?_append_left (by rw [← c.len]; exact hn)] at h2
      obtain ⟨us, q1, q2⟩ := c.cell n a ys h1 h2
      exact ⟨us, q1, q2.mono (.refl _) hr (Nat.le_refl _)⟩
    · have hl := (List.getElem?_eq_some_iff.mp h1).1
      have e : n = ρ.length := by simp at hl; omega
      subst e
      rw [List.getElem?_append_right (Nat.le_refl _)] at h1
      rw [List.getElem?_append_right (by rw [c.len]; exact Nat.le_refl _), c.len] at h2
      simp at h1 h2
      subst h1; subst h2
      exact ⟨o, h, r.mono (.refl _) hr (Nat.le_refl _)⟩
theorem nodup_ix2 {N : List Addr} (hN : N.Nodup) {i j : Nat} {x : Addr} (a : N[i]? = some x) (b : N[j]? = some x) : i = j := by
  obtain ⟨h1, e1⟩ := List.getElem?_eq_some_iff.mp a
  obtain ⟨h2, e2⟩ := List.getElem?_eq_some_iff.mp b
  exact (List.getElem_inj hN).mp (e1.trans e2.symm)
theorem Cells.change (c : Cells K B ρ H S) {n : Nat} {p : Addr} {o : HO} {k : Cell} {M : Nat} (hM : S.n ≤ M) (hp : ρ[n]? = some p) (r : RepC K B ρ M p o k) : Cells K B ρ (upd H p o) ⟨S.cs.set n k, M⟩ ∧ Ext B ρ H B ρ (upd H p o) := by
  have nB : B p = none := c.apart p (List.mem_of_getElem? hp)
  refine ⟨⟨fun a u h => ?_, by simp [c.len], c.nd, c.apart, fun m a ys h1 h2 => ?_⟩, ⟨.refl _, fun a u h n => (by rw [n] at h; cases h), ⟨[], by simp, by simp⟩, fun a u h hn => ?_, fun a u h => ?_⟩⟩
  · rw [upd_ne (ne_of_none h nB)]; exact c.same a u h
  · by_cases e : m = n
    · subst e
      rw [hp] at h1; cases h1
      have hl : m < S.cs.length := by rw [← c.len]; exact (List.getElem?_eq_some_iff.mp hp).1
      have h2' : (S.cs.set m k)[m]? = some ys := h2
      rw [List.getElem?_set_self hl] at h2'; cases h2'
      exact ⟨o, upd_same, r⟩
    · have h2' : (S.cs.set n k)[m]? = some ys := h2
      rw [List.getElem?_set_ne (Ne.symm e)] at h2'
      have ne : a ≠ p := fun z => by
        subst z
        exact e (nodup_ix2 c.nd h1 hp)
      obtain ⟨us, q1, q2⟩ := c.cell m a ys h1 h2'
      exact ⟨us, by rw [upd_ne ne]; exact q1, q2.mono (.refl _) (fun _ _ z => z) hM⟩
  · rw [upd_ne (show a ≠ p from fun z => hn (z ▸ List.mem_of_getElem? hp))]; exact h
  · by_cases e : a = p
    · subst e; rw [upd_same]; simp
    · rw [upd_ne e, h]; simp
theorem Cells.more (c : Cells K B ρ H S) {M : Nat} (hM : S.n ≤ M) : Cells K B ρ H ⟨S.cs, M⟩ :=
  ⟨c.same, c.len, c.nd, c.apart, fun n a k h1 h2 => by
    obtain ⟨o, q1, q2⟩ := c.cell n a k h1 h2
    exact ⟨o, q1, q2.mono (.refl _) (fun _ _ z => z) hM⟩⟩
theorem Cells.mut {p : Addr} (c : Cells K B ρ H S) (nB : B p = none) (nr : p ∉ ρ) : Cells K B ρ (upd H p o) S := by
  refine ⟨fun a u h => ?_, c.len, c.nd, c.apart, fun n a xs h1 h2 => ?_⟩
  · rw [upd_ne (ne_of_none h nB)]; exact c.same a u h
  · obtain ⟨vs, h, r⟩ := c.cell n a xs h1 h2
    exact ⟨vs, by rw [upd_ne (show a ≠ p from fun z => nr (z ▸ List.mem_of_getElem? h1))]; exact h, r⟩
theorem Ext.mut {p : Addr} (x : Ext B ρ H B1 ρ1 H1) (np : H p = none) : Ext B ρ H B1 ρ1 (upd H1 p o) := by
  refine ⟨x.base, x.new, x.refs, fun a u h hn => ?_, fun a u h => ?_⟩
  · rw [upd_ne (ne_of_none h np)]; exact x.keep a u h hn
  · rw [upd_ne (ne_of_none h np)]; exact x.there a u h
theorem Ext.mine {p : Addr} (x : Ext B ρ H B1 ρ1 H1) (hp : H p = some o) (nB : B p = none) (nr : p ∉ ρ) : H1 p = some o ∧ B1 p = none ∧ p ∉ ρ1 := by
  refine ⟨x.keep p o hp nr, ?_, fun z => ?_⟩
  · cases q : B1 p with
    | none => rfl
    | some u => rw [x.new p u q nB] at hp; cases hp
  · obtain ⟨m, rfl, hm⟩ := x.refs
    rcases List.mem_append.mp z with z | z
    · exact nr z
    · rw [hm p z] at hp; cases hp
theorem frz_rep (hp : B a = some o) (h : RepC K B ρ N a o c) {d : D} (e : frzC c = some d) : Rep K B ρ (.ref a) d := by
  cases h with
  | lst r => cases e; exact .lst hp r
  | dct l r => cases e; exact .dct hp l r
  | ins h0 h l r => cases e; exact .obj h0 hp h l r
  | pool => cases e
theorem Ext.know {p : Addr} (x : Ext B ρ H B1 ρ1 H1) (np : H p = none) : Same B1 (upd B1 p o) → Ext B ρ H (upd B1 p o) ρ1 H1 := fun sB =>
  ⟨x.base.trans sB, fun b o h n => by
    by_cases q : b = p
    · subst q; exact np
    · rw [upd_ne q] at h; exact x.new b o h n, x.refs, x.keep, x.there⟩
theorem Ext.open {p : Addr} (x : Ext B ρ H B1 ρ1 H1) (np : H p = none) : Ext B ρ H B1 (ρ1 ++ [p]) H1 := by
  refine ⟨x.base, x.new, ?_, x.keep, x.there⟩
  obtain ⟨m, e, hm⟩ := x.refs
  refine ⟨m ++ [p], by rw [e]; simp, fun b hb => ?_⟩
  rcases List.mem_append.mp hb with z | z
  · exact hm b z
  · rw [List.mem_singleton] at z; subst z; exact np
end
inductive Slot where
  | no | val (d : D) | own (c : Cell)
structure Slots (K : Kx) (B : Hp) (ρ : List Addr) (H : Hp) (σ : St) (γ : List Slot) : Prop where
  len : γ.length = σ.length
  val : ∀ (i : Nat) (d : D), γ[i]? = some (.val d) → ∃ v, σ[i]? = some (some v) ∧ Rep K B ρ v d
  own : ∀ (i : Nat) (c : Cell), γ[i]? = some (.own c) → ∃ a o, σ[i]? = some (some (.ref a)) ∧ H a = some o ∧ RepC K B ρ 0 a o c ∧ B a = none ∧ a ∉ ρ
  apart : ∀ (i j : Nat) (c k : Cell) (a : Addr), γ[i]? = some (.own c) → γ[j]? = some (.own k) → σ[i]? = some (some (.ref a)) → σ[j]? = some (some (.ref a)) → i = j
section
variable {K : Kx} {B B1 : Hp} {ρ ρ1 : List Addr} {H H1 : Hp} {S : Sto} {σ : St} {γ : List Slot}
theorem Slots.ext (s : Slots K B ρ H σ γ) (e : Ext B ρ H B1 ρ1 H1) : Slots K B1 ρ1 H1 σ γ := by
  refine ⟨s.len, fun i d h => ?_, fun i xs h => ?_, s.apart⟩
  · obtain ⟨v, h1, h2⟩ := s.val i d h
    exact ⟨v, h1, h2.ext e⟩
  · obtain ⟨a, o, h1, h2, h3, h4, h5⟩ := s.own i xs h
    obtain ⟨q1, q2, q3⟩ := e.mine h2 h4 h5
    exact ⟨a, o, h1, q1, h3.ext e, q2, q3⟩
theorem get_set {α : Type} {l : List α} {i j : Nat} {x y : α} (h : (l.set i x)[j]? = some y) : (i = j ∧ i < l.length ∧ y = x) ∨ (i ≠ j ∧ l[j]? = some y) := by
  by_cases e : i = j
  · subst e
    have hl : i < l.length := by have := (List.getElem?_eq_some_iff.mp h).1; simpa using this
    rw [List.getElem?_set_self hl] at h; cases h
    exact .inl ⟨rfl, hl, rfl⟩
  · rw [List.getElem?_set_ne e] at h
    exact .inr ⟨e, h⟩
theorem Slots.put (s : Slots K B ρ H σ γ) (i : Nat) {o : Option V} {x : Slot} (hx : x = .no ∨ ∃ v d, x = .val d ∧ o = some v ∧ Rep K B ρ v d) : Slots K B ρ H (σ.set i o) (γ.set i x) := by
  have nown : ∀ {m : Nat} {c : Cell}, (γ.set i x)[m]? = some (.own c) → i ≠ m ∧ γ[m]? = some (.own c) := fun {m c} h => by
    rcases get_set h with ⟨_, _, e⟩ | h
    · rcases hx with rfl | ⟨_, _, rfl, _⟩ <;> cases e
    · exact h
  refine ⟨by simp [s.len], fun j e h => ?_, fun j xs h => ?_, fun j k xs ys a h1 h2 h3 h4 => ?_⟩
  · rcases get_set h with ⟨rfl, hl, e⟩ | ⟨n, h⟩
    · rcases hx with rfl | ⟨v, d, rfl, rfl, r⟩
      · cases e
      · cases e
        exact ⟨v, by rw [List.getElem?_set_self (by rw [← s.len]; exact hl)], r⟩
    · rw [List.getElem?_set_ne n]
      exact s.val j e h
  · obtain ⟨n, h⟩ := nown h
    rw [List.getElem?_set_ne n]
    exact s.own j xs h
  · obtain ⟨n1, q1⟩ := nown h1
    obtain ⟨n2, q2⟩ := nown h2
    rw [List.getElem?_set_ne n1] at h3
    rw [List.getElem?_set_ne n2] at h4
    exact s.apart j k xs ys a q1 q2 h3 h4
theorem Slots.set (s : Slots K B ρ H σ γ) (i : Nat) {v : V} {d : D} (r : Rep K B ρ v d) : Slots K B ρ H (σ.set i (some v)) (γ.set i (.val d)) := s.put i (.inr ⟨v, d, rfl, rfl, r⟩)
theorem Slots.no (s : Slots K B ρ H σ γ) (i : Nat) : Slots K B ρ H (σ.set i none) (γ.set i .no) := s.put i (.inl rfl)
theorem Slots.forget (s : Slots K B ρ H σ γ) (i : Nat) : Slots K B ρ H σ (γ.set i .no) := by
  have ne : ∀ {m : Nat} {x : Slot}, (γ.set i .no)[m]? = some x → x ≠ .no → γ[m]? = some x := fun {m x} h hx => by
    rcases get_set h with ⟨_, _, e⟩ | ⟨_, h⟩
    · exact absurd e hx
    · exact h
  exact ⟨by simp [s.len], fun j e h => s.val j e (ne h (by simp)), fun j c h => s.own j c (ne h (by simp)), fun j k c e a h1 h2 => s.apart j k c e a (ne h1 (by simp)) (ne h2 (by simp))⟩
end
structure Rel (K : Kx) (B : Hp) (ρ : List Addr) (σ : St) (H : Hp) (γ : List Slot) (S : Sto) : Prop where
  cells : Cells K B ρ H S
  slots : Slots K B ρ H σ γ
theorem Rel.ext {K : Kx} {B B1 : Hp} {ρ ρ1 : List Addr} {H H1 : Hp} {S S1 : Sto} {σ : St} {γ : List Slot} (r : Rel K B ρ σ H γ S) (x : Ext B ρ H B1 ρ1 H1) (c : Cells K B1 ρ1 H1 S1) : Rel K B1 ρ1 σ H1 γ S1 := ⟨c, r.slots.ext x⟩
end DL
namespace Hd
open PySem PySem.Spec PyProof.Rows L2 DL He
def strB (z : Str) : Value → Bool
  | .str y _ => decide (y = z)
  | _ => false
def strsB : List Value → List Str → Bool
  | [], [] => true
  | u :: us, z :: zs => strB z u && strsB us zs
  | _, _ => false
def tupAt (K : PySem.W.Frag) (a : Addr) (zs : List Str) : Bool := match K.lookup a with
  | some ⟨.type c, none, .seq its _, _⟩ => decide (c = "tuple") && strsB its.toList zs
  | _ => false
inductive Dw where
  | str (z : Str)
  | fn (x : Str)
  | tup (zs : List Str)
def dwB (K : PySem.W.Frag) (u : Value) : Dw → Bool
  | .str z => strB z u
  | .fn x => (match u with
    | .ref a => decide (a = ga K x)
    | _ => false)
  | .tup zs => (match u with
    | .ref p => tupAt K p zs
    | _ => false)
def entsB (K : PySem.W.Frag) : List DictEntry → List (Str × Dw) → Bool
  | [], [] => true
  | e :: es, kv :: r => strB kv.1 e.key && (dwB K e.val kv.2 && entsB K es r)
  | _, _ => false
def dctB (K : PySem.W.Frag) (x : Str) (kvs : List (Str × Dw)) : Bool := !(ga K x == sysModules) && (match K.lookup (ga K x) with
  | some ⟨.type c, none, .dict es _, sl⟩ => decide (c = "dict") && (sl.toList.isEmpty && entsB K es.toList kvs)
  | _ => false)
def dctH (K : PySem.W.Frag) (x : Str) : List Int := match K.lookup (ga K x) with
  | some ⟨_, _, .dict es _, _⟩ => es.toList.map (·.hash)
  | _ => []
inductive Dx where
  | non | bl (b : Bool) | int (i : Int) | str (z : Str)
def dxB : Value → Dx → Bool
  | .none, .non => true
  | .bool b, .bl c => b == c
  | .int j _, .int i => decide (j = i)
  | .str y _, .str z => decide (y = z)
  | _, _ => false
def dxsB : List Value → List Dx → Bool
  | [], [] => true
  | u :: us, z :: zs => dxB u z && dxsB us zs
  | _, _ => false
def dflX (K : PySem.W.Frag) (dV : Value) : List Dx → Bool
  | [] => (match dV with
    | .none => true
    | _ => false)
  | z :: zs => (match dV with
    | .ref T => (match K.lookup T with
      | some ⟨_, _, .seq its _, _⟩ => dxsB its.toList (z :: zs)
      | _ => false)
    | _ => false)
structure Fd where
  at_ : Str × Option Str
  name : Str
  qual : Str
  params : Arguments
  body : List Stmt
  scope : Scope
  dfl : List Dx
def Fd.val (d : Fd) : FnW := some (d.name, d.qual, d.params, .stmts d.body, d.scope, mainGlobals, [], builtinsNs)
def Fd.ok (K : PySem.W.Frag) (d : Fd) : Bool := match K.lookup (fAd K d.at_) with
  | some ⟨_, _, .func fd, _⟩ => PySem.W.codeIn K fd.code d.qual && dflX K fd.defaults d.dfl
  | _ => false
theorem Fd.ex {K : PySem.W.Frag} {p : Str × Option Str} {nm ql : Str} {ar : Arguments} {bd : List Stmt} {sc : Scope} {dfl : List Dx} (z : fnW K p = (Fd.mk p nm ql ar bd sc dfl).val ∧ (Fd.mk p nm ql ar bd sc dfl).ok K = true) :
    ∃ dV oc od kV doc pm an cdv ct sl, K.lookup (fAd K p) = some ⟨oc, od, .func (PySem.W.fnOf nm ql ar bd sc dV kV doc pm an cdv ct), sl⟩ ∧ PySem.W.codeIn K cdv ql = true ∧ dflX K dV dfl = true := by
  obtain ⟨e, c⟩ := z
  unfold Fd.ok at c
  unfold fnW at e
  cases q : K.lookup (fAd K p) with
  | none => simp only [q] at c; cases c
  | some o =>
    obtain ⟨oc, od, dt, osl⟩ := o
    simp only [q] at c e
    cases dt with
    | func fd =>
      obtain ⟨n1, n2, n3, n4, n5, n6, n7, n8, n9, n10, n11, n12, n13, n14, n15⟩ := fd
      have e2 : (some (n1, n2, n3, n4, n5, n6, n7, n15) : FnW) = some (nm, ql, ar, .stmts bd, sc, mainGlobals, [], builtinsNs) := e
      simp only [Option.some.injEq, Prod.mk.injEq] at e2
      obtain ⟨h1, h2, h3, h4, h5, h6, h7, h8⟩ := e2
      subst h1 h2 h3 h4 h5 h6 h7 h8
      obtain ⟨c1, c2⟩ := ba (show (PySem.W.codeIn K n13 n2 && dflX K n8 dfl) = true from c)
      exact ⟨n8, oc, od, n9, n10, n11, n12, n13, n14, osl, rfl, c1, c2⟩
    | _ => cases c
theorem Fd.ex0 {K : PySem.W.Frag} {p : Str × Option Str} {nm ql : Str} {ar : Arguments} {bd : List Stmt} {sc : Scope} (z : fnW K p = (Fd.mk p nm ql ar bd sc []).val ∧ (Fd.mk p nm ql ar bd sc []).ok K = true) :
    ∃ oc od kV doc pm an cdv ct sl, K.lookup (fAd K p) = some ⟨oc, od, .func (PySem.W.fnOf nm ql ar bd sc .none kV doc pm an cdv ct), sl⟩ ∧ PySem.W.codeIn K cdv ql = true := by
  obtain ⟨dV, oc, od, kV, doc, pm, an, cdv, ct, sl, h1, h2, h3⟩ := Fd.ex z
  cases dV with
  | none => exact ⟨oc, od, kV, doc, pm, an, cdv, ct, sl, h1, h2⟩
  | _ => cases h3
theorem Fd.exd {K : PySem.W.Frag} {p : Str × Option Str} {nm ql : Str} {ar : Arguments} {bd : List Stmt} {sc : Scope} {y : Dx} {ys : List Dx} (z : fnW K p = (Fd.mk p nm ql ar bd sc (y :: ys)).val ∧ (Fd.mk p nm ql ar bd sc (y :: ys)).ok K = true) :
    ∃ T oc od kV doc pm an cdv ct sl to td tn ts l, K.lookup (fAd K p) = some ⟨oc, od, .func (PySem.W.fnOf nm ql ar bd sc (.ref T) kV doc pm an cdv ct), sl⟩ ∧ PySem.W.codeIn K cdv ql = true ∧
      K.lookup T = some ⟨to, td, .seq (List.toArray l) tn, ts⟩ ∧ dxsB l (y :: ys) = true := by
  obtain ⟨dV, oc, od, kV, doc, pm, an, cdv, ct, sl, h1, h2, h3⟩ := Fd.ex z
  cases dV with
  | ref T =>
    have h4 : (match K.lookup T with
      | some ⟨_, _, .seq its _, _⟩ => dxsB its.toList (y :: ys)
      | _ => false) = true := h3
    cases q : K.lookup T with
    | none => simp only [q] at h4; cases h4
    | some o =>
      obtain ⟨o1, o2, o3, o4⟩ := o
      simp only [q] at h4
      cases o3 with
      | seq its n =>
        exact ⟨T, oc, od, kV, doc, pm, an, cdv, ct, sl, o1, o2, n, o4, its.toList, h1, h2, by rw [q], h4⟩
      | _ => cases h4
  | _ => cases h3
inductive Fx where
  | int (x : Str) (i : Int)
  | str (x z : Str)
  | tup (x : Str) (zs : List Str)
  | dct (x : Str) (kvs : List (Str × Dw))
  | glo (x : Str)
  | free (x : Str)
  | bl (g : PySem.W.Frag → Bool)
def Fx.ok (K : PySem.W.Frag) : Fx → Bool
  | .int x i => (Fa.int x i).ok K
  | .str x z => (Fa.str x z).ok K
  | .tup x zs => (Fa.glo x).ok K && tupAt K (ga K x) zs
  | .dct x kvs => (Fa.glo x).ok K && dctB K x kvs
  | .glo x => (Fa.glo x).ok K
  | .free x => (Fa.free x).ok K
  | .bl g => g K
section
variable {K : PySem.W.Frag}
theorem glo_ex {x : Str} (c : (Fx.glo x).ok K = true) : PySem.W.nsIn K mainGlobals x = some (some (.ref (ga K x))) := eqO_ok c
theorem free_ex {x : Str} (c : (Fx.free x).ok K = true) : PySem.W.nsIn K mainGlobals x = some none := eqO_ok c
end
abbrev Al : Type := Bool × List FnW × List (List Int)
def obsK (fs : List Fx) (fn : List Fd) (dc : List (Str × List Str)) (K : PySem.W.Frag) : Al := ((fs.all fun f => f.ok K) && fn.all fun d => d.ok K, fn.map (fun d => fnW K d.at_), dc.map fun d => dctH K d.1)
def valK (fn : List Fd) (dc : List (Str × List Str)) (p : Params) : Al := (true, fn.map Fd.val, dc.map fun d => d.2.map fun k => PyData.keyHash p k)
def Says (fs : List Fx) (fn : List Fd) (dc : List (Str × List Str)) (p : Params) (K : PySem.W.Frag) : Prop := obsK fs fn dc K = valK fn dc p
def frL {α : Type} : List Addr → (List Addr → α) → α
  | [], k => k []
  | a :: r, k => HandSHeadRun.frNat a fun a => frL r fun r => k (a :: r)
theorem frL_eq {α : Type} : ∀ (l : List Addr) (k : List Addr → α), frL l k = k l
  | [], k => rfl
  | a :: r, k => by
    show HandSHeadRun.frNat a (fun a => frL r fun r => k (a :: r)) = _
    rw [HandSHeadRun.frNat_eq, frL_eq r]
def lvl (g : Addr → Option Obj) (as : List Addr) : List Addr := as.flatMap fun a => match g a with
  | some o => refsO o
  | none => []
def asF {α : Type} (g : Addr → Option Obj) (k : List Addr → α) : α := frL (lvl g [mainGlobals]) fun l1 => frL (lvl g l1) fun l2 => frL (lvl g l2) fun l3 => frL (lvl g l3) fun l4 => k (mainGlobals :: cStatics :: (l1 ++ (l2 ++ (l3 ++ l4))))
def as4 (g : Addr → Option Obj) : List Addr := mainGlobals :: cStatics :: (lvl g [mainGlobals] ++ (lvl g (lvl g [mainGlobals]) ++ (lvl g (lvl g (lvl g [mainGlobals])) ++ lvl g (lvl g (lvl g (lvl g [mainGlobals]))))))
theorem asF_eq {α : Type} (g : Addr → Option Obj) (k : List Addr → α) : asF g k = k (as4 g) := by
  unfold asF as4
  simp only [frL_eq]
def buildK {α : Type} (g : Addr → Option Obj) : List Addr → (PySem.W.Frag → α) → α
  | [], k => k []
  | a :: r, k => match g a with
    | some o => buildK g r fun K => k ((a, o) :: K)
    | none => buildK g r k
theorem buildK_eq {α : Type} (g : Addr → Option Obj) : ∀ (l : List Addr) (k : PySem.W.Frag → α), buildK g l k = k (frG g l)
  | [], k => rfl
  | a :: r, k => by
    unfold frG
    rw [List.filterMap_cons]
    show (match g a with
      | some o => buildK g r fun K => k ((a, o) :: K)
      | none => buildK g r k) = _
    cases g a with
    | none => exact buildK_eq g r k
    | some o => exact buildK_eq g r _
def obsG (fs : List Fx) (fn : List Fd) (dc : List (Str × List Str)) (g : Addr → Option Obj) : Al := asF g fun as => buildK g as fun K => obsK fs fn dc K
theorem obsG_is (fs : List Fx) (fn : List Fd) (dc : List (Str × List Str)) (g : Addr → Option Obj) : Hd.obsG fs fn dc g = obsK fs fn dc (frG g (as4 g)) := by
  unfold Hd.obsG
  rw [asF_eq, buildK_eq]
def hook (fs : List Fx) (fn : List Fd) (dc : List (Str × List Str)) : PySem.W.Hook where
  α := Al
  obs := fun s => Hd.obsG fs fn dc s.heap.get?
  val := fun w => valK fn dc w.params
  says := fun w h => ∃ K : PySem.W.Frag, K.In h ∧ Says fs fn dc w.params K
  of := fun _ _ e => ⟨_, frG_in, (obsG_is _ _ _ _).symm.trans e⟩
  keeps := fun _ _ _ ⟨K, hK, c⟩ k => ⟨K, PySem.W.Frag.In.keeps hK k, c⟩
theorem obsG_eq {fs : List Fx} {fn : List Fd} {dc : List (Str × List Str)} {g : Addr → Option Obj} {s : Shared} (h : ∀ a, g a = s.heap.get? a) : Hd.obsG fs fn dc g = (hook fs fn dc).obs s := by
  have e : g = s.heap.get? := funext h
  rw [e] <;> rfl
section
variable {fs : List Fx} {fn : List Fd} {dc : List (Str × List Str)} {p : Params} {K : PySem.W.Frag}
theorem Says.fact (c : Says fs fn dc p K) (i : Nat) {f : Fx} (h : fs[i]? = some f) : f.ok K = true := by
  have c1 := (ba (show ((fs.all fun f => f.ok K) && fn.all fun d => d.ok K) = true from congrArg (fun z : Al => z.1) c)).1
  exact List.all_eq_true.mp c1 f (List.mem_of_getElem? h)
theorem Says.def_ (c : Says fs fn dc p K) (i : Nat) {d : Fd} (h : fn[i]? = some d) : fnW K d.at_ = d.val ∧ d.ok K = true := by
  have c2 := (ba (show ((fs.all fun f => f.ok K) && fn.all fun d => d.ok K) = true from congrArg (fun z : Al => z.1) c)).2
  have e : fn.map (fun d => fnW K d.at_) = fn.map Fd.val := congrArg (fun z : Al => z.2.1) c
  have e2 : (fn.map fun d => fnW K d.at_)[i]? = (fn.map Fd.val)[i]? := by rw [e]
  rw [List.getElem?_map, List.getElem?_map, h] at e2
  exact ⟨Option.some.inj e2, List.all_eq_true.mp c2 d (List.mem_of_getElem? h)⟩
theorem Says.hash (c : Says fs fn dc p K) (i : Nat) {d : Str × List Str} (h : dc[i]? = some d) : dctH K d.1 = d.2.map fun k => PyData.keyHash p k := by
  have e : dc.map (fun d => dctH K d.1) = dc.map (fun d => d.2.map fun k => PyData.keyHash p k) := congrArg (fun z : Al => z.2.2) c
  have e2 : (dc.map fun d => dctH K d.1)[i]? = (dc.map fun d => d.2.map fun k => PyData.keyHash p k)[i]? := by rw [e]
  rw [List.getElem?_map, List.getElem?_map, h] at e2
  exact Option.some.inj e2
end
end Hd
namespace DL
open PySem L2
inductive Rv where
  | v (d : D) | o (c : Cell)
structure Exn where
  c : Nat
  ns : List Str
  xs : List D
abbrev XC := Exn → Sto → Prop
abbrev Ev (α : Type) := List Slot → Sto → XC → (α → Sto → Prop) → Prop
def optW {α : Type} (o : Option α) (S : Sto) (Q : α → Sto → Prop) : Prop := match o with
  | some a => Q a S
  | none => False
theorem optW_ok {α : Type} {o : Option α} {S : Sto} {Q : α → Sto → Prop} (h : optW o S Q) : ∃ a, o = some a ∧ Q a S := by
  cases o with
  | none => exact h.elim
  | some a => exact ⟨a, rfl, h⟩
def Post (K : Kx) (B : Hp) (ρ : List Addr) (H : Hp) (S' : Sto) (Q : VK) : Rv → Prop
  | .v d => ∀ v H' B' ρ', Ext B ρ H B' ρ' H' → Cells K B' ρ' H' S' → Rep K B' ρ' v d → Q v H'
  | .o c => ∀ a u H' B' ρ', Ext B ρ H B' ρ' H' → Cells K B' ρ' H' S' → H a = none → H' a = some u → B' a = none → a ∉ ρ' → RepC K B' ρ' 0 a u c → Q (.ref a) H'
def RepX (K : Kx) (B : Hp) (ρ : List Addr) (cls : Value) (d : Option Addr) (x : Exn) : Prop :=
  cls = .ref (K.cls x.c) ∧ match d with
    | none => x.ns = [] ∧ x.xs = []
    | some dx => ∃ vs, B dx = some (.xd (x.ns.zip vs)) ∧ x.ns.length = vs.length ∧ RepL K B ρ vs x.xs
def XPost (K : Kx) (B : Hp) (ρ : List Addr) (H : Hp) (S' : Sto) (W : XK) (x : Exn) : Prop :=
  ∀ cls d H' B' ρ', Ext B ρ H B' ρ' H' → Cells K B' ρ' H' S' → RepX K B' ρ' cls d x → W cls d H'
section
variable {K : Kx} {B B1 : Hp} {ρ ρ1 : List Addr} {H H1 : Hp} {S S' S1 : Sto} {Q : VK} {r : Rv} {W : WX} {σ : St} {γ : List Slot} {E' : XC}
theorem Post.from (x : Ext B ρ H B1 ρ1 H1) (p : Post K B ρ H S' Q r) : Post K B1 ρ1 H1 S' Q r := by
  cases r with
  | v d => exact fun v H' B' ρ' x2 c2 r2 => p v H' B' ρ' (x.tr x2) c2 r2
  | o xs => exact fun a us H' B' ρ' x2 c2 na ha nb nr rl => p a us H' B' ρ' (x.tr x2) c2 (x.free na) ha nb nr rl
theorem Post.frz {c : Cell} {d : D} (e : frzC c = some d) (p : Post K B ρ H S' Q (.v d)) : Post K B ρ H S' Q (.o c) := fun a u H' B' ρ' x cc na ha nb nr rl => by
  obtain ⟨c2, sB⟩ := cc.know ha nb nr
  exact p (.ref a) H' (upd B' a u) ρ' (x.know na sB) c2 (frz_rep upd_same (rl.mono sB (fun _ _ z => z) (Nat.le_refl _)) e)
theorem Post.cell {c : Cell} (p : Post K B ρ H ⟨S'.cs ++ [c], S'.n⟩ Q (.v (.ref S'.cs.length))) : Post K B ρ H S' Q (.o c) := fun a u H' B' ρ' x cc na ha nb nr rl => by
  have c2 := cc.opened ha nb nr (rl.mono (.refl _) (fun _ _ z => z) (Nat.zero_le _))
  refine p (.ref a) H' B' (ρ' ++ [a]) (x.open na) c2 (.ref ?_)
  rw [← cc.len, List.getElem?_append_right (Nat.le_refl _)]; simp
structure At (K : Kx) (W : WX) (σ : St) (B : Hp) (ρ : List Addr) (H : Hp) (γ : List Slot) (S : Sto) (E' : XC) : Prop where
  rel : Rel K B ρ σ H γ S
  exn : ∀ x S', E' x S' → XPost K B ρ H S' (fun cls d H' => W cls d σ H') x
theorem XPost.from {w : XK} {x : Exn} (e : Ext B ρ H B1 ρ1 H1) (p : XPost K B ρ H S' w x) : XPost K B1 ρ1 H1 S' w x := fun cls d H' B' ρ' x2 c2 r2 => p cls d H' B' ρ' (e.tr x2) c2 r2
theorem At.ext (a : At K W σ B ρ H γ S E') (x : Ext B ρ H B1 ρ1 H1) (c : Cells K B1 ρ1 H1 S1) : At K W σ B1 ρ1 H1 γ S1 E' :=
  ⟨a.rel.ext x c, fun e S' h => (a.exn e S' h).from x⟩
end
def RepS (K : Kx) (B : Hp) (ρ : List Addr) (H : Hp) (v : V) (d : D) : Prop :=
  Rep K B ρ v d ∨ ∃ a o c, v = .ref a ∧ frzC c = some d ∧ H a = some o ∧ RepC K B ρ 0 a o c ∧ B a = none ∧ a ∉ ρ
def RepO (K : Kx) (B : Hp) (ρ : List Addr) (H : Hp) (v : V) (d : D) : Prop :=
  Rep K B ρ v d ∨ ∃ a o c N, v = .ref a ∧ frzC c = some d ∧ H a = some o ∧ RepC K B ρ N a o c
def dr (S : Sto) : D → D
  | .ref n => (match S.cs[n]? with | some c => (frzC c).getD (.ref n) | none => .ref n)
  | d => d
section
variable {K : Kx} {B B1 : Hp} {ρ ρ1 : List Addr} {H H1 : Hp} {S : Sto} {v : V} {d : D}
theorem RepS.ext (e : Ext B ρ H B1 ρ1 H1) (h : RepS K B ρ H v d) : RepS K B1 ρ1 H1 v d := by
  rcases h with h | ⟨a, o, c, h0, h1, h2, h3, h4, h5⟩
  · exact .inl (h.ext e)
  · obtain ⟨q1, q2, q3⟩ := e.mine h2 h4 h5
    exact .inr ⟨a, o, c, h0, h1, q1, h3.ext e, q2, q3⟩
theorem RepS.o (c : Cells K B ρ H S) (h : RepS K B ρ H v d) : RepO K B ρ H v (dr S d) := by
  rcases h with h | ⟨a, o, k, h0, h1, h2, h3, h4, h5⟩
  · cases h with
    | ref h =>
      rename_i a n
      cases q : S.cs[n]? with
      | none =>
        have e : dr S (.ref n) = .ref n := by simp only [dr, q]
        rw [e]; exact .inl (.ref h)
      | some k =>
        cases q2 : frzC k with
        | none =>
          have e : dr S (.ref n) = .ref n := by simp only [dr, q, q2, Option.getD_none]
          rw [e]; exact .inl (.ref h)
        | some d =>
          obtain ⟨o, ha, hr⟩ := c.cell n a k h q
          have e : dr S (.ref n) = d := by simp only [dr, q, q2, Option.getD_some]
          rw [e]
          exact .inr ⟨a, o, k, _, rfl, q2, ha, hr⟩
    | non => exact .inl .non
    | bl b => exact .inl (.bl b)
    | int i => exact .inl (.int i)
    | str x => exact .inl (.str x)
    | tup h t => exact .inl (.tup h t)
    | lst h t => exact .inl (.lst h t)
    | dct h l t => exact .inl (.dct h l t)
    | obj h0 h h2 l t => exact .inl (.obj h0 h h2 l t)
    | exn h0 h1 h2 l t => exact .inl (.exn h0 h1 h2 l t)
    | fn i => exact .inl (.fn i)
    | scr h => exact .inl (.scr h)
  · have e : dr S d = d := by
      cases k <;> simp only [frzC, Option.some.injEq] at h1
      · rw [← h1]; rfl
      · rw [← h1]; rfl
      · rw [← h1]; rfl
      · cases h1
    rw [e]
    exact .inr ⟨a, o, k, 0, h0, h1, h2, h3⟩
theorem RepO.toH (c : Cells K B ρ H S) (h : RepO K B ρ H v d) : Rep K H ρ v d := by
  rcases h with h | ⟨a, o, k, N, rfl, e, h2, h3⟩
  · exact h.mono c.same fun _ _ z => z
  · exact frz_rep h2 (h3.mono c.same (fun _ _ z => z) (Nat.le_refl _)) e
theorem RepO.int {i : Int} (h : RepO K B ρ H v (.int i)) : v = .int i := by
  rcases h with h | ⟨_, _, k, _, _, q, _⟩
  · cases h; rfl
  · cases k <;> cases q
theorem RepO.bl {i : Bool} (h : RepO K B ρ H v (.bl i)) : v = .bl i := by
  rcases h with h | ⟨_, _, k, _, _, q, _⟩
  · cases h; rfl
  · cases k <;> cases q
theorem RepO.str {i : List Nat} (h : RepO K B ρ H v (.str i)) : v = .str (sOf i) := by
  rcases h with h | ⟨_, _, k, _, _, q, _⟩
  · cases h; rfl
  · cases k <;> cases q
theorem RepO.non (h : RepO K B ρ H v .non) : v = .non := by
  rcases h with h | ⟨_, _, k, _, _, q, _⟩
  · cases h; rfl
  · cases k <;> cases q
theorem RepO.tup {xs : List D} (h : RepO K B ρ H v (.tup xs)) : ∃ a vs, v = .ref a ∧ SqP K.K B a vs ∧ RepL K B ρ vs xs := by
  rcases h with h | ⟨_, _, k, _, _, q, _⟩
  · cases h with
    | tup h t => exact ⟨_, _, rfl, h, t⟩
  · cases k <;> cases q
theorem RepO.lst {xs : List D} (c : Cells K B ρ H S) (h : RepO K B ρ H v (.lst xs)) : ∃ a vs, v = .ref a ∧ H a = some (.lst vs) ∧ RepL K B ρ vs xs := by
  rcases h with h | ⟨a, o, k, N, rfl, q, h2, h3⟩
  · cases h with
    | lst h t => exact ⟨_, _, rfl, c.same _ _ h, t⟩
  · cases h3 with
    | lst r => cases q; exact ⟨a, _, rfl, h2, r⟩
    | dct => cases q
    | ins => cases q
    | pool => cases q
theorem RepO.dct {ks : List Key} {xs : List D} (c : Cells K B ρ H S) (h : RepO K B ρ H v (.dct ks xs)) : ∃ a vs, v = .ref a ∧ H a = some (.dK (ks.zip vs)) ∧ ks.length = vs.length ∧ RepL K B ρ vs xs := by
  rcases h with h | ⟨a, o, k, N, rfl, q, h2, h3⟩
  · cases h with
    | dct h l t => exact ⟨_, _, rfl, c.same _ _ h, l, t⟩
  · cases h3 with
    | lst r => cases q
    | dct l r => cases q; exact ⟨a, _, rfl, h2, l, r⟩
    | ins => cases q
    | pool => cases q
theorem RepO.obj {k : Nat} {ns : List Str} {xs : List D} (hk : k < 1000) (c : Cells K B ρ H S) (h : RepO K B ρ H v (.obj k ns xs)) : ∃ a dx vs, v = .ref a ∧ H a = some (.ins (K.cls k) dx (ns.zip vs)) ∧ ns.length = vs.length ∧ RepL K B ρ vs xs := by
  rcases h with h | ⟨a, o, k, N, rfl, q, h2, h3⟩
  · cases h with
    | obj _ h _ l t => exact ⟨_, _, _, rfl, c.same _ _ h, l, t⟩
    | exn h0 => omega
  · cases h3 with
    | lst r => cases q
    | dct l r => cases q
    | ins _ _ l r => cases q; exact ⟨a, _, _, rfl, h2, l, r⟩
    | pool => cases q
theorem RepO.scr {ns : List Int} (c : Cells K B ρ H S) (h : RepO K B ρ H v (.scr ns)) : ∃ a, v = .ref a ∧ SqL K.K H a (ns.map V.int) := by
  rcases h with h | ⟨_, _, k, _, _, q, _⟩
  · cases h with
    | scr h => exact ⟨_, rfl, c.same.seq h⟩
  · cases k <;> cases q
end
structure Mp where
  cls : Nat → Addr
  fns : Nat → Addr
abbrev kx (X : Cx) (M : Mp) : Kx := ⟨X.K, M.cls, M.fns⟩
def tX {α : Type} (K : Kx) (W : WX) (f : Ev α) (σ : St) (H : Hp) (P : Hp → List Addr → α → Sto → Prop) : Prop :=
  ∃ B ρ γ S E' Q', At K W σ B ρ H γ S E' ∧ f γ S E' Q' ∧ ∀ r S', Q' r S' → P B ρ r S'
def tR (K : Kx) (W : WX) (f : Ev Rv) : TE := fun σ H Q => tX K W f σ H fun B ρ r S' => Post K B ρ H S' Q r
def tD (K : Kx) (W : WX) (f : Ev D) : TE := fun σ H Q => tX K W f σ H fun B ρ d S' => Post K B ρ H S' Q (.v d)
def tDO (K : Kx) (W : WX) (f : Ev D) : TE := fun σ H Q => tX K W f σ H fun B ρ d S' => ∀ v H' B' ρ', Ext B ρ H B' ρ' H' → Cells K B' ρ' H' S' → RepS K B' ρ' H' v d → Q v H'
def tDA (K : Kx) (W : WX) (f : Ev (List D)) : TA := fun σ H Q => tX K W f σ H fun B ρ d S' => ∀ v H' B' ρ', Ext B ρ H B' ρ' H' → Cells K B' ρ' H' S' → RepL K B' ρ' v d → Q v H'
def tDOA (K : Kx) (W : WX) (f : Ev (List D)) : TA := fun σ H Q => tX K W f σ H fun B ρ d S' => ∀ v H' B' ρ', Ext B ρ H B' ρ' H' → Cells K B' ρ' H' S' → Paired (RepS K B' ρ' H') v d → Q v H'
def tDT (K : Kx) (W : WX) (f : Ev Bool) : TT := fun σ H Q => tX K W f σ H fun B ρ b S' => ∀ H' B' ρ', Ext B ρ H B' ρ' H' → Cells K B' ρ' H' S' → Q b H'
def DR (X : Cx) (M : Mp) (W : WX) (e : Expr) (f : Ev Rv) : Prop := PE X e (tR (kx X M) W f)
def DE (X : Cx) (M : Mp) (W : WX) (e : Expr) (f : Ev D) : Prop := PE X e (tD (kx X M) W f)
def DO (X : Cx) (M : Mp) (W : WX) (e : Expr) (f : Ev D) : Prop := PE X e (tDO (kx X M) W f)
def DA (X : Cx) (M : Mp) (W : WX) (e : List Expr) (f : Ev (List D)) : Prop := PA X e (tDA (kx X M) W f)
def DOA (X : Cx) (M : Mp) (W : WX) (e : List Expr) (f : Ev (List D)) : Prop := PA X e (tDOA (kx X M) W f)
def DT (X : Cx) (M : Mp) (W : WX) (e : Expr) (f : Ev Bool) : Prop := PT X e (tDT (kx X M) W f)
def DW (X : Cx) (M : Mp) (W : WX) (e : Expr) (f : Ev Bool) : Prop := PW X e (tDT (kx X M) W f)
theorem PE.imp {X : Cx} {e : Expr} {t t' : TE} (h : PE X e t) (i : ∀ σ H Q, t' σ H Q → t σ H Q) : PE X e t' := ⟨fun pins s σ H Q I q => h.run pins s σ H Q I (i σ H Q q)⟩
theorem PT.imp {X : Cx} {e : Expr} {t t' : TT} (h : PT X e t) (i : ∀ σ H Q, t' σ H Q → t σ H Q) : PT X e t' := ⟨fun pins s σ H Q I q => h.run pins s σ H Q I (i σ H Q q)⟩
theorem PW.imp {X : Cx} {e : Expr} {t t' : TT} (h : PW X e t) (i : ∀ σ H Q, t' σ H Q → t σ H Q) : PW X e t' := ⟨fun wh pins s σ H Q I q => h.run wh pins s σ H Q I (i σ H Q q)⟩
theorem PA.imp {X : Cx} {e : List Expr} {t t' : TA} (h : PA X e t) (i : ∀ σ H Q, t' σ H Q → t σ H Q) : PA X e t' := ⟨fun pos pins s σ H Q I q => h.run pos pins s σ H Q I (i σ H Q q)⟩
theorem PS.imp {X : Cx} {e : Stmt} {t t' : TS} (h : PS X e t) (i : ∀ D σ H, t' D σ H → t D σ H) : PS X e t' := ⟨fun pins s σ H D I q => h.run pins s σ H D I (i D σ H q)⟩
theorem PSs.imp {X : Cx} {e : List Stmt} {t t' : TS} (h : PSs X e t) (i : ∀ D σ H, t' D σ H → t D σ H) : PSs X e t' := ⟨fun pins s σ H D I q => h.run pins s σ H D I (i D σ H q)⟩
def kVal (Q : D → Sto → Prop) : Rv → Sto → Prop
  | .v d, S => Q d S
  | .o c, S => optW (frzC c) S Q
def eVal (f : Ev Rv) : Ev D := fun γ S E Q => f γ S E (kVal Q)
def eRv (f : Ev D) : Ev Rv := fun γ S E Q => f γ S E fun d S => Q (.v d) S
def kCell (Q : D → Sto → Prop) : Rv → Sto → Prop
  | .v _, _ => False
  | .o c, S => Q (.ref S.cs.length) ⟨S.cs ++ [c], S.n⟩
def eCell (f : Ev Rv) : Ev D := fun γ S E Q => f γ S E (kCell Q)
section
variable {X : Cx} {M : Mp} {W : WX} {e e1 e2 e3 : Expr} {es : List Expr} {f g h : Ev D} {fr : Ev Rv} {fs : Ev (List D)} {pos : Pos}
theorem val_imp {K : Kx} : ∀ σ H Q, tD K W (eVal fr) σ H Q → tR K W fr σ H Q := fun σ H Q ⟨B, ρ, γ, S, E', Q', at_, h, k⟩ =>
  ⟨B, ρ, γ, S, E', _, at_, h, fun r S' h1 => by
    cases r with
    | v d => exact k d S' h1
    | o c => obtain ⟨d, e, h2⟩ := optW_ok h1; exact (k d S' h2).frz e⟩
theorem cell_imp {K : Kx} : ∀ σ H Q, tD K W (eCell fr) σ H Q → tR K W fr σ H Q := fun σ H Q ⟨B, ρ, γ, S, E', Q', at_, h, k⟩ =>
  ⟨B, ρ, γ, S, E', _, at_, h, fun r S' h1 => by
    cases r with
    | v d => exact h1.elim
    | o c => exact Post.cell (k _ _ h1)⟩
theorem DR.de (d : DR X M W e fr) : DE X M W e (eVal fr) := PE.imp d val_imp
theorem DR.cell (d : DR X M W e fr) : DE X M W e (eCell fr) := PE.imp d cell_imp
theorem DE.dr (d : DE X M W e f) : DR X M W e (eRv f) := PE.imp d fun σ H Q ⟨B, ρ, γ, S, E', Q', at_, h, k⟩ => ⟨B, ρ, γ, S, E', _, at_, h, fun r S' h1 => k (.v r) S' h1⟩
theorem DE.do (d : DE X M W e f) : DO X M W e f := PE.imp d fun σ H Q ⟨B, ρ, γ, S, E', Q', at_, h, k⟩ => ⟨B, ρ, γ, S, E', _, at_, h, fun r S' h1 v H' B' ρ' x c q => k r S' h1 v H' B' ρ' x c (.inl q)⟩
def slD (o : Option Slot) (S : Sto) (Q : D → Sto → Prop) : Prop := match o with | some (.val d) => Q d S | _ => False
def slP (o : Option Slot) (S : Sto) (Q : D → Sto → Prop) : Prop := match o with | some (.val d) => Q d S | some (.own c) => optW (frzC c) S Q | _ => False
def eVar (i : Nat) : Ev D := fun γ S _ Q => slD γ[i]? S Q
def ePeek (i : Nat) : Ev D := fun γ S _ Q => slP γ[i]? S Q
def eCon (d : D) : Ev D := fun _ S _ Q => Q d S
theorem de_of_v {i : Nat} (h : PE X e (tVar i)) : DE X M W e (eVar i) := PE.imp h fun σ H Q ⟨B, ρ, γ, S, E', Q', at_, h, k⟩ => by
  unfold eVar slD at h
  split at h
  · rename_i d q
    obtain ⟨v, h1, h2⟩ := at_.rel.slots.val i d q
    exact ⟨v, h1, k d S h v H B ρ (.refl _ _ _) at_.rel.cells h2⟩
  · exact h.elim
theorem do_of_v {i : Nat} (h : PE X e (tVar i)) : DO X M W e (ePeek i) := PE.imp h fun σ H Q ⟨B, ρ, γ, S, E', Q', at_, h, k⟩ => by
  unfold ePeek slP at h
  split at h
  · rename_i d q
    obtain ⟨v, h1, h2⟩ := at_.rel.slots.val i d q
    exact ⟨v, h1, k d S h v H B ρ (.refl _ _ _) at_.rel.cells (.inl h2)⟩
  · rename_i c q
    obtain ⟨d, e, h⟩ := optW_ok h
    obtain ⟨a, o, h1, h2, h3, h4, h5⟩ := at_.rel.slots.own i c q
    exact ⟨.ref a, h1, k d S h (.ref a) H B ρ (.refl _ _ _) at_.rel.cells (.inr ⟨a, o, c, rfl, e, h2, h3, h4, h5⟩)⟩
  · exact h.elim
theorem de_con {v : V} {d : D} (h : PE X e (tC v)) (r : Rep (kx X M) (fun _ => none) [] v d) : DE X M W e (eCon d) := PE.imp h fun σ H Q ⟨B, ρ, γ, S, E', Q', at_, h, k⟩ =>
  k d S h v H B ρ (.refl _ _ _) at_.rel.cells (r.mono (fun _ _ z => by cases z) fun _ _ z => by simp at z)
def eNil : Ev (List D) := fun _ S _ Q => Q [] S
def eCons (f : Ev D) (g : Ev (List D)) : Ev (List D) := fun γ S E Q => f γ S E fun x S => g γ S E fun xs S => Q (x :: xs) S
theorem da_nil : DA X M W [] eNil := PA.imp pa_nil fun σ H Q ⟨B, ρ, γ, S, E', Q', at_, h, k⟩ => k [] S h [] H B ρ (.refl _ _ _) at_.rel.cells .nil
theorem da_cons (d : DE X M W e f) (ds : DA X M W es fs) (hs : starEach (e :: es) X.env = (false, eval e X.env) :: starEach es X.env) : DA X M W (e :: es) (eCons f fs) := PA.imp (pa_cons d ds hs) fun σ H Q ⟨B, ρ, γ, S, E', Q', at_, h, k⟩ =>
  ⟨B, ρ, γ, S, E', _, at_, h, fun x S1 h1 v H1 B1 ρ1 x1 c1 r1 => ⟨B1, ρ1, γ, S1, E', _, at_.ext x1 c1, h1, fun xs S2 h2 vs H2 B2 ρ2 x2 c2 r2 => k (x :: xs) S2 h2 (v :: vs) H2 B2 ρ2 (x1.tr x2) c2 (.cons (r1.ext x2) r2)⟩⟩
theorem Paired.imp2 {α β : Type} {F G : α → β → Prop} (i : ∀ a b, F a b → G a b) : ∀ {xs : List α} {ys : List β}, Paired F xs ys → Paired G xs ys
  | _, _, .nil => .nil
  | _, _, .cons h t => .cons (i _ _ h) (Paired.imp2 i t)
theorem doa_nil : DOA X M W [] eNil := PA.imp pa_nil fun σ H Q ⟨B, ρ, γ, S, E', Q', at_, h, k⟩ => k [] S h [] H B ρ (.refl _ _ _) at_.rel.cells .nil
theorem doa_cons (d : DO X M W e f) (ds : DOA X M W es fs) (hs : starEach (e :: es) X.env = (false, eval e X.env) :: starEach es X.env) : DOA X M W (e :: es) (eCons f fs) := PA.imp (pa_cons d ds hs) fun σ H Q ⟨B, ρ, γ, S, E', Q', at_, h, k⟩ =>
  ⟨B, ρ, γ, S, E', _, at_, h, fun x S1 h1 v H1 B1 ρ1 x1 c1 r1 => ⟨B1, ρ1, γ, S1, E', _, at_.ext x1 c1, h1, fun xs S2 h2 vs H2 B2 ρ2 x2 c2 r2 => k (x :: xs) S2 h2 (v :: vs) H2 B2 ρ2 (x1.tr x2) c2 (.cons (r1.ext x2) r2)⟩⟩
def kTup (xs : List D) (S : Sto) (Q : Rv → Sto → Prop) : Prop := if xs.length ≤ sizeLine then Q (.v (.tup xs)) S else False
def kLst (xs : List D) (S : Sto) (Q : Rv → Sto → Prop) : Prop := if xs.length ≤ sizeLine then Q (.o (.lst xs)) S else False
def eTup (f : Ev (List D)) : Ev Rv := fun γ S E Q => f γ S E fun xs S => kTup xs S Q
def eLst (f : Ev (List D)) : Ev Rv := fun γ S E Q => f γ S E fun xs S => kLst xs S Q
theorem ite_f {c p : Prop} [Decidable c] (h : if c then p else False) : c ∧ p := by
  split at h
  · rename_i q; exact ⟨q, h⟩
  · exact h.elim
def tTupF (t : TA) : TE := fun σ H Q => t σ H fun xs H1 => xs.length ≤ sizeLine ∧ ∀ (p : Addr) (o : Obj), H1 p = none → o.dict = none → Q (.ref p) (upd H1 p (.frz o (.tup xs)))
theorem pe_tupF {t : TA} {k : Nat} (h : PA X es t) : PE X (.Tuple es k pos) (tTupF t) := by
  refine ⟨fun pins s σ H Q I hq => wpAny_Tuple_spliced (thn (h.run pos pins s σ H _ I hq) fun us s1 ⟨xs, H1, I1, r, z, q⟩ => ⟨by rw [← r.length]; exact z, ?_⟩)⟩
  exact ⟨.ref s1.heap.objs.size, _, I1.laid (t' := s1.toks) (o := .frz _ (.tup xs)) (fun b u e => Heap.get?_push_of_some _ e) (Nat.le_refl _) ⟨Heap.get?_push_size _ rfl, z, us, r, ⟨_, Heap.get?_push_size _ rfl, rfl, _, rfl⟩⟩, rfl, q _ _ (I1.hok.fresh (Nat.le_refl _)) rfl⟩
theorem dr_tup {k : Nat} (h : DA X M W es fs) : DR X M W (.Tuple es k pos) (eTup fs) := PE.imp (pe_tupF h) fun σ H Q ⟨B, ρ, γ, S, E', Q', at_, h, k⟩ =>
  ⟨B, ρ, γ, S, E', _, at_, h, fun xs S1 h1 vs H1 B1 ρ1 x1 c1 r1 => by
    obtain ⟨hz, h1⟩ := ite_f h1
    refine ⟨by rw [r1.length]; exact hz, fun p o np ho => ?_⟩
    obtain ⟨c2, x2⟩ := c1.lay (o := .frz o (.tup vs)) np
    exact k (.v (.tup xs)) S1 h1 (.ref p) _ _ ρ1 (x1.tr x2) c2 (.tup (.new ho) (r1.ext x2))⟩
theorem dr_lst (h : DA X M W es fs) : DR X M W (.List es pos) (eLst fs) := PE.imp (pe_lst h) fun σ H Q ⟨B, ρ, γ, S, E', Q', at_, h, k⟩ =>
  ⟨B, ρ, γ, S, E', _, at_, h, fun xs S1 h1 vs H1 B1 ρ1 x1 c1 r1 => by
    obtain ⟨hz, h1⟩ := ite_f h1
    refine ⟨by rw [r1.length]; exact hz, fun p np => ?_⟩
    obtain ⟨c2, x2⟩ := c1.drop (o := .lst vs) np
    obtain ⟨nb, nr⟩ := ext_new c1 np
    exact k (.o (.lst xs)) S1 h1 p _ _ B1 ρ1 (x1.tr x2) c2 (x1.free np) upd_same nb nr (.lst r1)⟩
def rOp (K : Kx) (g : D → D → Option Rv) : R2 := fun x y H Q => ∃ B ρ S d e r, Cells K B ρ H S ∧ RepO K B ρ H x d ∧ RepO K B ρ H y e ∧ g d e = some r ∧ Post K B ρ H S Q r
theorem Post.new {K : Kx} {B : Hp} {ρ : List Addr} {H : Hp} {S : Sto} {Q : VK} {vs : List V} {xs : List D} (c : Cells K B ρ H S) (r : RepL K B ρ vs xs) (p : Post K B ρ H S Q (.o (.lst xs))) : ∀ l, H l = none → Q (.ref l) (upd H l (.lst vs)) := fun l np => by
  obtain ⟨c2, x2⟩ := c.drop (o := .lst vs) np
  obtain ⟨nb, nr⟩ := ext_new c np
  exact p l _ _ B ρ x2 c2 np upd_same nb nr (.lst r)
def kG (g : D → D → Option Rv) (x y : D) (S : Sto) (Q : Rv → Sto → Prop) : Prop := optW (g (dr S x) (dr S y)) S Q
def eOp (g : D → D → Option Rv) (fa fb : Ev D) : Ev Rv := fun γ S E Q => fa γ S E fun x S => fb γ S E fun y S => kG g x y S Q
theorem op_imp {K : Kx} {g : D → D → Option Rv} {ga gb : Ev D} : ∀ σ H Q, tR K W (eOp g ga gb) σ H Q → tOp (rOp K g) (tDO K W ga) (tDO K W gb) σ H Q := fun σ H Q ⟨B, ρ, γ, S, E', Q', at_, h, k⟩ =>
  ⟨B, ρ, γ, S, E', _, at_, h, fun x S1 h1 v H1 B1 ρ1 x1 c1 r1 => ⟨B1, ρ1, γ, S1, E', _, at_.ext x1 c1, h1, fun y S2 h2 u H2 B2 ρ2 x2 c2 r2 => by
    obtain ⟨r, e, h3⟩ := optW_ok h2
    exact ⟨B2, ρ2, S2, _, _, r, c2, (r1.ext x2).o c2, r2.o c2, e, (k r S2 h3).from (x1.tr x2)⟩⟩⟩
theorem dr_op {op : Operator} {g' : D → D → Option Rv} {fa fb : Ev D} (ho : OpR X (binaryOp op) (rOp (kx X M) g')) (ha : DO X M W e1 fa) (hb : DO X M W e2 fb) : DR X M W (.BinOp e1 op e2 pos) (eOp g' fa fb) := PE.imp (pe_op ho ha hb) op_imp
theorem dr_cmp {op : CmpOp} {g' : D → D → Option Rv} {fa fb : Ev D} (ho : OpR X (compareOp op) (rOp (kx X M) g')) (ha : DO X M W e1 fa) (hb : DO X M W e2 fb) (hm : behindInMarks op e2 = false) : DR X M W (.Compare e1 [op] [e2] pos) (eOp g' fa fb) :=
  PE.imp (pe_cmpR ho ha hb hm) op_imp
def kBl (Q : Bool → Sto → Prop) : D → Sto → Prop
  | .bl b, S => Q b S
  | _, _ => False
def eBl (f : Ev D) : Ev Bool := fun γ S E Q => f γ S E (kBl Q)
theorem bl_imp {K : Kx} : ∀ σ H Q, tDT K W (eBl f) σ H Q → tB (tD K W f) σ H Q := fun σ H Q ⟨B, ρ, γ, S, E', Q', at_, h, k⟩ =>
  ⟨B, ρ, γ, S, E', _, at_, h, fun d S1 h1 v H1 B1 ρ1 x1 c1 r1 => by
    cases d <;> first | exact h1.elim | skip
    cases r1
    exact ⟨_, rfl, k _ S1 h1 H1 B1 ρ1 x1 c1⟩⟩
theorem dt_val (h : DE X M W e f) (he : ∀ whole, isTrue e X.env whole = (do let v ← whole; standAt e.pos; holding [v] (truthy v))) : DT X M W e (eBl f) := PT.imp (pt_val h he) bl_imp
theorem dt_cmp {op : CmpOp} {g' : D → D → Option Rv} {fa fb : Ev D} (ho : OpR X (compareOp op) (rOp (kx X M) g')) (ha : DO X M W e1 fa) (hb : DO X M W e2 fb) (hm : behindInMarks op e2 = false) : DT X M W (.Compare e1 [op] [e2] pos) (eBl (eVal (eOp g' fa fb))) :=
  PT.imp (pt_cmpR ho ha hb hm) fun σ H Q h => op_imp σ H _ (val_imp σ H _ (bl_imp σ H _ h))
def eNot (f : Ev Bool) : Ev Bool := fun γ S E Q => f γ S E fun b S => Q (!b) S
def kAnd (g : Ev Bool) (γ : List Slot) (E : XC) (Q : Bool → Sto → Prop) (b : Bool) (S : Sto) : Prop := match b with | true => g γ S E Q | false => Q false S
def kOr (g : Ev Bool) (γ : List Slot) (E : XC) (Q : Bool → Sto → Prop) (b : Bool) (S : Sto) : Prop := match b with | true => Q true S | false => g γ S E Q
def eAnd (f g : Ev Bool) : Ev Bool := fun γ S E Q => f γ S E (kAnd g γ E Q)
def eOr (f g : Ev Bool) : Ev Bool := fun γ S E Q => f γ S E (kOr g γ E Q)
def eOfB (f : Ev Bool) : Ev D := fun γ S E Q => f γ S E fun b S => Q (.bl b) S
variable {t u : Ev Bool}
theorem dt_not (h : DT X M W e t) : DT X M W (.UnaryOp .Not e pos) (eNot t) := PT.imp (pt_not h) fun σ H Q ⟨B, ρ, γ, S, E', Q', at_, h, k⟩ =>
  ⟨B, ρ, γ, S, E', _, at_, h, fun b S1 h1 H1 B1 ρ1 x1 c1 => k _ S1 h1 H1 B1 ρ1 x1 c1⟩
theorem dw_and1 (h : DT X M W e t) : DW X M W (.BoolOp .And [e] pos) t := pw_and1 h
theorem dw_or1 (h : DT X M W e t) : DW X M W (.BoolOp .Or [e] pos) t := pw_or1 h
theorem dw_and (h : DT X M W e t) (h2 : DW X M W (.BoolOp .And (e1 :: es) pos) u) : DW X M W (.BoolOp .And (e :: e1 :: es) pos) (eAnd t u) := PW.imp (pw_and h h2) fun σ H Q ⟨B, ρ, γ, S, E', Q', at_, h, k⟩ =>
  ⟨B, ρ, γ, S, E', _, at_, h, fun b S1 h1 H1 B1 ρ1 x1 c1 => by
    cases b with
    | true => exact iteT ⟨B1, ρ1, γ, S1, E', _, at_.ext x1 c1, h1, fun c S2 h2 H2 B2 ρ2 x2 c2 => k c S2 h2 H2 B2 ρ2 (x1.tr x2) c2⟩
    | false => exact iteF (k _ S1 h1 H1 B1 ρ1 x1 c1)⟩
theorem dw_or (h : DT X M W e t) (h2 : DW X M W (.BoolOp .Or (e1 :: es) pos) u) : DW X M W (.BoolOp .Or (e :: e1 :: es) pos) (eOr t u) := PW.imp (pw_or h h2) fun σ H Q ⟨B, ρ, γ, S, E', Q', at_, h, k⟩ =>
  ⟨B, ρ, γ, S, E', _, at_, h, fun b S1 h1 H1 B1 ρ1 x1 c1 => by
    cases b with
    | false => exact iteF ⟨B1, ρ1, γ, S1, E', _, at_.ext x1 c1, h1, fun c S2 h2 H2 B2 ρ2 x2 c2 => k c S2 h2 H2 B2 ρ2 (x1.tr x2) c2⟩
    | true => exact iteT (k _ S1 h1 H1 B1 ρ1 x1 c1)⟩
def tBt (K : Kx) (W : WX) (f : Ev Bool) : TE := fun σ H Q => tX K W f σ H fun B ρ b S' => ∀ H' B' ρ', Ext B ρ H B' ρ' H' → Cells K B' ρ' H' S' → Q (.bl b) H'
def DB (X : Cx) (M : Mp) (W : WX) (e : Expr) (f : Ev Bool) : Prop := PE X e (tBt (kx X M) W f)
theorem DB.de (d : DB X M W e t) : DE X M W e (eOfB t) := PE.imp d fun σ H Q ⟨B, ρ, γ, S, E', Q', at_, h, k⟩ => ⟨B, ρ, γ, S, E', _, at_, h, fun b S' h1 H' B' ρ' x c => k (.bl b) S' h1 _ H' B' ρ' x c (.bl b)⟩
theorem DE.db (d : DE X M W e f) : DB X M W e (eBl f) := PE.imp d fun σ H Q ⟨B, ρ, γ, S, E', Q', at_, h, k⟩ => ⟨B, ρ, γ, S, E', _, at_, h, fun d S' h1 v H' B' ρ' x c r => by
  cases d <;> first | exact h1.elim | skip
  cases r
  exact k _ S' h1 H' B' ρ' x c⟩
theorem db_not (h : DB X M W e t) : DB X M W (.UnaryOp .Not e pos) (eNot t) := PE.imp (pe_not h) fun σ H Q ⟨B, ρ, γ, S, E', Q', at_, h, k⟩ =>
  ⟨B, ρ, γ, S, E', _, at_, h, fun b S1 h1 H1 B1 ρ1 x1 c1 => ⟨b, rfl, k _ S1 h1 H1 B1 ρ1 x1 c1⟩⟩
theorem db_one {op : BoolOp} (h : DB X M W e t) : DB X M W (.BoolOp op [e] pos) t := pe_one h
theorem db_and (h : DB X M W e t) (h2 : DB X M W (.BoolOp .And (e1 :: es) pos) u) : DB X M W (.BoolOp .And (e :: e1 :: es) pos) (eAnd t u) := PE.imp (pe_and h h2) fun σ H Q ⟨B, ρ, γ, S, E', Q', at_, h, k⟩ =>
  ⟨B, ρ, γ, S, E', _, at_, h, fun b S1 h1 H1 B1 ρ1 x1 c1 => ⟨b, rfl, by
    cases b with
    | true => exact iteT ⟨B1, ρ1, γ, S1, E', _, at_.ext x1 c1, h1, fun c S2 h2 H2 B2 ρ2 x2 c2 => k c S2 h2 H2 B2 ρ2 (x1.tr x2) c2⟩
    | false => exact iteF (k _ S1 h1 H1 B1 ρ1 x1 c1)⟩⟩
theorem db_or (h : DB X M W e t) (h2 : DB X M W (.BoolOp .Or (e1 :: es) pos) u) : DB X M W (.BoolOp .Or (e :: e1 :: es) pos) (eOr t u) := PE.imp (pe_or h h2) fun σ H Q ⟨B, ρ, γ, S, E', Q', at_, h, k⟩ =>
  ⟨B, ρ, γ, S, E', _, at_, h, fun b S1 h1 H1 B1 ρ1 x1 c1 => ⟨b, rfl, by
    cases b with
    | false => exact iteF ⟨B1, ρ1, γ, S1, E', _, at_.ext x1 c1, h1, fun c S2 h2 H2 B2 ρ2 x2 c2 => k c S2 h2 H2 B2 ρ2 (x1.tr x2) c2⟩
    | true => exact iteT (k _ S1 h1 H1 B1 ρ1 x1 c1)⟩⟩
def kIf {α : Type} (f g : Ev α) (γ : List Slot) (E : XC) (Q : α → Sto → Prop) (b : Bool) (S : Sto) : Prop := match b with | true => f γ S E Q | false => g γ S E Q
def eIf {α : Type} (c : Ev Bool) (f g : Ev α) : Ev α := fun γ S E Q => c γ S E (kIf f g γ E Q)
theorem de_ifx (hc : DT X M W e t) (ha : DE X M W e1 f) (hb : DE X M W e2 g) : DE X M W (.IfExp e e1 e2 pos) (eIf t f g) := PE.imp (pe_ifExp hc ha hb) fun σ H Q ⟨B, ρ, γ, S, E', Q', at_, h, k⟩ =>
  ⟨B, ρ, γ, S, E', _, at_, h, fun b S1 h1 H1 B1 ρ1 x1 c1 => by
    cases b with
    | true => exact iteT ⟨B1, ρ1, γ, S1, E', _, at_.ext x1 c1, h1, fun d S2 h2 => (k d S2 h2).from x1⟩
    | false => exact iteF ⟨B1, ρ1, γ, S1, E', _, at_.ext x1 c1, h1, fun d S2 h2 => (k d S2 h2).from x1⟩⟩
end
end DL
namespace DL
open PySem L2
theorem sOf_app (a b : List Nat) : sOf a ++ sOf b = sOf (a ++ b) := by
  show (⟨a.toArray ++ b.toArray⟩ : Str) = ⟨(a ++ b).toArray⟩
  simp
theorem sOf_len (a : List Nat) : (sOf a).length = a.length := by show a.toArray.size = a.length; simp
theorem sOf_inj {a b : List Nat} (h : sOf a = sOf b) : a = b := by
  have := congrArg (fun s : Str => s.cps.toList) h
  simpa using this
theorem of_sOf (x : Str) : sOf x.cps.toList = x := by
  obtain ⟨c⟩ := x
  rfl
def dAdd : D → D → Option Rv
  | .int i, .int j => some (.v (.int (i + j)))
  | .str a, .str b => if a.length + b.length ≤ sizeLine then some (.v (.str (a ++ b))) else none
  | .tup a, .tup b => if a.length + b.length ≤ sizeLine then some (.v (.tup (a ++ b))) else none
  | .lst a, .lst b => if a.length + b.length ≤ sizeLine then some (.o (.lst (a ++ b))) else none
  | _, _ => none
def dSub : D → D → Option Rv
  | .int i, .int j => some (.v (.int (i - j)))
  | _, _ => none
def small64 (i : Int) : Bool := decide (-(2 ^ 64) < i ∧ i < 2 ^ 64)
def dMul : D → D → Option Rv
  | .int i, .int j => if small64 i || small64 j then some (.v (.int (i * j))) else none
  | .str a, .int j => if a.length ≤ 1000 && decide (0 ≤ j) && decide (j ≤ 1000) then some (.v (.str (List.replicate j.toNat a).flatten)) else none
  | .lst a, .int j => if a.length ≤ 1000 && decide (0 ≤ j) && decide (j ≤ 1000) then some (.o (.lst (List.replicate j.toNat a).flatten)) else none
  | _, _ => none
def dDiv : D → D → Option Rv
  | .int i, .int j => if 0 < j ∧ j < 2 ^ 1000 then some (.v (.int (i / j))) else none
  | _, _ => none
def dMod : D → D → Option Rv
  | .int i, .int j => if 0 < j then some (.v (.int (i % j))) else none
  | _, _ => none
def dPow : D → D → Option Rv
  | .int i, .int j => if small64 i && decide (0 ≤ j) && decide (j ≤ 1000) then some (.v (.int (i ^ j.toNat))) else none
  | _, _ => none
theorem guard_some {α : Type} {c : Prop} [Decidable c] {a b : α} (h : (if c then some a else none) = some b) : c ∧ a = b := by
  split at h
  · rename_i q; cases h; exact ⟨q, rfl⟩
  · cases h
section
variable {X : Cx}
def rCatF (K : PySem.W.Frag) : R2 := fun x y H Q => ∃ a b xs ys, x = .ref a ∧ y = .ref b ∧ SqT K H a xs ∧ SqT K H b ys ∧ xs.length + ys.length ≤ sizeLine ∧ (xs = [] → Q (.ref b) H) ∧ (xs ≠ [] → ys = [] → Q (.ref a) H) ∧
  (xs ≠ [] → ys ≠ [] → ∀ (p : Addr) (o : Obj), H p = none → o.dict = none → Q (.ref p) (upd H p (.frz o (.tup (xs ++ ys)))))
theorem op_catF : OpR X (binaryOp .Add) (rCatF X.K) := by
  intro pins s σ H x y v u Q I rx ry ⟨a, b, xs, ys, ea, eb, ha, hb, hz, q0, q1, q2⟩
  by_cases hx : xs = []
  · exact op_catA pins s σ H x y v u Q I rx ry ⟨a, b, xs, ys, ea, eb, ha, hb, hz, q0, q1, fun z => absurd hx z⟩
  subst ea; subst eb
  cases rx
  cases ry
  obtain ⟨is, r1, p1, _⟩ := I.tuple ha
  obtain ⟨js, r2, p2, _⟩ := I.tuple hb
  refine HT.cat_tup p1 p2 (fun z => hx (r1.nil_iff.mp z)) (fun z => ⟨.ref a, H, I, rfl, q1 hx (r2.nil_iff.mp z)⟩) (fun z => ?_) (by rw [← r1.length, ← r2.length]; exact hz)
  exact ⟨.ref s.heap.objs.size, _, I.laid (t' := s.toks) (o := .frz _ (.tup (xs ++ ys))) (fun b ob q => Heap.get?_push_of_some _ q) (Nat.le_refl _) ⟨Heap.get?_push_size _ rfl, by rw [List.length_append]; exact hz, _, r1.append r2, PyProof.Rows.IsTup.new _ _⟩, rfl, q2 hx (fun w => z (r2.nil_iff.mpr w)) _ _ (I.hok.fresh (Nat.le_refl _)) rfl⟩
end
section
variable {X : Cx} {M : Mp}
theorem lt_log {j : Int} {n : Nat} (h0 : 0 < j) (h : j < 2 ^ n) : j.natAbs.log2 < n := by
  have h1 : j.natAbs ≠ 0 := by omega
  rw [Nat.log2_lt h1]
  have : ((j.natAbs : Nat) : Int) = j := by omega
  have h2 : ((j.natAbs : Nat) : Int) < ((2 ^ n : Nat) : Int) := by rw [this]; simpa using h
  exact Int.ofNat_lt.mp h2
theorem opd_add : OpR X (binaryOp .Add) (rOp (kx X M) dAdd) := by
  intro pins s σ H x y v u Q I rx ry ⟨B, ρ, S, d, e, r, c, rd, re, g, k⟩
  unfold dAdd at g
  split at g
  · cases g
    rw [rd.int] at rx
    rw [re.int] at ry
    exact op_add pins s σ H _ _ v u Q I rx ry ⟨_, _, rfl, rfl, k _ H B ρ (.refl _ _ _) c (.int _)⟩
  · obtain ⟨hz, rfl⟩ := guard_some g
    rw [rd.str] at rx
    rw [re.str] at ry
    refine op_add_str pins s σ H _ _ v u Q I rx ry ⟨_, _, rfl, rfl, by rw [sOf_len, sOf_len]; exact hz, ?_⟩
    rw [sOf_app]
    exact k _ H B ρ (.refl _ _ _) c (.str _)
  · obtain ⟨hz, rfl⟩ := guard_some g
    obtain ⟨a, vs, rfl, h1, t1⟩ := rd.tup
    obtain ⟨b, us, rfl, h2, t2⟩ := re.tup
    refine op_catF pins s σ H _ _ v u Q I rx ry ⟨a, b, vs, us, rfl, rfl, sqT_mono c.same h1, sqT_mono c.same h2, by rw [t1.length, t2.length]; exact hz, fun e => ?_, fun e1 e2 => ?_, fun _ _ p o np ho => ?_⟩
    · subst e
      cases t1
      exact k _ H B ρ (.refl _ _ _) c (.tup h2 t2)
    · subst e2
      cases t2
      refine k _ H B ρ (.refl _ _ _) c (.tup h1 ?_)
      simpa using t1
    · obtain ⟨c2, x2⟩ := c.lay (o := .frz o (.tup (vs ++ us))) np
      exact k _ _ _ ρ x2 c2 (.tup (.new ho) ((t1.append t2).ext x2))
  · obtain ⟨hz, rfl⟩ := guard_some g
    obtain ⟨a, vs, rfl, h1, t1⟩ := rd.lst c
    obtain ⟨b, us, rfl, h2, t2⟩ := re.lst c
    exact op_cat pins s σ H _ _ v u Q I rx ry ⟨a, b, vs, us, rfl, rfl, h1, h2, by rw [t1.length, t2.length]; exact hz, Post.new c (t1.append t2) k⟩
  · cases g
theorem opd_sub : OpR X (binaryOp .Sub) (rOp (kx X M) dSub) := by
  intro pins s σ H x y v u Q I rx ry ⟨B, ρ, S, d, e, r, c, rd, re, g, k⟩
  unfold dSub at g
  split at g
  · cases g
    rw [rd.int] at rx
    rw [re.int] at ry
    exact op_sub pins s σ H _ _ v u Q I rx ry ⟨_, _, rfl, rfl, k _ H B ρ (.refl _ _ _) c (.int _)⟩
  · cases g
theorem txt_mul (a : List Nat) (j : Int) (h : 0 ≤ j) : Txt.mul (sOf a) j = sOf (List.replicate j.toNat a).flatten := by
  unfold Txt.mul
  have fold : ∀ (n : Nat) (z : Array Nat), (List.replicate n a.toArray).foldl (· ++ ·) z = z ++ (List.replicate n a).flatten.toArray := by
    intro n
    induction n with
    | zero => intro z; simp
    | succ n ih => intro z; rw [List.replicate_succ, List.foldl_cons, ih, List.replicate_succ, List.flatten_cons]; simp
  by_cases h1 : j < 1
  · have e : j = 0 := by omega
    subst e
    simp only [if_pos h1]
    rfl
  · simp only [if_neg h1]
    by_cases h2 : (j == 1 || (sOf a).length == 0) = true
    · simp only [if_pos h2]
      rw [Bool.or_eq_true] at h2
      rcases h2 with q | q
      · have e : j = 1 := by simpa using q
        subst e
        show sOf a = sOf (List.replicate 1 a).flatten
        simp
      · have e : a = [] := by rw [sOf_len] at q; simpa using q
        subst e
        show sOf [] = _
        congr 1
        simp
    · simp only [if_neg h2]
      congr 1
      show (List.replicate j.toNat a.toArray).foldl (· ++ ·) #[] = _
      rw [fold]
      simp
theorem RepL.rep {K : Kx} {B : Hp} {ρ : List Addr} {vs : List V} {xs : List D} (h : RepL K B ρ vs xs) : ∀ n : Nat, RepL K B ρ (List.replicate n vs).flatten (List.replicate n xs).flatten
  | 0 => .nil
  | n + 1 => by
    rw [List.replicate_succ, List.replicate_succ, List.flatten_cons, List.flatten_cons]
    exact h.append (RepL.rep h n)
theorem opd_mul : OpR X (binaryOp .Mult) (rOp (kx X M) dMul) := by
  intro pins s σ H x y v u Q I rx ry ⟨B, ρ, S, d, e, r, c, rd, re, g, k⟩
  unfold dMul at g
  split at g
  · obtain ⟨hz, rfl⟩ := guard_some g
    rw [rd.int] at rx
    rw [re.int] at ry
    rw [Bool.or_eq_true] at hz
    exact op_mul pins s σ H _ _ v u Q I rx ry ⟨_, _, rfl, rfl, hz.elim (fun z => .inl (of_decide_eq_true z)) (fun z => .inr (of_decide_eq_true z)), k _ H B ρ (.refl _ _ _) c (.int _)⟩
  · obtain ⟨hz, rfl⟩ := guard_some g
    rename_i a j
    rw [rd.str] at rx
    rw [re.int] at ry
    obtain ⟨t, rfl⟩ := rx
    obtain ⟨t', rfl⟩ := ry
    simp only [Bool.and_eq_true, decide_eq_true_eq] at hz
    obtain ⟨⟨h1, h2⟩, h3⟩ := hz
    refine SB.mul (PyProof.Rows.mulOk_of 1000 1000 (by rw [sOf_len]; exact h1) (by omega) (by omega) (by decide) (by decide)) fun t2 tk => ?_
    rw [txt_mul a j h2]
    exact ⟨.str _, H, I.tok tk, ⟨_, rfl⟩, k _ H B ρ (.refl _ _ _) c (.str _)⟩
  · obtain ⟨hz, rfl⟩ := guard_some g
    simp only [Bool.and_eq_true, decide_eq_true_eq] at hz
    obtain ⟨⟨h1, h2⟩, h3⟩ := hz
    obtain ⟨a, vs, rfl, q1, t1⟩ := rd.lst c
    rw [re.int] at ry
    refine op_rep pins s σ H _ _ v u Q I rx ry ⟨a, _, vs, rfl, rfl, q1, by omega, by omega, ?_, Post.new c (t1.rep _) k⟩
    rw [t1.length]
    refine Nat.le_trans (Nat.mul_le_mul h1 (show _ ≤ 1000 by omega)) (by decide)
  · cases g
theorem opd_div : OpR X (binaryOp .FloorDiv) (rOp (kx X M) dDiv) := by
  intro pins s σ H x y v u Q I rx ry ⟨B, ρ, S, d, e, r, c, rd, re, g, k⟩
  unfold dDiv at g
  split at g
  · obtain ⟨⟨h1, h2⟩, rfl⟩ := guard_some g
    rw [rd.int] at rx
    rw [re.int] at ry
    exact op_fdivW pins s σ H _ _ v u Q I rx ry ⟨_, _, rfl, rfl, ⟨h1, Nat.lt_of_lt_of_le (lt_log h1 h2) (by decide)⟩, k _ H B ρ (.refl _ _ _) c (.int _)⟩
  · cases g
theorem opd_mod : OpR X (binaryOp .Mod) (rOp (kx X M) dMod) := by
  intro pins s σ H x y v u Q I rx ry ⟨B, ρ, S, d, e, r, c, rd, re, g, k⟩
  unfold dMod at g
  split at g
  · obtain ⟨h1, rfl⟩ := guard_some g
    rw [rd.int] at rx
    rw [re.int] at ry
    exact op_mod pins s σ H _ _ v u Q I rx ry ⟨_, _, rfl, rfl, h1, k _ H B ρ (.refl _ _ _) c (.int _)⟩
  · cases g
theorem opd_pow : OpR X (binaryOp .Pow) (rOp (kx X M) dPow) := by
  intro pins s σ H x y v u Q I rx ry ⟨B, ρ, S, d, e, r, c, rd, re, g, k⟩
  unfold dPow at g
  split at g
  · obtain ⟨hz, rfl⟩ := guard_some g
    simp only [Bool.and_eq_true, decide_eq_true_eq, small64] at hz
    obtain ⟨⟨h1, h2⟩, h3⟩ := hz
    rw [rd.int] at rx
    rw [re.int] at ry
    exact op_pow pins s σ H _ _ v u Q I rx ry ⟨_, _, rfl, rfl, ⟨h2, by omega, by omega⟩, k _ H B ρ (.refl _ _ _) c (.int _)⟩
  · cases g
end
end DL
namespace DL
open PySem L2 SeqAt
open AutoSeq1 (wpAny_loadPart')
open MeetsSeq
theorem dct_eq_none {a : Addr} {dd : Option Addr} {es : Array DictEntry} {n : Nat} {sl : Array (Option Value)}  : Meets (Builtin.«dict.__eq__» ⟨[.ref a, .none], []⟩) (fun _ R st => st.heap.get? a = some ⟨.type "dict", dd, .dict es n, sl⟩ ∧ R (.ok (.ret .notImplemented)) st) :=
  .of_wp fun P w A R st hs => by obtain ⟨hp, g, d, tk, os⟩ := st; obtain ⟨hD, hr⟩ := hs; have f1 : isSubtype (.type "NoneType") (.type "dict") = pure false := (by rw [isSubtype_type]; kernel_rfl); wp_walk using wpAny_loadPart' hD, wpAny_load hD; exact ⟨_, rfl, hr⟩
theorem none_eq_dct {a : Addr} {dd : Option Addr} {es : Array DictEntry} {n : Nat} {sl : Array (Option Value)}  : Meets (Builtin.«NoneType.__eq__» ⟨[.none, .ref a], []⟩) (fun _ R st => st.heap.get? a = some ⟨.type "dict", dd, .dict es n, sl⟩ ∧ R (.ok (.ret .notImplemented)) st) :=
  .of_wp fun P w A R st hs => by obtain ⟨hp, g, d, tk, os⟩ := st; obtain ⟨hD, hr⟩ := hs; have f1 : isSubtype (.type "dict") (.type "NoneType") = pure false := (by rw [isSubtype_type]; kernel_rfl); wp_walk using wpAny_loadPart' hD, wpAny_load hD; exact ⟨_, rfl, hr⟩
theorem dct_eq_bool {a : Addr} {dd : Option Addr} {es : Array DictEntry} {n : Nat} {sl : Array (Option Value)} (b : Bool) : Meets (Builtin.«dict.__eq__» ⟨[.ref a, .bool b], []⟩) (fun _ R st => st.heap.get? a = some ⟨.type "dict", dd, .dict es n, sl⟩ ∧ R (.ok (.ret .notImplemented)) st) :=
  .of_wp fun P w A R st hs => by obtain ⟨hp, g, d, tk, os⟩ := st; obtain ⟨hD, hr⟩ := hs; have f1 : isSubtype (.type "bool") (.type "dict") = pure false := (by rw [isSubtype_type]; kernel_rfl); wp_walk using wpAny_loadPart' hD, wpAny_load hD; exact ⟨_, rfl, hr⟩
theorem bool_eq_dct {a : Addr} {dd : Option Addr} {es : Array DictEntry} {n : Nat} {sl : Array (Option Value)} (b : Bool) : Meets (Builtin.«int.__eq__» ⟨[.bool b, .ref a], []⟩) (fun _ R st => st.heap.get? a = some ⟨.type "dict", dd, .dict es n, sl⟩ ∧ R (.ok (.ret .notImplemented)) st) :=
  .of_wp fun P w A R st hs => by obtain ⟨hp, g, d, tk, os⟩ := st; obtain ⟨hD, hr⟩ := hs; have f1 : isSubtype (.type "dict") (.type "int") = pure false := (by rw [isSubtype_type]; kernel_rfl); wp_walk using wpAny_loadPart' hD, wpAny_load hD; exact ⟨_, rfl, hr⟩
theorem dct_eq_int {a : Addr} {dd : Option Addr} {es : Array DictEntry} {n : Nat} {sl : Array (Option Value)} (b : Int) (u : Tok) : Meets (Builtin.«dict.__eq__» ⟨[.ref a, .int b u], []⟩) (fun _ R st => st.heap.get? a = some ⟨.type "dict", dd, .dict es n, sl⟩ ∧ R (.ok (.ret .notImplemented)) st) :=
  .of_wp fun P w A R st hs => by obtain ⟨hp, g, d, tk, os⟩ := st; obtain ⟨hD, hr⟩ := hs; have f1 : isSubtype (.type "int") (.type "dict") = pure false := (by rw [isSubtype_type]; kernel_rfl); wp_walk using wpAny_loadPart' hD, wpAny_load hD; exact ⟨_, rfl, hr⟩
theorem int_eq_dct {a : Addr} {dd : Option Addr} {es : Array DictEntry} {n : Nat} {sl : Array (Option Value)} (b : Int) (u : Tok) : Meets (Builtin.«int.__eq__» ⟨[.int b u, .ref a], []⟩) (fun _ R st => st.heap.get? a = some ⟨.type "dict", dd, .dict es n, sl⟩ ∧ R (.ok (.ret .notImplemented)) st) :=
  .of_wp fun P w A R st hs => by obtain ⟨hp, g, d, tk, os⟩ := st; obtain ⟨hD, hr⟩ := hs; have f1 : isSubtype (.type "dict") (.type "int") = pure false := (by rw [isSubtype_type]; kernel_rfl); wp_walk using wpAny_loadPart' hD, wpAny_load hD; exact ⟨_, rfl, hr⟩
theorem dct_eq_str {a : Addr} {dd : Option Addr} {es : Array DictEntry} {n : Nat} {sl : Array (Option Value)} (b : Str) (u : Tok) : Meets (Builtin.«dict.__eq__» ⟨[.ref a, .str b u], []⟩) (fun _ R st => st.heap.get? a = some ⟨.type "dict", dd, .dict es n, sl⟩ ∧ R (.ok (.ret .notImplemented)) st) :=
  .of_wp fun P w A R st hs => by obtain ⟨hp, g, d, tk, os⟩ := st; obtain ⟨hD, hr⟩ := hs; have f1 : isSubtype (.type "str") (.type "dict") = pure false := (by rw [isSubtype_type]; kernel_rfl); wp_walk using wpAny_loadPart' hD, wpAny_load hD; exact ⟨_, rfl, hr⟩
theorem str_eq_dct {a : Addr} {dd : Option Addr} {es : Array DictEntry} {n : Nat} {sl : Array (Option Value)} (b : Str) (u : Tok) : Meets (Builtin.«str.__eq__» ⟨[.str b u, .ref a], []⟩) (fun _ R st => st.heap.get? a = some ⟨.type "dict", dd, .dict es n, sl⟩ ∧ R (.ok (.ret .notImplemented)) st) :=
  .of_wp fun P w A R st hs => by obtain ⟨hp, g, d, tk, os⟩ := st; obtain ⟨hD, hr⟩ := hs; have f1 : isSubtype (.type "dict") (.type "str") = pure false := (by rw [isSubtype_type]; kernel_rfl); wp_walk using wpAny_loadPart' hD, wpAny_load hD; exact ⟨_, rfl, hr⟩
theorem dct_eq_list {a : Addr} {dd : Option Addr} {es : Array DictEntry} {n : Nat} {sl : Array (Option Value)} {l : Addr} {dl : Option Addr} {its : Array Value} {m : Nat} {sl2 : Array (Option Value)}  : Meets (Builtin.«dict.__eq__» ⟨[.ref a, .ref l], []⟩) (fun _ R st => st.heap.get? a = some ⟨.type "dict", dd, .dict es n, sl⟩ ∧ st.heap.get? l = some ⟨.type "list", dl, .seq its m, sl2⟩ ∧ R (.ok (.ret .notImplemented)) st) :=
  .of_wp fun P w A R st hs => by obtain ⟨hp, g, d, tk, os⟩ := st; obtain ⟨hD, hL, hr⟩ := hs; have f1 : isSubtype (.type "list") (.type "dict") = pure false := (by rw [isSubtype_type]; kernel_rfl); wp_walk using wpAny_loadPart' hD, wpAny_load hD, wpAny_loadPart' hL, wpAny_load hL; exact ⟨_, rfl, hr⟩
theorem list_eq_dct {a : Addr} {dd : Option Addr} {es : Array DictEntry} {n : Nat} {sl : Array (Option Value)} {l : Addr} {dl : Option Addr} {its : Array Value} {m : Nat} {sl2 : Array (Option Value)}  : Meets (Builtin.«list.__eq__» ⟨[.ref l, .ref a], []⟩) (fun _ R st => st.heap.get? a = some ⟨.type "dict", dd, .dict es n, sl⟩ ∧ st.heap.get? l = some ⟨.type "list", dl, .seq its m, sl2⟩ ∧ R (.ok (.ret .notImplemented)) st) :=
  .of_wp fun P w A R st hs => by obtain ⟨hp, g, d, tk, os⟩ := st; obtain ⟨hD, hL, hr⟩ := hs; have f1 : isSubtype (.type "dict") (.type "list") = pure false := (by rw [isSubtype_type]; kernel_rfl); wp_walk using wpAny_loadPart' hD, wpAny_load hD, wpAny_loadPart' hL, wpAny_load hL; exact ⟨_, rfl, hr⟩
theorem dct_eq_tuple {a : Addr} {dd : Option Addr} {es : Array DictEntry} {n : Nat} {sl : Array (Option Value)} {l : Addr} {dl : Option Addr} {its : Array Value} {m : Nat} {sl2 : Array (Option Value)}  : Meets (Builtin.«dict.__eq__» ⟨[.ref a, .ref l], []⟩) (fun _ R st => st.heap.get? a = some ⟨.type "dict", dd, .dict es n, sl⟩ ∧ st.heap.get? l = some ⟨.type "tuple", dl, .seq its m, sl2⟩ ∧ R (.ok (.ret .notImplemented)) st) :=
  .of_wp fun P w A R st hs => by obtain ⟨hp, g, d, tk, os⟩ := st; obtain ⟨hD, hL, hr⟩ := hs; have f1 : isSubtype (.type "tuple") (.type "dict") = pure false := (by rw [isSubtype_type]; kernel_rfl); wp_walk using wpAny_loadPart' hD, wpAny_load hD, wpAny_loadPart' hL, wpAny_load hL; exact ⟨_, rfl, hr⟩
theorem tuple_eq_dct {a : Addr} {dd : Option Addr} {es : Array DictEntry} {n : Nat} {sl : Array (Option Value)} {l : Addr} {dl : Option Addr} {its : Array Value} {m : Nat} {sl2 : Array (Option Value)}  : Meets (Builtin.«tuple.__eq__» ⟨[.ref l, .ref a], []⟩) (fun _ R st => st.heap.get? a = some ⟨.type "dict", dd, .dict es n, sl⟩ ∧ st.heap.get? l = some ⟨.type "tuple", dl, .seq its m, sl2⟩ ∧ R (.ok (.ret .notImplemented)) st) :=
  .of_wp fun P w A R st hs => by obtain ⟨hp, g, d, tk, os⟩ := st; obtain ⟨hD, hL, hr⟩ := hs; have f1 : isSubtype (.type "dict") (.type "tuple") = pure false := (by rw [isSubtype_type]; kernel_rfl); wp_walk using wpAny_loadPart' hD, wpAny_load hD, wpAny_loadPart' hL, wpAny_load hL; exact ⟨_, rfl, hr⟩
theorem dct_ne_none {a : Addr} {dd : Option Addr} {es : Array DictEntry} {n : Nat} {sl : Array (Option Value)}  : Meets (Builtin.«dict.__ne__» ⟨[.ref a, .none], []⟩) (fun _ R st => st.heap.get? a = some ⟨.type "dict", dd, .dict es n, sl⟩ ∧ R (.ok (.ret .notImplemented)) st) :=
  .of_wp fun P w A R st hs => by obtain ⟨hp, g, d, tk, os⟩ := st; obtain ⟨hD, hr⟩ := hs; have f1 : isSubtype (.type "NoneType") (.type "dict") = pure false := (by rw [isSubtype_type]; kernel_rfl); wp_walk using wpAny_loadPart' hD, wpAny_load hD; exact ⟨_, rfl, hr⟩
theorem none_ne_dct {a : Addr} {dd : Option Addr} {es : Array DictEntry} {n : Nat} {sl : Array (Option Value)}  : Meets (Builtin.«NoneType.__ne__» ⟨[.none, .ref a], []⟩) (fun _ R st => st.heap.get? a = some ⟨.type "dict", dd, .dict es n, sl⟩ ∧ R (.ok (.ret .notImplemented)) st) :=
  .of_wp fun P w A R st hs => by obtain ⟨hp, g, d, tk, os⟩ := st; obtain ⟨hD, hr⟩ := hs; have f1 : isSubtype (.type "dict") (.type "NoneType") = pure false := (by rw [isSubtype_type]; kernel_rfl); wp_walk using wpAny_loadPart' hD, wpAny_load hD; exact ⟨_, rfl, hr⟩
theorem dct_ne_bool {a : Addr} {dd : Option Addr} {es : Array DictEntry} {n : Nat} {sl : Array (Option Value)} (b : Bool) : Meets (Builtin.«dict.__ne__» ⟨[.ref a, .bool b], []⟩) (fun _ R st => st.heap.get? a = some ⟨.type "dict", dd, .dict es n, sl⟩ ∧ R (.ok (.ret .notImplemented)) st) :=
  .of_wp fun P w A R st hs => by obtain ⟨hp, g, d, tk, os⟩ := st; obtain ⟨hD, hr⟩ := hs; have f1 : isSubtype (.type "bool") (.type "dict") = pure false := (by rw [isSubtype_type]; kernel_rfl); wp_walk using wpAny_loadPart' hD, wpAny_load hD; exact ⟨_, rfl, hr⟩
theorem bool_ne_dct {a : Addr} {dd : Option Addr} {es : Array DictEntry} {n : Nat} {sl : Array (Option Value)} (b : Bool) : Meets (Builtin.«int.__ne__» ⟨[.bool b, .ref a], []⟩) (fun _ R st => st.heap.get? a = some ⟨.type "dict", dd, .dict es n, sl⟩ ∧ R (.ok (.ret .notImplemented)) st) :=
  .of_wp fun P w A R st hs => by obtain ⟨hp, g, d, tk, os⟩ := st; obtain ⟨hD, hr⟩ := hs; have f1 : isSubtype (.type "dict") (.type "int") = pure false := (by rw [isSubtype_type]; kernel_rfl); wp_walk using wpAny_loadPart' hD, wpAny_load hD; exact ⟨_, rfl, hr⟩
theorem dct_ne_int {a : Addr} {dd : Option Addr} {es : Array DictEntry} {n : Nat} {sl : Array (Option Value)} (b : Int) (u : Tok) : Meets (Builtin.«dict.__ne__» ⟨[.ref a, .int b u], []⟩) (fun _ R st => st.heap.get? a = some ⟨.type "dict", dd, .dict es n, sl⟩ ∧ R (.ok (.ret .notImplemented)) st) :=
  .of_wp fun P w A R st hs => by obtain ⟨hp, g, d, tk, os⟩ := st; obtain ⟨hD, hr⟩ := hs; have f1 : isSubtype (.type "int") (.type "dict") = pure false := (by rw [isSubtype_type]; kernel_rfl); wp_walk using wpAny_loadPart' hD, wpAny_load hD; exact ⟨_, rfl, hr⟩
theorem int_ne_dct {a : Addr} {dd : Option Addr} {es : Array DictEntry} {n : Nat} {sl : Array (Option Value)} (b : Int) (u : Tok) : Meets (Builtin.«int.__ne__» ⟨[.int b u, .ref a], []⟩) (fun _ R st => st.heap.get? a = some ⟨.type "dict", dd, .dict es n, sl⟩ ∧ R (.ok (.ret .notImplemented)) st) :=
  .of_wp fun P w A R st hs => by obtain ⟨hp, g, d, tk, os⟩ := st; obtain ⟨hD, hr⟩ := hs; have f1 : isSubtype (.type "dict") (.type "int") = pure false := (by rw [isSubtype_type]; kernel_rfl); wp_walk using wpAny_loadPart' hD, wpAny_load hD; exact ⟨_, rfl, hr⟩
theorem dct_ne_str {a : Addr} {dd : Option Addr} {es : Array DictEntry} {n : Nat} {sl : Array (Option Value)} (b : Str) (u : Tok) : Meets (Builtin.«dict.__ne__» ⟨[.ref a, .str b u], []⟩) (fun _ R st => st.heap.get? a = some ⟨.type "dict", dd, .dict es n, sl⟩ ∧ R (.ok (.ret .notImplemented)) st) :=
  .of_wp fun P w A R st hs => by obtain ⟨hp, g, d, tk, os⟩ := st; obtain ⟨hD, hr⟩ := hs; have f1 : isSubtype (.type "str") (.type "dict") = pure false := (by rw [isSubtype_type]; kernel_rfl); wp_walk using wpAny_loadPart' hD, wpAny_load hD; exact ⟨_, rfl, hr⟩
theorem str_ne_dct {a : Addr} {dd : Option Addr} {es : Array DictEntry} {n : Nat} {sl : Array (Option Value)} (b : Str) (u : Tok) : Meets (Builtin.«str.__ne__» ⟨[.str b u, .ref a], []⟩) (fun _ R st => st.heap.get? a = some ⟨.type "dict", dd, .dict es n, sl⟩ ∧ R (.ok (.ret .notImplemented)) st) :=
  .of_wp fun P w A R st hs => by obtain ⟨hp, g, d, tk, os⟩ := st; obtain ⟨hD, hr⟩ := hs; have f1 : isSubtype (.type "dict") (.type "str") = pure false := (by rw [isSubtype_type]; kernel_rfl); wp_walk using wpAny_loadPart' hD, wpAny_load hD; exact ⟨_, rfl, hr⟩
theorem dct_ne_list {a : Addr} {dd : Option Addr} {es : Array DictEntry} {n : Nat} {sl : Array (Option Value)} {l : Addr} {dl : Option Addr} {its : Array Value} {m : Nat} {sl2 : Array (Option Value)}  : Meets (Builtin.«dict.__ne__» ⟨[.ref a, .ref l], []⟩) (fun _ R st => st.heap.get? a = some ⟨.type "dict", dd, .dict es n, sl⟩ ∧ st.heap.get? l = some ⟨.type "list", dl, .seq its m, sl2⟩ ∧ R (.ok (.ret .notImplemented)) st) :=
  .of_wp fun P w A R st hs => by obtain ⟨hp, g, d, tk, os⟩ := st; obtain ⟨hD, hL, hr⟩ := hs; have f1 : isSubtype (.type "list") (.type "dict") = pure false := (by rw [isSubtype_type]; kernel_rfl); wp_walk using wpAny_loadPart' hD, wpAny_load hD, wpAny_loadPart' hL, wpAny_load hL; exact ⟨_, rfl, hr⟩
theorem list_ne_dct {a : Addr} {dd : Option Addr} {es : Array DictEntry} {n : Nat} {sl : Array (Option Value)} {l : Addr} {dl : Option Addr} {its : Array Value} {m : Nat} {sl2 : Array (Option Value)}  : Meets (Builtin.«list.__ne__» ⟨[.ref l, .ref a], []⟩) (fun _ R st => st.heap.get? a = some ⟨.type "dict", dd, .dict es n, sl⟩ ∧ st.heap.get? l = some ⟨.type "list", dl, .seq its m, sl2⟩ ∧ R (.ok (.ret .notImplemented)) st) :=
  .of_wp fun P w A R st hs => by obtain ⟨hp, g, d, tk, os⟩ := st; obtain ⟨hD, hL, hr⟩ := hs; have f1 : isSubtype (.type "dict") (.type "list") = pure false := (by rw [isSubtype_type]; kernel_rfl); wp_walk using wpAny_loadPart' hD, wpAny_load hD, wpAny_loadPart' hL, wpAny_load hL; exact ⟨_, rfl, hr⟩
theorem dct_ne_tuple {a : Addr} {dd : Option Addr} {es : Array DictEntry} {n : Nat} {sl : Array (Option Value)} {l : Addr} {dl : Option Addr} {its : Array Value} {m : Nat} {sl2 : Array (Option Value)}  : Meets (Builtin.«dict.__ne__» ⟨[.ref a, .ref l], []⟩) (fun _ R st => st.heap.get? a = some ⟨.type "dict", dd, .dict es n, sl⟩ ∧ st.heap.get? l = some ⟨.type "tuple", dl, .seq its m, sl2⟩ ∧ R (.ok (.ret .notImplemented)) st) :=
  .of_wp fun P w A R st hs => by obtain ⟨hp, g, d, tk, os⟩ := st; obtain ⟨hD, hL, hr⟩ := hs; have f1 : isSubtype (.type "tuple") (.type "dict") = pure false := (by rw [isSubtype_type]; kernel_rfl); wp_walk using wpAny_loadPart' hD, wpAny_load hD, wpAny_loadPart' hL, wpAny_load hL; exact ⟨_, rfl, hr⟩
theorem tuple_ne_dct {a : Addr} {dd : Option Addr} {es : Array DictEntry} {n : Nat} {sl : Array (Option Value)} {l : Addr} {dl : Option Addr} {its : Array Value} {m : Nat} {sl2 : Array (Option Value)}  : Meets (Builtin.«tuple.__ne__» ⟨[.ref l, .ref a], []⟩) (fun _ R st => st.heap.get? a = some ⟨.type "dict", dd, .dict es n, sl⟩ ∧ st.heap.get? l = some ⟨.type "tuple", dl, .seq its m, sl2⟩ ∧ R (.ok (.ret .notImplemented)) st) :=
  .of_wp fun P w A R st hs => by obtain ⟨hp, g, d, tk, os⟩ := st; obtain ⟨hD, hL, hr⟩ := hs; have f1 : isSubtype (.type "dict") (.type "tuple") = pure false := (by rw [isSubtype_type]; kernel_rfl); wp_walk using wpAny_loadPart' hD, wpAny_load hD, wpAny_loadPart' hL, wpAny_load hL; exact ⟨_, rfl, hr⟩
section
variable {A : Around} {s : Shared}
theorem rc_dct_none_at {a : Addr} {dd : Option Addr} {es : Array DictEntry} {n : Nat} {sl : Array (Option Value)}  (hD : s.heap.get? a = some ⟨.type "dict", dd, .dict es n, sl⟩) (hu : A.units < cLine) : RcAt A s (.ref a) (.none) false := fun P w E Q hq0 =>
  rc_eq_decline_or (k := false) ⟨_, hD, rfl⟩ rfl (by decide) (by rw [isSubtype_type]; kernel_rfl) F.slot_dict_eq F.slot_NoneType_eq_refl
    (fun _ hq => call_meets F.slot_dict_eq ⟨_, hD, rfl⟩ F.entry_dict_eq (F.args_dict_eq_2 _ _) (dct_eq_none ) ⟨hD, hq⟩)
    (fun _ hq => call_meets F.slot_NoneType_eq_refl rfl F.entry_NoneType_eq (F.args_NoneType_eq_2 _ _) (none_eq_dct ) ⟨hD, hq⟩)
    (fun _ hq => wpAny_of_eq (rfl : isSame (.ref a) (.none) = pure false) hq) (.inr hu) hq0
theorem rn_dct_none_at {a : Addr} {dd : Option Addr} {es : Array DictEntry} {n : Nat} {sl : Array (Option Value)}  (hD : s.heap.get? a = some ⟨.type "dict", dd, .dict es n, sl⟩) (hu : A.units < cLine) : RcNeAt A s (.ref a) (.none) true := fun P w E Q hq0 =>
  rc_ne_decline_or (k := false) ⟨_, hD, rfl⟩ rfl (by decide) (by rw [isSubtype_type]; kernel_rfl) F.slot_dict_ne F.slot_NoneType_ne_refl
    (fun _ hq => call_meets F.slot_dict_ne ⟨_, hD, rfl⟩ F.entry_dict_ne (F.args_dict_ne_2 _ _) (dct_ne_none ) ⟨hD, hq⟩)
    (fun _ hq => call_meets F.slot_NoneType_ne_refl rfl F.entry_NoneType_ne (F.args_NoneType_ne_2 _ _) (none_ne_dct ) ⟨hD, hq⟩)
    (fun _ hq => wpAny_of_eq (rfl : isSame (.ref a) (.none) = pure false) hq) (.inr hu) hq0
theorem eqa_dct_none {a : Addr} {dd : Option Addr} {es : Array DictEntry} {n : Nat} {sl : Array (Option Value)}  (hD : s.heap.get? a = some ⟨.type "dict", dd, .dict es n, sl⟩) (hu : A.units < cLine) : EqAt A s (.ref a) (.none) false ∧ RcAt A s (.ref a) (.none) false ∧ RcNeAt A s (.ref a) (.none) (!false) := by
  refine ⟨fun P w E Q hq0 => ?_, rc_dct_none_at  hD hu, rn_dct_none_at  hD hu⟩
  unfold eqBool
  exact wpAny_holding (wpAny_ite_split (fun hab => absurd (eq_of_beq hab) nofun) fun _ => wpAny_bind (rc_dct_none_at  hD hu P w E _ (wpAny_truthy_bool hq0)))
theorem rc_none_dct_at {a : Addr} {dd : Option Addr} {es : Array DictEntry} {n : Nat} {sl : Array (Option Value)}  (hD : s.heap.get? a = some ⟨.type "dict", dd, .dict es n, sl⟩) (hu : A.units < cLine) : RcAt A s (.none) (.ref a) false := fun P w E Q hq0 =>
  rc_eq_decline_or (k := false) rfl ⟨_, hD, rfl⟩ (by decide) (by rw [isSubtype_type]; kernel_rfl) F.slot_NoneType_eq F.slot_dict_eq_refl
    (fun _ hq => call_meets F.slot_NoneType_eq rfl F.entry_NoneType_eq (F.args_NoneType_eq_2 _ _) (none_eq_dct ) ⟨hD, hq⟩)
    (fun _ hq => call_meets F.slot_dict_eq_refl ⟨_, hD, rfl⟩ F.entry_dict_eq (F.args_dict_eq_2 _ _) (dct_eq_none ) ⟨hD, hq⟩)
    (fun _ hq => wpAny_of_eq (rfl : isSame (.none) (.ref a) = pure false) hq) (.inr hu) hq0
theorem rn_none_dct_at {a : Addr} {dd : Option Addr} {es : Array DictEntry} {n : Nat} {sl : Array (Option Value)}  (hD : s.heap.get? a = some ⟨.type "dict", dd, .dict es n, sl⟩) (hu : A.units < cLine) : RcNeAt A s (.none) (.ref a) true := fun P w E Q hq0 =>
  rc_ne_decline_or (k := false) rfl ⟨_, hD, rfl⟩ (by decide) (by rw [isSubtype_type]; kernel_rfl) F.slot_NoneType_ne F.slot_dict_ne_refl
    (fun _ hq => call_meets F.slot_NoneType_ne rfl F.entry_NoneType_ne (F.args_NoneType_ne_2 _ _) (none_ne_dct ) ⟨hD, hq⟩)
    (fun _ hq => call_meets F.slot_dict_ne_refl ⟨_, hD, rfl⟩ F.entry_dict_ne (F.args_dict_ne_2 _ _) (dct_ne_none ) ⟨hD, hq⟩)
    (fun _ hq => wpAny_of_eq (rfl : isSame (.none) (.ref a) = pure false) hq) (.inr hu) hq0
theorem eqa_none_dct {a : Addr} {dd : Option Addr} {es : Array DictEntry} {n : Nat} {sl : Array (Option Value)}  (hD : s.heap.get? a = some ⟨.type "dict", dd, .dict es n, sl⟩) (hu : A.units < cLine) : EqAt A s (.none) (.ref a) false ∧ RcAt A s (.none) (.ref a) false ∧ RcNeAt A s (.none) (.ref a) (!false) := by
  refine ⟨fun P w E Q hq0 => ?_, rc_none_dct_at  hD hu, rn_none_dct_at  hD hu⟩
  unfold eqBool
  exact wpAny_holding (wpAny_ite_split (fun hab => absurd (eq_of_beq hab) nofun) fun _ => wpAny_bind (rc_none_dct_at  hD hu P w E _ (wpAny_truthy_bool hq0)))
theorem rc_dct_bool_at {a : Addr} {dd : Option Addr} {es : Array DictEntry} {n : Nat} {sl : Array (Option Value)} (b : Bool) (hD : s.heap.get? a = some ⟨.type "dict", dd, .dict es n, sl⟩) (hu : A.units < cLine) : RcAt A s (.ref a) (.bool b) false := fun P w E Q hq0 =>
  rc_eq_decline_or (k := false) ⟨_, hD, rfl⟩ rfl (by decide) (by rw [isSubtype_type]; kernel_rfl) F.slot_dict_eq F.slot_bool_eq_refl
    (fun _ hq => call_meets F.slot_dict_eq ⟨_, hD, rfl⟩ F.entry_dict_eq (F.args_dict_eq_2 _ _) (dct_eq_bool b) ⟨hD, hq⟩)
    (fun _ hq => call_meets F.slot_bool_eq_refl rfl F.entry_int_eq (F.args_int_eq_2 _ _) (bool_eq_dct b) ⟨hD, hq⟩)
    (fun _ hq => wpAny_of_eq (rfl : isSame (.ref a) (.bool b) = pure false) hq) (.inr hu) hq0
theorem rn_dct_bool_at {a : Addr} {dd : Option Addr} {es : Array DictEntry} {n : Nat} {sl : Array (Option Value)} (b : Bool) (hD : s.heap.get? a = some ⟨.type "dict", dd, .dict es n, sl⟩) (hu : A.units < cLine) : RcNeAt A s (.ref a) (.bool b) true := fun P w E Q hq0 =>
  rc_ne_decline_or (k := false) ⟨_, hD, rfl⟩ rfl (by decide) (by rw [isSubtype_type]; kernel_rfl) F.slot_dict_ne F.slot_bool_ne_refl
    (fun _ hq => call_meets F.slot_dict_ne ⟨_, hD, rfl⟩ F.entry_dict_ne (F.args_dict_ne_2 _ _) (dct_ne_bool b) ⟨hD, hq⟩)
    (fun _ hq => call_meets F.slot_bool_ne_refl rfl F.entry_int_ne (F.args_int_ne_2 _ _) (bool_ne_dct b) ⟨hD, hq⟩)
    (fun _ hq => wpAny_of_eq (rfl : isSame (.ref a) (.bool b) = pure false) hq) (.inr hu) hq0
theorem eqa_dct_bool {a : Addr} {dd : Option Addr} {es : Array DictEntry} {n : Nat} {sl : Array (Option Value)} (b : Bool) (hD : s.heap.get? a = some ⟨.type "dict", dd, .dict es n, sl⟩) (hu : A.units < cLine) : EqAt A s (.ref a) (.bool b) false ∧ RcAt A s (.ref a) (.bool b) false ∧ RcNeAt A s (.ref a) (.bool b) (!false) := by
  refine ⟨fun P w E Q hq0 => ?_, rc_dct_bool_at b hD hu, rn_dct_bool_at b hD hu⟩
  unfold eqBool
  exact wpAny_holding (wpAny_ite_split (fun hab => absurd (eq_of_beq hab) nofun) fun _ => wpAny_bind (rc_dct_bool_at b hD hu P w E _ (wpAny_truthy_bool hq0)))
theorem rc_bool_dct_at {a : Addr} {dd : Option Addr} {es : Array DictEntry} {n : Nat} {sl : Array (Option Value)} (b : Bool) (hD : s.heap.get? a = some ⟨.type "dict", dd, .dict es n, sl⟩) (hu : A.units < cLine) : RcAt A s (.bool b) (.ref a) false := fun P w E Q hq0 =>
  rc_eq_decline_or (k := false) rfl ⟨_, hD, rfl⟩ (by decide) (by rw [isSubtype_type]; kernel_rfl) F.slot_bool_eq F.slot_dict_eq_refl
    (fun _ hq => call_meets F.slot_bool_eq rfl F.entry_int_eq (F.args_int_eq_2 _ _) (bool_eq_dct b) ⟨hD, hq⟩)
    (fun _ hq => call_meets F.slot_dict_eq_refl ⟨_, hD, rfl⟩ F.entry_dict_eq (F.args_dict_eq_2 _ _) (dct_eq_bool b) ⟨hD, hq⟩)
    (fun _ hq => wpAny_of_eq (rfl : isSame (.bool b) (.ref a) = pure false) hq) (.inr hu) hq0
theorem rn_bool_dct_at {a : Addr} {dd : Option Addr} {es : Array DictEntry} {n : Nat} {sl : Array (Option Value)} (b : Bool) (hD : s.heap.get? a = some ⟨.type "dict", dd, .dict es n, sl⟩) (hu : A.units < cLine) : RcNeAt A s (.bool b) (.ref a) true := fun P w E Q hq0 =>
  rc_ne_decline_or (k := false) rfl ⟨_, hD, rfl⟩ (by decide) (by rw [isSubtype_type]; kernel_rfl) F.slot_bool_ne F.slot_dict_ne_refl
    (fun _ hq => call_meets F.slot_bool_ne rfl F.entry_int_ne (F.args_int_ne_2 _ _) (bool_ne_dct b) ⟨hD, hq⟩)
    (fun _ hq => call_meets F.slot_dict_ne_refl ⟨_, hD, rfl⟩ F.entry_dict_ne (F.args_dict_ne_2 _ _) (dct_ne_bool b) ⟨hD, hq⟩)
    (fun _ hq => wpAny_of_eq (rfl : isSame (.bool b) (.ref a) = pure false) hq) (.inr hu) hq0
theorem eqa_bool_dct {a : Addr} {dd : Option Addr} {es : Array DictEntry} {n : Nat} {sl : Array (Option Value)} (b : Bool) (hD : s.heap.get? a = some ⟨.type "dict", dd, .dict es n, sl⟩) (hu : A.units < cLine) : EqAt A s (.bool b) (.ref a) false ∧ RcAt A s (.bool b) (.ref a) false ∧ RcNeAt A s (.bool b) (.ref a) (!false) := by
  refine ⟨fun P w E Q hq0 => ?_, rc_bool_dct_at b hD hu, rn_bool_dct_at b hD hu⟩
  unfold eqBool
  exact wpAny_holding (wpAny_ite_split (fun hab => absurd (eq_of_beq hab) nofun) fun _ => wpAny_bind (rc_bool_dct_at b hD hu P w E _ (wpAny_truthy_bool hq0)))
theorem rc_dct_int_at {a : Addr} {dd : Option Addr} {es : Array DictEntry} {n : Nat} {sl : Array (Option Value)} (b : Int) (u : Tok) (hD : s.heap.get? a = some ⟨.type "dict", dd, .dict es n, sl⟩) (hu : A.units < cLine) : RcAt A s (.ref a) (.int b u) false := fun P w E Q hq0 =>
  rc_eq_decline_or (k := false) ⟨_, hD, rfl⟩ rfl (by decide) (by rw [isSubtype_type]; kernel_rfl) F.slot_dict_eq F.slot_int_eq_refl
    (fun _ hq => call_meets F.slot_dict_eq ⟨_, hD, rfl⟩ F.entry_dict_eq (F.args_dict_eq_2 _ _) (dct_eq_int b u) ⟨hD, hq⟩)
    (fun _ hq => call_meets F.slot_int_eq_refl rfl F.entry_int_eq (F.args_int_eq_2 _ _) (int_eq_dct b u) ⟨hD, hq⟩)
    (fun _ hq => wpAny_of_eq (rfl : isSame (.ref a) (.int b u) = pure false) hq) (.inr hu) hq0
theorem rn_dct_int_at {a : Addr} {dd : Option Addr} {es : Array DictEntry} {n : Nat} {sl : Array (Option Value)} (b : Int) (u : Tok) (hD : s.heap.get? a = some ⟨.type "dict", dd, .dict es n, sl⟩) (hu : A.units < cLine) : RcNeAt A s (.ref a) (.int b u) true := fun P w E Q hq0 =>
  rc_ne_decline_or (k := false) ⟨_, hD, rfl⟩ rfl (by decide) (by rw [isSubtype_type]; kernel_rfl) F.slot_dict_ne F.slot_int_ne_refl
    (fun _ hq => call_meets F.slot_dict_ne ⟨_, hD, rfl⟩ F.entry_dict_ne (F.args_dict_ne_2 _ _) (dct_ne_int b u) ⟨hD, hq⟩)
    (fun _ hq => call_meets F.slot_int_ne_refl rfl F.entry_int_ne (F.args_int_ne_2 _ _) (int_ne_dct b u) ⟨hD, hq⟩)
    (fun _ hq => wpAny_of_eq (rfl : isSame (.ref a) (.int b u) = pure false) hq) (.inr hu) hq0
theorem eqa_dct_int {a : Addr} {dd : Option Addr} {es : Array DictEntry} {n : Nat} {sl : Array (Option Value)} (b : Int) (u : Tok) (hD : s.heap.get? a = some ⟨.type "dict", dd, .dict es n, sl⟩) (hu : A.units < cLine) : EqAt A s (.ref a) (.int b u) false ∧ RcAt A s (.ref a) (.int b u) false ∧ RcNeAt A s (.ref a) (.int b u) (!false) := by
  refine ⟨fun P w E Q hq0 => ?_, rc_dct_int_at b u hD hu, rn_dct_int_at b u hD hu⟩
  unfold eqBool
  exact wpAny_holding (wpAny_ite_split (fun hab => absurd (eq_of_beq hab) nofun) fun _ => wpAny_bind (rc_dct_int_at b u hD hu P w E _ (wpAny_truthy_bool hq0)))
theorem rc_int_dct_at {a : Addr} {dd : Option Addr} {es : Array DictEntry} {n : Nat} {sl : Array (Option Value)} (b : Int) (u : Tok) (hD : s.heap.get? a = some ⟨.type "dict", dd, .dict es n, sl⟩) (hu : A.units < cLine) : RcAt A s (.int b u) (.ref a) false := fun P w E Q hq0 =>
  rc_eq_decline_or (k := false) rfl ⟨_, hD, rfl⟩ (by decide) (by rw [isSubtype_type]; kernel_rfl) F.slot_int_eq F.slot_dict_eq_refl
    (fun _ hq => call_meets F.slot_int_eq rfl F.entry_int_eq (F.args_int_eq_2 _ _) (int_eq_dct b u) ⟨hD, hq⟩)
    (fun _ hq => call_meets F.slot_dict_eq_refl ⟨_, hD, rfl⟩ F.entry_dict_eq (F.args_dict_eq_2 _ _) (dct_eq_int b u) ⟨hD, hq⟩)
    (fun _ hq => wpAny_of_eq (rfl : isSame (.int b u) (.ref a) = pure false) hq) (.inr hu) hq0
theorem rn_int_dct_at {a : Addr} {dd : Option Addr} {es : Array DictEntry} {n : Nat} {sl : Array (Option Value)} (b : Int) (u : Tok) (hD : s.heap.get? a = some ⟨.type "dict", dd, .dict es n, sl⟩) (hu : A.units < cLine) : RcNeAt A s (.int b u) (.ref a) true := fun P w E Q hq0 =>
  rc_ne_decline_or (k := false) rfl ⟨_, hD, rfl⟩ (by decide) (by rw [isSubtype_type]; kernel_rfl) F.slot_int_ne F.slot_dict_ne_refl
    (fun _ hq => call_meets F.slot_int_ne rfl F.entry_int_ne (F.args_int_ne_2 _ _) (int_ne_dct b u) ⟨hD, hq⟩)
    (fun _ hq => call_meets F.slot_dict_ne_refl ⟨_, hD, rfl⟩ F.entry_dict_ne (F.args_dict_ne_2 _ _) (dct_ne_int b u) ⟨hD, hq⟩)
    (fun _ hq => wpAny_of_eq (rfl : isSame (.int b u) (.ref a) = pure false) hq) (.inr hu) hq0
theorem eqa_int_dct {a : Addr} {dd : Option Addr} {es : Array DictEntry} {n : Nat} {sl : Array (Option Value)} (b : Int) (u : Tok) (hD : s.heap.get? a = some ⟨.type "dict", dd, .dict es n, sl⟩) (hu : A.units < cLine) : EqAt A s (.int b u) (.ref a) false ∧ RcAt A s (.int b u) (.ref a) false ∧ RcNeAt A s (.int b u) (.ref a) (!false) := by
  refine ⟨fun P w E Q hq0 => ?_, rc_int_dct_at b u hD hu, rn_int_dct_at b u hD hu⟩
  unfold eqBool
  exact wpAny_holding (wpAny_ite_split (fun hab => absurd (eq_of_beq hab) nofun) fun _ => wpAny_bind (rc_int_dct_at b u hD hu P w E _ (wpAny_truthy_bool hq0)))
theorem rc_dct_str_at {a : Addr} {dd : Option Addr} {es : Array DictEntry} {n : Nat} {sl : Array (Option Value)} (b : Str) (u : Tok) (hD : s.heap.get? a = some ⟨.type "dict", dd, .dict es n, sl⟩) (hu : A.units < cLine) : RcAt A s (.ref a) (.str b u) false := fun P w E Q hq0 =>
  rc_eq_decline_or (k := false) ⟨_, hD, rfl⟩ (typeIs_str s b u) (by decide) (by rw [isSubtype_type]; kernel_rfl) F.slot_dict_eq F.slot_str_eq_refl
    (fun _ hq => call_meets F.slot_dict_eq ⟨_, hD, rfl⟩ F.entry_dict_eq (F.args_dict_eq_2 _ _) (dct_eq_str b u) ⟨hD, hq⟩)
    (fun _ hq => call_meets F.slot_str_eq_refl (typeIs_str s b u) F.entry_str_eq (F.args_str_eq_2 _ _) (str_eq_dct b u) ⟨hD, hq⟩)
    (fun _ hq => wpAny_of_eq (rfl : isSame (.ref a) (.str b u) = pure false) hq) (.inr hu) hq0
theorem rn_dct_str_at {a : Addr} {dd : Option Addr} {es : Array DictEntry} {n : Nat} {sl : Array (Option Value)} (b : Str) (u : Tok) (hD : s.heap.get? a = some ⟨.type "dict", dd, .dict es n, sl⟩) (hu : A.units < cLine) : RcNeAt A s (.ref a) (.str b u) true := fun P w E Q hq0 =>
  rc_ne_decline_or (k := false) ⟨_, hD, rfl⟩ (typeIs_str s b u) (by decide) (by rw [isSubtype_type]; kernel_rfl) F.slot_dict_ne F.slot_str_ne_refl
    (fun _ hq => call_meets F.slot_dict_ne ⟨_, hD, rfl⟩ F.entry_dict_ne (F.args_dict_ne_2 _ _) (dct_ne_str b u) ⟨hD, hq⟩)
    (fun _ hq => call_meets F.slot_str_ne_refl (typeIs_str s b u) F.entry_str_ne (F.args_str_ne_2 _ _) (str_ne_dct b u) ⟨hD, hq⟩)
    (fun _ hq => wpAny_of_eq (rfl : isSame (.ref a) (.str b u) = pure false) hq) (.inr hu) hq0
theorem eqa_dct_str {a : Addr} {dd : Option Addr} {es : Array DictEntry} {n : Nat} {sl : Array (Option Value)} (b : Str) (u : Tok) (hD : s.heap.get? a = some ⟨.type "dict", dd, .dict es n, sl⟩) (hu : A.units < cLine) : EqAt A s (.ref a) (.str b u) false ∧ RcAt A s (.ref a) (.str b u) false ∧ RcNeAt A s (.ref a) (.str b u) (!false) := by
  refine ⟨fun P w E Q hq0 => ?_, rc_dct_str_at b u hD hu, rn_dct_str_at b u hD hu⟩
  unfold eqBool
  exact wpAny_holding (wpAny_ite_split (fun hab => absurd (eq_of_beq hab) nofun) fun _ => wpAny_bind (rc_dct_str_at b u hD hu P w E _ (wpAny_truthy_bool hq0)))
theorem rc_str_dct_at {a : Addr} {dd : Option Addr} {es : Array DictEntry} {n : Nat} {sl : Array (Option Value)} (b : Str) (u : Tok) (hD : s.heap.get? a = some ⟨.type "dict", dd, .dict es n, sl⟩) (hu : A.units < cLine) : RcAt A s (.str b u) (.ref a) false := fun P w E Q hq0 =>
  rc_eq_decline_or (k := false) (typeIs_str s b u) ⟨_, hD, rfl⟩ (by decide) (by rw [isSubtype_type]; kernel_rfl) F.slot_str_eq F.slot_dict_eq_refl
    (fun _ hq => call_meets F.slot_str_eq (typeIs_str s b u) F.entry_str_eq (F.args_str_eq_2 _ _) (str_eq_dct b u) ⟨hD, hq⟩)
    (fun _ hq => call_meets F.slot_dict_eq_refl ⟨_, hD, rfl⟩ F.entry_dict_eq (F.args_dict_eq_2 _ _) (dct_eq_str b u) ⟨hD, hq⟩)
    (fun _ hq => wpAny_of_eq (rfl : isSame (.str b u) (.ref a) = pure false) hq) (.inr hu) hq0
theorem rn_str_dct_at {a : Addr} {dd : Option Addr} {es : Array DictEntry} {n : Nat} {sl : Array (Option Value)} (b : Str) (u : Tok) (hD : s.heap.get? a = some ⟨.type "dict", dd, .dict es n, sl⟩) (hu : A.units < cLine) : RcNeAt A s (.str b u) (.ref a) true := fun P w E Q hq0 =>
  rc_ne_decline_or (k := false) (typeIs_str s b u) ⟨_, hD, rfl⟩ (by decide) (by rw [isSubtype_type]; kernel_rfl) F.slot_str_ne F.slot_dict_ne_refl
    (fun _ hq => call_meets F.slot_str_ne (typeIs_str s b u) F.entry_str_ne (F.args_str_ne_2 _ _) (str_ne_dct b u) ⟨hD, hq⟩)
    (fun _ hq => call_meets F.slot_dict_ne_refl ⟨_, hD, rfl⟩ F.entry_dict_ne (F.args_dict_ne_2 _ _) (dct_ne_str b u) ⟨hD, hq⟩)
    (fun _ hq => wpAny_of_eq (rfl : isSame (.str b u) (.ref a) = pure false) hq) (.inr hu) hq0
theorem eqa_str_dct {a : Addr} {dd : Option Addr} {es : Array DictEntry} {n : Nat} {sl : Array (Option Value)} (b : Str) (u : Tok) (hD : s.heap.get? a = some ⟨.type "dict", dd, .dict es n, sl⟩) (hu : A.units < cLine) : EqAt A s (.str b u) (.ref a) false ∧ RcAt A s (.str b u) (.ref a) false ∧ RcNeAt A s (.str b u) (.ref a) (!false) := by
  refine ⟨fun P w E Q hq0 => ?_, rc_str_dct_at b u hD hu, rn_str_dct_at b u hD hu⟩
  unfold eqBool
  exact wpAny_holding (wpAny_ite_split (fun hab => absurd (eq_of_beq hab) nofun) fun _ => wpAny_bind (rc_str_dct_at b u hD hu P w E _ (wpAny_truthy_bool hq0)))
theorem ne_list_dct {a : Addr} {dd : Option Addr} {es : Array DictEntry} {n : Nat} {sl : Array (Option Value)} {l : Addr} {dl : Option Addr} {its : Array Value} {m : Nat} {sl2 : Array (Option Value)}  (hD : s.heap.get? a = some ⟨.type "dict", dd, .dict es n, sl⟩) (hL : s.heap.get? l = some ⟨.type "list", dl, .seq its m, sl2⟩) : a ≠ l := fun e => by
  subst e
  rw [hD] at hL
  injection hL with hL
  injection hL with h1
  exact absurd (Value.type.inj h1) (by decide)
theorem rc_dct_list_at {a : Addr} {dd : Option Addr} {es : Array DictEntry} {n : Nat} {sl : Array (Option Value)} {l : Addr} {dl : Option Addr} {its : Array Value} {m : Nat} {sl2 : Array (Option Value)}  (hD : s.heap.get? a = some ⟨.type "dict", dd, .dict es n, sl⟩) (hL : s.heap.get? l = some ⟨.type "list", dl, .seq its m, sl2⟩) (hu : A.units < cLine) : RcAt A s (.ref a) (.ref l) false := fun P w E Q hq0 =>
  rc_eq_decline_or (k := false) ⟨_, hD, rfl⟩ ⟨_, hL, rfl⟩ (by decide) (by rw [isSubtype_type]; kernel_rfl) F.slot_dict_eq F.slot_list_eq_refl
    (fun _ hq => call_meets F.slot_dict_eq ⟨_, hD, rfl⟩ F.entry_dict_eq (F.args_dict_eq_2 _ _) (dct_eq_list ) ⟨hD, hL, hq⟩)
    (fun _ hq => call_meets F.slot_list_eq_refl ⟨_, hL, rfl⟩ F.entry_list_eq (F.args_list_eq_2 _ _) (list_eq_dct ) ⟨hD, hL, hq⟩)
    (fun _ hq => wpAny_isSame_ref_other (ne_list_dct hD hL) hD hL (by simp) hq) (.inr hu) hq0
theorem rn_dct_list_at {a : Addr} {dd : Option Addr} {es : Array DictEntry} {n : Nat} {sl : Array (Option Value)} {l : Addr} {dl : Option Addr} {its : Array Value} {m : Nat} {sl2 : Array (Option Value)}  (hD : s.heap.get? a = some ⟨.type "dict", dd, .dict es n, sl⟩) (hL : s.heap.get? l = some ⟨.type "list", dl, .seq its m, sl2⟩) (hu : A.units < cLine) : RcNeAt A s (.ref a) (.ref l) true := fun P w E Q hq0 =>
  rc_ne_decline_or (k := false) ⟨_, hD, rfl⟩ ⟨_, hL, rfl⟩ (by decide) (by rw [isSubtype_type]; kernel_rfl) F.slot_dict_ne F.slot_list_ne_refl
    (fun _ hq => call_meets F.slot_dict_ne ⟨_, hD, rfl⟩ F.entry_dict_ne (F.args_dict_ne_2 _ _) (dct_ne_list ) ⟨hD, hL, hq⟩)
    (fun _ hq => call_meets F.slot_list_ne_refl ⟨_, hL, rfl⟩ F.entry_list_ne (F.args_list_ne_2 _ _) (list_ne_dct ) ⟨hD, hL, hq⟩)
    (fun _ hq => wpAny_isSame_ref_other (ne_list_dct hD hL) hD hL (by simp) hq) (.inr hu) hq0
theorem eqa_dct_list {a : Addr} {dd : Option Addr} {es : Array DictEntry} {n : Nat} {sl : Array (Option Value)} {l : Addr} {dl : Option Addr} {its : Array Value} {m : Nat} {sl2 : Array (Option Value)}  (hD : s.heap.get? a = some ⟨.type "dict", dd, .dict es n, sl⟩) (hL : s.heap.get? l = some ⟨.type "list", dl, .seq its m, sl2⟩) (hu : A.units < cLine) : EqAt A s (.ref a) (.ref l) false ∧ RcAt A s (.ref a) (.ref l) false ∧ RcNeAt A s (.ref a) (.ref l) (!false) := by
  refine ⟨fun P w E Q hq0 => ?_, rc_dct_list_at  hD hL hu, rn_dct_list_at  hD hL hu⟩
  unfold eqBool
  exact wpAny_holding (wpAny_ite_split (fun hab => absurd (eq_of_beq hab) (fun e => ne_list_dct hD hL (by injection e))) fun _ => wpAny_bind (rc_dct_list_at  hD hL hu P w E _ (wpAny_truthy_bool hq0)))
theorem rc_list_dct_at {a : Addr} {dd : Option Addr} {es : Array DictEntry} {n : Nat} {sl : Array (Option Value)} {l : Addr} {dl : Option Addr} {its : Array Value} {m : Nat} {sl2 : Array (Option Value)}  (hD : s.heap.get? a = some ⟨.type "dict", dd, .dict es n, sl⟩) (hL : s.heap.get? l = some ⟨.type "list", dl, .seq its m, sl2⟩) (hu : A.units < cLine) : RcAt A s (.ref l) (.ref a) false := fun P w E Q hq0 =>
  rc_eq_decline_or (k := false) ⟨_, hL, rfl⟩ ⟨_, hD, rfl⟩ (by decide) (by rw [isSubtype_type]; kernel_rfl) F.slot_list_eq F.slot_dict_eq_refl
    (fun _ hq => call_meets F.slot_list_eq ⟨_, hL, rfl⟩ F.entry_list_eq (F.args_list_eq_2 _ _) (list_eq_dct ) ⟨hD, hL, hq⟩)
    (fun _ hq => call_meets F.slot_dict_eq_refl ⟨_, hD, rfl⟩ F.entry_dict_eq (F.args_dict_eq_2 _ _) (dct_eq_list ) ⟨hD, hL, hq⟩)
    (fun _ hq => wpAny_isSame_ref_other' (Ne.symm (ne_list_dct hD hL)) hL hD (by simp) hq) (.inr hu) hq0
theorem rn_list_dct_at {a : Addr} {dd : Option Addr} {es : Array DictEntry} {n : Nat} {sl : Array (Option Value)} {l : Addr} {dl : Option Addr} {its : Array Value} {m : Nat} {sl2 : Array (Option Value)}  (hD : s.heap.get? a = some ⟨.type "dict", dd, .dict es n, sl⟩) (hL : s.heap.get? l = some ⟨.type "list", dl, .seq its m, sl2⟩) (hu : A.units < cLine) : RcNeAt A s (.ref l) (.ref a) true := fun P w E Q hq0 =>
  rc_ne_decline_or (k := false) ⟨_, hL, rfl⟩ ⟨_, hD, rfl⟩ (by decide) (by rw [isSubtype_type]; kernel_rfl) F.slot_list_ne F.slot_dict_ne_refl
    (fun _ hq => call_meets F.slot_list_ne ⟨_, hL, rfl⟩ F.entry_list_ne (F.args_list_ne_2 _ _) (list_ne_dct ) ⟨hD, hL, hq⟩)
    (fun _ hq => call_meets F.slot_dict_ne_refl ⟨_, hD, rfl⟩ F.entry_dict_ne (F.args_dict_ne_2 _ _) (dct_ne_list ) ⟨hD, hL, hq⟩)
    (fun _ hq => wpAny_isSame_ref_other' (Ne.symm (ne_list_dct hD hL)) hL hD (by simp) hq) (.inr hu) hq0
theorem eqa_list_dct {a : Addr} {dd : Option Addr} {es : Array DictEntry} {n : Nat} {sl : Array (Option Value)} {l : Addr} {dl : Option Addr} {its : Array Value} {m : Nat} {sl2 : Array (Option Value)}  (hD : s.heap.get? a = some ⟨.type "dict", dd, .dict es n, sl⟩) (hL : s.heap.get? l = some ⟨.type "list", dl, .seq its m, sl2⟩) (hu : A.units < cLine) : EqAt A s (.ref l) (.ref a) false ∧ RcAt A s (.ref l) (.ref a) false ∧ RcNeAt A s (.ref l) (.ref a) (!false) := by
  refine ⟨fun P w E Q hq0 => ?_, rc_list_dct_at  hD hL hu, rn_list_dct_at  hD hL hu⟩
  unfold eqBool
  exact wpAny_holding (wpAny_ite_split (fun hab => absurd (eq_of_beq hab) (fun e => Ne.symm (ne_list_dct hD hL) (by injection e))) fun _ => wpAny_bind (rc_list_dct_at  hD hL hu P w E _ (wpAny_truthy_bool hq0)))
theorem ne_tuple_dct {a : Addr} {dd : Option Addr} {es : Array DictEntry} {n : Nat} {sl : Array (Option Value)} {l : Addr} {dl : Option Addr} {its : Array Value} {m : Nat} {sl2 : Array (Option Value)}  (hD : s.heap.get? a = some ⟨.type "dict", dd, .dict es n, sl⟩) (hL : s.heap.get? l = some ⟨.type "tuple", dl, .seq its m, sl2⟩) : a ≠ l := fun e => by
  subst e
  rw [hD] at hL
  injection hL with hL
  injection hL with h1
  exact absurd (Value.type.inj h1) (by decide)
theorem rc_dct_tuple_at {a : Addr} {dd : Option Addr} {es : Array DictEntry} {n : Nat} {sl : Array (Option Value)} {l : Addr} {dl : Option Addr} {its : Array Value} {m : Nat} {sl2 : Array (Option Value)}  (hD : s.heap.get? a = some ⟨.type "dict", dd, .dict es n, sl⟩) (hL : s.heap.get? l = some ⟨.type "tuple", dl, .seq its m, sl2⟩) (hu : A.units < cLine) : RcAt A s (.ref a) (.ref l) false := fun P w E Q hq0 =>
  rc_eq_decline_or (k := false) ⟨_, hD, rfl⟩ ⟨_, hL, rfl⟩ (by decide) (by rw [isSubtype_type]; kernel_rfl) F.slot_dict_eq F.slot_tuple_eq_refl
    (fun _ hq => call_meets F.slot_dict_eq ⟨_, hD, rfl⟩ F.entry_dict_eq (F.args_dict_eq_2 _ _) (dct_eq_tuple ) ⟨hD, hL, hq⟩)
    (fun _ hq => call_meets F.slot_tuple_eq_refl ⟨_, hL, rfl⟩ F.entry_tuple_eq (F.args_tuple_eq_2 _ _) (tuple_eq_dct ) ⟨hD, hL, hq⟩)
    (fun _ hq => wpAny_isSame_ref_other (ne_tuple_dct hD hL) hD hL (by simp) hq) (.inr hu) hq0
theorem rn_dct_tuple_at {a : Addr} {dd : Option Addr} {es : Array DictEntry} {n : Nat} {sl : Array (Option Value)} {l : Addr} {dl : Option Addr} {its : Array Value} {m : Nat} {sl2 : Array (Option Value)}  (hD : s.heap.get? a = some ⟨.type "dict", dd, .dict es n, sl⟩) (hL : s.heap.get? l = some ⟨.type "tuple", dl, .seq its m, sl2⟩) (hu : A.units < cLine) : RcNeAt A s (.ref a) (.ref l) true := fun P w E Q hq0 =>
  rc_ne_decline_or (k := false) ⟨_, hD, rfl⟩ ⟨_, hL, rfl⟩ (by decide) (by rw [isSubtype_type]; kernel_rfl) F.slot_dict_ne F.slot_tuple_ne_refl
    (fun _ hq => call_meets F.slot_dict_ne ⟨_, hD, rfl⟩ F.entry_dict_ne (F.args_dict_ne_2 _ _) (dct_ne_tuple ) ⟨hD, hL, hq⟩)
    (fun _ hq => call_meets F.slot_tuple_ne_refl ⟨_, hL, rfl⟩ F.entry_tuple_ne (F.args_tuple_ne_2 _ _) (tuple_ne_dct ) ⟨hD, hL, hq⟩)
    (fun _ hq => wpAny_isSame_ref_other (ne_tuple_dct hD hL) hD hL (by simp) hq) (.inr hu) hq0
theorem eqa_dct_tuple {a : Addr} {dd : Option Addr} {es : Array DictEntry} {n : Nat} {sl : Array (Option Value)} {l : Addr} {dl : Option Addr} {its : Array Value} {m : Nat} {sl2 : Array (Option Value)}  (hD : s.heap.get? a = some ⟨.type "dict", dd, .dict es n, sl⟩) (hL : s.heap.get? l = some ⟨.type "tuple", dl, .seq its m, sl2⟩) (hu : A.units < cLine) : EqAt A s (.ref a) (.ref l) false ∧ RcAt A s (.ref a) (.ref l) false ∧ RcNeAt A s (.ref a) (.ref l) (!false) := by
  refine ⟨fun P w E Q hq0 => ?_, rc_dct_tuple_at  hD hL hu, rn_dct_tuple_at  hD hL hu⟩
  unfold eqBool
  exact wpAny_holding (wpAny_ite_split (fun hab => absurd (eq_of_beq hab) (fun e => ne_tuple_dct hD hL (by injection e))) fun _ => wpAny_bind (rc_dct_tuple_at  hD hL hu P w E _ (wpAny_truthy_bool hq0)))
theorem rc_tuple_dct_at {a : Addr} {dd : Option Addr} {es : Array DictEntry} {n : Nat} {sl : Array (Option Value)} {l : Addr} {dl : Option Addr} {its : Array Value} {m : Nat} {sl2 : Array (Option Value)}  (hD : s.heap.get? a = some ⟨.type "dict", dd, .dict es n, sl⟩) (hL : s.heap.get? l = some ⟨.type "tuple", dl, .seq its m, sl2⟩) (hu : A.units < cLine) : RcAt A s (.ref l) (.ref a) false := fun P w E Q hq0 =>
  rc_eq_decline_or (k := false) ⟨_, hL, rfl⟩ ⟨_, hD, rfl⟩ (by decide) (by rw [isSubtype_type]; kernel_rfl) F.slot_tuple_eq F.slot_dict_eq_refl
    (fun _ hq => call_meets F.slot_tuple_eq ⟨_, hL, rfl⟩ F.entry_tuple_eq (F.args_tuple_eq_2 _ _) (tuple_eq_dct ) ⟨hD, hL, hq⟩)
    (fun _ hq => call_meets F.slot_dict_eq_refl ⟨_, hD, rfl⟩ F.entry_dict_eq (F.args_dict_eq_2 _ _) (dct_eq_tuple ) ⟨hD, hL, hq⟩)
    (fun _ hq => wpAny_isSame_ref_other' (Ne.symm (ne_tuple_dct hD hL)) hL hD (by simp) hq) (.inr hu) hq0
theorem rn_tuple_dct_at {a : Addr} {dd : Option Addr} {es : Array DictEntry} {n : Nat} {sl : Array (Option Value)} {l : Addr} {dl : Option Addr} {its : Array Value} {m : Nat} {sl2 : Array (Option Value)}  (hD : s.heap.get? a = some ⟨.type "dict", dd, .dict es n, sl⟩) (hL : s.heap.get? l = some ⟨.type "tuple", dl, .seq its m, sl2⟩) (hu : A.units < cLine) : RcNeAt A s (.ref l) (.ref a) true := fun P w E Q hq0 =>
  rc_ne_decline_or (k := false) ⟨_, hL, rfl⟩ ⟨_, hD, rfl⟩ (by decide) (by rw [isSubtype_type]; kernel_rfl) F.slot_tuple_ne F.slot_dict_ne_refl
    (fun _ hq => call_meets F.slot_tuple_ne ⟨_, hL, rfl⟩ F.entry_tuple_ne (F.args_tuple_ne_2 _ _) (tuple_ne_dct ) ⟨hD, hL, hq⟩)
    (fun _ hq => call_meets F.slot_dict_ne_refl ⟨_, hD, rfl⟩ F.entry_dict_ne (F.args_dict_ne_2 _ _) (dct_ne_tuple ) ⟨hD, hL, hq⟩)
    (fun _ hq => wpAny_isSame_ref_other' (Ne.symm (ne_tuple_dct hD hL)) hL hD (by simp) hq) (.inr hu) hq0
theorem eqa_tuple_dct {a : Addr} {dd : Option Addr} {es : Array DictEntry} {n : Nat} {sl : Array (Option Value)} {l : Addr} {dl : Option Addr} {its : Array Value} {m : Nat} {sl2 : Array (Option Value)}  (hD : s.heap.get? a = some ⟨.type "dict", dd, .dict es n, sl⟩) (hL : s.heap.get? l = some ⟨.type "tuple", dl, .seq its m, sl2⟩) (hu : A.units < cLine) : EqAt A s (.ref l) (.ref a) false ∧ RcAt A s (.ref l) (.ref a) false ∧ RcNeAt A s (.ref l) (.ref a) (!false) := by
  refine ⟨fun P w E Q hq0 => ?_, rc_tuple_dct_at  hD hL hu, rn_tuple_dct_at  hD hL hu⟩
  unfold eqBool
  exact wpAny_holding (wpAny_ite_split (fun hab => absurd (eq_of_beq hab) (fun e => Ne.symm (ne_tuple_dct hD hL) (by injection e))) fun _ => wpAny_bind (rc_tuple_dct_at  hD hL hu P w E _ (wpAny_truthy_bool hq0)))
end
end DL
namespace DL
open PySem L2 SeqAt
def zipO (f : D → D → Option Bool) : List D → List D → Option Bool
  | x :: xs, y :: ys => match f x y, zipO f xs ys with | some a, some b => some (a && b) | _, _ => none
  | _, _ => some true
def dEqN : Nat → D → D → Option Bool
  | 0, _, _ => none
  | n + 1, d, e => match d, e with
    | .non, .non => some true
    | .non, .bl _ => some false
    | .non, .int _ => some false
    | .non, .str _ => some false
    | .non, .lst _ => some false
    | .non, .tup _ => some false
    | .bl _, .non => some false
    | .bl a, .bl b => some (a == b)
    | .bl a, .int j => some ((if a then 1 else 0) == j)
    | .bl _, .str _ => some false
    | .bl _, .lst _ => some false
    | .bl _, .tup _ => some false
    | .int _, .non => some false
    | .int i, .bl b => some (i == (if b then 1 else 0))
    | .int i, .int j => some (i == j)
    | .int _, .str _ => some false
    | .int _, .lst _ => some false
    | .int _, .tup _ => some false
    | .str _, .non => some false
    | .str _, .bl _ => some false
    | .str _, .int _ => some false
    | .str x, .str y => some (x == y)
    | .str _, .lst _ => some false
    | .str _, .tup _ => some false
    | .lst _, .non => some false
    | .lst _, .bl _ => some false
    | .lst _, .int _ => some false
    | .lst _, .str _ => some false
    | .lst xs, .lst ys => if xs.length = ys.length then zipO (dEqN n) xs ys else some false
    | .lst _, .tup _ => some false
    | .tup _, .non => some false
    | .tup _, .bl _ => some false
    | .tup _, .int _ => some false
    | .tup _, .str _ => some false
    | .tup _, .lst _ => some false
    | .tup xs, .tup ys => (zipO (dEqN n) xs ys).map (· && (xs.length == ys.length))
    | .non, .dct _ _ => some false
    | .bl _, .dct _ _ => some false
    | .int _, .dct _ _ => some false
    | .str _, .dct _ _ => some false
    | .lst _, .dct _ _ => some false
    | .tup _, .dct _ _ => some false
    | .dct _ _, .non => some false
    | .dct _ _, .bl _ => some false
    | .dct _ _, .int _ => some false
    | .dct _ _, .str _ => some false
    | .dct _ _, .lst _ => some false
    | .dct _ _, .tup _ => some false
    | _, _ => none
theorem lst_obj {h : Heap} {l : Addr} {its : Array Value} (p : h.IsList l its) : ∃ dd n sl, h.get? l = some ⟨.type "list", dd, .seq its n, sl⟩ := by
  obtain ⟨⟨cls, dd, data, sl⟩, ho, hc, n, hd⟩ := p
  simp only at hc hd
  subst hc hd
  exact ⟨_, _, _, ho⟩
theorem tup_obj {h : Heap} {l : Addr} {its : Array Value} (p : h.IsTuple l its) : ∃ dd n sl, h.get? l = some ⟨.type "tuple", dd, .seq its n, sl⟩ := by
  obtain ⟨⟨cls, dd, data, sl⟩, ho, hc, n, hd⟩ := p
  simp only at hc hd
  subst hc hd
  exact ⟨_, _, _, ho⟩
def EqAll (A : Around) (s : Shared) (v u : Value) (b : Bool) : Prop := EqAt A s v u b ∧ RcAt A s v u b ∧ RcNeAt A s v u (!b)
theorem zipO_get {f : D → D → Option Bool} : ∀ {xs ys : List D} {b : Bool}, zipO f xs ys = some b → ∃ e : Nat → Bool, (∀ (j : Nat) (x y : D), xs[j]? = some x → ys[j]? = some y → f x y = some (e j)) ∧ (List.range (min xs.length ys.length)).all e = b
  | [], ys, b, h => ⟨fun _ => true, fun j x y h1 => by simp at h1, by simp only [zipO, Option.some.injEq] at h; simp [← h]⟩
  | x :: xs, [], b, h => ⟨fun _ => true, fun j x y _ h2 => by simp at h2, by simp only [zipO, Option.some.injEq] at h; simp [← h]⟩
  | x :: xs, y :: ys, b, h => by
    simp only [zipO] at h
    split at h
    · rename_i a c h1 h2
      cases h
      obtain ⟨e, h3, h4⟩ := zipO_get h2
      refine ⟨fun j => match j with | 0 => a | j + 1 => e j, fun j x' y' q1 q2 => ?_, ?_⟩
      · cases j with
        | zero => simp at q1 q2; subst q1; subst q2; exact h1
        | succ j => exact h3 j x' y' (by simpa using q1) (by simpa using q2)
      · have e1 : min (x :: xs).length (y :: ys).length = min xs.length ys.length + 1 := by simp only [List.length_cons]; omega
        rw [e1, List.range_succ_eq_map, List.all_cons, List.all_map, ← h4]
        rfl
    · cases h
section
variable {X : Cx} {M : Mp} {pins : List (Addr × Obj)} {σ : St} {H : Hp} {s : Shared} {ρ : List Addr}
theorem no_both (I : Inv X pins σ H s) {a : Addr} {vs us : List V} (h : SqL X.K H a vs) (h0 : SqP X.K H a us) : False := by
  have h' := h0.sq
  obtain ⟨_, _, p, _⟩ := I.list h
  obtain ⟨_, _, q, _⟩ := I.tuple h'
  exact ne_of_list_tuple p.isList q rfl
theorem dct_obj (I : Inv X pins σ H s) {a : Addr} {kvs : List (Key × V)} (h : H a = some (.dK kvs)) : ∃ dd es n sl, s.heap.get? a = some ⟨.type "dict", dd, .dict es n, sl⟩ := by
  obtain ⟨_, _, us, _, ⟨cls, dd, data, sl⟩, es, ep, ho, hx, hd, _⟩ := dk_of I.hok h
  obtain ⟨h1, _⟩ := hx
  simp only at h1 hd
  subst h1 hd
  exact ⟨_, _, _, _, ho⟩
theorem no_dt (I : Inv X pins σ H s) {a : Addr} {kvs : List (Key × V)} {us : List V} (h : H a = some (.dK kvs)) (h0 : SqP X.K H a us) : False := by
  have h' := h0.sq
  obtain ⟨dd, es, n, sl, e1⟩ := dct_obj I h
  obtain ⟨its, rv, p, _⟩ := I.tuple h'
  obtain ⟨dd2, n2, sl2, e2⟩ := tup_obj p
  exact ne_tuple_dct e1 e2 rfl
mutual
theorem eq_same (I : Inv X pins σ H s) : ∀ (n : Nat) {d e : D} {v : V} {b : Bool}, Rep (kx X M) H ρ v d → Rep (kx X M) H ρ v e → dEqN n d e = some b → b = true
  | 0, _, _, _, _, _, _, h => by simp [dEqN] at h
  | n + 1, _, _, _, b, r1, r2, h => by
    cases r1 with
    | non => cases r2; simp [dEqN] at h; exact h
    | bl x => cases r2; simp [dEqN] at h; exact h
    | int x => cases r2; simp [dEqN] at h; exact h
    | str x =>
      generalize hv : (V.str (sOf x)) = v at r2
      cases r2 with
      | str y =>
        have : x = y := sOf_inj (by injection hv)
        subst this
        simp [dEqN] at h
        exact h
      | _ => cases hv
    | tup h1 t1 =>
      cases r2 with
      | tup h2 t2 =>
        have e := I.tuple_inj h1.sq h2.sq
        subst e
        simp only [dEqN, Option.map_eq_some_iff] at h
        obtain ⟨c, h3, rfl⟩ := h
        have := eq_sameL I n t1 t2 h3
        subst this
        simp [← t1.length, ← t2.length]
      | lst h2 t2 => exact (no_both I (SqL.of h2) h1).elim
      | dct h2 _ _ => exact (no_dt I h2 h1).elim
      | obj _ _ _ _ _ => simp [dEqN] at h
      | exn _ _ _ _ _ => simp [dEqN] at h
      | fn _ => simp [dEqN] at h
      | ref h2 => simp [dEqN] at h
      | scr h2 => simp [dEqN] at h
    | lst h1 t1 =>
      cases r2 with
      | tup h2 t2 => exact (no_both I (SqL.of h1) h2).elim
      | lst h2 t2 =>
        rw [h1] at h2
        cases h2
        simp only [dEqN] at h
        rw [if_pos (by rw [← t1.length, ← t2.length])] at h
        exact eq_sameL I n t1 t2 h
      | dct h2 _ _ => rw [h1] at h2; cases h2
      | obj _ _ _ _ _ => simp [dEqN] at h
      | exn _ _ _ _ _ => simp [dEqN] at h
      | fn _ => simp [dEqN] at h
      | ref h2 => simp [dEqN] at h
      | scr h2 => simp [dEqN] at h
    | dct h1 _ _ =>
      cases r2 with
      | tup h2 _ => exact (no_dt I h1 h2).elim
      | lst h2 _ => rw [h1] at h2; cases h2
      | dct _ _ _ => simp [dEqN] at h
      | obj _ _ _ _ _ => simp [dEqN] at h
      | exn _ _ _ _ _ => simp [dEqN] at h
      | fn _ => simp [dEqN] at h
      | ref _ => simp [dEqN] at h
      | scr _ => simp [dEqN] at h
    | obj _ _ _ _ _ => cases r2 <;> simp [dEqN] at h
    | exn _ _ _ _ _ => cases r2 <;> simp [dEqN] at h
    | fn _ => simp [dEqN] at h
    | ref h1 => cases r2 <;> simp [dEqN] at h
    | scr h1 => cases r2 <;> simp [dEqN] at h
theorem eq_sameL (I : Inv X pins σ H s) (n : Nat) : ∀ {ds es : List D} {vs : List V} {b : Bool}, RepL (kx X M) H ρ vs ds → RepL (kx X M) H ρ vs es → zipO (dEqN n) ds es = some b → b = true
  | _, _, _, _, .nil, .nil, h => by simp [zipO] at h; exact h
  | _, _, _, _, .cons h1 t1, .cons h2 t2, h => by
    simp only [zipO] at h
    split at h
    · rename_i a c q1 q2
      cases h
      rw [eq_same I n h1 h2 q1, eq_sameL I n t1 t2 q2]
      rfl
    · cases h
end
theorem str_beq' (x y : List Nat) : (sOf x == sOf y) = (x == y) := by
  by_cases e : x = y
  · subst e; simp
  · rw [beq_eq_false_iff_ne.mpr e, beq_eq_false_iff_ne.mpr fun z => e (sOf_inj z)]
theorem items_at {A : Around} {F : D → D → Option Bool} (ih : ∀ {d e : D} {v u : V} {v' u' : Value} {b : Bool}, Rep (kx X M) H ρ v d → Rep (kx X M) H ρ u e → RelV v v' → RelV u u' → F d e = some b → EqAll A s v' u' b)
    {vs us : List V} {ds es : List D} {its jts : List Value} {e : Nat → Bool} (t1 : RepL (kx X M) H ρ vs ds) (t2 : RepL (kx X M) H ρ us es) (r1 : Vals vs its) (r2 : Vals us jts) (he : ∀ (j : Nat) (x y : D), ds[j]? = some x → es[j]? = some y → F x y = some (e j)) :
    ∀ (j : Nat) (h1 : j < its.toArray.size) (h2 : j < jts.toArray.size), EqAt A s its.toArray[j] jts.toArray[j] (e j) := by
  intro j h1 h2
  have l1 : j < its.length := by simpa using h1
  have l2 : j < jts.length := by simpa using h2
  have k1 : j < ds.length := by rw [← t1.length, r1.length]; exact l1
  have k2 : j < es.length := by rw [← t2.length, r2.length]; exact l2
  obtain ⟨v, e1, q1⟩ := t1.get (List.getElem?_eq_getElem k1)
  obtain ⟨u, e2, q2⟩ := t2.get (List.getElem?_eq_getElem k2)
  obtain ⟨v', e3, q3⟩ := r1.get e1
  obtain ⟨u', e4, q4⟩ := r2.get e2
  have z1 : its.toArray[j] = v' := by rw [List.getElem?_eq_getElem l1] at e3; simpa using e3
  have z2 : jts.toArray[j] = u' := by rw [List.getElem?_eq_getElem l2] at e4; simpa using e4
  rw [z1, z2]
  exact (ih q1 q2 q3 q4 (he j _ _ (List.getElem?_eq_getElem k1) (List.getElem?_eq_getElem k2))).1
theorem eq_lists (I : Inv X pins σ H s) (n : Nat) {A : Around} (ih : ∀ {d e : D} {v u : V} {v' u' : Value} {b : Bool}, Rep (kx X M) H ρ v d → Rep (kx X M) H ρ u e → RelV v v' → RelV u u' → dEqN n d e = some b → EqAll A.in1 s v' u' b) (hu : A.units < cLine)
    {a c : Addr} {vs us : List V} {ds es : List D} {b : Bool} (h1 : H a = some (.lst vs)) (t1 : RepL (kx X M) H ρ vs ds) (h2 : H c = some (.lst us)) (t2 : RepL (kx X M) H ρ us es) (h : dEqN (n + 1) (.lst ds) (.lst es) = some b) : EqAll A s (.ref a) (.ref c) b := by
  have hb : a = c → b = true := fun e => by
    subst e
    exact eq_same I (n + 1) (.lst h1 t1) (.lst h2 t2) h
  obtain ⟨its, r1, p1, _⟩ := I.list (SqL.of h1)
  obtain ⟨jts, r2, p2, _⟩ := I.list (SqL.of h2)
  have key : RcAt A s (.ref a) (.ref c) b ∧ RcNeAt A s (.ref a) (.ref c) (!b) := by
    simp only [dEqN] at h
    split at h
    · rename_i hl
      obtain ⟨e, he, hb⟩ := zipO_get h
      have hsz : its.toArray.size = jts.toArray.size := by
        simp only [List.size_toArray]
        rw [← r1.length, ← r2.length, t1.length, t2.length]
        exact hl
      have hn : min ds.length es.length = its.toArray.size := by
        simp only [List.size_toArray]
        rw [← r1.length, t1.length]
        omega
      rw [hn] at hb
      subst hb
      exact ⟨.lists p1.isList p2.isList hsz hu (items_at ih t1 t2 r1 r2 he), .lists p1.isList p2.isList hsz hu (items_at ih t1 t2 r1 r2 he)⟩
    · rename_i hl
      cases h
      have hsz : (its.toArray.size != jts.toArray.size) = true := by
        simp only [List.size_toArray]
        rw [← r1.length, ← r2.length, t1.length, t2.length]
        simpa using hl
      exact ⟨.lists_lengths p1.isList p2.isList hsz hu, .lists_lengths p1.isList p2.isList hsz hu⟩
  refine ⟨?_, key⟩
  by_cases e : a = c
  · rw [hb e]; subst e; exact .same _
  · exact .of_refs e key.1
theorem eq_tuples (I : Inv X pins σ H s) (n : Nat) {A : Around} (ih : ∀ {d e : D} {v u : V} {v' u' : Value} {b : Bool}, Rep (kx X M) H ρ v d → Rep (kx X M) H ρ u e → RelV v v' → RelV u u' → dEqN n d e = some b → EqAll A.in1 s v' u' b) (hu : A.units < cLine)
    {a c : Addr} {vs us : List V} {ds es : List D} {b : Bool} (h1 : SqP X.K H a vs) (t1 : RepL (kx X M) H ρ vs ds) (h2 : SqP X.K H c us) (t2 : RepL (kx X M) H ρ us es) (h : dEqN (n + 1) (.tup ds) (.tup es) = some b) : EqAll A s (.ref a) (.ref c) b := by
  have hb : a = c → b = true := fun e => by
    subst e
    exact eq_same I (n + 1) (.tup h1 t1) (.tup h2 t2) h
  obtain ⟨its, r1, p1, _⟩ := I.tuple h1.sq
  obtain ⟨jts, r2, p2, _⟩ := I.tuple h2.sq
  have key : RcAt A s (.ref a) (.ref c) b ∧ RcNeAt A s (.ref a) (.ref c) (!b) := by
    simp only [dEqN, Option.map_eq_some_iff] at h
    obtain ⟨k, h, rfl⟩ := h
    obtain ⟨e, he, hb⟩ := zipO_get h
    have n1 : its.toArray.size = ds.length := by simp only [List.size_toArray]; rw [← r1.length, t1.length]
    have n2 : jts.toArray.size = es.length := by simp only [List.size_toArray]; rw [← r2.length, t2.length]
    subst hb
    rw [← n1, ← n2]
    exact ⟨.tuples p1 p2 hu (items_at ih t1 t2 r1 r2 he), .tuples p1 p2 hu (items_at ih t1 t2 r1 r2 he)⟩
  refine ⟨?_, key⟩
  by_cases e : a = c
  · rw [hb e]; subst e; exact .same _
  · exact .of_refs e key.1
theorem eq_all (I : Inv X pins σ H s) : ∀ (n : Nat) (A : Around), A.units + n < cLine → ∀ {d e : D} {v u : V} {v' u' : Value} {b : Bool}, Rep (kx X M) H ρ v d → Rep (kx X M) H ρ u e → RelV v v' → RelV u u' → dEqN n d e = some b → EqAll A s v' u' b
  | 0, _, _, _, _, _, _, _, _, _, _, _, _, _, h => by simp [dEqN] at h
  | n + 1, A, hu, _, _, _, _, _, _, b, r1, r2, q1, q2, h => by
    have hu0 : A.units < cLine := by omega
    cases r1 with
    | non =>
      cases r2 with
      | non =>
        cases q1
        cases q2
        simp only [dEqN, Option.some.injEq] at h
        subst h
        exact ⟨.same _, .none_none, .none_none⟩
      | bl x2 =>
        cases q1
        cases q2
        simp only [dEqN, Option.some.injEq] at h
        subst h
        exact ⟨.none_bool x2, .none_bool x2, .none_bool x2⟩
      | int x2 =>
        cases q1
        obtain ⟨tk2, rfl⟩ := q2
        simp only [dEqN, Option.some.injEq] at h
        subst h
        exact ⟨.none_int x2 tk2, .none_int x2 tk2, .none_int x2 tk2⟩
      | str x2 =>
        cases q1
        obtain ⟨tk2, rfl⟩ := q2
        simp only [dEqN, Option.some.injEq] at h
        subst h
        exact ⟨.none_str (sOf x2) tk2, .none_str (sOf x2) tk2, .none_str (sOf x2) tk2⟩
      | lst h2 t2 =>
        cases q1
        obtain ⟨its2, rv2, p2, _⟩ := I.list (SqL.of h2)
        cases (show _ = Value.ref _ from q2)
        simp only [dEqN, Option.some.injEq] at h
        subst h
        exact ⟨.none_list p2.isList hu0, .none_list p2.isList hu0, .none_list p2.isList hu0⟩
      | tup h2 t2 =>
        cases q1
        obtain ⟨its2, rv2, p2, _⟩ := I.tuple h2.sq
        cases (show _ = Value.ref _ from q2)
        simp only [dEqN, Option.some.injEq] at h
        subst h
        exact ⟨.none_tuple p2 hu0, .none_tuple p2 hu0, .none_tuple p2 hu0⟩
      | dct h2 _ _ =>
        cases q1
        obtain ⟨dd2, es2, n2, sl2, ho2⟩ := dct_obj I h2
        cases (show _ = Value.ref _ from q2)
        simp only [dEqN, Option.some.injEq] at h
        subst h
        exact eqa_none_dct  ho2 hu0
      | obj _ _ _ _ _ => simp [dEqN] at h
      | exn _ _ _ _ _ => simp [dEqN] at h
      | fn _ => simp [dEqN] at h
      | ref _ => simp [dEqN] at h
      | scr _ => simp [dEqN] at h
    | bl x1 =>
      cases r2 with
      | non =>
        cases q1
        cases q2
        simp only [dEqN, Option.some.injEq] at h
        subst h
        exact ⟨.bool_none x1, .bool_none x1, .bool_none x1⟩
      | bl x2 =>
        cases q1
        cases q2
        simp only [dEqN, Option.some.injEq] at h
        subst h
        exact ⟨.bool_bool x1 x2, .bool_bool x1 x2, .bool_bool x1 x2⟩
      | int x2 =>
        cases q1
        obtain ⟨tk2, rfl⟩ := q2
        simp only [dEqN, Option.some.injEq] at h
        subst h
        exact ⟨.bool_int x1 x2 tk2, .bool_int x1 x2 tk2, .bool_int x1 x2 tk2⟩
      | str x2 =>
        cases q1
        obtain ⟨tk2, rfl⟩ := q2
        simp only [dEqN, Option.some.injEq] at h
        subst h
        exact ⟨.bool_str x1 (sOf x2) tk2, .bool_str x1 (sOf x2) tk2, .bool_str x1 (sOf x2) tk2⟩
      | lst h2 t2 =>
        cases q1
        obtain ⟨its2, rv2, p2, _⟩ := I.list (SqL.of h2)
        cases (show _ = Value.ref _ from q2)
        simp only [dEqN, Option.some.injEq] at h
        subst h
        exact ⟨.bool_list x1 p2.isList hu0, .bool_list x1 p2.isList hu0, .bool_list x1 p2.isList hu0⟩
      | tup h2 t2 =>
        cases q1
        obtain ⟨its2, rv2, p2, _⟩ := I.tuple h2.sq
        cases (show _ = Value.ref _ from q2)
        simp only [dEqN, Option.some.injEq] at h
        subst h
        exact ⟨.bool_tuple x1 p2 hu0, .bool_tuple x1 p2 hu0, .bool_tuple x1 p2 hu0⟩
      | dct h2 _ _ =>
        cases q1
        obtain ⟨dd2, es2, n2, sl2, ho2⟩ := dct_obj I h2
        cases (show _ = Value.ref _ from q2)
        simp only [dEqN, Option.some.injEq] at h
        subst h
        exact eqa_bool_dct x1 ho2 hu0
      | obj _ _ _ _ _ => simp [dEqN] at h
      | exn _ _ _ _ _ => simp [dEqN] at h
      | fn _ => simp [dEqN] at h
      | ref _ => simp [dEqN] at h
      | scr _ => simp [dEqN] at h
    | int x1 =>
      cases r2 with
      | non =>
        obtain ⟨tk1, rfl⟩ := q1
        cases q2
        simp only [dEqN, Option.some.injEq] at h
        subst h
        exact ⟨.int_none x1 tk1, .int_none x1 tk1, .int_none x1 tk1⟩
      | bl x2 =>
        obtain ⟨tk1, rfl⟩ := q1
        cases q2
        simp only [dEqN, Option.some.injEq] at h
        subst h
        exact ⟨.int_bool x1 tk1 x2, .int_bool x1 tk1 x2, .int_bool x1 tk1 x2⟩
      | int x2 =>
        obtain ⟨tk1, rfl⟩ := q1
        obtain ⟨tk2, rfl⟩ := q2
        simp only [dEqN, Option.some.injEq] at h
        subst h
        exact ⟨.int_int x1 tk1 x2 tk2, .int_int x1 tk1 x2 tk2, .int_int x1 tk1 x2 tk2⟩
      | str x2 =>
        obtain ⟨tk1, rfl⟩ := q1
        obtain ⟨tk2, rfl⟩ := q2
        simp only [dEqN, Option.some.injEq] at h
        subst h
        exact ⟨.int_str x1 tk1 (sOf x2) tk2, .int_str x1 tk1 (sOf x2) tk2, .int_str x1 tk1 (sOf x2) tk2⟩
      | lst h2 t2 =>
        obtain ⟨tk1, rfl⟩ := q1
        obtain ⟨its2, rv2, p2, _⟩ := I.list (SqL.of h2)
        cases (show _ = Value.ref _ from q2)
        simp only [dEqN, Option.some.injEq] at h
        subst h
        exact ⟨.int_list x1 tk1 p2.isList hu0, .int_list x1 tk1 p2.isList hu0, .int_list x1 tk1 p2.isList hu0⟩
      | tup h2 t2 =>
        obtain ⟨tk1, rfl⟩ := q1
        obtain ⟨its2, rv2, p2, _⟩ := I.tuple h2.sq
        cases (show _ = Value.ref _ from q2)
        simp only [dEqN, Option.some.injEq] at h
        subst h
        exact ⟨.int_tuple x1 tk1 p2 hu0, .int_tuple x1 tk1 p2 hu0, .int_tuple x1 tk1 p2 hu0⟩
      | dct h2 _ _ =>
        obtain ⟨tk1, rfl⟩ := q1
        obtain ⟨dd2, es2, n2, sl2, ho2⟩ := dct_obj I h2
        cases (show _ = Value.ref _ from q2)
        simp only [dEqN, Option.some.injEq] at h
        subst h
        exact eqa_int_dct x1 tk1 ho2 hu0
      | obj _ _ _ _ _ => simp [dEqN] at h
      | exn _ _ _ _ _ => simp [dEqN] at h
      | fn _ => simp [dEqN] at h
      | ref _ => simp [dEqN] at h
      | scr _ => simp [dEqN] at h
    | str x1 =>
      cases r2 with
      | non =>
        obtain ⟨tk1, rfl⟩ := q1
        cases q2
        simp only [dEqN, Option.some.injEq] at h
        subst h
        exact ⟨.str_none (sOf x1) tk1, .str_none (sOf x1) tk1, .str_none (sOf x1) tk1⟩
      | bl x2 =>
        obtain ⟨tk1, rfl⟩ := q1
        cases q2
        simp only [dEqN, Option.some.injEq] at h
        subst h
        exact ⟨.str_bool (sOf x1) tk1 x2, .str_bool (sOf x1) tk1 x2, .str_bool (sOf x1) tk1 x2⟩
      | int x2 =>
        obtain ⟨tk1, rfl⟩ := q1
        obtain ⟨tk2, rfl⟩ := q2
        simp only [dEqN, Option.some.injEq] at h
        subst h
        exact ⟨.str_int (sOf x1) tk1 x2 tk2, .str_int (sOf x1) tk1 x2 tk2, .str_int (sOf x1) tk1 x2 tk2⟩
      | str x2 =>
        obtain ⟨tk1, rfl⟩ := q1
        obtain ⟨tk2, rfl⟩ := q2
        simp only [dEqN, Option.some.injEq] at h
        have e : (sOf x1 == sOf x2) = b := by rw [← h]; exact str_beq' x1 x2
        rw [← e]
        exact ⟨.str_str _ _ _ _, .str_str _ _ _ _, .str_str _ _ _ _⟩
      | lst h2 t2 =>
        obtain ⟨tk1, rfl⟩ := q1
        obtain ⟨its2, rv2, p2, _⟩ := I.list (SqL.of h2)
        cases (show _ = Value.ref _ from q2)
        simp only [dEqN, Option.some.injEq] at h
        subst h
        exact ⟨.str_list (sOf x1) tk1 p2.isList hu0, .str_list (sOf x1) tk1 p2.isList hu0, .str_list (sOf x1) tk1 p2.isList hu0⟩
      | tup h2 t2 =>
        obtain ⟨tk1, rfl⟩ := q1
        obtain ⟨its2, rv2, p2, _⟩ := I.tuple h2.sq
        cases (show _ = Value.ref _ from q2)
        simp only [dEqN, Option.some.injEq] at h
        subst h
        exact ⟨.str_tuple (sOf x1) tk1 p2 hu0, .str_tuple (sOf x1) tk1 p2 hu0, .str_tuple (sOf x1) tk1 p2 hu0⟩
      | dct h2 _ _ =>
        obtain ⟨tk1, rfl⟩ := q1
        obtain ⟨dd2, es2, n2, sl2, ho2⟩ := dct_obj I h2
        cases (show _ = Value.ref _ from q2)
        simp only [dEqN, Option.some.injEq] at h
        subst h
        exact eqa_str_dct (sOf x1) tk1 ho2 hu0
      | obj _ _ _ _ _ => simp [dEqN] at h
      | exn _ _ _ _ _ => simp [dEqN] at h
      | fn _ => simp [dEqN] at h
      | ref _ => simp [dEqN] at h
      | scr _ => simp [dEqN] at h
    | lst h1 t1 =>
      cases r2 with
      | non =>
        obtain ⟨its1, rv1, p1, _⟩ := I.list (SqL.of h1)
        cases (show _ = Value.ref _ from q1)
        cases q2
        simp only [dEqN, Option.some.injEq] at h
        subst h
        exact ⟨.list_none p1.isList hu0, .list_none p1.isList hu0, .list_none p1.isList hu0⟩
      | bl x2 =>
        obtain ⟨its1, rv1, p1, _⟩ := I.list (SqL.of h1)
        cases (show _ = Value.ref _ from q1)
        cases q2
        simp only [dEqN, Option.some.injEq] at h
        subst h
        exact ⟨.list_bool x2 p1.isList hu0, .list_bool x2 p1.isList hu0, .list_bool x2 p1.isList hu0⟩
      | int x2 =>
        obtain ⟨its1, rv1, p1, _⟩ := I.list (SqL.of h1)
        cases (show _ = Value.ref _ from q1)
        obtain ⟨tk2, rfl⟩ := q2
        simp only [dEqN, Option.some.injEq] at h
        subst h
        exact ⟨.list_int x2 tk2 p1.isList hu0, .list_int x2 tk2 p1.isList hu0, .list_int x2 tk2 p1.isList hu0⟩
      | str x2 =>
        obtain ⟨its1, rv1, p1, _⟩ := I.list (SqL.of h1)
        cases (show _ = Value.ref _ from q1)
        obtain ⟨tk2, rfl⟩ := q2
        simp only [dEqN, Option.some.injEq] at h
        subst h
        exact ⟨.list_str (sOf x2) tk2 p1.isList hu0, .list_str (sOf x2) tk2 p1.isList hu0, .list_str (sOf x2) tk2 p1.isList hu0⟩
      | lst h2 t2 =>
        obtain ⟨its1, rv1, p1, _⟩ := I.list (SqL.of h1)
        cases (show _ = Value.ref _ from q1)
        obtain ⟨its2, rv2, p2, _⟩ := I.list (SqL.of h2)
        cases (show _ = Value.ref _ from q2)
        exact eq_lists I n (fun {d e v u v' u' b} => eq_all I n A.in1 (by show A.units + 1 + n < cLine; omega) (d := d) (e := e) (v := v) (u := u) (v' := v') (u' := u') (b := b)) hu0 h1 t1 h2 t2 h
      | tup h2 t2 =>
        obtain ⟨its1, rv1, p1, _⟩ := I.list (SqL.of h1)
        cases (show _ = Value.ref _ from q1)
        obtain ⟨its2, rv2, p2, _⟩ := I.tuple h2.sq
        cases (show _ = Value.ref _ from q2)
        simp only [dEqN, Option.some.injEq] at h
        subst h
        exact ⟨.list_tuple p1.isList p2 hu0, .list_tuple p1.isList p2 hu0, .list_tuple p1.isList p2 hu0⟩
      | dct h2 _ _ =>
        obtain ⟨its1, rv1, p1, _⟩ := I.list (SqL.of h1)
        cases (show _ = Value.ref _ from q1)
        obtain ⟨d1, n1, sl1, e1⟩ := lst_obj p1.isList
        obtain ⟨dd2, es2, n2, sl2, ho2⟩ := dct_obj I h2
        cases (show _ = Value.ref _ from q2)
        simp only [dEqN, Option.some.injEq] at h
        subst h
        exact eqa_list_dct ho2 e1 hu0
      | obj _ _ _ _ _ => simp [dEqN] at h
      | exn _ _ _ _ _ => simp [dEqN] at h
      | fn _ => simp [dEqN] at h
      | ref _ => simp [dEqN] at h
      | scr _ => simp [dEqN] at h
    | tup h1 t1 =>
      cases r2 with
      | non =>
        obtain ⟨its1, rv1, p1, _⟩ := I.tuple h1.sq
        cases (show _ = Value.ref _ from q1)
        cases q2
        simp only [dEqN, Option.some.injEq] at h
        subst h
        exact ⟨.tuple_none p1 hu0, .tuple_none p1 hu0, .tuple_none p1 hu0⟩
      | bl x2 =>
        obtain ⟨its1, rv1, p1, _⟩ := I.tuple h1.sq
        cases (show _ = Value.ref _ from q1)
        cases q2
        simp only [dEqN, Option.some.injEq] at h
        subst h
        exact ⟨.tuple_bool x2 p1 hu0, .tuple_bool x2 p1 hu0, .tuple_bool x2 p1 hu0⟩
      | int x2 =>
        obtain ⟨its1, rv1, p1, _⟩ := I.tuple h1.sq
        cases (show _ = Value.ref _ from q1)
        obtain ⟨tk2, rfl⟩ := q2
        simp only [dEqN, Option.some.injEq] at h
        subst h
        exact ⟨.tuple_int x2 tk2 p1 hu0, .tuple_int x2 tk2 p1 hu0, .tuple_int x2 tk2 p1 hu0⟩
      | str x2 =>
        obtain ⟨its1, rv1, p1, _⟩ := I.tuple h1.sq
        cases (show _ = Value.ref _ from q1)
        obtain ⟨tk2, rfl⟩ := q2
        simp only [dEqN, Option.some.injEq] at h
        subst h
        exact ⟨.tuple_str (sOf x2) tk2 p1 hu0, .tuple_str (sOf x2) tk2 p1 hu0, .tuple_str (sOf x2) tk2 p1 hu0⟩
      | lst h2 t2 =>
        obtain ⟨its1, rv1, p1, _⟩ := I.tuple h1.sq
        cases (show _ = Value.ref _ from q1)
        obtain ⟨its2, rv2, p2, _⟩ := I.list (SqL.of h2)
        cases (show _ = Value.ref _ from q2)
        simp only [dEqN, Option.some.injEq] at h
        subst h
        exact ⟨.tuple_list p1 p2.isList hu0, .tuple_list p1 p2.isList hu0, .tuple_list p1 p2.isList hu0⟩
      | tup h2 t2 =>
        obtain ⟨its1, rv1, p1, _⟩ := I.tuple h1.sq
        cases (show _ = Value.ref _ from q1)
        obtain ⟨its2, rv2, p2, _⟩ := I.tuple h2.sq
        cases (show _ = Value.ref _ from q2)
        exact eq_tuples I n (fun {d e v u v' u' b} => eq_all I n A.in1 (by show A.units + 1 + n < cLine; omega) (d := d) (e := e) (v := v) (u := u) (v' := v') (u' := u') (b := b)) hu0 h1 t1 h2 t2 h
      | dct h2 _ _ =>
        obtain ⟨its1, rv1, p1, _⟩ := I.tuple h1.sq
        cases (show _ = Value.ref _ from q1)
        obtain ⟨d1, n1, sl1, e1⟩ := tup_obj p1
        obtain ⟨dd2, es2, n2, sl2, ho2⟩ := dct_obj I h2
        cases (show _ = Value.ref _ from q2)
        simp only [dEqN, Option.some.injEq] at h
        subst h
        exact eqa_tuple_dct ho2 e1 hu0
      | obj _ _ _ _ _ => simp [dEqN] at h
      | exn _ _ _ _ _ => simp [dEqN] at h
      | fn _ => simp [dEqN] at h
      | ref _ => simp [dEqN] at h
      | scr _ => simp [dEqN] at h
    | dct h1 _ _ =>
      obtain ⟨dd1, es1, n1, sl1, ho1⟩ := dct_obj I h1
      cases (show _ = Value.ref _ from q1)
      cases r2 with
      | non =>
        cases q2
        simp only [dEqN, Option.some.injEq] at h
        subst h
        exact eqa_dct_none  ho1 hu0
      | bl x2 =>
        cases q2
        simp only [dEqN, Option.some.injEq] at h
        subst h
        exact eqa_dct_bool x2 ho1 hu0
      | int x2 =>
        obtain ⟨tk2, rfl⟩ := q2
        simp only [dEqN, Option.some.injEq] at h
        subst h
        exact eqa_dct_int x2 tk2 ho1 hu0
      | str x2 =>
        obtain ⟨tk2, rfl⟩ := q2
        simp only [dEqN, Option.some.injEq] at h
        subst h
        exact eqa_dct_str (sOf x2) tk2 ho1 hu0
      | lst h2 t2 =>
        obtain ⟨its2, rv2, p2, _⟩ := I.list (SqL.of h2)
        cases (show _ = Value.ref _ from q2)
        obtain ⟨d2, n2, sl2, e2⟩ := lst_obj p2.isList
        simp only [dEqN, Option.some.injEq] at h
        subst h
        exact eqa_dct_list ho1 e2 hu0
      | tup h2 t2 =>
        obtain ⟨its2, rv2, p2, _⟩ := I.tuple h2.sq
        cases (show _ = Value.ref _ from q2)
        obtain ⟨d2, n2, sl2, e2⟩ := tup_obj p2
        simp only [dEqN, Option.some.injEq] at h
        subst h
        exact eqa_dct_tuple ho1 e2 hu0
      | dct _ _ _ => simp [dEqN] at h
      | obj _ _ _ _ _ => simp [dEqN] at h
      | exn _ _ _ _ _ => simp [dEqN] at h
      | fn _ => simp [dEqN] at h
      | ref _ => simp [dEqN] at h
      | scr _ => simp [dEqN] at h
    | obj _ _ _ _ _ => cases r2 <;> simp [dEqN] at h
    | exn _ _ _ _ _ => cases r2 <;> simp [dEqN] at h
    | fn _ => cases r2 <;> simp [dEqN] at h
    | ref _ => cases r2 <;> simp [dEqN] at h
    | scr _ => cases r2 <;> simp [dEqN] at h
end
end DL
namespace DL
open PySem L2 SeqAt
def keyOf : D → Option Key
  | .int i => some (.inl i)
  | .str x => some (.inr (sOf x))
  | _ => none
def lookL {α : Type} (ks : List Key) (xs : List α) (k : Key) : Option α := ((ks.zip xs).find? fun p => decide (p.1 = k)).map (·.2)
def hasK (ks : List Key) (k : Key) : Bool := ks.any fun k' => decide (k' = k)
def putX {α : Type} (ks : List Key) (xs : List α) (k : Key) (v : α) : List α := if hasK ks k then (ks.zip xs).map fun p => if p.1 = k then v else p.2 else xs ++ [v]
def putKs (ks : List Key) (k : Key) : List Key := if hasK ks k then ks else ks ++ [k]
theorem key_rep {K : Kx} {B : Hp} {ρ : List Addr} {v : V} {d : D} {k : Key} (r : Rep K B ρ v d) (h : keyOf d = some k) : v = kV k := by
  cases r <;> simp only [keyOf, Option.some.injEq] at h <;> first | (subst h; rfl) | cases h
theorem key_repO {K : Kx} {B : Hp} {ρ : List Addr} {H : Hp} {v : V} {d : D} {k : Key} (r : RepO K B ρ H v d) (h : keyOf d = some k) : v = kV k := by
  cases d <;> simp only [keyOf, Option.some.injEq] at h <;> first | (subst h; rw [r.int]; rfl) | (subst h; rw [r.str]; rfl) | cases h
theorem look_rep {K : Kx} {B : Hp} {ρ : List Addr} : ∀ {ks : List Key} {vs : List V} {xs : List D} {k : Key} {d : D}, RepL K B ρ vs xs → lookL ks xs k = some d → ∃ v, valV (ks.zip vs) k = some v ∧ Rep K B ρ v d
  | [], _, _, _, _, _, h => by simp [lookL] at h
  | _ :: _, _, _, _, _, .nil, h => by simp [lookL] at h
  | k0 :: ks, _, _, k, d, .cons (vs := vs) (ds := ds) r t, h => by
    by_cases e : k0 = k
    · simp [lookL, e] at h; subst h
      exact ⟨_, by simp [valV, e], r⟩
    · obtain ⟨v, h1, h2⟩ := look_rep (ks := ks) (k := k) (d := d) t (by simpa [lookL, e] using h)
      exact ⟨v, by simpa [valV, e] using h1, h2⟩
theorem has_rep {ks : List Key} {vs : List V} (hl : ks.length = vs.length) (k : Key) : (valV (ks.zip vs) k).isSome = hasK ks k := by
  induction ks generalizing vs with
  | nil => simp [valV, hasK]
  | cons k0 ks ih =>
    cases vs with
    | nil => simp at hl
    | cons v vs =>
      have ih' := ih (vs := vs) (by simpa using hl)
      by_cases e : k0 = k
      · simp [valV, hasK, e]
      · simp only [valV, hasK, List.zip_cons_cons, List.find?_cons, List.any_cons, e, decide_false, Bool.false_or] at ih' ⊢
        exact ih'
theorem put_zip {ks : List Key} {vs : List V} (hl : ks.length = vs.length) (k : Key) (v : V) : putK (ks.zip vs) k v = (putKs ks k).zip (putX ks vs k v) := by
  unfold putK putKs putX
  rw [valV_any, has_rep hl]
  cases e : hasK ks k with
  | true =>
    simp only [if_true]
    clear e
    induction ks generalizing vs with
    | nil => simp
    | cons k0 ks ih =>
      cases vs with
      | nil => simp at hl
      | cons w vs =>
        simp only [List.zip_cons_cons, List.map_cons]
        rw [ih (by simpa using hl)]
        by_cases q : k0 = k <;> simp [q]
  | false =>
    simp only [if_false, Bool.false_eq_true]
    rw [List.zip_append hl]; rfl
theorem put_len {α : Type} {ks : List Key} {xs : List α} (hl : ks.length = xs.length) (k : Key) (v : α) : (putKs ks k).length = (putX ks xs k v).length := by
  unfold putKs putX
  cases e : hasK ks k <;> simp [hl]
theorem put_rep {K : Kx} {B : Hp} {ρ : List Addr} {ks : List Key} {vs : List V} {xs : List D} {k : Key} {v : V} {d : D} (t : RepL K B ρ vs xs) (r : Rep K B ρ v d) : RepL K B ρ (putX ks vs k v) (putX ks xs k d) := by
  unfold putX
  cases e : hasK ks k with
  | true =>
    simp only [if_true]
    clear e
    induction ks generalizing vs xs with
    | nil => simp; exact .nil
    | cons k0 ks ih =>
      cases t with
      | nil => simp; exact .nil
      | cons r1 t1 =>
        simp only [List.zip_cons_cons, List.map_cons]
        refine .cons ?_ (ih t1)
        by_cases q : k0 = k <;> simp [q]
        · exact r
        · exact r1
  | false =>
    simp only [if_false, Bool.false_eq_true]
    exact t.append (.cons r .nil)
def vv (g : D → D → Option D) : D → D → Option Rv := fun d e => (g d e).map Rv.v
theorem vv_some {g : D → D → Option D} {d e : D} {r : Rv} (h : vv g d e = some r) : ∃ x, g d e = some x ∧ r = .v x := by
  simp only [vv, Option.map_eq_some_iff] at h
  obtain ⟨x, h1, h2⟩ := h
  exact ⟨x, h1, h2.symm⟩
def dEq (d e : D) : Option D := (dEqN 60 d e).map .bl
def dNe (d e : D) : Option D := (dEqN 60 d e).map fun b => .bl (!b)
def dLtN : Nat → D → D → Option Bool
  | 0, _, _ => none
  | n + 1, d, e => match d, e with
    | .int i, .int j => some (decide (i < j))
    | .str x, .str y => some (decide (x < y))
    | .bl a, .bl b => some (decide (PyProof.Rows.b2i a < PyProof.Rows.b2i b))
    | .tup xs, .tup ys => lexO (dEqN n) (dLtN n) xs ys
    | _, _ => none
where
  lexO (f g : D → D → Option Bool) : List D → List D → Option Bool
    | x :: xs, y :: ys => match f x y, lexO f g xs ys with
      | some true, some r => some r
      | some false, some _ => g x y
      | _, _ => none
    | xs, ys => some (decide (xs.length < ys.length))
def dLt (d e : D) : Option D := (dLtN 10 d e).map .bl
def dLe (d e : D) : Option D := match d, e with
  | .int i, .int j => some (.bl (decide (i ≤ j)))
  | .str x, .str y => some (.bl (!decide (y < x)))
  | _, _ => none
def dGt (d e : D) : Option D := match d, e with
  | .int i, .int j => some (.bl (decide (j < i)))
  | .str x, .str y => some (.bl (decide (y < x)))
  | _, _ => none
def dGe (d e : D) : Option D := match d, e with
  | .int i, .int j => some (.bl (decide (j ≤ i)))
  | .str x, .str y => some (.bl (!decide (x < y)))
  | _, _ => none
def anyO (f : D → Option Bool) : List D → Option Bool
  | [] => some false
  | x :: xs => match f x, anyO f xs with | some a, some b => some (a || b) | _, _ => none
def inB (d e : D) : Option Bool := match e with
  | .lst xs => anyO (fun x => dEqN 60 x d) xs
  | .tup xs => anyO (fun x => dEqN 60 x d) xs
  | .str z => match d with | .str [c] => some (decide (c ∈ z)) | _ => none
  | .dct ks _ => (keyOf d).map fun k => hasK ks k
  | _ => none
def dIn (d e : D) : Option D := (inB d e).map .bl
def dNotIn (d e : D) : Option D := (inB d e).map fun b => .bl (!b)
def dIs (d e : D) : Option D := match e with
  | .non => (match d with | .non => some (.bl true) | .bl _ => some (.bl false) | .int _ => some (.bl false) | .str _ => some (.bl false) | .lst _ => some (.bl false) | .tup _ => some (.bl false) | .dct _ _ => some (.bl false) | .obj _ _ _ => some (.bl false) | _ => none)
  | .bl b => (match d with | .bl a => some (.bl (decide (a = b))) | _ => none)
  | _ => none
def dIsNot (d e : D) : Option D := match dIs d e with | some (.bl b) => some (.bl (!b)) | _ => none
section
variable {X : Cx} {M : Mp} {pins : List (Addr × Obj)} {σ : St} {H : Hp} {s : Shared} {ρ : List Addr}
theorem opd_eq (hu : X.A.units + 64 < cLine) : OpR X (compareOp .Eq) (rOp (kx X M) (vv dEq)) := by
  intro pins s σ H x y v u Q I rx ry ⟨B, ρ, S, d, e, r0, c, rd, re, g0, k⟩
  obtain ⟨r, g, rfl⟩ := vv_some g0
  simp only [dEq, Option.map_eq_some_iff] at g
  obtain ⟨b, g, rfl⟩ := g
  exact (eq_all I 60 X.A (by omega) (rd.toH c) (re.toH c) rx ry g).2.1 X.prog X.w X.xe _ ⟨.bl b, H, I, rfl, k _ H B ρ (.refl _ _ _) c (.bl _)⟩
theorem opd_ne (hu : X.A.units + 64 < cLine) : OpR X (compareOp .NotEq) (rOp (kx X M) (vv dNe)) := by
  intro pins s σ H x y v u Q I rx ry ⟨B, ρ, S, d, e, r0, c, rd, re, g0, k⟩
  obtain ⟨r, g, rfl⟩ := vv_some g0
  simp only [dNe, Option.map_eq_some_iff] at g
  obtain ⟨b, g, rfl⟩ := g
  exact (eq_all I 60 X.A (by omega) (rd.toH c) (re.toH c) rx ry g).2.2 X.prog X.w X.xe _ ⟨.bl _, H, I, rfl, k _ H B ρ (.refl _ _ _) c (.bl _)⟩
theorem lexO_get {f g : D → D → Option Bool} : ∀ {xs ys : List D} {b : Bool}, dLtN.lexO f g xs ys = some b → ∃ e r : Nat → Bool, (∀ (j : Nat) (x y : D), xs[j]? = some x → ys[j]? = some y → f x y = some (e j)) ∧
    (∀ (j : Nat), e j = false → ∀ (x y : D), xs[j]? = some x → ys[j]? = some y → g x y = some (r j)) ∧ Ob.lexAt e r (decide (xs.length < ys.length)) 0 (min xs.length ys.length) = b
  | [], ys, b, h => ⟨fun _ => true, fun _ => true, fun j x y h1 => by simp at h1, fun _ h => (by cases h), by simp only [dLtN.lexO, Option.some.injEq] at h; simpa [Ob.lexAt] using h⟩
  | x :: xs, [], b, h => ⟨fun _ => true, fun _ => true, fun j x y _ h2 => by simp at h2, fun _ h => (by cases h), by simp only [dLtN.lexO, Option.some.injEq] at h; simpa [Ob.lexAt] using h⟩
  | x :: xs, y :: ys, b, h => by
    have shift : ∀ (e r e' r' : Nat → Bool) (z : Bool), (∀ j, e (j + 1) = e' j) → (∀ j, r (j + 1) = r' j) → ∀ k i, Ob.lexAt e r z (i + 1) k = Ob.lexAt e' r' z i k := by
      intro e r e' r' z h1 h2 k
      induction k with
      | zero => intro i; rfl
      | succ k ih => intro i; rw [Ob.lexAt_succ, Ob.lexAt_succ, h1, h2, ih]
    have e1 : min (x :: xs).length (y :: ys).length = min xs.length ys.length + 1 := by simp only [List.length_cons]; omega
    simp only [dLtN.lexO] at h
    split at h
    · rename_i r0 h1 h2
      cases h
      obtain ⟨e, r, h3, h4, h5⟩ := lexO_get h2
      refine ⟨fun j => match j with | 0 => true | j + 1 => e j, fun j => match j with | 0 => true | j + 1 => r j, fun j x' y' q1 q2 => ?_, fun j hj x' y' q1 q2 => ?_, ?_⟩
      · cases j with
        | zero => simp at q1 q2; subst q1; subst q2; exact h1
        | succ j => exact h3 j x' y' (by simpa using q1) (by simpa using q2)
      · cases j with
        | zero => cases hj
        | succ j => exact h4 j hj x' y' (by simpa using q1) (by simpa using q2)
      · rw [e1, Ob.lexAt_succ, if_pos rfl, shift _ _ e r _ (fun _ => rfl) (fun _ => rfl)]
        simpa using h5
    · rename_i r0 h1 h2
      obtain ⟨e, r, h3, h4, h5⟩ := lexO_get h2
      refine ⟨fun j => match j with | 0 => false | j + 1 => e j, fun j => match j with | 0 => b | j + 1 => r j, fun j x' y' q1 q2 => ?_, fun j hj x' y' q1 q2 => ?_, ?_⟩
      · cases j with
        | zero => simp at q1 q2; subst q1; subst q2; exact h1
        | succ j => exact h3 j x' y' (by simpa using q1) (by simpa using q2)
      · cases j with
        | zero => simp at q1 q2; subst q1; subst q2; exact h
        | succ j => exact h4 j hj x' y' (by simpa using q1) (by simpa using q2)
      · rw [e1, Ob.lexAt_succ, if_neg (by simp)]
    · cases h
theorem lt_all (I : Inv X pins σ H s) : ∀ (n : Nat) (A : Around), A.units + n < cLine → ∀ {d e : D} {v u : V} {v' u' : Value} {b : Bool}, Rep (kx X M) H ρ v d → Rep (kx X M) H ρ u e → RelV v v' → RelV u u' → dLtN n d e = some b → Ob.RcOp .Lt A s v' u' b
  | 0, _, _, _, _, _, _, _, _, _, _, _, _, _, h => by simp [dLtN] at h
  | n + 1, A, hu, _, _, _, _, _, _, b, r1, r2, q1, q2, h => by
    have hu0 : A.units < cLine := by omega
    unfold dLtN at h
    split at h
    · cases h; cases r1; cases r2
      obtain ⟨t, rfl⟩ := q1
      obtain ⟨t', rfl⟩ := q2
      exact .lt_int _ _ _ _
    · cases h; cases r1; cases r2
      obtain ⟨t, rfl⟩ := q1
      obtain ⟨t', rfl⟩ := q2
      exact fun prog w E Q h => PyProof.Rows.lt_str h
    · cases h; cases r1; cases r2
      cases q1; cases q2
      exact fun prog w E Q h => PyProof.Rows.lt_bool h
    · rename_i xs ys
      cases r1 with
      | tup h1 t1 =>
        cases r2 with
        | tup h2 t2 =>
          obtain ⟨its, v1, p1, _⟩ := I.tuple h1.sq
          obtain ⟨jts, v2, p2, _⟩ := I.tuple h2.sq
          cases (show _ = Value.ref _ from q1)
          cases (show _ = Value.ref _ from q2)
          obtain ⟨e, r, he, hr, hb⟩ := lexO_get h
          have n1 : its.toArray.size = xs.length := by simp only [List.size_toArray]; rw [← v1.length, t1.length]
          have n2 : jts.toArray.size = ys.length := by simp only [List.size_toArray]; rw [← v2.length, t2.length]
          rw [← n1, ← n2] at hb
          rw [← hb]
          refine .tuples_lt p1 p2 hu0 (items_at (fun {d e v u v' u' b} => eq_all I n A.in1 (by show A.units + 1 + n < cLine; omega) (d := d) (e := e) (v := v) (u := u) (v' := v') (u' := u') (b := b)) t1 t2 v1 v2 he) fun j h1 h2 hj => ?_
          have l1 : j < its.length := by simpa using h1
          have l2 : j < jts.length := by simpa using h2
          have k1 : j < xs.length := by rw [← t1.length, v1.length]; exact l1
          have k2 : j < ys.length := by rw [← t2.length, v2.length]; exact l2
          obtain ⟨a1, e1, z1⟩ := t1.get (List.getElem?_eq_getElem k1)
          obtain ⟨a2, e2, z2⟩ := t2.get (List.getElem?_eq_getElem k2)
          obtain ⟨b1, e3, z3⟩ := v1.get e1
          obtain ⟨b2, e4, z4⟩ := v2.get e2
          have y1 : its.toArray[j] = b1 := by rw [List.getElem?_eq_getElem l1] at e3; simpa using e3
          have y2 : jts.toArray[j] = b2 := by rw [List.getElem?_eq_getElem l2] at e4; simpa using e4
          rw [y1, y2]
          exact lt_all I n A.in1 (by show A.units + 1 + n < cLine; omega) z1 z2 z3 z4 (hr j hj _ _ (List.getElem?_eq_getElem k1) (List.getElem?_eq_getElem k2))
    · cases h
theorem opd_lt (hu : X.A.units + 64 < cLine) : OpR X (compareOp .Lt) (rOp (kx X M) (vv dLt)) := by
  intro pins s σ H x y v u Q I rx ry ⟨B, ρ, S, d, e, r0, c, rd, re, g0, k⟩
  obtain ⟨r, g, rfl⟩ := vv_some g0
  simp only [dLt, Option.map_eq_some_iff] at g
  obtain ⟨b, g, rfl⟩ := g
  exact lt_all I 10 X.A (by omega) (rd.toH c) (re.toH c) rx ry g X.prog X.w X.xe _ ⟨.bl b, H, I, rfl, k _ H B ρ (.refl _ _ _) c (.bl _)⟩
theorem opd_le : OpR X (compareOp .LtE) (rOp (kx X M) (vv dLe)) := by
  intro pins s σ H x y v u Q I rx ry ⟨B, ρ, S, d, e, r0, c, rd, re, g0, k⟩
  obtain ⟨r, g, rfl⟩ := vv_some g0
  unfold dLe at g
  split at g
  · cases g; rw [rd.int] at rx; rw [re.int] at ry
    exact op_le pins s σ H _ _ v u Q I rx ry ⟨_, _, rfl, rfl, k _ H B ρ (.refl _ _ _) c (.bl _)⟩
  · cases g; rw [rd.str] at rx; rw [re.str] at ry
    exact op_le_str pins s σ H _ _ v u Q I rx ry ⟨_, _, rfl, rfl, k _ H B ρ (.refl _ _ _) c (.bl _)⟩
  · cases g
theorem opd_gt : OpR X (compareOp .Gt) (rOp (kx X M) (vv dGt)) := by
  intro pins s σ H x y v u Q I rx ry ⟨B, ρ, S, d, e, r0, c, rd, re, g0, k⟩
  obtain ⟨r, g, rfl⟩ := vv_some g0
  unfold dGt at g
  split at g
  · cases g; rw [rd.int] at rx; rw [re.int] at ry
    exact op_gt pins s σ H _ _ v u Q I rx ry ⟨_, _, rfl, rfl, k _ H B ρ (.refl _ _ _) c (.bl _)⟩
  · cases g; rw [rd.str] at rx; rw [re.str] at ry
    exact op_gt_str pins s σ H _ _ v u Q I rx ry ⟨_, _, rfl, rfl, k _ H B ρ (.refl _ _ _) c (.bl _)⟩
  · cases g
theorem opd_ge : OpR X (compareOp .GtE) (rOp (kx X M) (vv dGe)) := by
  intro pins s σ H x y v u Q I rx ry ⟨B, ρ, S, d, e, r0, c, rd, re, g0, k⟩
  obtain ⟨r, g, rfl⟩ := vv_some g0
  unfold dGe at g
  split at g
  · cases g; rw [rd.int] at rx; rw [re.int] at ry
    exact op_ge pins s σ H _ _ v u Q I rx ry ⟨_, _, rfl, rfl, k _ H B ρ (.refl _ _ _) c (.bl _)⟩
  · cases g; rw [rd.str] at rx; rw [re.str] at ry
    exact op_ge_str pins s σ H _ _ v u Q I rx ry ⟨_, _, rfl, rfl, k _ H B ρ (.refl _ _ _) c (.bl _)⟩
  · cases g
theorem anyO_get {f : D → Option Bool} : ∀ {xs : List D} {b : Bool}, anyO f xs = some b → (∀ x ∈ xs, ∃ c, f x = some c) ∧ b = xs.any fun x => (f x).getD false
  | [], b, h => by simp [anyO] at h; subst h; simp
  | x :: xs, b, h => by
    simp only [anyO] at h
    split at h
    · rename_i a c h1 h2
      cases h
      obtain ⟨q1, q2⟩ := anyO_get h2
      subst q2
      refine ⟨fun y hy => ?_, by simp [h1]⟩
      rcases List.mem_cons.mp hy with e | e
      · subst e; exact ⟨a, h1⟩
      · exact q1 y e
    · cases h
mutual
theorem eq_det (I : Inv X pins σ H s) : ∀ (n : Nat) {d d' e : D} {v : V} {b c : Bool}, Rep (kx X M) H ρ v d → Rep (kx X M) H ρ v d' → dEqN n d e = some b → dEqN n d' e = some c → b = c
  | 0, _, _, _, _, _, _, _, _, h, _ => by simp [dEqN] at h
  | n + 1, _, _, e, _, b, c, r1, r2, h, h' => by
    cases r1 with
    | non => cases r2; rw [h] at h'; exact Option.some.inj h'
    | bl x => cases r2; rw [h] at h'; exact Option.some.inj h'
    | int x => cases r2; rw [h] at h'; exact Option.some.inj h'
    | str x =>
      generalize hv : (V.str (sOf x)) = v at r2
      cases r2 with
      | str y =>
        have : x = y := sOf_inj (by injection hv)
        subst this
        rw [h] at h'; exact Option.some.inj h'
      | _ => cases hv
    | tup h1 t1 =>
      cases r2 with
      | tup h2 t2 =>
        have q := I.tuple_inj h1.sq h2.sq
        subst q
        cases e with
        | tup es =>
          simp only [dEqN, Option.map_eq_some_iff] at h h'
          obtain ⟨k, h3, rfl⟩ := h
          obtain ⟨k', h4, rfl⟩ := h'
          rw [eq_detL I n t1 t2 h3 h4, ← t1.length, ← t2.length]
        | _ => simp [dEqN] at h h'; try rw [h, h']
      | lst h2 t2 => exact (no_both I (SqL.of h2) h1).elim
      | dct h2 _ _ => exact (no_dt I h2 h1).elim
      | obj _ _ _ _ _ => simp [dEqN] at h'
      | exn _ _ _ _ _ => simp [dEqN] at h'
      | fn _ => simp [dEqN] at h'
      | ref h2 => simp [dEqN] at h'
      | scr h2 => simp [dEqN] at h'
    | lst h1 t1 =>
      cases r2 with
      | tup h2 t2 => exact (no_both I (SqL.of h1) h2).elim
      | lst h2 t2 =>
        rw [h1] at h2
        cases h2
        cases e with
        | lst es =>
          simp only [dEqN, ← t1.length, ← t2.length] at h h'
          split at h
          · rename_i q
            rw [if_pos q] at h'
            exact eq_detL I n t1 t2 h h'
          · rename_i q
            rw [if_neg q, h] at h'
            exact Option.some.inj h'
        | _ => simp [dEqN] at h h'; try rw [h, h']
      | dct h2 _ _ => rw [h1] at h2; cases h2
      | obj _ _ _ _ _ => simp [dEqN] at h'
      | exn _ _ _ _ _ => simp [dEqN] at h'
      | fn _ => simp [dEqN] at h'
      | ref h2 => simp [dEqN] at h'
      | scr h2 => simp [dEqN] at h'
    | dct h1 _ _ =>
      cases r2 with
      | tup h2 _ => exact (no_dt I h1 h2).elim
      | lst h2 _ => rw [h1] at h2; cases h2
      | dct h2 _ _ => cases e <;> simp [dEqN] at h h' <;> rw [h, h']
      | obj _ _ _ _ _ => simp [dEqN] at h'
      | exn _ _ _ _ _ => simp [dEqN] at h'
      | fn _ => simp [dEqN] at h'
      | ref h2 => simp [dEqN] at h'
      | scr h2 => simp [dEqN] at h'
    | obj _ _ _ _ _ => simp [dEqN] at h
    | exn _ _ _ _ _ => simp [dEqN] at h
    | fn _ => simp [dEqN] at h
    | ref h1 => simp [dEqN] at h
    | scr h1 => simp [dEqN] at h
theorem eq_detL (I : Inv X pins σ H s) (n : Nat) : ∀ {ds ds' es : List D} {vs : List V} {b c : Bool}, RepL (kx X M) H ρ vs ds → RepL (kx X M) H ρ vs ds' → zipO (dEqN n) ds es = some b → zipO (dEqN n) ds' es = some c → b = c
  | _, _, es, _, _, _, .nil, .nil, h, h' => by simp [zipO] at h h'; rw [h, h']
  | _, _, [], _, _, _, .cons h1 t1, .cons h2 t2, h, h' => by simp [zipO] at h h'; rw [h, h']
  | _, _, e :: es, _, _, _, .cons h1 t1, .cons h2 t2, h, h' => by
    simp only [zipO] at h h'
    split at h
    · rename_i a c q1 q2
      split at h'
      · rename_i a' c' q3 q4
        cases h; cases h'
        rw [eq_det I n h1 h2 q1 q3, eq_detL I n t1 t2 q2 q4]
      · cases h'
    · cases h
end
theorem any_items {vs : List V} {ds : List D} {its : List Value} (I : Inv X pins σ H s) (t : RepL (kx X M) H ρ vs ds) (r : Vals vs its) {d : D} {x : V} {x' : Value} (rx : Rep (kx X M) H ρ x d) (qx : RelV x x') {b : Bool} (A : Around) (hu : A.units + 61 < cLine)
    (h : anyO (fun y => dEqN 60 y d) ds = some b) : ∃ e : Value → Bool, (∀ y, y ∈ its.toArray → EqAt A.in1 s y x' (e y)) ∧ its.toArray.any e = b := by
  obtain ⟨h1, rfl⟩ := anyO_get h
  have at_ : ∀ (j : Nat) (y : Value), its[j]? = some y → ∃ (v : V) (z : D) (c : Bool), ds[j]? = some z ∧ dEqN 60 z d = some c ∧ RelV v y ∧ Rep (kx X M) H ρ v z ∧ EqAt A.in1 s y x' c := fun j y hy => by
    have l0 : j < its.length := (List.getElem?_eq_some_iff.mp hy).1
    have l1 : j < vs.length := by rw [r.length]; exact l0
    have l2 : j < ds.length := by rw [← t.length]; exact l1
    obtain ⟨v, e1, q1⟩ := t.get (List.getElem?_eq_getElem l2)
    obtain ⟨v', e2, q2⟩ := r.get e1
    rw [hy] at e2; cases e2
    obtain ⟨c, hc⟩ := h1 ds[j] (List.getElem_mem l2)
    exact ⟨v, ds[j], c, List.getElem?_eq_getElem l2, hc, q2, q1, (eq_all I 60 A.in1 (by show A.units + 1 + 60 < cLine; omega) q1 rx q2 qx hc).1⟩
  refine ⟨fun y => ((its.findIdx? (· == y)).bind fun j => (ds[j]?).bind fun z => dEqN 60 z d).getD false, fun y hy => ?_, ?_⟩
  · have hy' : y ∈ its := by simpa using hy
    cases q : its.findIdx? (· == y) with
    | none =>
      rw [List.findIdx?_eq_none_iff] at q
      exact absurd (q y hy') (by simp)
    | some j =>
      obtain ⟨hj, hj2, _⟩ := List.findIdx?_eq_some_iff_getElem.mp q
      have hj3 : its[j]? = some y := by rw [List.getElem?_eq_getElem hj]; simpa using hj2
      obtain ⟨v, z, c, z1, z2, z3, z4, z5⟩ := at_ j y hj3
      simp only [q, Option.bind_some, z1, z2, Option.getD_some]
      exact z5
  · have each : ∀ (j : Nat) (y : Value) (z : D), its[j]? = some y → ds[j]? = some z → (((its.findIdx? (· == y)).bind fun j => (ds[j]?).bind fun z => dEqN 60 z d).getD false) = (dEqN 60 z d).getD false := fun j y z hy hz => by
      cases q : its.findIdx? (· == y) with
      | none =>
        rw [List.findIdx?_eq_none_iff] at q
        exact absurd (q y (List.mem_of_getElem? hy)) (by simp)
      | some i =>
        obtain ⟨hj, hj2, _⟩ := List.findIdx?_eq_some_iff_getElem.mp q
        have hj3 : its[i]? = some y := by rw [List.getElem?_eq_getElem hj]; simpa using hj2
        obtain ⟨v, z', c, z1, z2, z3, z4, z5⟩ := at_ i y hj3
        obtain ⟨w, z'', c', y1, y2, y3, y4, y5⟩ := at_ j y hy
        rw [hz] at y1; cases y1
        have e := z3.inj y3
        subst e
        simp only [Option.bind_some, z1, z2, y2, Option.getD_some]
        exact eq_det I 60 z4 y4 z2 y2
    rw [List.any_toArray]
    have ln : its.length = ds.length := by rw [← r.length, t.length]
    rw [Bool.eq_iff_iff, List.any_eq_true, List.any_eq_true]
    constructor
    · rintro ⟨y, hy, hh⟩
      obtain ⟨j, hj, rfl⟩ := List.getElem_of_mem hy
      have hj2 : j < ds.length := by rw [← ln]; exact hj
      exact ⟨ds[j], List.getElem_mem hj2, by rw [← each j its[j] ds[j] (List.getElem?_eq_getElem hj) (List.getElem?_eq_getElem hj2)]; exact hh⟩
    · rintro ⟨z, hz, hh⟩
      obtain ⟨j, hj, rfl⟩ := List.getElem_of_mem hz
      have hj2 : j < its.length := by rw [ln]; exact hj
      exact ⟨its[j], List.getElem_mem hj2, by rw [each j its[j] ds[j] (List.getElem?_eq_getElem hj2) (List.getElem?_eq_getElem hj)]; exact hh⟩
theorem opd_in (hu : X.A.units + 64 < cLine) : OpR X (compareOp .In) (rOp (kx X M) (vv dIn)) := by
  intro pins s σ H x y v u Q I rx ry ⟨B, ρ, S, d, e, r0, c, rd, re, g0, k⟩
  obtain ⟨r, g, rfl⟩ := vv_some g0
  simp only [dIn, Option.map_eq_some_iff] at g
  obtain ⟨b, g, rfl⟩ := g
  have fin : EP X pins σ Q (.bool b) s := ⟨.bl b, H, I, rfl, k _ H B ρ (.refl _ _ _) c (.bl _)⟩
  unfold inB at g
  split at g
  · have r2 := re.toH c
    cases r2 with
    | lst h t =>
      obtain ⟨its, rv, p, _⟩ := I.list (SqL.of h)
      cases (show u = Value.ref _ from ry)
      obtain ⟨e, he, hb⟩ := any_items I t rv (rd.toH c) rx X.A (by omega) g
      exact in_listAt e p.isList he (by rw [hb]; exact fin)
  · have r2 := re.toH c
    cases r2 with
    | tup h t =>
      obtain ⟨its, rv, p, _⟩ := I.tuple h.sq
      cases (show u = Value.ref _ from ry)
      obtain ⟨e, he, hb⟩ := any_items I t rv (rd.toH c) rx X.A (by omega) g
      exact in_tupleAt e p he (by rw [hb]; exact fin)
  · split at g
    · cases g
      rw [rd.str] at rx; rw [re.str] at ry
      exact op_in_sign pins s σ H _ _ v u Q I rx ry ⟨_, _, rfl, rfl, k _ H B ρ (.refl _ _ _) c (.bl _)⟩
    · cases g
  · simp only [Option.map_eq_some_iff] at g
    obtain ⟨key, hk, hb⟩ := g
    obtain ⟨a, vs, rfl, h1, l1, _⟩ := re.dct c
    cases (show u = Value.ref _ from ry)
    rw [key_repO rd hk] at rx
    refine d_in (by omega) I (DGet.k (k := key) h1) rx fun s' I' => ?_
    rw [has_rep l1, hb]
    exact ⟨.bl _, H, I', rfl, k _ H B ρ (.refl _ _ _) c (.bl _)⟩
  · cases g
theorem opd_notIn (hu : X.A.units + 64 < cLine) : OpR X (compareOp .NotIn) (rOp (kx X M) (vv dNotIn)) := by
  intro pins s σ H x y v u Q I rx ry ⟨B, ρ, S, d, e, r0, c, rd, re, g0, k⟩
  obtain ⟨r, g, rfl⟩ := vv_some g0
  simp only [dNotIn, Option.map_eq_some_iff] at g
  obtain ⟨b, g, rfl⟩ := g
  have fin : EP X pins σ Q (.bool (!b)) s := ⟨.bl (!b), H, I, rfl, k _ H B ρ (.refl _ _ _) c (.bl _)⟩
  unfold inB at g
  split at g
  · have r2 := re.toH c
    cases r2 with
    | lst h t =>
      obtain ⟨its, rv, p, _⟩ := I.list (SqL.of h)
      cases (show u = Value.ref _ from ry)
      obtain ⟨e, he, hb⟩ := any_items I t rv (rd.toH c) rx X.A (by omega) g
      exact notIn_listAt e p.isList he (by rw [hb]; exact fin)
  · have r2 := re.toH c
    cases r2 with
    | tup h t =>
      obtain ⟨its, rv, p, _⟩ := I.tuple h.sq
      cases (show u = Value.ref _ from ry)
      obtain ⟨e, he, hb⟩ := any_items I t rv (rd.toH c) rx X.A (by omega) g
      exact notIn_tupleAt e p he (by rw [hb]; exact fin)
  · split at g
    · cases g
      rw [rd.str] at rx; rw [re.str] at ry
      exact op_notIn_sign pins s σ H _ _ v u Q I rx ry ⟨_, _, rfl, rfl, k _ H B ρ (.refl _ _ _) c (.bl _)⟩
    · cases g
  · simp only [Option.map_eq_some_iff] at g
    obtain ⟨key, hk, hb⟩ := g
    obtain ⟨a, vs, rfl, h1, l1, _⟩ := re.dct c
    cases (show u = Value.ref _ from ry)
    rw [key_repO rd hk] at rx
    refine d_notIn (by omega) I (DGet.k (k := key) h1) rx fun s' I' => ?_
    rw [has_rep l1, hb]
    exact ⟨.bl _, H, I', rfl, k _ H B ρ (.refl _ _ _) c (.bl _)⟩
  · cases g
theorem opd_is : OpR X (compareOp .Is) (rOp (kx X M) (vv dIs)) := by
  intro pins s σ H x y v u Q I rx ry ⟨B, ρ, S, d, e, r0, c, rd, re, g0, k⟩
  obtain ⟨r, g, rfl⟩ := vv_some g0
  unfold dIs at g
  split at g
  · rw [re.non] at ry
    have r1 := rd.toH c
    have fin : ∀ b : Bool, r = .bl b → decide (x = V.non) = b → wpAny (model X.prog X.w) X.A (compareOp .Is v u) (EP X pins σ Q) X.xe s := fun b e1 e2 => by
      subst e1
      exact op_isN pins s σ H _ _ v u Q I rx ry ⟨rfl, by rw [e2]; exact k _ H B ρ (.refl _ _ _) c (.bl _)⟩
    split at g <;> cases g <;> refine fin _ rfl ?_ <;> cases r1 <;> rfl
  · split at g
    · cases g; rw [rd.bl] at rx; rw [re.bl] at ry
      exact op_isBl pins s σ H _ _ v u Q I rx ry ⟨_, _, rfl, rfl, k _ H B ρ (.refl _ _ _) c (.bl _)⟩
    · cases g
  · cases g
theorem opd_isNot : OpR X (compareOp .IsNot) (rOp (kx X M) (vv dIsNot)) := by
  intro pins s σ H x y v u Q I rx ry ⟨B, ρ, S, d, e, r0, c, rd, re, g0, k⟩
  obtain ⟨r, g, rfl⟩ := vv_some g0
  unfold dIsNot at g
  split at g
  · rename_i b g1
    cases g
    unfold dIs at g1
    split at g1
    · rw [re.non] at ry
      have r1 := rd.toH c
      have fin : decide (x = V.non) = b → wpAny (model X.prog X.w) X.A (compareOp .IsNot v u) (EP X pins σ Q) X.xe s := fun e2 =>
        op_notN pins s σ H _ _ v u Q I rx ry ⟨rfl, by rw [e2]; exact k _ H B ρ (.refl _ _ _) c (.bl _)⟩
      split at g1 <;> cases g1 <;> refine fin ?_ <;> cases r1 <;> rfl
    · split at g1
      · cases g1; rw [rd.bl] at rx; rw [re.bl] at ry
        exact op_notBl pins s σ H _ _ v u Q I rx ry ⟨_, _, rfl, rfl, k _ H B ρ (.refl _ _ _) c (.bl _)⟩
      · cases g1
    · cases g1
  · cases g
end
end DL
namespace DL
open PySem L2 SeqAt
def rSlF (K : PySem.W.Frag) : V → Option Int → Option Int → Hp → VK → Prop := fun x lo hi H Q => ∃ a xs, x = .ref a ∧ SqT K H a xs ∧ (HT.sIx xs.length 0 lo = 0 ∧ HT.sIx xs.length xs.length hi = xs.length → Q (.ref a) H) ∧
  (¬ (HT.sIx xs.length 0 lo = 0 ∧ HT.sIx xs.length xs.length hi = xs.length) → ∀ (p : Addr) (o : Obj), H p = none → o.dict = none → Q (.ref p) (upd H p (.frz o (.tup (cutV xs lo hi)))))
theorem sl_tupF {X : Cx} : SlR X (rSlF X.K) := by
  intro pins s σ H x v vl vu lo hi sl Q I rx hs pl pu ⟨a, xs, ea, hx, q1, q2⟩
  by_cases hw : HT.sIx xs.length 0 lo = 0 ∧ HT.sIx xs.length xs.length hi = xs.length
  · exact sl_tupA pins s σ H x v vl vu lo hi sl Q I rx hs pl pu ⟨a, xs, ea, hx, q1, fun z => absurd hw z⟩
  subst ea
  cases rx
  obtain ⟨is, r, ht, hz⟩ := I.tuple hx
  have hl : is.toArray.size = xs.length := by rw [List.size_toArray]; exact r.length.symm
  refine ⟨"tuple", _, PyProof.Rows.slot_tuple_getitem.lookup, ht.typeIs, HT.getItem_tuple_cut ht hs pl pu (by rw [hl]; exact hw) ?_ (by rw [hl]; exact hz)⟩
  rw [hl]
  exact ⟨.ref s.heap.objs.size, _, I.laid (t' := s.toks) (o := .frz _ (.tup (cutV xs lo hi))) (fun b ob q => Heap.get?_push_of_some _ q) (Nat.le_refl _) ⟨Heap.get?_push_size _ rfl, Nat.le_trans (cutV_length xs lo hi) hz, _, (r.drop (HT.sIx xs.length 0 lo)).take (HT.sIx xs.length xs.length hi - HT.sIx xs.length 0 lo), PyProof.Rows.IsTup.new _ _⟩, rfl, q2 hw _ _ (I.hok.fresh (Nat.le_refl _)) rfl⟩
theorem call_tupleF {X : Cx} : CallR X (.type "tuple") (fun xs H Q => ∃ p ys, xs = [.ref p] ∧ SqL X.K H p ys ∧ ∀ (l : Addr) (o : Obj), H l = none → o.dict = none → Q (.ref l) (upd H l (.frz o (.tup ys)))) := by
  intro pins s σ H xs us Q I r ⟨p, ys, ep, hq, q⟩
  subst ep
  obtain ⟨u, rfl, rx⟩ := vals1 r
  cases rx
  obtain ⟨is, r', pl, hz⟩ := I.list hq
  have hl := r'.length
  refine call_tuple_list pl.isList (fun h' kp => ?_) (by simp only [List.size_toArray] <;> omega)
  have I1 : Inv X pins σ H { s with heap := h' } := I.kept (t' := s.toks) kp
  exact ⟨.ref h'.objs.size, _, I1.laid (t' := s.toks) (o := .frz _ (.tup ys)) (fun b o e => Heap.get?_push_of_some _ e) (Nat.le_refl _) ⟨Heap.get?_push_size _ rfl, hz, is, r', PyProof.Rows.IsTup.new _ _⟩, rfl, q _ _ (I1.hok.fresh (Nat.le_refl _)) rfl⟩
section
variable {X : Cx} {M : Mp} {W : WX} {e e1 e2 e3 : Expr} {es : List Expr} {fa fb fc : Ev D} {fs : Ev (List D)} {pos : Pos}
def kCh3 (g' : D → D → Option D) (fc : Ev D) (γ : List Slot) (E : XC) (Q : D → Sto → Prop) (y : D) (o : Option D) (S : Sto) : Prop := match o with
  | some (.bl true) => fc γ S E fun z S => optW (g' (dr S y) (dr S z)) S Q
  | some (.bl false) => Q (.bl false) S
  | _ => False
def eChain (g g' : D → D → Option D) (fa fb fc : Ev D) : Ev D := fun γ S E Q => fa γ S E fun x S => fb γ S E fun y S => kCh3 g' fc γ E Q y (g (dr S x) (dr S y)) S
theorem chain_imp {K : Kx} {g g' : D → D → Option D} : ∀ σ H Q, tD K W (eChain g g' fa fb fc) σ H Q → tChain (rOp K (vv g)) (rOp K (vv g')) (tDO K W fa) (tDO K W fb) (tDO K W fc) σ H Q := fun σ H Q ⟨B, ρ, γ, S, E', Q', at_, h, k⟩ =>
  ⟨B, ρ, γ, S, E', _, at_, h, fun x S1 h1 v H1 B1 ρ1 x1 c1 r1 => ⟨B1, ρ1, γ, S1, E', _, at_.ext x1 c1, h1, fun y S2 h2 u H2 B2 ρ2 x2 c2 r2 => by
    unfold kCh3 at h2
    split at h2
    · rename_i o hg
      refine ⟨B2, ρ2, S2, _, _, .v (.bl true), c2, (r1.ext x2).o c2, r2.o c2, by simp only [vv, hg, Option.map_some], fun w H3 B3 ρ3 x3 c3 r3 => ?_⟩
      cases r3
      refine ⟨true, rfl, iteT ?_⟩
      have x13 := (x1.tr x2).tr x3
      refine ⟨B3, ρ3, γ, S2, E', _, at_.ext x13 c3, h2, fun z S3 h3 w' H4 B4 ρ4 x4 c4 r4 => ?_⟩
      obtain ⟨d, e, h4⟩ := optW_ok h3
      exact ⟨B4, ρ4, S3, _, _, .v d, c4, ((r2.ext x3).ext x4).o c4, r4.o c4, by simp only [vv, e, Option.map_some], Post.from (r := .v d) (x13.tr x4) (k d S3 h4)⟩
    · rename_i o hg
      refine ⟨B2, ρ2, S2, _, _, .v (.bl false), c2, (r1.ext x2).o c2, r2.o c2, by simp only [vv, hg, Option.map_some], fun w H3 B3 ρ3 x3 c3 r3 => ?_⟩
      cases r3
      exact ⟨false, rfl, iteF (k _ S2 h2 _ H3 B3 ρ3 ((x1.tr x2).tr x3) c3 (.bl _))⟩
    · exact h2.elim⟩⟩
theorem de_chain {op op' : CmpOp} {g g' : D → D → Option D} (ho : OpR X (compareOp op) (rOp (kx X M) (vv g))) (ho' : OpR X (compareOp op') (rOp (kx X M) (vv g'))) (ha : DO X M W e1 fa) (hb : DO X M W e2 fb) (hc : DO X M W e3 fc) (hm : lastMarks [op, op'] [e2, e3] = false) :
    DE X M W (.Compare e1 [op, op'] [e2, e3] pos) (eChain g g' fa fb fc) := PE.imp (pe_chain ho ho' ha hb hc hm) chain_imp
theorem dt_chain {op op' : CmpOp} {g g' : D → D → Option D} (ho : OpR X (compareOp op) (rOp (kx X M) (vv g))) (ho' : OpR X (compareOp op') (rOp (kx X M) (vv g'))) (ha : DO X M W e1 fa) (hb : DO X M W e2 fb) (hc : DO X M W e3 fc) (hm : lastMarks [op, op'] [e2, e3] = false) :
    DT X M W (.Compare e1 [op, op'] [e2, e3] pos) (eBl (eChain g g' fa fb fc)) := PT.imp (pt_chain ho ho' ha hb hc hm) fun σ H Q h => chain_imp σ H _ (bl_imp σ H _ h)
def dIx : D → D → Option D
  | .lst xs, .int i => atI xs i
  | .tup xs, .int i => atI xs i
  | .str z, .int i => if z.length ≤ sizeLine then (atI z i).map fun c => .str [c] else none
  | .scr ns, .int i => (atI ns i).map .int
  | .dct ks xs, d => (keyOf d).bind fun k => lookL ks xs k
  | _, _ => none
theorem atI_rep {K : Kx} {B : Hp} {ρ : List Addr} {vs : List V} {ds : List D} {i : Int} {d : D} (t : RepL K B ρ vs ds) (h : atI ds i = some d) : ∃ v, atI vs i = some v ∧ Rep K B ρ v d := by
  unfold atI at h ⊢
  rw [t.length]
  cases q : ixN ds.length i with
  | none => rw [q] at h; cases h
  | some j =>
    rw [q] at h
    exact t.get h
theorem ixd (hu : X.A.units + 64 < cLine) : IxR X (rOp (kx X M) (vv dIx)) := by
  intro val sl pins s σ H x y v u Q I rx ry ⟨B, ρ, S, d, e, r0, c, rd, re, g0, k⟩ hs
  obtain ⟨r, g, rfl⟩ := vv_some g0
  unfold dIx at g
  split at g
  · obtain ⟨a, vs, rfl, h1, t1⟩ := rd.lst c
    rw [re.int] at ry
    obtain ⟨w, h2, r2⟩ := atI_rep t1 g
    exact ix_list val sl pins s σ H _ _ v u Q I rx ry ⟨a, vs, _, w, rfl, rfl, SqL.of h1, h2, k _ H B ρ (.refl _ _ _) c r2⟩ hs
  · obtain ⟨a, vs, rfl, h1, t1⟩ := rd.tup
    rw [re.int] at ry
    obtain ⟨w, h2, r2⟩ := atI_rep t1 g
    exact ix_tup val sl pins s σ H _ _ v u Q I rx ry ⟨a, vs, _, w, rfl, rfl, sqT_mono c.same h1, h2, k _ H B ρ (.refl _ _ _) c r2⟩ hs
  · split at g
    · rename_i hz
      rw [rd.str] at rx; rw [re.int] at ry
      simp only [Option.map_eq_some_iff] at g
      obtain ⟨ch, h1, rfl⟩ := g
      exact ix_str val sl pins s σ H _ _ v u Q I rx ry ⟨_, _, ch, rfl, rfl, by rw [sOf_len]; exact hz, h1, k _ H B ρ (.refl _ _ _) c (.str [ch])⟩ hs
    · cases g
  · obtain ⟨a, rfl, h1⟩ := rd.scr c
    rw [re.int] at ry
    simp only [Option.map_eq_some_iff] at g
    obtain ⟨ch, h2, rfl⟩ := g
    refine ix_list val sl pins s σ H _ _ v u Q I rx ry ⟨a, _, _, .int ch, rfl, rfl, h1, ?_, k _ H B ρ (.refl _ _ _) c (.int _)⟩ hs
    unfold atI at h2 ⊢
    rw [List.length_map]
    rename_i ns i
    cases q : ixN ns.length i with
    | none => rw [q] at h2; cases h2
    | some j =>
      rw [q] at h2
      show (ns.map V.int)[j]? = some (.int ch)
      rw [List.getElem?_map]
      show Option.map V.int ns[j]? = _
      rw [show ns[j]? = some ch from h2]
      rfl
  · simp only [Option.bind_eq_some_iff] at g
    obtain ⟨key, hk, hb⟩ := g
    obtain ⟨a, vs, rfl, h1, l1, t1⟩ := rd.dct c
    cases (show v = Value.ref _ from rx)
    rw [key_repO re hk] at ry
    obtain ⟨w, h2, r2⟩ := look_rep t1 hb
    have g : DGet H a (kV key) (some w) := by rw [← h2]; exact DGet.k h1
    exact PyProof.Rows.tail_any (dict_typeIs I g) PySem.F.slot_dict_getitem.lookup (d_getItem (by omega) I g ry fun w' s3 I3 rw' => ⟨w, H, I3, rw', k _ H B ρ (.refl _ _ _) c r2⟩) hs
  · cases g
theorem dr_ix (hu : X.A.units + 64 < cLine) (ha : DO X M W e1 fa) (hb : DO X M W e2 fb) (hs : PlainIx e2) : DR X M W (.Subscript e1 e2 pos) (eOp (vv dIx) fa fb) := PE.imp (pe_ix (ixd hu) ha hb hs) op_imp
def cutL {α : Type} (xs : List α) (lo hi : Option Int) : List α := (xs.drop (HT.sIx xs.length 0 lo)).take (HT.sIx xs.length xs.length hi - HT.sIx xs.length 0 lo)
def tDP (K : Kx) (W : WX) (f : Ev (Option Int)) : TO := fun σ H Q => tX K W f σ H fun B ρ o S' => ∀ H' B' ρ', Ext B ρ H B' ρ' H' → Cells K B' ρ' H' S' → Q o H'
def DP (X : Cx) (M : Mp) (W : WX) (e : Option Expr) (f : Ev (Option Int)) : Prop := PO X e (tDP (kx X M) W f)
theorem PO.imp {X : Cx} {e : Option Expr} {t t' : TO} (h : PO X e t) (i : ∀ σ H Q, t' σ H Q → t σ H Q) : PO X e t' := ⟨fun pins s σ H Q I q => h.run pins s σ H Q I (i σ H Q q)⟩
def pNone : Ev (Option Int) := fun _ S _ Q => Q none S
def kInt (Q : Option Int → Sto → Prop) : D → Sto → Prop
  | .int i, S => Q (some i) S
  | _, _ => False
def pSome (f : Ev D) : Ev (Option Int) := fun γ S E Q => f γ S E (kInt Q)
theorem dp_none : DP X M W none pNone := PO.imp po_none fun σ H Q ⟨B, ρ, γ, S, E', Q', at_, h, k⟩ => k none S h H B ρ (.refl _ _ _) at_.rel.cells
theorem dp_some (h : DE X M W e fa) : DP X M W (some e) (pSome fa) := PO.imp (po_some h) fun σ H Q ⟨B, ρ, γ, S, E', Q', at_, h, k⟩ =>
  ⟨B, ρ, γ, S, E', _, at_, h, fun d S1 h1 v H1 B1 ρ1 x1 c1 r1 => by
    cases d <;> first | exact h1.elim | skip
    cases r1
    exact ⟨_, rfl, k _ S1 h1 H1 B1 ρ1 x1 c1⟩⟩
def dSl : D → Option Int → Option Int → Option Rv
  | .str z, lo, hi => if z.length ≤ sizeLine then some (.v (.str (cutL z lo hi))) else none
  | .tup xs, lo, hi => some (.v (.tup (cutL xs lo hi)))
  | .lst xs, lo, hi => some (.o (.lst (cutL xs lo hi)))
  | _, _, _ => none
def kSl (x : D) (l h : Option Int) (S : Sto) (Q : Rv → Sto → Prop) : Prop := optW (dSl (dr S x) l h) S Q
def eSl (fa : Ev D) (fl fh : Ev (Option Int)) : Ev Rv := fun γ S E Q => fa γ S E fun x S => fl γ S E fun l S => fh γ S E fun h S => kSl x l h S Q
theorem cutL_rep {K : Kx} {B : Hp} {ρ : List Addr} {vs : List V} {ds : List D} (t : RepL K B ρ vs ds) (lo hi : Option Int) : RepL K B ρ (cutV vs lo hi) (cutL ds lo hi) := by
  unfold cutV cutL
  rw [t.length]
  exact (t.drop _).take _
variable {lo hi : Option Expr} {fl fh : Ev (Option Int)} {p2 : Pos}
def rSlD (K : Kx) : V → Option Int → Option Int → Hp → VK → Prop := fun x lo hi H Q => ∃ B ρ S d r, Cells K B ρ H S ∧ RepO K B ρ H x d ∧ dSl d lo hi = some r ∧ Post K B ρ H S Q r
theorem sld : SlR X (rSlD (kx X M)) := by
  intro pins s σ H x v vl vu lo hi sl Q I rx hs pl pu ⟨B, ρ, S, d, r, c, rd, g, k⟩
  unfold dSl at g
  split at g
  · split at g
    · rename_i hz
      cases g
      rw [rd.str] at rx
      refine sl_str pins s σ H _ v vl vu lo hi sl Q I rx hs pl pu ⟨_, rfl, by rw [sOf_len]; exact hz, ?_⟩
      have e : ∀ z, cutS (sOf z) lo hi = sOf (cutL z lo hi) := fun z => by
        unfold cutS cutL
        rw [sOf_len]
      rw [e]
      exact k _ H B ρ (.refl _ _ _) c (.str _)
    · cases g
  · cases g
    obtain ⟨a, vs, rfl, h1, t1⟩ := rd.tup
    refine sl_tupF pins s σ H _ v vl vu lo hi sl Q I rx hs pl pu ⟨a, vs, rfl, sqT_mono c.same h1, fun hw => ?_, fun _ p o np ho => ?_⟩
    · refine k _ H B ρ (.refl _ _ _) c (.tup h1 ?_)
      have e : ∀ ds : List D, ds.length = vs.length → cutL ds lo hi = ds := fun ds hl => by
        unfold cutL
        rw [hl, hw.1, hw.2, List.drop_zero, Nat.sub_zero, ← hl, List.take_length]
      rw [e _ t1.length.symm]
      exact t1
    · obtain ⟨c2, x2⟩ := c.lay (o := .frz o (.tup (cutV vs lo hi))) np
      exact k _ _ _ ρ x2 c2 (.tup (.new ho) ((cutL_rep t1 lo hi).ext x2))
  · cases g
    obtain ⟨a, vs, rfl, h1, t1⟩ := rd.lst c
    exact sl_list pins s σ H _ v vl vu lo hi sl Q I rx hs pl pu ⟨a, vs, rfl, SqL.of h1, Post.new c (cutL_rep t1 lo hi) k⟩
  · cases g
theorem dr_sl (ha : DO X M W e fa) (hl : DP X M W lo fl) (hh : DP X M W hi fh) : DR X M W (.Subscript e (.Slice lo hi none p2) pos) (eSl fa fl fh) := PE.imp (pe_slice sld ha hl hh) fun σ H Q ⟨B, ρ, γ, S, E', Q', at_, h, k⟩ =>
  ⟨B, ρ, γ, S, E', _, at_, h, fun x S1 h1 v H1 B1 ρ1 x1 c1 r1 => ⟨B1, ρ1, γ, S1, E', _, at_.ext x1 c1, h1, fun l S2 h2 H2 B2 ρ2 x2 c2 =>
    ⟨B2, ρ2, γ, S2, E', _, at_.ext (x1.tr x2) c2, h2, fun hh S3 h3 H3 B3 ρ3 x3 c3 => by
      obtain ⟨r, e, h4⟩ := optW_ok h3
      exact ⟨B3, ρ3, S3, _, r, c3, ((r1.ext x2).ext x3).o c3, e, (k r S3 h4).from ((x1.tr x2).tr x3)⟩⟩⟩⟩
def rCall (K : Kx) (g : List D → Option Rv) : List V → Hp → VK → Prop := fun vs H Q => ∃ B ρ S ds r, Cells K B ρ H S ∧ Paired (RepO K B ρ H) vs ds ∧ g ds = some r ∧ Post K B ρ H S Q r
def kCa (g : List D → Option Rv) (ds : List D) (S : Sto) (Q : Rv → Sto → Prop) : Prop := optW (g (ds.map (dr S))) S Q
def eCall (g : List D → Option Rv) (fs : Ev (List D)) : Ev Rv := fun γ S E Q => fs γ S E fun ds S => kCa g ds S Q
theorem reps_o {K : Kx} {B : Hp} {ρ : List Addr} {H : Hp} {S : Sto} (c : Cells K B ρ H S) : ∀ {vs : List V} {ds : List D}, Paired (RepS K B ρ H) vs ds → Paired (RepO K B ρ H) vs (ds.map (dr S))
  | _, _, .nil => .nil
  | _, _, .cons h t => .cons (h.o c) (reps_o c t)
theorem call_imp {K : Kx} {g : List D → Option Rv} : ∀ σ H Q, tR K W (eCall g fs) σ H Q → tCB (rCall K g) (tDOA K W fs) σ H Q := fun σ H Q ⟨B, ρ, γ, S, E', Q', at_, h, k⟩ =>
  ⟨B, ρ, γ, S, E', _, at_, h, fun ds S1 h1 vs H1 B1 ρ1 x1 c1 r1 => by
    obtain ⟨r, e, h2⟩ := optW_ok h1
    exact ⟨B1, ρ1, S1, _, r, c1, reps_o c1 r1, e, (k r S1 h2).from x1⟩⟩
def v1 (g : List D → Option D) : List D → Option Rv := fun d => (g d).map Rv.v
theorem v1_some {g : List D → Option D} {d : List D} {r : Rv} (h : v1 g d = some r) : ∃ x, g d = some x ∧ r = .v x := by
  simp only [v1, Option.map_eq_some_iff] at h
  obtain ⟨x, h1, h2⟩ := h
  exact ⟨x, h1, h2.symm⟩
theorem paired1 {F : V → D → Prop} {vs : List V} {d : D} (h : Paired F vs [d]) : ∃ v, vs = [v] ∧ F v d := by
  cases h with
  | cons h t => cases t; exact ⟨_, rfl, h⟩
theorem paired2 {F : V → D → Prop} {vs : List V} {d d' : D} (h : Paired F vs [d, d']) : ∃ v v', vs = [v, v'] ∧ F v d ∧ F v' d' := by
  cases h with
  | cons h t =>
    obtain ⟨v', rfl, h2⟩ := paired1 t
    exact ⟨_, _, rfl, h, h2⟩
def gLen : List D → Option D
  | [.lst xs] => some (.int xs.length)
  | [.tup xs] => some (.int xs.length)
  | [.str z] => if z.length ≤ sizeLine then some (.int z.length) else none
  | [.scr ns] => some (.int ns.length)
  | _ => none
theorem cd_len : CallR X (.builtin "len") (rCall (kx X M) (v1 gLen)) := by
  intro pins s σ H xs us Q I rv ⟨B, ρ, S, ds, r0, c, rd, g0, k⟩
  obtain ⟨r, g, rfl⟩ := v1_some g0
  unfold gLen at g
  split at g
  · cases g
    obtain ⟨v, rfl, h⟩ := paired1 rd
    obtain ⟨a, vs, rfl, h1, t1⟩ := h.lst c
    refine call_len pins s σ H _ us Q I rv ⟨_, _, rfl, .inl ⟨vs, SqL.of h1, rfl⟩, ?_⟩
    rw [t1.length]
    exact k _ H B ρ (.refl _ _ _) c (.int _)
  · cases g
    obtain ⟨v, rfl, h⟩ := paired1 rd
    obtain ⟨a, vs, rfl, h1, t1⟩ := h.tup
    refine call_len pins s σ H _ us Q I rv ⟨_, _, rfl, .inr ⟨vs, sqT_mono c.same h1, rfl⟩, ?_⟩
    rw [t1.length]
    exact k _ H B ρ (.refl _ _ _) c (.int _)
  · split at g
    · rename_i hz
      cases g
      obtain ⟨v, rfl, h⟩ := paired1 rd
      rw [h.str] at rv
      refine call_len pins s σ H _ us Q I rv ⟨_, _, rfl, ⟨by rw [sOf_len]; exact hz, rfl⟩, ?_⟩
      rw [sOf_len]
      exact k _ H B ρ (.refl _ _ _) c (.int _)
    · cases g
  · cases g
    obtain ⟨v, rfl, h⟩ := paired1 rd
    obtain ⟨a, rfl, h1⟩ := h.scr c
    refine call_len pins s σ H _ us Q I rv ⟨_, _, rfl, .inl ⟨_, h1, rfl⟩, ?_⟩
    rw [List.length_map]
    exact k _ H B ρ (.refl _ _ _) c (.int _)
  · cases g
def blsOf : List D → Option (List Bool)
  | [] => some []
  | .bl b :: r => (blsOf r).map (b :: ·)
  | _ => none
theorem bls_rep {K : Kx} {B : Hp} {ρ : List Addr} : ∀ {ds : List D} {vs : List V} {bs : List Bool}, RepL K B ρ vs ds → blsOf ds = some bs → vs = bs.map V.bl
  | [], _, bs, .nil, h => by simp [blsOf] at h; subst h; rfl
  | d :: ds, _, bs, .cons h1 t, h => by
    cases d <;> simp [blsOf] at h
    obtain ⟨a, h2, rfl⟩ := h
    cases h1
    rw [bls_rep t h2]
    rfl
def gAll : List D → Option D
  | [.lst xs] => (blsOf xs).map fun bs => .bl (bs.all id)
  | _ => none
def gAny : List D → Option D
  | [.lst xs] => (blsOf xs).map fun bs => .bl (bs.any id)
  | _ => none
theorem cd_all (hc : X.calm = true) : CallR X (.builtin "all") (rCall (kx X M) (v1 gAll)) := by
  intro pins s σ H xs us Q I rv ⟨B, ρ, S, ds, r0, c, rd, g0, k⟩
  obtain ⟨r, g, rfl⟩ := v1_some g0
  unfold gAll at g
  split at g
  · simp only [Option.map_eq_some_iff] at g
    obtain ⟨bs, h0, rfl⟩ := g
    obtain ⟨v, rfl, h⟩ := paired1 rd
    obtain ⟨a, vs, rfl, h1, t1⟩ := h.lst c
    rw [bls_rep t1 h0] at h1
    exact cr_all hc pins s σ H _ us Q I rv ⟨a, bs, rfl, SqL.of h1, k _ H B ρ (.refl _ _ _) c (.bl _)⟩
  · cases g
theorem cd_any (hc : X.calm = true) : CallR X (.builtin "any") (rCall (kx X M) (v1 gAny)) := by
  intro pins s σ H xs us Q I rv ⟨B, ρ, S, ds, r0, c, rd, g0, k⟩
  obtain ⟨r, g, rfl⟩ := v1_some g0
  unfold gAny at g
  split at g
  · simp only [Option.map_eq_some_iff] at g
    obtain ⟨bs, h0, rfl⟩ := g
    obtain ⟨v, rfl, h⟩ := paired1 rd
    obtain ⟨a, vs, rfl, h1, t1⟩ := h.lst c
    rw [bls_rep t1 h0] at h1
    exact cr_any hc pins s σ H _ us Q I rv ⟨a, bs, rfl, SqL.of h1, k _ H B ρ (.refl _ _ _) c (.bl _)⟩
  · cases g
def gMax : List D → Option D
  | [.int i, .int j] => some (.int (if j > i then j else i))
  | _ => none
def gMin : List D → Option D
  | [.int i, .int j] => some (.int (if j < i then j else i))
  | _ => none
theorem cd_max (hc : X.calm = true) : CallR X (.builtin "max") (rCall (kx X M) (v1 gMax)) := by
  intro pins s σ H xs us Q I rv ⟨B, ρ, S, ds, r0, c, rd, g0, k⟩
  obtain ⟨r, g, rfl⟩ := v1_some g0
  unfold gMax at g
  split at g
  · cases g
    obtain ⟨v, v', rfl, h, h'⟩ := paired2 rd
    rw [h.int, h'.int] at rv
    exact call_max2 hc pins s σ H _ us Q I rv ⟨_, _, rfl, k _ H B ρ (.refl _ _ _) c (.int _)⟩
  · cases g
theorem cd_min (hc : X.calm = true) : CallR X (.builtin "min") (rCall (kx X M) (v1 gMin)) := by
  intro pins s σ H xs us Q I rv ⟨B, ρ, S, ds, r0, c, rd, g0, k⟩
  obtain ⟨r, g, rfl⟩ := v1_some g0
  unfold gMin at g
  split at g
  · cases g
    obtain ⟨v, v', rfl, h, h'⟩ := paired2 rd
    rw [h.int, h'.int] at rv
    exact call_min2 hc pins s σ H _ us Q I rv ⟨_, _, rfl, k _ H B ρ (.refl _ _ _) c (.int _)⟩
  · cases g
def gInt : List D → Option D
  | [.int i] => some (.int i)
  | [.bl b] => some (.int (if b then 1 else 0))
  | _ => none
theorem cd_int : CallR X (.type "int") (rCall (kx X M) (v1 gInt)) := by
  intro pins s σ H xs us Q I rv ⟨B, ρ, S, ds, r0, c, rd, g0, k⟩
  obtain ⟨r, g, rfl⟩ := v1_some g0
  unfold gInt at g
  split at g
  · cases g
    obtain ⟨v, rfl, h⟩ := paired1 rd
    rw [h.int] at rv
    exact call_int1 pins s σ H _ us Q I rv (.inl ⟨_, rfl, k _ H B ρ (.refl _ _ _) c (.int _)⟩)
  · cases g
    obtain ⟨v, rfl, h⟩ := paired1 rd
    rw [h.bl] at rv
    exact call_int1 pins s σ H _ us Q I rv (.inr ⟨_, rfl, k _ H B ρ (.refl _ _ _) c (.int _)⟩)
  · cases g
def numS (i : Int) : List Nat := (toString i : Str).cps.toList
def gStr : List D → Option D
  | [.int i] => if i.natAbs.log2 < 1920 then some (.str (numS i)) else none
  | _ => none
theorem cd_str : CallR X (.type "str") (rCall (kx X M) (v1 gStr)) := by
  intro pins s σ H xs us Q I rv ⟨B, ρ, S, ds, r0, c, rd, g0, k⟩
  obtain ⟨r, g, rfl⟩ := v1_some g0
  unfold gStr at g
  split at g
  · obtain ⟨hz, rfl⟩ := guard_some g
    obtain ⟨v, rfl, h⟩ := paired1 rd
    rw [h.int] at rv
    refine call_str_int pins s σ H _ us Q I rv ⟨_, rfl, hz, ?_⟩
    have e : ∀ x : Str, Rep (kx X M) B ρ (.str x) (.str x.cps.toList) := fun x => by
      have := Rep.str (K := (kx X M)) (B := B) (ρ := ρ) x.cps.toList
      rw [of_sOf] at this
      exact this
    exact k _ H B ρ (.refl _ _ _) c (e _)
  · cases g
def gList : List D → Option Rv
  | [.lst xs] => some (.o (.lst xs))
  | [.tup xs] => some (.o (.lst xs))
  | _ => none
theorem cd_list : CallR X (.type "list") (rCall (kx X M) gList) := by
  intro pins s σ H xs us Q I rv ⟨B, ρ, S, ds, r, c, rd, g, k⟩
  unfold gList at g
  split at g
  · cases g
    obtain ⟨v, rfl, h⟩ := paired1 rd
    obtain ⟨a, vs, rfl, h1, t1⟩ := h.lst c
    exact call_list_of pins s σ H _ us Q I rv ⟨a, vs, rfl, .inl (SqL.of h1), Post.new c t1 k⟩
  · cases g
    obtain ⟨v, rfl, h⟩ := paired1 rd
    obtain ⟨a, vs, rfl, h1, t1⟩ := h.tup
    exact call_list_of pins s σ H _ us Q I rv ⟨a, vs, rfl, .inr (sqT_mono c.same h1), Post.new c t1 k⟩
  · cases g
def gTuple : List D → Option D
  | [.lst xs] => some (.tup xs)
  | [.tup xs] => some (.tup xs)
  | _ => none
theorem cd_tuple : CallR X (.type "tuple") (rCall (kx X M) (v1 gTuple)) := by
  intro pins s σ H xs us Q I rv ⟨B, ρ, S, ds, r0, c, rd, g0, k⟩
  obtain ⟨r, g, rfl⟩ := v1_some g0
  unfold gTuple at g
  split at g
  · cases g
    obtain ⟨v, rfl, h⟩ := paired1 rd
    obtain ⟨a, vs, rfl, h1, t1⟩ := h.lst c
    refine call_tupleF pins s σ H _ us Q I rv ⟨a, vs, rfl, SqL.of h1, fun p o np ho => ?_⟩
    obtain ⟨c2, x2⟩ := c.lay (o := .frz o (.tup vs)) np
    exact k _ _ _ ρ x2 c2 (.tup (.new ho) (t1.ext x2))
  · cases g
    obtain ⟨v, rfl, h⟩ := paired1 rd
    obtain ⟨a, vs, rfl, h1, t1⟩ := h.tup
    exact call_tuple_of pins s σ H _ us Q I rv ⟨a, vs, rfl, .inr ⟨sqT_mono c.same h1, k _ H B ρ (.refl _ _ _) c (.tup h1 t1)⟩⟩
  · cases g
end
end DL
namespace DL
open PySem L2 SeqAt
section
variable {X : Cx} {M : Mp} {W : WX} {e e1 e2 e3 : Expr} {es : List Expr} {fa fb fc : Ev D} {fs : Ev (List D)} {pos p p2 apos : Pos} {x t : Str}
def tyName : D → Option String
  | .non => some "NoneType" | .bl _ => some "bool" | .int _ => some "int" | .str _ => some "str" | .tup _ => some "tuple" | .lst _ => some "list" | .dct _ _ => some "dict" | .scr _ => some "list" | _ => none
theorem rep_ty {K : Kx} {B : Hp} {ρ : List Addr} {H : Hp} {S : Sto} (c : Cells K B ρ H S) {v : V} {d : D} {n : String} (h : RepO K B ρ H v d) (e : tyName d = some n) : TyX K.K H v (.type n) := by
  have seq : ∀ {a : Addr} {ns : List V}, SqL K.K H a ns → TyX K.K H (.ref a) (.type "list") := fun h => by
    rcases h with (h | ⟨o, h⟩) | ⟨o, its, n, h, hc, _⟩
    · exact .base (.lst h)
    · exact .base (.frz h)
    · exact .kList h hc
  have hh := h.toH c
  clear h
  cases hh with
  | non => cases e; exact .base .non
  | bl b => cases e; exact .base (.bl b)
  | int i => cases e; exact .base (.int i)
  | str x => cases e; exact .base (.str _)
  | tup h _ =>
    cases e
    rcases h.sq with (h | ⟨o, h⟩) | ⟨o, its, n, h, hc, _⟩
    · exact .base (.tup h)
    · exact .fTuple h
    · exact .kTuple h hc
  | lst h _ => cases e; exact .base (.lst h)
  | dct h _ _ => cases e; exact .base (.dK h)
  | obj => cases e
  | exn => cases e
  | fn => cases e
  | ref h => cases e
  | scr h => cases e; exact seq h
def dIsi (t : String) (d : D) : Option D := (tyName d).bind fun n => (kitB n t).map .bl
def kU (g : D → Option Rv) (x : D) (S : Sto) (Q : Rv → Sto → Prop) : Prop := optW (g (dr S x)) S Q
def eUn (g : D → Option Rv) (fa : Ev D) : Ev Rv := fun γ S E Q => fa γ S E fun x S => kU g x S Q
def vu (g : D → Option D) : D → Option Rv := fun d => (g d).map Rv.v
theorem vu_some {g : D → Option D} {d : D} {r : Rv} (h : vu g d = some r) : ∃ x, g d = some x ∧ r = .v x := by
  simp only [vu, Option.map_eq_some_iff] at h
  obtain ⟨x, h1, h2⟩ := h
  exact ⟨x, h1, h2.symm⟩
theorem dr_isi {tn : String} (hg : Gl X "isinstance") (hm : X.mg "isinstance" = none) (hgT : Gl X t) (hmT : X.mg t = none) (hvT : bootBuiltins t = some (.type tn)) (hnT : t ≠ "__name__") (hdT : (t == ("__debug__" : Str)) = false) (ha : DO X M W e fa)
    (hs : starEach [e, .Name t p2] X.env = (false, eval e X.env) :: starEach [.Name t p2] X.env) : DR X M W (.Call (.Name "isinstance" p) [e, .Name t p2] [] pos) (eUn (vu (dIsi tn)) fa) :=
  PE.imp (pe_callB call_isi hg hm (by decide +kernel) (pa_cons ha (pa_cons (pe_bltn (v := .ty tn) hgT hmT hvT rfl hnT hdT) pa_nil) hs) (he := hs)) fun σ H Q ⟨B, ρ, γ, S, E', Q', at_, h, k⟩ =>
    ⟨B, ρ, γ, S, E', _, at_, h, fun x S1 h1 v H1 B1 ρ1 x1 c1 r1 => by
      obtain ⟨r, e, h2⟩ := optW_ok h1
      obtain ⟨d, q3, rfl⟩ := vu_some e
      simp only [dIsi, Option.bind_eq_some_iff, Option.map_eq_some_iff] at q3
      obtain ⟨n, q4, b, q3, rfl⟩ := q3
      exact ⟨v, .ty tn, _, _, b, rfl, .ty tn, rep_ty c1 (r1.o c1) q4, kit_ty q3, k _ S1 h2 _ H1 B1 ρ1 x1 c1 (.bl _)⟩⟩
def dNeg : D → Option D
  | .int i => some (.int (-i))
  | _ => none
theorem dr_neg (ha : DO X M W e fa) : DR X M W (.UnaryOp .USub e pos) (eUn (vu dNeg) fa) := PE.imp (pe_un un_neg ha) fun σ H Q ⟨B, ρ, γ, S, E', Q', at_, h, k⟩ =>
  ⟨B, ρ, γ, S, E', _, at_, h, fun x S1 h1 v H1 B1 ρ1 x1 c1 r1 => by
    obtain ⟨r, e, h2⟩ := optW_ok h1
    obtain ⟨d, q3, rfl⟩ := vu_some e
    have r1' := r1.o c1
    unfold dNeg at q3
    split at q3
    · rename_i i hx
      cases q3
      rw [hx] at r1'
      rw [r1'.int]
      exact ⟨_, rfl, k _ S1 h2 _ H1 B1 ρ1 x1 c1 (.int _)⟩
    · cases q3⟩
theorem dr_dct0 : DR X M W (.Dict [] [] pos) (fun _ S _ Q => Q (.o (.dct [] [])) S) := PE.imp pe_dnewK fun σ H Q ⟨B, ρ, γ, S, E', Q', at_, h, k⟩ => by
  intro p np
  obtain ⟨c2, x2⟩ := at_.rel.cells.drop (o := .dK []) np
  obtain ⟨nb, nr⟩ := ext_new at_.rel.cells np
  exact k _ S h p _ _ B ρ x2 c2 np upd_same nb nr (.dct (ks := []) (vs := []) rfl .nil)
def ePairs : List (Ev D × Ev D) → Ev (List (D × D))
  | [] => fun _ S _ Q => Q [] S
  | (f, g) :: r => fun γ S E Q => f γ S E fun x S => g γ S E fun y S => ePairs r γ S E fun ps S => Q ((x, y) :: ps) S
inductive RepPs (K : Kx) (B : Hp) (ρ : List Addr) : List (V × V) → List (D × D) → Prop
  | nil : RepPs K B ρ [] []
  | cons {v u : V} {d e : D} {vs : List (V × V)} {ds : List (D × D)} : Rep K B ρ v d → Rep K B ρ u e → RepPs K B ρ vs ds → RepPs K B ρ ((v, u) :: vs) ((d, e) :: ds)
theorem pairs_imp {K : Kx} {Q' : List (D × D) → Sto → Prop} {E' : XC} {σ : St} {γ : List Slot} : ∀ {l : List (Ev D × Ev D)} {B : Hp} {ρ : List Addr} {H : Hp} {S : Sto} {Q : List (V × V) → Hp → Prop} {R : List (D × D) → Sto → Prop}, At K W σ B ρ H γ S E' → ePairs l γ S E' R →
    (∀ ps S', R ps S' → ∀ vs H' B' ρ', Ext B ρ H B' ρ' H' → Cells K B' ρ' H' S' → RepPs K B' ρ' vs ps → Q vs H') → tPairs (l.map fun p => (tD K W p.1, tD K W p.2)) σ H Q
  | [], B, ρ, H, S, Q, R, at_, h, k => k [] S h [] H B ρ (.refl _ _ _) at_.rel.cells .nil
  | (f, g) :: l, B, ρ, H, S, Q, R, at_, h, k =>
    ⟨B, ρ, γ, S, E', _, at_, h, fun x S1 h1 v H1 B1 ρ1 x1 c1 r1 => ⟨B1, ρ1, γ, S1, E', _, at_.ext x1 c1, h1, fun y S2 h2 u H2 B2 ρ2 x2 c2 r2 =>
      pairs_imp (Q' := Q') (l := l) (at_.ext (x1.tr x2) c2) h2 fun ps S' h3 vs H' B' ρ' x3 c3 r3 => k ((x, y) :: ps) S' h3 ((v, u) :: vs) H' B' ρ' ((x1.tr x2).tr x3) c3 (.cons ((r1.ext x2).ext x3) (r2.ext x3) r3)⟩⟩
def keysOf : List (D × D) → Option (List (Key × D))
  | [] => some []
  | (d, e) :: r => (keyOf d).bind fun k => (keysOf r).map fun l => (k, e) :: l
def mergeL {α : Type} (acc : List Key × List α) : List (Key × α) → List Key × List α
  | [] => acc
  | (k, v) :: r => mergeL (putKs acc.1 k, putX acc.1 acc.2 k v) r
theorem merge_len {α : Type} : ∀ {ps : List (Key × α)} {acc : List Key × List α}, acc.1.length = acc.2.length → (mergeL acc ps).1.length = (mergeL acc ps).2.length
  | [], _, h => h
  | (k, v) :: r, acc, h => merge_len (ps := r) (put_len h k v)
theorem merge_zip : ∀ {ps : List (Key × V)} {acc : List Key × List V}, acc.1.length = acc.2.length → mergeK (acc.1.zip acc.2) ps = (mergeL acc ps).1.zip (mergeL acc ps).2
  | [], _, _ => rfl
  | (k, v) :: r, acc, h => by
    show mergeK (putK (acc.1.zip acc.2) k v) r = _
    rw [put_zip h, merge_zip (ps := r) (acc := (putKs acc.1 k, putX acc.1 acc.2 k v)) (put_len h k v)]
    rfl
inductive RepKs (K : Kx) (B : Hp) (ρ : List Addr) : List (Key × V) → List (Key × D) → Prop
  | nil : RepKs K B ρ [] []
  | cons {k : Key} {v : V} {d : D} {vs : List (Key × V)} {ds : List (Key × D)} : Rep K B ρ v d → RepKs K B ρ vs ds → RepKs K B ρ ((k, v) :: vs) ((k, d) :: ds)
theorem merge_rep {K : Kx} {B : Hp} {ρ : List Addr} : ∀ {vs : List (Key × V)} {ds : List (Key × D)} {ks : List Key} {us : List V} {xs : List D}, RepKs K B ρ vs ds → RepL K B ρ us xs → (mergeL (ks, us) vs).1 = (mergeL (ks, xs) ds).1 ∧ RepL K B ρ (mergeL (ks, us) vs).2 (mergeL (ks, xs) ds).2
  | _, _, _, _, _, .nil, t => ⟨rfl, t⟩
  | _, _, ks, us, xs, .cons (k := k) (v := v) (d := d) r q, t => by
    have h := merge_rep (ks := putKs ks k) q (put_rep (ks := ks) (k := k) t r)
    exact h
theorem keys_rep {K : Kx} {B : Hp} {ρ : List Addr} : ∀ {vs : List (V × V)} {ds : List (D × D)} {l : List (Key × D)}, RepPs K B ρ vs ds → keysOf ds = some l → ∃ kvs : List (Key × V), vs = kvs.map (fun kv => (kV kv.1, kv.2)) ∧ RepKs K B ρ kvs l ∧ kvs.length = ds.length
  | _, _, l, .nil, h => by simp only [keysOf, Option.some.injEq] at h; subst h; exact ⟨[], rfl, .nil, rfl⟩
  | _, _, l, .cons r1 r2 t, h => by
    simp only [keysOf, Option.bind_eq_some_iff, Option.map_eq_some_iff] at h
    obtain ⟨k, h1, l', h2, rfl⟩ := h
    obtain ⟨kvs, e, q, hl⟩ := keys_rep t h2
    exact ⟨(k, _) :: kvs, by rw [e, key_rep r1 h1]; rfl, .cons r2 q, by simp [hl]⟩
theorem RepKs.mono {K : Kx} {B B' : Hp} {ρ : List Addr} (s : Same B B') : ∀ {vs : List (Key × V)} {ds : List (Key × D)}, RepKs K B ρ vs ds → RepKs K B' ρ vs ds
  | _, _, .nil => .nil
  | _, _, .cons r t => .cons (r.mono s fun _ _ z => z) (RepKs.mono s t)
def kDct (ps : List (D × D)) (S : Sto) (Q : Rv → Sto → Prop) : Prop := optW (keysOf ps) S fun l S => Q (.o (.dct (mergeL ([], []) l).1 (mergeL ([], []) l).2)) S
theorem dr_dct {l : List (Ev D × Ev D)} {ks : List (Option Expr)} {vs : List Expr} (hp : PPs X pos ks vs (l.map fun p => (tD (kx X M) W p.1, tD (kx X M) W p.2))) (hall : ks.all (·.isSome) = true) (hl : ks.length = vs.length) (h0 : ks ≠ []) (h15 : ks.length ≤ 15) (hlen : l.length ≤ 15) :
    DR X M W (.Dict ks vs pos) (fun γ S E Q => ePairs l γ S E fun ps S => ps.length ≤ 15 ∧ kDct ps S Q) :=
  PE.imp (pe_disp hp hall hl h0 h15) fun σ H Q ⟨B, ρ, γ, S, E', Q', at_, h, k⟩ => by
    intro p np
    obtain ⟨c0, x0⟩ := at_.rel.cells.drop (o := .dK []) np
    obtain ⟨nb, nr⟩ := ext_new at_.rel.cells np
    refine pairs_imp (Q' := fun _ _ => True) (at_.ext x0 c0) h fun ps S' h1 us H' B' ρ' x1 c1 r1 => ?_
    obtain ⟨h15, h1⟩ := h1
    obtain ⟨l', e, h2⟩ := optW_ok h1
    have hp : H' p = some (.dK []) := x1.keep p _ upd_same nr
    have nb1 : B' p = none := by
      cases q : B' p with
      | none => rfl
      | some o => have := x1.new p o q nb; rw [upd_same] at this; cases this
    have nr1 : p ∉ ρ' := fun z => by
      obtain ⟨m, rfl, hm⟩ := x1.refs
      rcases List.mem_append.mp z with z | z
      · exact nr z
      · have := hm p z; rw [upd_same] at this; cases this
    obtain ⟨kvs, e1, rk, hlen⟩ := keys_rep r1 e
    refine ⟨hp, kvs, e1, by omega, ?_⟩
    obtain ⟨m1, m2⟩ := merge_rep (ks := []) rk .nil
    have mz := merge_zip (ps := kvs) (acc := ([], [])) rfl
    have ml := merge_len (ps := kvs) (acc := ([], [])) rfl
    have x2 : Ext B ρ H B' ρ' (upd H' p (.dK (mergeK [] kvs))) := by
      refine ⟨x1.base, fun a o h n => ?_, ?_, fun a o h hn => ?_, fun a o h => ?_⟩
      · have := x1.new a o h n
        by_cases q : a = p
        · subst q; exact np
        · rw [upd_ne q] at this; exact this
      · obtain ⟨m, e, hm⟩ := x1.refs
        refine ⟨m, e, fun a ha => ?_⟩
        have := hm a ha
        by_cases q : a = p
        · subst q; exact np
        · rw [upd_ne q] at this; exact this
      · have ne : a ≠ p := ne_of_none h np
        rw [upd_ne ne]
        exact x1.keep a o (by rw [upd_ne ne]; exact h) hn
      · have ne : a ≠ p := ne_of_none h np
        rw [upd_ne ne]
        exact x1.there a o (by rw [upd_ne ne]; exact h)
    refine k _ S' h2 p _ _ B' ρ' x2 (c1.mut nb1 nr1) np upd_same nb1 nr1 ?_
    have mz' : mergeK [] kvs = (mergeL ([], []) kvs).1.zip (mergeL ([], []) kvs).2 := mz
    rw [mz', m1]
    exact .dct (by rw [← m1]; exact ml) m2
def strsOf : List D → Option (List (List Nat))
  | [] => some []
  | .str x :: r => (strsOf r).map (x :: ·)
  | _ => none
theorem strs_rep {K : Kx} {B : Hp} {ρ : List Addr} : ∀ {ds : List D} {vs : List V} {bs : List (List Nat)}, RepL K B ρ vs ds → strsOf ds = some bs → vs = (bs.map sOf).map V.str
  | [], _, bs, .nil, h => by simp [strsOf] at h; subst h; rfl
  | d :: ds, _, bs, .cons h1 t, h => by
    cases d <;> simp [strsOf] at h
    obtain ⟨a, h2, rfl⟩ := h
    cases h1
    rw [strs_rep t h2]
    rfl
def dJoin (d e : D) : Option D := match d, e with
  | .str a, .lst xs => (strsOf xs).bind fun ys => if (ys.map (·.length)).sum + ys.length * a.length ≤ 16777216 then some (.str (TL.joinL a ys)) else none
  | .str a, .tup xs => (strsOf xs).bind fun ys => if (ys.map (·.length)).sum + ys.length * a.length ≤ 16777216 then some (.str (TL.joinL a ys)) else none
  | _, _ => none
theorem join_txt (a : List Nat) (ys : List (List Nat)) : Txt.join (sOf a) (ys.map sOf) = sOf (TL.joinL a ys) := by
  rw [TL.join_eq]
  refine TL.ext_tl ?_
  rw [TL.tl_join]
  have : (ys.map sOf).map TL.tl = ys := by rw [List.map_map]; exact List.map_id' ys
  rw [this]
def eJoin (fa fb : Ev D) : Ev Rv := fun γ S E Q => fa γ S E fun x S => ∃ a, x = .str a ∧ fb γ S E fun y S => optW (dJoin (.str a) (dr S y)) S fun d S => Q (.v d) S
theorem dr_join (ha : DO X M W e1 fa) (hb : DO X M W e2 fb) (hs : starEach [e2] X.env = [(false, eval e2 X.env)]) (hbase : attributeBase e1 "join" X.env (eval e1 X.env) = eval e1 X.env) (hline : (apos.endLine == pos.line) = true) :
    DR X M W (.Call (.Attribute e1 "join" apos) [e2] [] pos) (eJoin fa fb) := PE.imp (pe_join ha hb hs hbase hline) fun σ H Q ⟨B, ρ, γ, S, E', Q', at_, h, k⟩ =>
  ⟨B, ρ, γ, S, E', _, at_, h, fun x S1 h1 v H1 B1 ρ1 x1 c1 r1 => by
    obtain ⟨a, hx, h1⟩ := h1
    subst hx
    have hv : v = .str (sOf a) := (r1.o c1).str
    subst hv
    refine ⟨⟨_, rfl⟩, B1, ρ1, γ, S1, E', _, at_.ext x1 c1, h1, fun y S2 h2 u H2 B2 ρ2 x2 c2 r2 => ?_⟩
    obtain ⟨d, q5, h3⟩ := optW_ok h2
    have r2 := r2.o c2
    have fin : ∀ (ys : List (List Nat)) (pa : Addr), u = .ref pa → (SqL X.K H2 pa ((ys.map sOf).map V.str) ∨ SqT X.K H2 pa ((ys.map sOf).map V.str)) → (ys.map (·.length)).sum + ys.length * a.length ≤ 16777216 → d = .str (TL.joinL a ys) →
        ∃ a' p', ∃ zs : List Str, V.str (sOf a) = .str a' ∧ [u] = [.ref p'] ∧ (SqL X.K H2 p' (zs.map V.str) ∨ SqT X.K H2 p' (zs.map V.str)) ∧ (zs.map (·.length)).sum + zs.length * a'.length ≤ 16777216 ∧ Q (.str (Txt.join a' zs)) H2 := fun ys pa e1 e2 e3 e4 => by
      subst e1 e4
      refine ⟨sOf a, pa, ys.map sOf, rfl, rfl, e2, ?_, ?_⟩
      · rw [List.map_map, List.length_map, sOf_len]
        have : ((·.length) ∘ sOf : List Nat → Nat) = (·.length) := by funext z; exact sOf_len z
        rw [this]
        exact e3
      · rw [join_txt]
        exact k _ S2 h3 _ H2 B2 ρ2 (x1.tr x2) c2 (.str _)
    unfold dJoin at q5
    split at q5
    · rename_i _ _ _ xs h0 hy
      cases h0
      simp only [Option.bind_eq_some_iff] at q5
      obtain ⟨ys, q6, q7⟩ := q5
      obtain ⟨q8, q9⟩ := guard_some q7
      rw [hy] at r2
      obtain ⟨pa, vs, rfl, h1, t1⟩ := r2.lst c2
      rw [strs_rep t1 q6] at h1
      exact fin ys pa rfl (.inl (SqL.of h1)) q8 q9.symm
    · rename_i _ _ _ xs h0 hy
      cases h0
      simp only [Option.bind_eq_some_iff] at q5
      obtain ⟨ys, q6, q7⟩ := q5
      obtain ⟨q8, q9⟩ := guard_some q7
      rw [hy] at r2
      obtain ⟨pa, vs, rfl, h1, t1⟩ := r2.tup
      have h1' := sqT_mono c2.same h1
      rw [strs_rep t1 q6] at h1'
      exact fin ys pa rfl (.inr h1') q8 q9.symm
    · cases q5⟩
end
end DL
namespace DL
open PySem L2 SeqAt
section
variable {X : Cx} {M : Mp} {W : WX}
def keyP : Key → PyData
  | .inl i => .int i
  | .inr x => .str x
mutual
def toP : D → PyData
  | .non => .none | .bl b => .bool b | .int i => .int i | .str x => .str (sOf x) | .tup xs => .tuple (toPs xs) | .lst xs => .list (toPs xs) | .dct ks xs => .dict ((ks.map keyP).zip (toPs xs)) | .obj _ _ _ => .none | .fn _ => .none | .ref _ => .none | .scr _ => .none
def toPs : List D → List PyData
  | [] => []
  | d :: ds => toP d :: toPs ds
end
mutual
def plain : D → Bool
  | .tup xs => plains xs
  | .lst xs => plains xs
  | .dct _ xs => plains xs
  | .obj _ _ _ => false
  | .fn _ => false
  | .ref _ => false
  | .scr _ => false
  | _ => true
def plains : List D → Bool
  | [] => true
  | d :: ds => plain d && plains ds
end
theorem toPs_len : ∀ ds : List D, (toPs ds).length = ds.length
  | [] => rfl
  | _ :: ds => by simp [toPs, toPs_len ds]
theorem kv_vals : ∀ {ks : List Key} {vs : List V} {us : List (Key × Value)}, ks.length = vs.length → KV (ks.zip vs) us → Vals vs (us.map (·.2)) ∧ us.map (·.1) = ks
  | [], [], _, _, .nil => ⟨.nil, rfl⟩
  | k :: ks, v :: vs, _, h, .cons q r => by
    obtain ⟨h1, h2⟩ := kv_vals (by simpa using h) r
    exact ⟨.cons q.2 h1, by simp only [List.map_cons, h2]; rw [← q.1]⟩
theorem pairs_vals {P : Program} {w : World} : ∀ {es : List DictEntry} {us : List (Key × Value)}, Pairs (mixKind P w) es us → es.map (·.val) = us.map (·.2)
  | _, _, .nil => rfl
  | _, _, .cons _ h t => by simp [h, pairs_vals t]
theorem fst_zip {α β : Type} {xs : List α} {ys : List β} (h : xs.length = ys.length) : (xs.zip ys).map (·.1) = xs := List.map_fst_zip (by omega)
theorem snd_zip {α β : Type} {xs : List α} {ys : List β} (h : xs.length = ys.length) : (xs.zip ys).map (·.2) = ys := List.map_snd_zip (by omega)
structure Shw (prog : Program) (w : World) (h : Heap) (u : Value) (p : PyData) : Prop where
  rd : ∃ as, Reads h u p as
  rp : p.showable = true → p.shown.length ≤ sizeLine → ∃ bs, ReadAtMost h p.depth bs ∧ ReprK prog w bs h p.depth u p.shown
structure ShwL (prog : Program) (w : World) (h : Heap) (us : List Value) (ps : List PyData) : Prop where
  rd : ∃ as, ReadsAll h us ps as
  rp : PyData.showableAll ps = true → (∀ t ∈ PyData.shownAll ps, t.length ≤ sizeLine) → ∃ bs, ReadAtMost h (PyData.depthAll ps) bs ∧ ReprAllK prog w bs h (PyData.depthAll ps) us (PyData.shownAll ps)
section
variable {prog : Program} {w : World} {h : Heap} {a : Addr} {o : Obj} {n : Nat}
theorem shw_list {its : List Value} {ps : List PyData} (g : h.get? a = some o) (gc : o.cls = .type "list") (gd : o.data = .seq its.toArray n) (q : ShwL prog w h its ps) : Shw prog w h (.ref a) (.list ps) := by
  obtain ⟨as, ra⟩ := q.rd
  have rr : Reads h (.ref a) (.list ps) (a :: as) := .list g gc gd ra
  refine ⟨⟨_, rr⟩, fun sh sz => ?_⟩
  have sz' : (listText (PyData.shownAll ps)).length ≤ sizeLine := by simpa only [PyData.shown] using sz
  obtain ⟨bs, b1, b2⟩ := q.rp (by simpa [PyData.showable] using sh) fun t ht => Nat.le_trans (listText_mem_le ht) sz'
  have out : a ∉ bs := not_mem_of_deeper rr (by simp only [PyData.depth]; omega) b1
  refine ⟨a :: bs, ReadAtMost.cons rr (by simp only [PyData.depth]; omega) b1, ?_⟩
  simp only [PyData.depth, PyData.shown]
  cases its with
  | nil =>
    have ra' : ReadsAll h [] ps _ := ra
    cases ra'
    simp only [PyData.shownAll, listText_nil]
    exact .listEmpty g gc gd
  | cons y r => exact .list g gc gd out (by simpa using b2.length_eq) fun i z e => b2.item i z (by simpa using e)
theorem shw_tuple {its : List Value} {ps : List PyData} (g : h.get? a = some o) (gc : o.cls = .type "tuple") (gd : o.data = .seq its.toArray n) (q : ShwL prog w h its ps) : Shw prog w h (.ref a) (.tuple ps) := by
  obtain ⟨as, ra⟩ := q.rd
  have rr : Reads h (.ref a) (.tuple ps) as := .tuple g gc gd ra
  refine ⟨⟨_, rr⟩, fun sh sz => ?_⟩
  have sz' : (tupleText (PyData.shownAll ps)).length ≤ sizeLine := by simpa only [PyData.shown] using sz
  obtain ⟨bs, b1, b2⟩ := q.rp (by simpa [PyData.showable] using sh) fun t ht => Nat.le_trans (tupleText_mem_le ht) sz'
  have out : a ∉ bs := not_mem_of_deeper rr (by simp only [PyData.depth]; omega) b1
  refine ⟨a :: bs, ReadAtMost.cons rr (by simp only [PyData.depth]; omega) b1, ?_⟩
  simp only [PyData.depth, PyData.shown]
  exact .tuple g gc gd out b2
theorem dict_parts {es : Array DictEntry} {kvs : List (PyData × PyData)} (g : h.get? a = some o) (gc : o.cls = .type "dict") (gd : o.data = .dict es n) (lo : (a == sysModules) = false)
    (q1 : ShwL prog w h (es.toList.map (·.key)) (kvs.map (·.1))) (q2 : ShwL prog w h (es.toList.map (·.val)) (kvs.map (·.2))) : (∃ as, Reads h (.ref a) (.dict kvs) as) ∧
    (PyData.showableKv kvs = true → (dictText (PyData.shownKv kvs)).length ≤ sizeLine → ∃ bs, a ∉ bs ∧ ReadAtMost h (PyData.depthKv kvs) bs ∧ ReprEntriesK prog w bs h (PyData.depthKv kvs) es.toList (PyData.shownKv kvs)) := by
  obtain ⟨as, r1⟩ := q1.rd
  obtain ⟨cs, r2⟩ := q2.rd
  have rr : Reads h (.ref a) (.dict kvs) (a :: as ++ cs) := .dict g gc gd r1 r2
  refine ⟨⟨_, rr⟩, fun sh sz => ?_⟩
  obtain ⟨s1, s2⟩ := PyData.showableKv_split kvs sh
  obtain ⟨b1, m1, k1⟩ := q1.rp s1 fun t ht => by
    obtain ⟨p, hp, hl⟩ := PyData.shownKv_key_le kvs t ht
    exact Nat.le_trans hl (Nat.le_trans (dictText_mem_le hp) sz)
  obtain ⟨b2, m2, k2⟩ := q2.rp s2 fun t ht => by
    obtain ⟨p, hp, hl⟩ := PyData.shownKv_val_le kvs t ht
    exact Nat.le_trans hl (Nat.le_trans (dictText_mem_le hp) sz)
  have m : ReadAtMost h (PyData.depthKv kvs) (b1 ++ b2) := (m1.mono (PyData.depthAll_keys_le kvs)).append (m2.mono (PyData.depthAll_vals_le kvs))
  refine ⟨b1 ++ b2, not_mem_of_deeper rr (by simp only [PyData.depth]; omega) m, m, ?_⟩
  rw [PyData.shownKv_eq]
  exact .of_two es.toList _ _ (k1.more_le (fun b hb => List.mem_append_left _ hb) (PyData.depthAll_keys_le kvs)) (k2.more_le (fun b hb => List.mem_append_right _ hb) (PyData.depthAll_vals_le kvs))
theorem shw_dict {es : Array DictEntry} {kvs : List (PyData × PyData)} (g : h.get? a = some o) (gc : o.cls = .type "dict") (gd : o.data = .dict es n) (lo : (a == sysModules) = false)
    (q1 : ShwL prog w h (es.toList.map (·.key)) (kvs.map (·.1))) (q2 : ShwL prog w h (es.toList.map (·.val)) (kvs.map (·.2))) : Shw prog w h (.ref a) (.dict kvs) := by
  obtain ⟨⟨as, rr⟩, k⟩ := dict_parts g gc gd lo q1 q2
  refine ⟨⟨_, rr⟩, fun sh sz => ?_⟩
  obtain ⟨bs, b0, b1, b2⟩ := k (by simpa [PyData.showable] using sh) (by simpa only [PyData.shown] using sz)
  refine ⟨a :: bs, ReadAtMost.cons rr (by simp only [PyData.depth]; omega) b1, ?_⟩
  simp only [PyData.depth, PyData.shown]
  exact .dict g gc gd lo b0 b2
theorem shwL_nil : ShwL prog w h [] [] := ⟨⟨_, .nil⟩, fun _ _ => ⟨[], (fun _ z => nomatch z), by simp only [PyData.shownAll]; exact .nil⟩⟩
theorem shwL_cons {u : Value} {us : List Value} {p : PyData} {ps : List PyData} (q : Shw prog w h u p) (r : ShwL prog w h us ps) : ShwL prog w h (u :: us) (p :: ps) := by
  obtain ⟨as, ra⟩ := q.rd
  obtain ⟨cs, rc⟩ := r.rd
  refine ⟨⟨_, .cons ra rc⟩, fun sh sz => ?_⟩
  simp only [PyData.showableAll, Bool.and_eq_true] at sh
  simp only [PyData.shownAll, List.mem_cons, forall_eq_or_imp] at sz
  obtain ⟨b1, m1, k1⟩ := q.rp sh.1 sz.1
  obtain ⟨b2, m2, k2⟩ := r.rp sh.2 sz.2
  refine ⟨b1 ++ b2, ?_, ?_⟩
  · simp only [PyData.depthAll]
    exact (m1.mono (Nat.le_max_left _ _)).append (m2.mono (Nat.le_max_right _ _))
  · simp only [PyData.depthAll, PyData.shownAll]
    exact .cons ((k1.more fun b z => List.mem_append_left _ z).level_le (Nat.le_max_left _ _)) (k2.more_le (fun b z => List.mem_append_right _ z) (Nat.le_max_right _ _))
theorem shw_atom {u : Value} {p : PyData} (r : Reads h u p []) (hn : p.hasDict = false) : Shw prog w h u p := ⟨⟨_, r⟩, fun sh sz => ReprK.of_reads r sh (fun z => by rw [hn] at z; cases z) sz⟩
theorem shwL_keys {P : Program} {w' : World} : ∀ {es : List DictEntry} {us : List (Key × Value)}, Pairs (mixKind P w') es us → ShwL prog w h (es.map (·.key)) ((us.map (·.1)).map keyP)
  | _, _, .nil => shwL_nil
  | _, _, .cons hk _ t => by
    have ih := shwL_keys t
    rcases keyIs_shape hk with ⟨i, tk, e1, e2⟩ | ⟨x, tk, e1, e2⟩
    · simp only [List.map_cons, e1, e2, keyP]
      exact shwL_cons (shw_atom (.int i tk) rfl) ih
    · simp only [List.map_cons, e1, e2, keyP]
      exact shwL_cons (shw_atom (.str x tk) rfl) ih
end
mutual
theorem rep_shw {pins : List (Addr × Obj)} {σ : St} {H : Hp} {s : Shared} {ρ : List Addr} (I : Inv X pins σ H s) : ∀ {d : D} {v : V} {u : Value}, Rep (kx X M) H ρ v d → plain d = true → RelV v u → Shw X.prog X.w s.heap u (toP d)
  | _, _, _, .non, _, r => by cases r; exact shw_atom .none rfl
  | _, _, _, .bl b, _, r => by cases r; exact shw_atom (.bool b) rfl
  | _, _, _, .int b, _, r => by obtain ⟨t, rfl⟩ := r; exact shw_atom (.int b t) rfl
  | _, _, _, .str b, _, r => by obtain ⟨t, rfl⟩ := r; exact shw_atom (.str _ t) rfl
  | _, _, _, .tup h t, hp, r => by
    cases r
    obtain ⟨its, rv, ⟨o, ho, hc, n, hd⟩, _⟩ := I.tuple h.sq
    exact shw_tuple ho hc hd (rep_shwL I t hp rv)
  | _, _, _, .lst h t, hp, r => by
    cases r
    obtain ⟨its, rv, ⟨o, n, ho, hc, _, hd⟩, _⟩ := I.list (SqL.of h)
    exact shw_list ho hc hd (rep_shwL I t hp rv)
  | _, _, _, .dct (ks := ks) (ds := ds) h e t, hp, r => by
    cases r
    obtain ⟨_, lo, us, kr, o, es, ep, ho, hx, hd, _, hpr, _⟩ := dk_of I.hok h
    obtain ⟨rv, ek⟩ := kv_vals e kr
    have hl : (ks.map keyP).length = (toPs ds).length := by rw [List.length_map, toPs_len, e, t.length]
    simp only [toP]
    refine shw_dict ho hx.1 hd lo ?_ ?_
    · rw [fst_zip hl, ← ek]; exact shwL_keys hpr
    · rw [snd_zip hl, pairs_vals hpr]; exact rep_shwL I t hp rv
  | _, _, _, .obj _ _ _ _ _, hp, _ => by cases hp
  | _, _, _, .exn _ _ _ _ _, hp, _ => by cases hp
  | _, _, _, .fn _, hp, _ => by cases hp
  | _, _, _, .ref _, hp, _ => by cases hp
  | _, _, _, .scr _, hp, _ => by cases hp
theorem rep_shwL {pins : List (Addr × Obj)} {σ : St} {H : Hp} {s : Shared} {ρ : List Addr} (I : Inv X pins σ H s) : ∀ {d : List D} {v : List V} {u : List Value}, RepL (kx X M) H ρ v d → plains d = true → Vals v u → ShwL X.prog X.w s.heap u (toPs d)
  | _, _, _, .nil, _, .nil => by simp only [toPs]; exact shwL_nil
  | _, _, _, .cons h t, hp, .cons r rr => by
    simp only [plains, Bool.and_eq_true] at hp
    simp only [toPs]
    exact shwL_cons (rep_shw I h hp.1 r) (rep_shwL I t hp.2 rr)
end
section
variable {prog : Program} {w : World} {A : Around} {E : Value → Shared → Prop} {s : Shared} {Q : Value → Shared → Prop} {a : Addr} {o : Obj} {n : Nat}
theorem top_list {its : List Value} {ps : List PyData} (g : s.heap.get? a = some o) (gc : o.cls = .type "list") (gd : o.data = .seq its.toArray n) (q : ShwL prog w s.heap its ps) (sh : (PyData.list ps).showable = true) (sz : (PyData.list ps).shown.length ≤ sizeLine)
    (ag : A.guards = some []) (au : A.units + ((PyData.list ps).depth + 1) < cLine) (hQ : ∀ h' u tk, (∀ b o, s.heap.get? b = some o → h'.get? b = some o) → Q (.str (PyData.list ps).shown u) { s with heap := h', toks := tk }) : wpAny (model prog w) A (call (.builtin "repr") [.ref a]) Q E s := by
  obtain ⟨as, ra⟩ := q.rd
  have rr : Reads s.heap (.ref a) (.list ps) (a :: as) := .list g gc gd ra
  have sz' : (listText (PyData.shownAll ps)).length ≤ sizeLine := by simpa only [PyData.shown] using sz
  obtain ⟨bs, b1, b2⟩ := q.rp (by simpa [PyData.showable] using sh) fun t ht => Nat.le_trans (listText_mem_le ht) sz'
  have out : a ∉ bs := not_mem_of_deeper rr (by simp only [PyData.depth]; omega) b1
  simp only [PyData.depth] at au
  simp only [PyData.shown] at hQ
  refine call_repr_slot (by omega) ⟨o, g, gc⟩ F.slot_list_repr.toG ?_
  cases its with
  | nil =>
    have ra' : ReadsAll s.heap [] ps _ := ra
    cases ra'
    simp only [PyData.shownAll, listText_nil] at hQ
    exact call_list_repr_empty ⟨o, g, gc⟩ g gd ⟨_, _, rfl, hQ s.heap _ _ fun _ _ e => e⟩
  | cons y r => exact call_list_reprK g gc gd out (by simpa using b2.length_eq) (fun i z e => b2.item i z (by simpa using e)) ag (fun b _ => Clear.nil b) (by show A.units + 1 + _ < cLine; omega) (fun _ _ z => z) (fun h' u tk hk => ⟨_, _, rfl, hQ h' u tk hk⟩) sz'
theorem top_tuple {its : List Value} {ps : List PyData} (g : s.heap.get? a = some o) (gc : o.cls = .type "tuple") (gd : o.data = .seq its.toArray n) (q : ShwL prog w s.heap its ps) (sh : (PyData.tuple ps).showable = true) (sz : (PyData.tuple ps).shown.length ≤ sizeLine)
    (ag : A.guards = some []) (au : A.units + ((PyData.tuple ps).depth + 1) < cLine) (hQ : ∀ h' u tk, (∀ b o, s.heap.get? b = some o → h'.get? b = some o) → Q (.str (PyData.tuple ps).shown u) { s with heap := h', toks := tk }) : wpAny (model prog w) A (call (.builtin "repr") [.ref a]) Q E s := by
  obtain ⟨as, ra⟩ := q.rd
  have rr : Reads s.heap (.ref a) (.tuple ps) as := .tuple g gc gd ra
  have sz' : (tupleText (PyData.shownAll ps)).length ≤ sizeLine := by simpa only [PyData.shown] using sz
  obtain ⟨bs, b1, b2⟩ := q.rp (by simpa [PyData.showable] using sh) fun t ht => Nat.le_trans (tupleText_mem_le ht) sz'
  have out : a ∉ bs := not_mem_of_deeper rr (by simp only [PyData.depth]; omega) b1
  simp only [PyData.depth] at au
  simp only [PyData.shown] at hQ
  refine call_repr_slot (by omega) ⟨o, g, gc⟩ F.slot_tuple_repr ?_
  exact call_tuple_reprK g gc gd out b2 ag (fun b _ => Clear.nil b) (by show A.units + 1 + _ < cLine; omega) (fun _ _ z => z) (fun h' u tk hk => ⟨_, _, rfl, hQ h' u tk hk⟩) sz'
theorem top_dict {es : Array DictEntry} {kvs : List (PyData × PyData)} (g : s.heap.get? a = some o) (gc : o.cls = .type "dict") (gd : o.data = .dict es n) (lo : (a == sysModules) = false)
    (q1 : ShwL prog w s.heap (es.toList.map (·.key)) (kvs.map (·.1))) (q2 : ShwL prog w s.heap (es.toList.map (·.val)) (kvs.map (·.2))) (sh : (PyData.dict kvs).showable = true) (sz : (PyData.dict kvs).shown.length ≤ sizeLine)
    (ag : A.guards = some []) (au : A.units + ((PyData.dict kvs).depth + 1) < cLine) (hQ : ∀ h' u tk, (∀ b o, s.heap.get? b = some o → h'.get? b = some o) → Q (.str (PyData.dict kvs).shown u) { s with heap := h', toks := tk }) : wpAny (model prog w) A (call (.builtin "repr") [.ref a]) Q E s := by
  obtain ⟨⟨as, rr⟩, k⟩ := dict_parts g gc gd lo q1 q2
  have sz' : (dictText (PyData.shownKv kvs)).length ≤ sizeLine := by simpa only [PyData.shown] using sz
  obtain ⟨bs, b0, b1, b2⟩ := k (by simpa [PyData.showable] using sh) sz'
  simp only [PyData.depth] at au
  simp only [PyData.shown] at hQ
  refine call_repr_slot (by omega) ⟨o, g, gc⟩ F.slot_dict_repr ?_
  exact call_dict_reprK g gc gd lo b0 b2 ag (fun b _ => Clear.nil b) (by show A.units + 1 + _ < cLine; omega) (fun _ _ z => z) (fun h' u tk hk => ⟨_, _, rfl, hQ h' u tk hk⟩) sz'
end
def reprOk (d : D) : Bool := plain d && (toP d).showable && decide ((toP d).depth ≤ 60) && decide ((toP d).shown.length ≤ sizeLine)
def reprD (d : D) : List Nat := (toP d).shown.cps.toList
def gRepr : List D → Option D
  | [d] => if reprOk d then some (.str (reprD d)) else none
  | _ => none
theorem rep_strOf {K : Kx} {B : Hp} {ρ : List Addr} (x : Str) : Rep K B ρ (.str x) (.str x.cps.toList) := by
  have := Rep.str (K := K) (B := B) (ρ := ρ) x.cps.toList
  rw [of_sOf] at this
  exact this
theorem cd_repr (hgd : X.A.guards = some []) (hu : X.A.units + 64 < cLine) : CallR X (.builtin "repr") (rCall (kx X M) (v1 gRepr)) := by
  intro pins s σ H xs us Q I rv ⟨B, ρ, S, ds, r0, c, rd, g0, k⟩
  obtain ⟨r, g, rfl⟩ := v1_some g0
  unfold gRepr at g
  split at g
  · rename_i d
    obtain ⟨hz, rfl⟩ := guard_some g
    obtain ⟨v, rfl, h⟩ := paired1 rd
    simp only [reprOk, Bool.and_eq_true, decide_eq_true_eq] at hz
    obtain ⟨⟨⟨z1, z2⟩, z3⟩, z4⟩ := hz
    have hH := h.toH c
    obtain ⟨u, rfl, ru⟩ := vals1 rv
    have q := k (.str (toP d).shown) H B ρ (.refl _ _ _) c (rep_strOf _)
    cases hH with
    | non =>
      cases ru
      exact PySem.P.repr_of_none ⟨.str _, H, I.tok _, ⟨_, rfl⟩, q⟩
    | bl b =>
      cases ru
      exact PySem.P.repr_of_bool ⟨.str _, H, I.tok _, ⟨_, by cases b <;> rfl⟩, q⟩
    | int i =>
      obtain ⟨t, rfl⟩ := ru
      exact PySem.P.repr_of_int (by simpa [toP, PyData.showable] using z2) ⟨.str _, H, I.tok _, ⟨_, rfl⟩, q⟩
    | str x =>
      obtain ⟨t, rfl⟩ := ru
      exact PySem.P.repr_of_str ⟨.str _, H, I.tok _, ⟨_, rfl⟩, q⟩ (by simpa [toP, PyData.shown] using z4)
    | tup h1 t1 =>
      cases ru
      simp only [toP] at z2 z3 z4 q
      obtain ⟨its, rv2, ⟨o, ho, hc, n, hd⟩, _⟩ := I.tuple h1.sq
      exact top_tuple ho hc hd (rep_shwL I t1 z1 rv2) z2 z4 hgd (by omega) fun h' u tk hk => ⟨.str _, H, I.kept hk, ⟨_, rfl⟩, q⟩
    | lst h1 t1 =>
      cases ru
      simp only [toP] at z2 z3 z4 q
      obtain ⟨its, rv2, ⟨o, n, ho, hc, _, hd⟩, _⟩ := I.list (SqL.of h1)
      exact top_list ho hc hd (rep_shwL I t1 z1 rv2) z2 z4 hgd (by omega) fun h' u tk hk => ⟨.str _, H, I.kept hk, ⟨_, rfl⟩, q⟩
    | dct h1 e1 t1 =>
      rename_i ks vs ds
      cases ru
      simp only [toP] at z2 z3 z4 q
      obtain ⟨_, lo, us, kr, o, es, ep, ho, hx, hd, _, hpr, _⟩ := dk_of I.hok h1
      obtain ⟨rv2, ek⟩ := kv_vals e1 kr
      have hl : (ks.map keyP).length = (toPs ds).length := by rw [List.length_map, toPs_len, e1, t1.length]
      refine top_dict ho hx.1 hd lo ?_ ?_ z2 z4 hgd (by omega) fun h' u tk hk => ⟨.str _, H, I.kept hk, ⟨_, rfl⟩, q⟩
      · rw [fst_zip hl, ← ek]; exact shwL_keys hpr
      · rw [snd_zip hl, pairs_vals hpr]; exact rep_shwL I t1 z1 rv2
    | obj => cases z1
    | exn => cases z1
    | fn => cases z1
    | ref _ => cases z1
    | scr _ => cases z1
  · cases g
end
end DL
namespace DL
open PySem PySem.Spec PyProof.Rows L2
set_option maxHeartbeats 1000000 in
theorem meets_enumT (l : Addr) (xs : Array Value) :
    Meets (Builtin.«enumerate.__new__» ⟨[.type "enumerate", .ref l], []⟩) (fun _ R s => s.heap.IsTuple l xs ∧
      R (.ok (.ret (.ref (s.heap.push { cls := .type "tuple_iterator", data := .fields #[.ref l, .int 0 0] }).objs.size)))
        { s with heap := (s.heap.push { cls := .type "tuple_iterator", data := .fields #[.ref l, .int 0 0] }).push { cls := .type "enumerate", data := .fields #[.none, .bool false, .ref s.heap.objs.size, rawInt 0, .none, .none] } }) :=
  .of_wp fun pr w A R s h => by
    obtain ⟨hp, g, d, tok, oz⟩ := s; obtain ⟨lenT, h⟩ := h
    have subE := sub_enumerate
    have isT0 : Heap.IsTuple (Shared.heap ⟨hp, g, d, tok, oz⟩) l xs := lenT
    wp_walk
    refine wpAny_stack_any fun now => wpAny_pure ?_
    split
    · rename_i c _ _ _ _ _
      cases (c == Value.type "enumerate")
      · wp_walk using wpAny_pyIter_tuple isT0
        exact ⟨_, rfl, h⟩
      · wp_walk using wpAny_pyIter_tuple isT0
        exact ⟨_, rfl, h⟩
    · wp_walk using wpAny_pyIter_tuple isT0
      exact ⟨_, rfl, h⟩
section
variable {pr : Program} {w : World} {A : Around} {E : Value → Shared → Prop} {s : Shared}
theorem call_enumT {l : Addr} {xs : Array Value} {Q : Value → Shared → Prop} (lenT : s.heap.IsTuple l xs)
    (h : ∀ h', IsEnum h' (s.heap.objs.size + 1) s.heap.objs.size 0 .none → h'.IsTupleIter s.heap.objs.size l 0 → h'.objs.size = s.heap.objs.size + 2 →
      (∀ c oc, s.heap.get? c = some oc → h'.get? c = some oc) → Q (.ref (s.heap.objs.size + 1)) { s with heap := h' }) :
    wpAny (model pr w) A (call (.type "enumerate") [.ref l]) Q E s := by
  refine callType_new F.called_enumerate (by decide) (F.typeCall_enumerate_1 _) (F.newCall_enumerate_1 _) (fun obj => F.args_object_init_2 obj _) F.entry_enumerate_new (meets_enumT l xs) ⟨lenT, ?_⟩
  have szZ : (s.heap.push { cls := .type "tuple_iterator", data := .fields #[.ref l, .int 0 0] }).objs.size = s.heap.objs.size + 1 := Heap.size_push ..
  have g1 := Heap.get?_push_size (s.heap.push { cls := .type "tuple_iterator", data := .fields #[.ref l, .int 0 0] })
      (o := ⟨.type "enumerate", none, .fields #[.none, .bool false, .ref s.heap.objs.size, rawInt 0, .none, .none], #[]⟩) rfl
  show _ ∧ _
  rw [szZ] at g1 ⊢
  exact ⟨⟨_, g1, rfl⟩, h _ g1 ⟨_, Heap.get?_push_of_some _ (Heap.get?_push_size _ rfl), rfl, rfl⟩ (by rw [Heap.size_push, szZ]) fun b o x => Heap.get?_push_of_some _ (Heap.get?_push_of_some _ x)⟩
end
def IteT (K : PySem.W.Frag) (a : Addr) : It :=
  ⟨fun i H => ∃ (xs : List V) (x : V), SqT K H a xs ∧ xs[i]? = some x, fun i H v H' => ∃ T x, v = .ref T ∧ H T = none ∧ H' = upd H T (.tup [.int (i : Nat), x]) ∧ ∀ xs, SqT K H a xs → xs[i]? = some x, fun i H => ∃ xs : List V, SqT K H a xs ∧ xs.length ≤ i⟩
theorem turn_enumT {P : Program} {w : World} {K : PySem.W.Frag} {elts : List Expr} {kk : Nat} {tpos : Pos} (a e it : Addr) (hai : a ≠ it) (hae : a ≠ e) :
    Turn P w K (.Tuple elts kk tpos) (IteT K a) [e, it] e (fun i h => (∃ was, IsEnum h e it ((i : Nat) : Int) was) ∧ h.IsTupleIter it a i ∧ e ≠ it) where
  mem := by simp
  obj := fun i h now b memB => by
    obtain ⟨⟨was, isE⟩, ⟨o, outE, hc, hd⟩, _⟩ := now
    have e' : b = e ∨ b = it := by simpa using memB
    rcases e' with z | z
    · rw [z]; exact ⟨_, isE, fun v q => nomatch q⟩
    · rw [z]; exact ⟨o, outE, fun v q => by rw [hd] at q; cases q⟩
  keep := fun i h h' now k => let ⟨⟨was, isE⟩, hi, apart⟩ := now; ⟨⟨was, k e (by simp) _ isE⟩, hi.at fun o q => k it (by simp) o q, apart⟩
  item := by
    intro X hP hw hK hc i pn s σ H E I apartF now goes
    subst hP hw hK
    obtain ⟨⟨was, isE⟩, onT, apart⟩ := now
    obtain ⟨xs, x, sq, gx⟩ := goes
    obtain ⟨us, vu, p, szZ⟩ := I.tuple sq
    obtain ⟨u, gu, ur⟩ := vu.get gx
    have ltE : e < s.heap.objs.size := Heap.lt_size isE
    have ltI : it < s.heap.objs.size := by obtain ⟨_, q, _⟩ := onT; exact Heap.lt_size q
    have szI : i < us.toArray.size := by rw [List.size_toArray]; exact (List.getElem?_eq_some_iff.mp gu).1
    refine wpAny_pyNext_enum_itemD (Draws.tuple (A := X.A.in1) (I.ok.hd hc) it a hai us.toArray) isE ⟨onT, p⟩ szI apart (by simp [apart, Ne.symm hae]) fun y h' tok gy outE ⟨onT', _⟩ newT szJ keepB => ?_
    have ey : y = u := by
      have q : us.toArray[i]? = some u := by simpa using gu
      rw [q] at gy
      injection gy with gy
      exact gy.symm
    subst ey
    refine ⟨_, rfl, wpAny_letOwnedTupleGo_enum (s := { s with heap := h', toks := tok + 1 }) outE fun h'' isE' butE => ?_⟩
    have newT2 : h''.get? s.heap.objs.size = some { cls := .type "tuple", data := .seq #[.int i tok, y] } := (butE.2 _ (Nat.ne_of_gt ltE)).trans newT
    have laid : ObjOk X.prog X.w (upd H s.heap.objs.size (.tup [.int ((i : Nat) : Int), x])) h'' s.heap.objs.size (.tup [.int ((i : Nat) : Int), x]) :=
      ⟨by show 2 ≤ sizeLine; decide, [.int i tok, y], .cons ⟨_, rfl⟩ (.cons ur .nil), ⟨_, newT2, rfl, _, rfl⟩⟩
    have J1 : Inv X pn σ (upd H s.heap.objs.size (.tup [.int (i : Nat), x])) { s with heap := h'', toks := tok + 1 } :=
      I.turnedNew (ch := [e, it]) (fun b obB memB q => (butE.2 b (fun z => memB (by simp [z]))).trans (keepB b obB (fun z => memB (by simp [z])) (fun z => memB (by simp [z])) q)) apartF (Nat.le_refl _) laid
    refine ⟨.ref s.heap.objs.size, _, J1, rfl, ⟨_, x, rfl, I.hok.fresh (Nat.le_refl _), rfl, fun ys gy => by rw [I.tuple_inj gy sq]; exact gx⟩, ⟨⟨y, ?_⟩, onT'.at fun o q => (butE.2 it (Ne.symm apart)).trans q, apart⟩, fun b memB => ?_⟩
    · have eqI : ((i + 1 : Nat) : Int) = (i : Int) + 1 := by omega
      rw [eqI]; exact isE'
    · have memB' : b < s.heap.objs.size := by
        have e' : b = e ∨ b = it := by simpa using memB
        rcases e' with z | z
        · rw [z]; exact ltE
        · rw [z]; exact ltI
      rw [upd_ne (Nat.ne_of_lt memB')]
      exact (apartF b memB).1
  done := by
    intro X hP hw hK hc i pn s σ H E I apartF now goes
    subst hP hw hK
    obtain ⟨⟨was, isE⟩, onT, apart⟩ := now
    obtain ⟨xs, sq, gx⟩ := goes
    obtain ⟨us, vu, p, szZ⟩ := I.tuple sq
    obtain ⟨k0, k1, k2, k3, k4, k5⟩ := apartF it (by simp)
    have lenT := vu.length
    have hn : us.toArray[i]? = none := by simp; omega
    have Dn : Draws X.prog X.w X.A.in1 it [it, a] i (fun _ _ => False) (fun j h => j = i ∧ h.IsTupleIter it a i ∧ h.IsTuple a us.toArray) :=
      ⟨fun _ _ now => let ⟨o, outE, _⟩ := now.2.1; ⟨o, outE⟩, fun _ _ _ now keepB => ⟨now.1, now.2.1.at fun o e => keepB it (by simp) o e, now.2.2.at fun o e => keepB a (by simp) o e⟩,
        fun j s Q E hi now hQ => absurd now.1 (Nat.ne_of_lt hi), fun s Q E now hE => wpAny_nextOf_tuple_end (A := X.A.in1) (I.ok.hd hc) now.2.1 now.2.2 hn hE⟩
    exact wpAny_pyNext_enum_endD Dn isE ⟨rfl, onT, p⟩ fun h' eb => ⟨rfl, I.turned (t' := s.toks) (fun b o memB q => eb b o memB q) k0 k1 k3 k4 k5⟩
  self := fun A i s Q E now h => let ⟨⟨_, isE⟩, _⟩ := now; wpAny_pyIter_enum isE h
def iEnumA (K : PySem.W.Frag) (ta : TA) : TI := fun σ H R => ta σ H fun vs G1 => ∃ a xs, vs = [.ref a] ∧ ((SqL K G1 a xs ∧ R (Ite K a) G1) ∨ (SqT K G1 a xs ∧ R (IteT K a) G1))
theorem pi_enumA {X : Cx} {e : Expr} {ta : TA} {p pos tpos : Pos} {elts : List Expr} {kk : Nat} (goes : Gl X "enumerate") (hm : X.mg "enumerate" = none) (ha : PA X [e] ta) (hs : starEach [e] X.env = [(false, eval e X.env)] := by rfl) :
    PI X (.Tuple elts kk tpos) (.Call (.Name "enumerate" p) [e] [] pos) (iEnumA X.K ta) := by
  refine ⟨fun pn s σ H R I h => ?_⟩
  refine Call_ (ld_blt I goes hm boot_enumerate (PyProof.Rows.callWith_type1 (thn (ha.run pos pn s σ H _ I h) fun us z1 ⟨vs, G1, J1, rel1, got⟩ => ?_) hs rfl))
  obtain ⟨a, xs, eqV, got⟩ := got
  subst eqV
  cases rel1 with
  | cons r rel2 =>
    cases rel2
    cases r
    have fresh2 : ∀ b ∈ [z1.heap.objs.size + 1, z1.heap.objs.size], FpOk X pn G1 b := fun b memB => by
      have e' : b = z1.heap.objs.size + 1 ∨ b = z1.heap.objs.size := by simpa using memB
      have above : z1.heap.objs.size ≤ b := by
        rcases e' with z | z
        · rw [z]; exact Nat.le_add_right _ _
        · rw [z]; exact Nat.le_refl _
      exact J1.fpOk above (J1.hok.fresh above)
    rcases got with ⟨sq, q⟩ | ⟨sq, q⟩
    · obtain ⟨us, vu, p', szZ⟩ := J1.list sq
      refine call_enumerate_list p'.isList fun h' isE onT szI keepB => wpAny_pyIter_enum isE ?_
      have J2 : Inv X pn σ G1 { z1 with heap := h' } := J1.kept (t' := z1.toks) keepB
      exact ⟨z1.heap.objs.size + 1, [z1.heap.objs.size + 1, z1.heap.objs.size], _, _, G1, rfl, J2, turn_enum a (z1.heap.objs.size + 1) z1.heap.objs.size, ⟨⟨.none, isE⟩, onT, Nat.succ_ne_self _⟩, fresh2, q⟩
    · obtain ⟨us, vu, p', szZ⟩ := J1.tuple sq
      obtain ⟨o1, ho1, _⟩ := id p'
      have hlt := Heap.lt_size ho1
      refine call_enumT (show z1.heap.IsTuple a us.toArray from p') fun h' isE onT szI keepB => wpAny_pyIter_enum isE ?_
      have J2 : Inv X pn σ G1 { z1 with heap := h' } := J1.kept (t' := z1.toks) keepB
      exact ⟨z1.heap.objs.size + 1, [z1.heap.objs.size + 1, z1.heap.objs.size], _, _, G1, rfl, J2, turn_enumT a (z1.heap.objs.size + 1) z1.heap.objs.size (Nat.ne_of_lt hlt) (Nat.ne_of_lt (Nat.lt_succ_of_lt hlt)), ⟨⟨.none, isE⟩, onT, Nat.succ_ne_self _⟩, fresh2, q⟩
end DL
namespace DL
open PySem L2 SeqAt
def isT : Expr → Bool
  | .Tuple _ _ _ => true
  | _ => false
def RepI (z : Bool) (K : Kx) (B : Hp) (ρ : List Addr) (v : V) (d : D) : Prop := Rep K B ρ v d ∨ (z = true ∧ ∃ a vs ds, v = .ref a ∧ d = .tup ds ∧ SqT K.K B a vs ∧ RepL K B ρ vs ds)
def Yields (z : Bool) (K : Kx) (B1 : Hp) (ρ1 : List Addr) (J : It) (items : List D) : Prop := ∀ (i : Nat) (B2 : Hp) (ρ2 : List Addr) (H2 : Hp) (S : Sto), Same B1 B2 → (∀ (n : Nat) (a : Addr), ρ1[n]? = some a → ρ2[n]? = some a) → Cells K B2 ρ2 H2 S →
  (∀ d, items[i]? = some d → J.go i H2 ∧ ∀ x H3, J.yld i H2 x H3 → ∃ B3, Ext B2 ρ2 H2 B3 ρ2 H3 ∧ Cells K B3 ρ2 H3 S ∧ RepI z K B3 ρ2 x d) ∧ (items.length ≤ i → J.stop i H2)
def tDI (z : Bool) (K : Kx) (W : WX) (f : Ev (List D)) : TI := fun σ H R => tX K W f σ H fun B ρ items S' => ∀ J H' B' ρ', Ext B ρ H B' ρ' H' → Cells K B' ρ' H' S' → Yields z K B' ρ' J items → R J H'
def DI (X : Cx) (M : Mp) (W : WX) (tg e : Expr) (f : Ev (List D)) : Prop := PI X tg e (tDI (isT tg) (kx X M) W f)
theorem PI.imp {X : Cx} {tg e : Expr} {t t' : TI} (h : PI X tg e t) (i : ∀ σ H R, t' σ H R → t σ H R) : PI X tg e t' := ⟨fun pins s σ H R I q => h.run pins s σ H R I (i σ H R q)⟩
section
variable {K : Kx} {B1 : Hp} {ρ1 : List Addr} {z0 : Bool}
theorem yl_list {a : Addr} {vs : List V} {ds : List D} (h : B1 a = some (.lst vs)) (t : RepL K B1 ρ1 vs ds) : Yields z0 K B1 ρ1 (Itl K.K a) ds := fun i B2 ρ2 H2 S sB hr c => by
  have hq : SqL K.K H2 a vs := SqL.of (c.same _ _ (sB _ _ h))
  refine ⟨fun d hd => ?_, fun hl => ⟨vs, hq, by rw [t.length]; exact hl⟩⟩
  obtain ⟨v, h1, r1⟩ := t.get hd
  refine ⟨⟨vs, v, hq, h1⟩, fun x H3 ⟨e, y⟩ => ?_⟩
  subst e
  have e := y vs hq
  rw [h1] at e; cases e
  exact ⟨B2, .refl _ _ _, c, .inl (r1.mono sB hr)⟩
theorem yl_tup {a : Addr} {vs : List V} {ds : List D} (h : SqP K.K B1 a vs) (t : RepL K B1 ρ1 vs ds) : Yields z0 K B1 ρ1 (Itt K.K a) ds := fun i B2 ρ2 H2 S sB hr c => by
  have hq : SqT K.K H2 a vs := sqT_mono (sB.trans c.same) h
  refine ⟨fun d hd => ?_, fun hl => ⟨vs, hq, by rw [t.length]; exact hl⟩⟩
  obtain ⟨v, h1, r1⟩ := t.get hd
  refine ⟨⟨vs, v, hq, h1⟩, fun x H3 ⟨e, y⟩ => ?_⟩
  subst e
  have e := y vs hq
  rw [h1] at e; cases e
  exact ⟨B2, .refl _ _ _, c, .inl (r1.mono sB hr)⟩
def chars (z : List Nat) : List D := z.map fun c => .str [c]
theorem yl_str (z : List Nat) : Yields z0 K B1 ρ1 (Its (sOf z)) (chars z) := fun i B2 ρ2 H2 S sB hr c => by
  have hl : (sOf z).cps.size = z.length := by simp
  refine ⟨fun d hd => ?_, fun h => by show (sOf z).cps.size ≤ i; rw [hl]; simpa [chars] using h⟩
  simp only [chars, List.getElem?_map, Option.map_eq_some_iff] at hd
  obtain ⟨ch, h1, rfl⟩ := hd
  refine ⟨?_, fun x H3 ⟨e, c2, y1, y2⟩ => ?_⟩
  · show i < (sOf z).cps.size
    rw [hl]; exact (List.getElem?_eq_some_iff.mp h1).1
  · subst e; subst y2
    have : c2 = ch := by
      have y1' : z[i]? = some c2 := by simpa using y1
      rw [h1] at y1'; exact (Option.some.inj y1').symm
    subst this
    exact ⟨B2, .refl _ _ _, c, .inl (.str [c2])⟩
def rangeD (lo : Int) (n : Nat) : List D := (List.range n).map fun (k : Nat) => .int (lo + (k : Int))
theorem yl_range (lo : Int) (n : Nat) : Yields z0 K B1 ρ1 (Itr lo n) (rangeD lo n) := fun i B2 ρ2 H2 S sB hr c => by
  refine ⟨fun d hd => ?_, fun h => by show n ≤ i; simpa [rangeD] using h⟩
  simp only [rangeD, List.getElem?_map, Option.map_eq_some_iff] at hd
  obtain ⟨k, h1, rfl⟩ := hd
  have hi : i < n := by have := (List.getElem?_eq_some_iff.mp h1).1; simpa using this
  have hk : k = i := by rw [List.getElem?_range hi] at h1; exact (Option.some.inj h1).symm
  subst hk
  refine ⟨hi, fun x H3 ⟨e, y⟩ => ?_⟩
  subst e; subst y
  exact ⟨B2, .refl _ _ _, c, .inl (.int _)⟩
def zipD (xs ys : List D) : List D := (xs.zip ys).map fun p => .tup [p.1, p.2]
theorem zipD_get {xs ys : List D} {i : Nat} {d : D} (h : (zipD xs ys)[i]? = some d) : ∃ x y, xs[i]? = some x ∧ ys[i]? = some y ∧ d = .tup [x, y] := by
  simp only [zipD, List.getElem?_map, Option.map_eq_some_iff] at h
  obtain ⟨p, h1, rfl⟩ := h
  rw [List.getElem?_zip_eq_some] at h1
  exact ⟨p.1, p.2, h1.1, h1.2, rfl⟩
theorem zipD_len (xs ys : List D) : (zipD xs ys).length = min xs.length ys.length := by simp [zipD]
theorem yl_zipL {a b : Addr} {vs us : List V} {ds es : List D} (h1 : B1 a = some (.lst vs)) (t1 : RepL K B1 ρ1 vs ds) (h2 : B1 b = some (.lst us)) (t2 : RepL K B1 ρ1 us es) : Yields true K B1 ρ1 (Itz K.K a b) (zipD ds es) := fun i B2 ρ2 H2 S sB hr c => by
  have q1 : SqL K.K H2 a vs := SqL.of (c.same _ _ (sB _ _ h1))
  have q2 : SqL K.K H2 b us := SqL.of (c.same _ _ (sB _ _ h2))
  refine ⟨fun d hd => ?_, fun hl => ⟨vs, us, q1, q2, by rw [zipD_len] at hl; rw [t1.length, t2.length]; omega⟩⟩
  obtain ⟨x, y, e1, e2, rfl⟩ := zipD_get hd
  obtain ⟨v, z1, r1⟩ := t1.get e1
  obtain ⟨u, z2, r2⟩ := t2.get e2
  refine ⟨⟨vs, us, v, u, q1, q2, z1, z2⟩, fun x H3 ⟨T, x', y', e, nT, eH, f1, f2⟩ => ?_⟩
  subst e; subst eH
  have w1 := f1 vs q1
  have w2 := f2 us q2
  rw [z1] at w1; rw [z2] at w2; cases w1; cases w2
  obtain ⟨c3, x3⟩ := c.lay (o := .tup [v, u]) nT
  exact ⟨_, x3, c3, .inr ⟨rfl, _, _, _, rfl, rfl, .inl (.inl upd_same), .cons ((r1.mono sB hr).ext x3) (.cons ((r2.mono sB hr).ext x3) .nil)⟩⟩
theorem yl_zipT {a b : Addr} {vs us : List V} {ds es : List D} (h1 : SqP K.K B1 a vs) (t1 : RepL K B1 ρ1 vs ds) (h2 : SqP K.K B1 b us) (t2 : RepL K B1 ρ1 us es) : Yields true K B1 ρ1 (RZ.ItzT K.K a b) (zipD ds es) := fun i B2 ρ2 H2 S sB hr c => by
  have q1 : SqT K.K H2 a vs := sqT_mono (sB.trans c.same) h1
  have q2 : SqT K.K H2 b us := sqT_mono (sB.trans c.same) h2
  refine ⟨fun d hd => ?_, fun hl => ⟨vs, us, q1, q2, by rw [zipD_len] at hl; rw [t1.length, t2.length]; omega⟩⟩
  obtain ⟨x, y, e1, e2, rfl⟩ := zipD_get hd
  obtain ⟨v, z1, r1⟩ := t1.get e1
  obtain ⟨u, z2, r2⟩ := t2.get e2
  refine ⟨⟨vs, us, v, u, q1, q2, z1, z2⟩, fun x H3 ⟨T, x', y', e, nT, eH, f1, f2⟩ => ?_⟩
  subst e; subst eH
  have w1 := f1 vs q1
  have w2 := f2 us q2
  rw [z1] at w1; rw [z2] at w2; cases w1; cases w2
  obtain ⟨c3, x3⟩ := c.lay (o := .tup [v, u]) nT
  exact ⟨_, x3, c3, .inr ⟨rfl, _, _, _, rfl, rfl, .inl (.inl upd_same), .cons ((r1.mono sB hr).ext x3) (.cons ((r2.mono sB hr).ext x3) .nil)⟩⟩
def enumD : Nat → List D → List D
  | _, [] => []
  | k, x :: xs => .tup [.int (k : Nat), x] :: enumD (k + 1) xs
theorem enumD_len : ∀ (k : Nat) (xs : List D), (enumD k xs).length = xs.length
  | _, [] => rfl
  | k, x :: xs => by simp [enumD, enumD_len]
theorem enumD_get : ∀ {k : Nat} {xs : List D} {i : Nat} {d : D}, (enumD k xs)[i]? = some d → ∃ x, xs[i]? = some x ∧ d = .tup [.int ((k + i : Nat) : Int), x]
  | _, [], i, d, h => by simp [enumD] at h
  | k, x :: xs, 0, d, h => by simp [enumD] at h; exact ⟨x, rfl, h.symm⟩
  | k, x :: xs, i + 1, d, h => by
    obtain ⟨y, h1, h2⟩ := enumD_get (k := k + 1) (xs := xs) (i := i) (d := d) (by simpa [enumD] using h)
    exact ⟨y, by simpa using h1, by rw [h2]; congr 4; omega⟩
theorem yl_enum {a : Addr} {vs : List V} {ds : List D} (h1 : B1 a = some (.lst vs)) (t1 : RepL K B1 ρ1 vs ds) : Yields true K B1 ρ1 (Ite K.K a) (enumD 0 ds) := fun i B2 ρ2 H2 S sB hr c => by
  have q1 : SqL K.K H2 a vs := SqL.of (c.same _ _ (sB _ _ h1))
  refine ⟨fun d hd => ?_, fun hl => ⟨vs, q1, by rw [enumD_len] at hl; rw [t1.length]; exact hl⟩⟩
  obtain ⟨x, e1, rfl⟩ := enumD_get hd
  obtain ⟨v, z1, r1⟩ := t1.get e1
  refine ⟨⟨vs, v, q1, z1⟩, fun x H3 ⟨T, x', e, nT, eH, f1⟩ => ?_⟩
  subst e; subst eH
  have w1 := f1 vs q1
  rw [z1] at w1; cases w1
  obtain ⟨c3, x3⟩ := c.lay (o := .tup [.int (i : Nat), v]) nT
  refine ⟨_, x3, c3, .inr ⟨rfl, _, _, _, rfl, rfl, .inl (.inl upd_same), .cons ?_ (.cons ((r1.mono sB hr).ext x3) .nil)⟩⟩
  rw [Nat.zero_add]
  exact .int _
theorem yl_enumT {a : Addr} {vs : List V} {ds : List D} (h1 : SqP K.K B1 a vs) (t1 : RepL K B1 ρ1 vs ds) : Yields true K B1 ρ1 (IteT K.K a) (enumD 0 ds) := fun i B2 ρ2 H2 S sB hr c => by
  have q1 : SqT K.K H2 a vs := sqT_mono (sB.trans c.same) h1
  refine ⟨fun d hd => ?_, fun hl => ⟨vs, q1, by rw [enumD_len] at hl; rw [t1.length]; exact hl⟩⟩
  obtain ⟨x, e1, rfl⟩ := enumD_get hd
  obtain ⟨v, z1, r1⟩ := t1.get e1
  refine ⟨⟨vs, v, q1, z1⟩, fun x H3 ⟨T, x', e, nT, eH, f1⟩ => ?_⟩
  subst e; subst eH
  have w1 := f1 vs q1
  rw [z1] at w1; cases w1
  obtain ⟨c3, x3⟩ := c.lay (o := .tup [.int (i : Nat), v]) nT
  refine ⟨_, x3, c3, .inr ⟨rfl, _, _, _, rfl, rfl, .inl (.inl upd_same), .cons ?_ (.cons ((r1.mono sB hr).ext x3) .nil)⟩⟩
  rw [Nat.zero_add]
  exact .int _
end
section
variable {X : Cx} {M : Mp} {W : WX} {tg e e1 e2 : Expr} {fa fb : Ev D} {fs : Ev (List D)} {pos p : Pos} {pins : List (Addr × Obj)} {σ : St} {H : Hp} {s : Shared} {Rq : It → Hp → Prop}
theorem it_list {a : Addr} {vs : List V} (I : Inv X pins σ H s) (hq : SqL X.K H a vs) (q : Rq (Itl X.K a) H) : wpAny (model X.prog X.w) X.A (pyIter (.ref a)) (PIE X pins σ tg Rq) X.xe s :=
  let ⟨_, _, p, _⟩ := I.list hq
  wpAny_pyIter_list p.isList (pi_one (tk := s.toks) I _ (turn_list a _) ⟨_, Heap.get?_push_size _ rfl, rfl, rfl⟩ q)
theorem it_tup {a : Addr} {vs : List V} (I : Inv X pins σ H s) (hq : SqT X.K H a vs) (q : Rq (Itt X.K a) H) : wpAny (model X.prog X.w) X.A (pyIter (.ref a)) (PIE X pins σ tg Rq) X.xe s :=
  let ⟨_, _, p, _⟩ := I.tuple hq
  wpAny_pyIter_tuple p (pi_one (tk := s.toks) I _ (turn_tuple a _) ⟨_, Heap.get?_push_size _ rfl, rfl, rfl⟩ q)
theorem it_str {x : Str} {t : Tok} (I : Inv X pins σ H s) (q : Rq (Its x) H) : wpAny (model X.prog X.w) X.A (pyIter (.str x t)) (PIE X pins σ tg Rq) X.xe s := by
  cases ha : x.cps.all (· < 128)
  · exact wpAny_pyIter_wide ha (pi_one (tk := s.toks) I _ (turn_str _ x t "str_iterator" (.inr rfl)) ⟨_, Heap.get?_push_size _ rfl, rfl, rfl⟩ q)
  · exact wpAny_pyIter_ascii ha (pi_one (tk := s.toks) I _ (turn_str _ x t "str_ascii_iterator" (.inl rfl)) ⟨_, Heap.get?_push_size _ rfl, rfl, rfl⟩ q)
def itemsOf : D → Option (List D)
  | .lst xs => some xs
  | .tup xs => some xs
  | .str z => some (chars z)
  | _ => none
def kIt (Q : List D → Sto → Prop) (d : D) (S : Sto) : Prop := optW (itemsOf d) S Q
def eIt (fa : Ev D) : Ev (List D) := fun γ S E Q => fa γ S E (kIt Q)
theorem di_val (ha : DE X M W e fa) : DI X M W tg e (eIt fa) := by
  refine ⟨fun pins s σ H Rq I ⟨B, ρ, γ, S, E', Q', at_, h, k⟩ => ?_⟩
  refine thn (ha.run pins s σ H (fun v H1 => ∃ items S1 B1 ρ1 d, Q' items S1 ∧ itemsOf d = some items ∧ Ext B ρ H B1 ρ1 H1 ∧ Cells (kx X M) B1 ρ1 H1 S1 ∧ Rep (kx X M) B1 ρ1 v d) I
    ⟨B, ρ, γ, S, E', _, at_, h, fun d S1 h1 v H1 B1 ρ1 x1 c1 r1 => ?_⟩) fun u s1 ⟨v, H1, I1, ru, items, S1, B1, ρ1, d, h2, e, x1, c1, r1⟩ => ?_
  · obtain ⟨items, e, h2⟩ := optW_ok h1
    exact ⟨items, S1, B1, ρ1, d, h2, e, x1, c1, r1⟩
  · have fin := k items S1 h2
    unfold itemsOf at e
    split at e
    · cases e
      cases r1 with
      | lst h t =>
        cases (show u = Value.ref _ from ru)
        exact it_list I1 (SqL.of (c1.same _ _ h)) (fin _ H1 B1 ρ1 x1 c1 (yl_list h t))
    · cases e
      cases r1 with
      | tup h t =>
        cases (show u = Value.ref _ from ru)
        exact it_tup I1 (sqT_mono c1.same h) (fin _ H1 B1 ρ1 x1 c1 (yl_tup h t))
    · cases e
      cases r1
      obtain ⟨t, rfl⟩ := ru
      exact it_str I1 (fin _ H1 B1 ρ1 x1 c1 (yl_str _))
    · cases e
def kCI (g : List D → Option (List D)) (ds : List D) (S : Sto) (Q : List D → Sto → Prop) : Prop := optW (g ds) S Q
def eCI (g : List D → Option (List D)) (fs : Ev (List D)) : Ev (List D) := fun γ S E Q => fs γ S E fun ds S => kCI g ds S Q
def gRange1 : List D → Option (List D)
  | [.int j] => if -(2 ^ 62) ≤ j ∧ j < 2 ^ 62 then some (rangeD 0 j.toNat) else none
  | _ => none
def gRange2 : List D → Option (List D)
  | [.int i, .int j] => if -(2 ^ 62) ≤ i ∧ i < 2 ^ 62 ∧ -(2 ^ 62) ≤ j ∧ j < 2 ^ 62 then some (rangeD i (j - i).toNat) else none
  | _ => none
theorem di_range1 (hg : Gl X "range") (hm : X.mg "range" = none) (ha : DA X M W [e] fs) (hs : starEach [e] X.env = [(false, eval e X.env)]) : DI X M W tg (.Call (.Name "range" p) [e] [] pos) (eCI gRange1 fs) :=
  PI.imp (pi_range1 hg hm ha hs) fun σ H Rq ⟨B, ρ, γ, S, E', Q', at_, h, k⟩ => ⟨B, ρ, γ, S, E', _, at_, h, fun ds S1 h1 vs H1 B1 ρ1 x1 c1 r1 => by
    obtain ⟨items, q3, h2⟩ := optW_ok h1
    unfold gRange1 at q3
    split at q3
    · obtain ⟨h, rfl⟩ := guard_some q3
      cases r1 with
      | cons r1 t1 =>
        cases t1; cases r1
        exact ⟨_, rfl, h.1, h.2, k _ S1 h2 _ H1 B1 ρ1 x1 c1 (yl_range 0 _)⟩
    · cases q3⟩
theorem di_range2 (hg : Gl X "range") (hm : X.mg "range" = none) (ha : DA X M W [e1, e2] fs) (hs : starEach [e1, e2] X.env = [(false, eval e1 X.env), (false, eval e2 X.env)]) (hs2 : starEach [e2] X.env = [(false, eval e2 X.env)]) :
    DI X M W tg (.Call (.Name "range" p) [e1, e2] [] pos) (eCI gRange2 fs) :=
  PI.imp (pi_range2 hg hm ha hs hs2) fun σ H Rq ⟨B, ρ, γ, S, E', Q', at_, h, k⟩ => ⟨B, ρ, γ, S, E', _, at_, h, fun ds S1 h1 vs H1 B1 ρ1 x1 c1 r1 => by
    obtain ⟨items, q3, h2⟩ := optW_ok h1
    unfold gRange2 at q3
    split at q3
    · obtain ⟨h, rfl⟩ := guard_some q3
      cases r1 with
      | cons r1 t1 =>
        cases t1 with
        | cons r2 t2 =>
          cases t2; cases r1; cases r2
          exact ⟨_, _, rfl, h, k _ S1 h2 _ H1 B1 ρ1 x1 c1 (yl_range _ _)⟩
    · cases q3⟩
def gEnum : List D → Option (List D)
  | [.lst xs] => some (enumD 0 xs)
  | [.tup xs] => some (enumD 0 xs)
  | _ => none
def gZip : List D → Option (List D)
  | [.lst xs, .lst ys] => some (zipD xs ys)
  | [.tup xs, .tup ys] => some (zipD xs ys)
  | _ => none
variable {elts : List Expr} {kk : Nat} {tpos : Pos}
theorem di_enum (hg : Gl X "enumerate") (hm : X.mg "enumerate" = none) (ha : DA X M W [e] fs) (hs : starEach [e] X.env = [(false, eval e X.env)]) : DI X M W (.Tuple elts kk tpos) (.Call (.Name "enumerate" p) [e] [] pos) (eCI gEnum fs) :=
  PI.imp (pi_enumA hg hm ha hs) fun σ H Rq ⟨B, ρ, γ, S, E', Q', at_, h, k⟩ => ⟨B, ρ, γ, S, E', _, at_, h, fun ds S1 h1 vs H1 B1 ρ1 x1 c1 r1 => by
    obtain ⟨items, q3, h2⟩ := optW_ok h1
    unfold gEnum at q3
    split at q3
    · cases q3
      cases r1 with
      | cons r1 t1 =>
        cases t1
        cases r1 with
        | lst h t => exact ⟨_, _, rfl, .inl ⟨SqL.of (c1.same _ _ h), k _ S1 h2 _ H1 B1 ρ1 x1 c1 (yl_enum h t)⟩⟩
    · cases q3
      cases r1 with
      | cons r1 t1 =>
        cases t1
        cases r1 with
        | tup h t => exact ⟨_, _, rfl, .inr ⟨sqT_mono c1.same h, k _ S1 h2 _ H1 B1 ρ1 x1 c1 (yl_enumT h t)⟩⟩
    · cases q3⟩
theorem di_zip (hg : Gl X "zip") (hm : X.mg "zip" = none) (ha : DA X M W [e1, e2] fs) (hs : starEach [e1, e2] X.env = (false, eval e1 X.env) :: starEach [e2] X.env) (hpl : (backTo pos (starEach [e2] X.env)).any (·.1) = false) :
    DI X M W (.Tuple elts kk tpos) (.Call (.Name "zip" p) [e1, e2] [] pos) (eCI gZip fs) :=
  PI.imp (RZ.pi_zipA hg hm ha hs hpl) fun σ H Rq ⟨B, ρ, γ, S, E', Q', at_, h, k⟩ => ⟨B, ρ, γ, S, E', _, at_, h, fun ds S1 h1 vs H1 B1 ρ1 x1 c1 r1 => by
    obtain ⟨items, q3, h2⟩ := optW_ok h1
    unfold gZip at q3
    split at q3
    · cases q3
      cases r1 with
      | cons r1 t1 =>
        cases t1 with
        | cons r2 t2 =>
          cases t2
          cases r1 with
          | lst h t =>
            cases r2 with
            | lst h' t' => exact ⟨_, _, _, _, rfl, .inl ⟨SqL.of (c1.same _ _ h), SqL.of (c1.same _ _ h'), k _ S1 h2 _ H1 B1 ρ1 x1 c1 (yl_zipL h t h' t')⟩⟩
    · cases q3
      cases r1 with
      | cons r1 t1 =>
        cases t1 with
        | cons r2 t2 =>
          cases t2
          cases r1 with
          | tup h t =>
            cases r2 with
            | tup h' t' => exact ⟨_, _, _, _, rfl, .inr ⟨sqT_mono c1.same h, sqT_mono c1.same h', k _ S1 h2 _ H1 B1 ρ1 x1 c1 (yl_zipT h t h' t')⟩⟩
    · cases q3⟩
end
inductive Tg where
  | one (i : Nat) | tup (is : List Nat) | pr (a b : Tg)
def Tg.slots : Tg → List Nat
  | .one i => [i]
  | .tup is => is
  | .pr a b => a.slots ++ b.slots
def setsG : List Nat → List D → List Slot → Option (List Slot)
  | [], [], γ => some γ
  | i :: is, d :: ds, γ => setsG is ds (γ.set i (.val d))
  | _, _, _ => none
def bindG : Tg → D → List Slot → Option (List Slot)
  | .one i, d, γ => some (γ.set i (.val d))
  | .tup is, .tup ds, γ => setsG is ds γ
  | .pr a b, .tup [x, y], γ => (bindG a x γ).bind (bindG b y)
  | _, _, _ => none
theorem bindG_inv {a b : Tg} {d : D} {γ γ' : List Slot} (h : bindG (.pr a b) d γ = some γ') : ∃ x y γ1, d = .tup [x, y] ∧ bindG a x γ = some γ1 ∧ bindG b y γ1 = some γ' := by
  unfold bindG at h
  split at h
  · rename_i z; cases z
  · rename_i z; cases z
  · rename_i a' b' x y z
    cases z
    rw [Option.bind_eq_some_iff] at h
    obtain ⟨γ1, e1, e2⟩ := h
    exact ⟨x, y, γ1, rfl, e1, e2⟩
  · cases h
def gNames : List Nat → TGs
  | [] => gNil
  | i :: is => gCons (gName i) (gNames is)
def tTg (K : Kx) : Tg → TG
  | .one i => gName i
  | .tup is => gTup K.K is.length (gNames is)
  | .pr a b => gTup K.K 2 (gCons (tTg K a) (gCons (tTg K b) gNil))
def Apart (is : List Nat) (σ σ' : St) : Prop := σ'.length = σ.length ∧ ∀ j : Nat, j ∉ is → σ'[j]? = σ[j]?
section
variable {K : Kx} {B : Hp} {ρ : List Addr} {H : Hp} {S : Sto}
theorem names_ok : ∀ {is : List Nat} {vs : List V} {ds : List D} {σ : St} {γ γ' : List Slot} {Q : St → Hp → Prop}, Slots K B ρ H σ γ → RepL K B ρ vs ds → setsG is ds γ = some γ' → (∀ σ', Slots K B ρ H σ' γ' → Apart is σ σ' → Q σ' H) → gNames is vs σ H Q
  | [], _, [], σ, γ, γ', Q, s, .nil, h, k => by
    simp only [setsG, Option.some.injEq] at h; subst h
    exact ⟨rfl, k σ s ⟨rfl, fun _ _ => rfl⟩⟩
  | [], _, d :: ds, σ, γ, γ', Q, s, _, h, k => by simp [setsG] at h
  | i :: is, _, [], σ, γ, γ', Q, s, _, h, k => by simp [setsG] at h
  | i :: is, _, d :: ds, σ, γ, γ', Q, s, .cons r t, h, k => by
    simp only [setsG] at h
    refine ⟨_, _, rfl, ?_⟩
    refine names_ok (s.set i r) t h fun σ' s' a => k σ' s' ⟨by rw [a.1]; simp, fun j hj => ?_⟩
    simp only [List.mem_cons, not_or] at hj
    rw [a.2 j hj.2, List.getElem?_set_ne (Ne.symm hj.1)]
theorem tg_ok {t : Tg} {v : V} {d : D} {σ : St} {γ γ' : List Slot} {Q : St → Hp → Prop} (c : Cells K B ρ H S) (s : Slots K B ρ H σ γ) (r : Rep K B ρ v d) (h : bindG t d γ = some γ') (k : ∀ σ', Slots K B ρ H σ' γ' → Apart t.slots σ σ' → Q σ' H) : tTg K t v σ H Q := by
  induction t generalizing v d σ γ γ' Q with
  | one i =>
    simp only [bindG, Option.some.injEq] at h; subst h
    exact k _ (s.set i r) ⟨by simp, fun j hj => by rw [List.getElem?_set_ne]; intro z; exact hj (by simp [Tg.slots, z])⟩
  | tup is =>
    cases d <;> simp only [bindG] at h <;> try cases h
    cases r with
    | tup h1 t1 =>
      have hl : is.length = _ := setsG_len h
      exact ⟨_, _, rfl, sqT_mono c.same h1, by rw [t1.length]; exact hl.symm, names_ok s t1 h k⟩
  | pr a b iha ihb =>
    obtain ⟨x, y, γ1, rfl, e1, e2⟩ := bindG_inv h
    cases r with
    | tup h1 t1 =>
      cases t1 with
      | cons r1 t2 =>
        cases t2 with
        | cons r2 t3 =>
          cases t3
          refine ⟨_, _, rfl, sqT_mono c.same h1, rfl, _, _, rfl, iha s r1 e1 fun σ1 s1 a1 => ⟨_, _, rfl, ihb s1 r2 e2 fun σ2 s2 a2 => ⟨rfl, k σ2 s2 ⟨a2.1.trans a1.1, fun j hj => ?_⟩⟩⟩⟩
          simp only [Tg.slots, List.mem_append, not_or] at hj
          exact (a2.2 j hj.2).trans (a1.2 j hj.1)
where
  setsG_len : ∀ {is : List Nat} {ds : List D} {γ γ' : List Slot}, setsG is ds γ = some γ' → is.length = ds.length
    | [], [], _, _, _ => rfl
    | [], _ :: _, _, _, h => by simp [setsG] at h
    | _ :: _, [], _, _, h => by simp [setsG] at h
    | i :: is, d :: ds, _, _, h => by simp only [setsG] at h; simp [setsG_len h]
theorem tg_okI {z : Bool} {t : Tg} {v : V} {d : D} {σ : St} {γ γ' : List Slot} {Q : St → Hp → Prop} (hz : ∀ i, t = .one i → z = false) (c : Cells K B ρ H S) (s : Slots K B ρ H σ γ) (r : RepI z K B ρ v d) (h : bindG t d γ = some γ') (k : ∀ σ', Slots K B ρ H σ' γ' → Apart t.slots σ σ' → Q σ' H) : tTg K t v σ H Q := by
  rcases r with r | ⟨z1, a, vs, ds, rfl, rfl, hq, t1⟩
  · exact tg_ok c s r h k
  cases t with
  | one i => rw [hz i rfl] at z1; cases z1
  | tup is => exact ⟨_, _, rfl, sqT_up c.same hq, by rw [t1.length]; exact (tg_ok.setsG_len h).symm, names_ok s t1 h k⟩
  | pr a b =>
    obtain ⟨x, y, γ1, e, e1, e2⟩ := bindG_inv h
    cases e
    cases t1 with
    | cons r1 t2 =>
      cases t2 with
      | cons r2 t3 =>
        cases t3
        refine ⟨_, _, rfl, sqT_up c.same hq, rfl, _, _, rfl, tg_ok c s r1 e1 fun σ1 s1 a1 => ⟨_, _, rfl, tg_ok c s1 r2 e2 fun σ2 s2 a2 => ⟨rfl, k σ2 s2 ⟨a2.1.trans a1.1, fun j hj => ?_⟩⟩⟩⟩
        simp only [Tg.slots, List.mem_append, not_or] at hj
        exact (a2.2 j hj.2).trans (a1.2 j hj.1)
end
def wipeG (γ : List Slot) : List Nat → List Slot
  | [] => γ
  | v :: vs => (wipeG γ vs).set v .no
section
variable {K : Kx} {B : Hp} {ρ : List Addr} {H : Hp} {σ : St} {γ : List Slot}
theorem Slots.wipe (s : Slots K B ρ H σ γ) : ∀ vs : List Nat, Slots K B ρ H (L2.wipe σ vs) (wipeG γ vs)
  | [] => s
  | v :: vs => (Slots.wipe s vs).no v
end
theorem wipe_same : ∀ {vs : List Nat} {σ σ' : St}, Apart vs σ σ' → L2.wipe σ' vs = L2.wipe σ vs := by
  have get : ∀ (vs : List Nat) (σ : St) (j : Nat), (L2.wipe σ vs)[j]? = if j ∈ vs then (if j < σ.length then some none else none) else σ[j]? := by
    intro vs
    induction vs with
    | nil => intro σ j; simp [L2.wipe]
    | cons v vs ih =>
      intro σ j
      show ((L2.wipe σ vs).set v none)[j]? = _
      by_cases e : v = j
      · subst e
        simp only [List.mem_cons, true_or, if_true]
        by_cases hl : v < σ.length
        · rw [if_pos hl, List.getElem?_set_self (by rw [wipe_length]; exact hl)]
        · rw [if_neg hl, List.getElem?_eq_none (by simp [wipe_length]; omega)]
      · rw [List.getElem?_set_ne e, ih]
        have : (j ∈ v :: vs) ↔ j ∈ vs := by simp [Ne.symm e]
        simp only [this]
  intro vs σ σ' a
  refine List.ext_getElem? fun j => ?_
  rw [get, get, a.1]
  by_cases hj : j ∈ vs
  · simp only [if_pos hj]
  · simp only [if_neg hj]; exact a.2 j hj
theorem apart_wiped {vs : List Nat} {σ σ' : St} (a : Apart vs (L2.wipe σ vs) σ') : L2.wipe σ' vs = L2.wipe σ vs := by
  rw [wipe_same a]
  refine wipe_same ⟨wipe_length σ vs, fun j hj => ?_⟩
  exact wipe_out hj
end DL
namespace DL
open PySem L2 SeqAt
abbrev EF : XC := fun _ _ => False
abbrev WF : WX := fun _ _ _ _ => False
def compW (f : D → Sto → (Option D → Sto → Prop) → Prop) (xs : List D) (S : Sto) (Q : List D → Sto → Prop) : Prop :=
  ∃ I : Nat → List D → Sto → Prop, I 0 [] S ∧ (∀ i x ys S, xs[i]? = some x → I i ys S → f x S fun o S => I (i + 1) (ys ++ o.toList) S) ∧ ∀ ys S, I xs.length ys S → Q ys S
def kKeep (e : Ev D) (γ : List Slot) (Q : Option D → Sto → Prop) (b : Bool) (S : Sto) : Prop := match b with
  | true => e γ S EF fun y S => Q (some y) S
  | false => Q none S
def compF (tg : Tg) (c : Ev Bool) (e : Ev D) (γ : List Slot) (x : D) (S : Sto) (Q : Option D → Sto → Prop) : Prop := match bindG tg x (wipeG γ tg.slots) with
  | none => False
  | some γ' => c γ' S EF (kKeep e γ' Q)
def kComp (tg : Tg) (c : Ev Bool) (e : Ev D) (γ : List Slot) (Q : Rv → Sto → Prop) (xs : List D) (S : Sto) : Prop := xs.length ≤ sizeLine ∧ compW (compF tg c e γ) xs S fun ys S => Q (.o (.lst ys)) S
def eComp (it : Ev (List D)) (tg : Tg) (c : Ev Bool) (e : Ev D) : Ev Rv := fun γ S E Q => it γ S E (kComp tg c e γ Q)
def eTrue : Ev Bool := fun _ S _ Q => Q true S
def DTs (X : Cx) (M : Mp) (W : WX) (es : List Expr) (f : Ev Bool) : Prop := PTs X es (tDT (kx X M) W f)
theorem PTs.imp {X : Cx} {e : List Expr} {t t' : TT} (h : PTs X e t) (i : ∀ σ H Q, t' σ H Q → t σ H Q) : PTs X e t' := ⟨fun pins s σ H Q I q => h.run pins s σ H Q I (i σ H Q q)⟩
theorem dts_nil {X : Cx} {M : Mp} {W : WX} : DTs X M W [] eTrue := PTs.imp pts_nil fun σ H Q ⟨B, ρ, γ, S, E', Q', at_, h, k⟩ => k true S h H B ρ (.refl _ _ _) at_.rel.cells
theorem dts_one {X : Cx} {M : Mp} {W : WX} {e : Expr} {f : Ev Bool} (h : DT X M W e f) : DTs X M W [e] f := pts_one h
theorem efx {K : Kx} {B : Hp} {ρ : List Addr} {H : Hp} {w : XK} : ∀ x S', EF x S' → XPost K B ρ H S' w x := fun _ _ z => z.elim
section
variable {X : Cx} {M : Mp} {W : WX} {elt tg iter : Expr} {ifs : List Expr} {scope : Scope} {own : List (Str × Nat)} {pos : Pos} {it : Ev (List D)} {t : Tg} {c : Ev Bool} {e : Ev D}
theorem lc_imp {z : Bool} {K : Kx} (ht : ∀ i, t = .one i → z = false) (hown : own.map (·.2) = t.slots) : ∀ σ H Q, tR K W (eComp it t c e) σ H Q → tLc (tDI z K W it) (tTg K t) (tDT K WF c) (tD K WF e) (own.map (·.2)) σ H Q := fun σ H Q ⟨B, ρ, γ, S, E', Q', at_, h, k⟩ => by
  rw [hown]
  refine ⟨B, ρ, γ, S, E', _, at_, h, fun items S1 h1 J H1 B1 ρ1 x1 c1 yl => ?_⟩
  obtain ⟨hz, Iv, i0, istep, iend⟩ := h1
  intro p np
  obtain ⟨nb1, nr1⟩ := ext_new c1 np
  refine ⟨fun i m H2 => m = items.length - i ∧ i ≤ items.length ∧ ∃ B2 ρ2 S2 acc vacc, Ext B1 ρ1 H1 B2 ρ2 H2 ∧ Cells K B2 ρ2 H2 S2 ∧ H2 p = some (.lst vacc) ∧ B2 p = none ∧ p ∉ ρ2 ∧ RepL K B2 ρ2 vacc acc ∧ acc.length ≤ i ∧ Iv i acc S2,
    ⟨items.length, by simp, Nat.zero_le _, B1, ρ1, S1, [], [], (Ext.refl B1 ρ1 H1).mut np, c1.mut nb1 nr1, upd_same, nb1, nr1, .nil, Nat.le_refl _, i0⟩, ?_⟩
  rintro i m H2 ⟨rfl, hi, B2, ρ2, S2, acc, vacc, x2, c2, hp, nb, nr, rl, hacc, hI⟩
  obtain ⟨y1, y2⟩ := yl i B2 ρ2 H2 S2 x2.base x2.rho c2
  by_cases hlt : i < items.length
  · refine .inr ?_
    obtain ⟨go, yld⟩ := y1 items[i] (List.getElem?_eq_getElem hlt)
    refine ⟨go, fun H3 => i + 1 ≤ items.length ∧ ∃ B2 ρ2 S2 acc vacc, Ext B1 ρ1 H1 B2 ρ2 H3 ∧ Cells K B2 ρ2 H3 S2 ∧ H3 p = some (.lst vacc) ∧ B2 p = none ∧ p ∉ ρ2 ∧ RepL K B2 ρ2 vacc acc ∧ acc.length ≤ i + 1 ∧ Iv (i + 1) acc S2,
      fun H3 h3 => ⟨items.length - (i + 1), by omega, rfl, h3⟩, fun x H3 hy => ?_⟩
    obtain ⟨B3, x3, c3, r3⟩ := yld x H3 hy
    obtain ⟨hp3, nb3, nr3⟩ := x3.mine hp nb nr
    have st := istep i _ acc S2 (List.getElem?_eq_getElem hlt) hI
    unfold compF at st
    split at st
    · exact st.elim
    · rename_i γ' hb
      have sl0 : Slots K B3 ρ2 H3 σ γ := (at_.rel.slots.ext x1).ext (x2.tr x3)
      have sl : Slots K B3 ρ2 H3 (L2.wipe σ t.slots) (wipeG γ t.slots) := sl0.wipe _
      refine tg_okI ht c3 sl r3 hb fun σ' s' ap => ⟨apart_wiped ap, ?_⟩
      have x23 := x2.tr x3
      refine ⟨B3, ρ2, γ', S2, EF, _, ⟨⟨c3, s'⟩, efx⟩, st, fun b S4 h4 H4 B4 ρ4 x4 c4 => ?_⟩
      obtain ⟨hp4, nb4, nr4⟩ := x4.mine hp3 nb3 nr3
      cases b with
      | true =>
        refine iteT ⟨B4, ρ4, γ', S4, EF, _, ⟨⟨c4, s'.ext x4⟩, efx⟩, h4, fun y S5 h5 v H5 B5 ρ5 x5 c5 r5 => ?_⟩
        obtain ⟨hp5, nb5, nr5⟩ := x5.mine hp4 nb4 nr4
        have x35 := x3.tr (x4.tr x5)
        refine ⟨vacc, hp5, by rw [rl.length]; omega, hlt, B5, ρ5, S5, acc ++ [y], vacc ++ [v], (x2.tr x35).mut np, c5.mut nb5 nr5, upd_same, nb5, nr5, (rl.ext x35).append (.cons r5 .nil), by simp; exact hacc, h5⟩
      | false =>
        refine iteF ⟨hlt, B4, ρ4, S4, acc, vacc, x2.tr (x3.tr x4), c4, hp4, nb4, nr4, rl.ext (x3.tr x4), by omega, ?_⟩
        have h4' : Iv (i + 1) (acc ++ []) S4 := h4
        rw [List.append_nil] at h4'; exact h4'
  · refine .inl ⟨y2 (by omega), ?_⟩
    have e0 : i = items.length := by omega
    subst e0
    exact k _ S2 (iend acc S2 hI) p _ H2 B2 ρ2 (x1.tr x2) c2 (x1.free np) hp nb nr (.lst rl)
theorem dr_comp (hc : X.calm = true) (hN : X.N.Nodup) (hi : DI X M W tg iter it) (ok : BlkOk X.N X.env.scope scope own) (hown : own.map (·.2) = t.slots)
    (hg : ∀ (s : Shared) (H : Hp) (C : Addr) (cl : List (Str × Addr)) (fp : List Addr), PG (X.blk s H scope (compEnvC scope cl C X.env) fp) tg (tTg (kx X M) t))
    (ht : ∀ (s : Shared) (H : Hp) (C : Addr) (cl : List (Str × Addr)) (fp : List Addr), DTs (X.blk s H scope (compEnvC scope cl C X.env) fp) M WF ifs c)
    (he : ∀ (s : Shared) (H : Hp) (C : Addr) (cl : List (Str × Addr)) (fp : List Addr), DE (X.blk s H scope (compEnvC scope cl C X.env) fp) M WF elt e) (hs : ∀ x, foldedSetIterable iter X.env x = pure x) (h1 : ∀ i, t = .one i → isT tg = false) :
    DR X M W (.ListComp elt [⟨tg, iter, ifs, 0⟩] scope pos) (eComp it t c e) := PE.imp (pe_lc (tt := tDT (kx X M) WF c) (te := tD (kx X M) WF e) hc hN hi ok hg (fun s H C cl fp => ht s H C cl fp) (fun s H C cl fp => he s H C cl fp) hs) (lc_imp h1 hown)
end
end DL
namespace DL
open PySem PySem.Spec PyProof.Rows L2 SeqAt
structure FnG (P : Program) (w : World) (K : PySem.W.Frag) (mg : Str → Option Value) (base : Heap) (CX : CXT) (k : Nat) (f : Addr) (fd : FuncData) (ps : List Str) (sp : Sp) : Prop where
  len : ∀ vs H Q E, sp vs H Q E → vs.length = ps.length
  run : ∀ (A : Around) (out : List Env) (s : Shared) (H : Hp) (ar : Args) (us : List Value) (vs : List V) (Q : VK) (E : XK), A.guards = some [] → Room k A → Env0 P w K mg base A out s H →
    BindsTo s fd ar (ps.zip us) → Vals vs us → sp vs H Q E → codeAny (model P w) A (.call (.ref f) ar) (CR CX out P w H s Q E) s
section
variable {P : Program} {w : World} {K : PySem.W.Frag} {mg : Str → Option Value} {base : Heap} {CX : CXT}
theorem FnG.up {j k : Nat} {f : Addr} {fd : FuncData} {ps : List Str} {sp : Sp} (F : FnG P w K mg base CX j f fd ps sp) (h : j ≤ k) : FnG P w K mg base CX k f fd ps sp :=
  ⟨F.len, fun A out s H ar us vs Q E hg hr => F.run A out s H ar us vs Q E hg (hr.mono h)⟩
theorem fnG_of {k : Nat} {f : Addr} {name qual : Str} {params : Arguments} {body : List Stmt} {sc : Scope} {dV kV doc pm cdv ct oc : Value} {an od : Option Addr} {osl : Array (Option Value)} {N ps : List Str} {sp : Sp}
    (lk : K.lookup f = some ⟨oc, od, .func (PySem.W.fnOf name qual params body sc dV kV doc pm an cdv ct), osl⟩) (hcd : PySem.W.codeIn K cdv qual = true) (FS : FnScope N ps sc) (len : ∀ vs H Q E, sp vs H Q E → vs.length = ps.length)
    (hbody : ∀ (A : Around) (out : List Env) (s : Shared) (H : Hp) (vs : List V) (Q : VK) (E : XK), A.guards = some [] → Room k (A.deeper (envOfC qual sc s.heap.objs.size f cdv)) → sp vs H Q E →
      ∃ t, PSs (cxOf CX P w K mg base N qual sc f cdv A out s H E) body t ∧ t { nx := fun _ H' => Q .non H', rt := Q } (start N vs) H) :
    FnG P w K mg base CX (k + 1) f (PySem.W.fnOf name qual params body sc dV kV doc pm an cdv ct) ps sp := by
  refine ⟨len, fun A out s H ar us vs Q E hg hr e0 hb r hsp => ?_⟩
  obtain ⟨t, ht, hq⟩ := hbody A out s H vs Q E hg (hr.deeper _) hsp
  have hvl := len _ _ _ _ hsp
  have KX := e0.mod.kin.keeps fun b o e => (e0.bs b o e).1
  have hk : ∀ y ∈ ps.zip us, sc.names.lookup y.1 = some .local ∨ (sc.names.lookup y.1 = some .cell ∧ ((cellsFrom (s.heap.objs.size + 1) sc.names []).lookup y.1).isSome = true) := by
    rintro ⟨n, v⟩ hy
    have hn := FS.par n (List.of_mem_zip hy).1
    rcases hn with q | q
    · exact .inl q
    · exact .inr ⟨q, PySem.W.cellsFrom_some _ _ _ (.inl q)⟩
  apply codeAny_call_function hr.depth (KX _ _ lk) rfl FS.co FS.gen rfl (PySem.W.codeRec_of KX hcd) (hb _ _ _ _ _)
  apply wpAny_newFunctionEnv_cells FS.kind hk
  rintro env rfl s1 x
  have lim := e0.mod.nolimit.keeps fun b o e => (e0.bs b o e).1
  refine ⟨lim.keeps x.toInCall.keep, codeAny_func ?_⟩
  have I := inv_start (CX := CX) (E := E) FS hr.hd e0 hvl r x
  refine wpAny_mono (ht.run [] s1 _ H _ I hq) ?_ fun _ _ z => z
  intro fl s' hs
  match fl, hs with
  | .ret u, ⟨v, σ', H', J, rv, q⟩ => exact ⟨v, H', J.os, J.bare, J.base, J.hok, rv, q⟩
  | .next, ⟨σ', H', J, q⟩ => exact ⟨.non, H', J.os, J.bare, J.base, J.hok, rfl, q⟩
  | .brk, ⟨_, _, _, q⟩ => exact q.elim
  | .cont, ⟨_, _, _, q⟩ => exact q.elim
end
abbrev FD := List D → Sto → XC → (Rv → Sto → Prop) → Prop
def spD (K : Kx) (n : Nat) (F : FD) : Sp := fun vs H Q E => ∃ B ρ S ds E' Q', ds.length = n ∧ Cells K B ρ H S ∧ RepL K B ρ vs ds ∧ F ds S E' Q' ∧ (∀ x S', E' x S' → XPost K B ρ H S' E x) ∧ ∀ r S', Q' r S' → Post K B ρ H S' Q r
theorem spD_len {K : Kx} {ps : List Str} {F : FD} : ∀ vs H Q E, spD K ps.length F vs H Q E → vs.length = ps.length := fun vs H Q E ⟨B, ρ, S, ds, E', Q', h1, h2, h3, _⟩ => by rw [h3.length]; exact h1
section
variable {X : Cx} {M : Mp} {W : WX} {k : Nat} {f : Addr} {fd : FuncData} {ps ks : List Str} {sp : Sp} {x : Str} {p pos : Pos} {e : Expr} {es : List Expr} {kws : List Keyword} {F : FD} {fs fk : Ev (List D)}
theorem call_fnG {pins : List (Addr × Obj)} {σ : L2.St} {H : Hp} {s : Shared} {Q : VK} {us full : List Value} {vs : List V} {kw : List (Str × Value)} (F : FnG X.prog X.w X.K X.mg X.base (CX X.prog X.w) k f fd ps sp) (hg : X.A.guards = some []) (hr : Room k X.A)
    (hb : BindsTo s fd ⟨us, kw⟩ (ps.zip full)) (tk : Takes X W) (I : Inv X pins σ H s) (r : Vals vs full) (h : sp vs H Q (fun cls d H' => W cls d σ H')) : wpAny (model X.prog X.w) X.A (call (.ref f) us kw) (EP X pins σ Q) X.xe s := by
  refine wpAny_call (codeAny_mono (F.run X.A X.stack s H ⟨us, kw⟩ full vs Q _ hg hr I.env0 hb r h) ?_)
  intro res s' hq
  match res, hq with
  | .error e, hq => exact tk _ _ (XE.of_call I (fun cls d H' h => h) hq)
  | .ok (.ret u), hq => exact I.after hq
  | .ok .next, hq => exact hq.elim
  | .ok .brk, hq => exact hq.elim
  | .ok .cont, hq => exact hq.elim
theorem RepL.pick {K : Kx} {B : Hp} {ρ : List Addr} {vs : List V} {ds : List D} (h : RepL K B ρ vs ds) : ∀ is : List Nat, RepL K B ρ (is.filterMap fun i => vs[i]?) (is.filterMap fun i => ds[i]?)
  | [] => .nil
  | i :: is => by
    simp only [List.filterMap_cons]
    cases q : ds[i]? with
    | none =>
      have : vs[i]? = none := by
        rw [List.getElem?_eq_none_iff] at q ⊢
        rw [h.length]; exact q
      rw [this]
      exact RepL.pick h is
    | some d =>
      obtain ⟨v, h1, h2⟩ := h.get q
      rw [h1]
      exact .cons h2 (RepL.pick h is)
theorem Vals.pick {vs : List V} {us : List Value} (h : Vals vs us) : ∀ is : List Nat, Vals (is.filterMap fun i => vs[i]?) (is.filterMap fun i => us[i]?)
  | [] => .nil
  | i :: is => by
    simp only [List.filterMap_cons]
    cases q : vs[i]? with
    | none => rw [h.none_of q]; exact Vals.pick h is
    | some d =>
      obtain ⟨v, h1, h2⟩ := h.get q
      rw [h1]
      exact .cons h2 (Vals.pick h is)
structure Bound (K : Kx) (fd : FuncData) (ps : List Str) (n : Nat) (ks : List Str) (is : List Nat) (dd : List D) : Prop where
  ex : ∃ (dvs : List V) (dus : List Value), Vals dvs dus ∧ RepL K (fun _ => none) [] dvs dd ∧
    ∀ (s : Shared) (us ws : List Value), K.K.In s.heap → us.length = n → ws.length = ks.length → BindsTo s fd ⟨us, ks.zip ws⟩ (ps.zip (is.filterMap fun i => (us ++ ws ++ dus)[i]?))
def pickD (is : List Nat) (dd xs ys : List D) : List D := is.filterMap fun i => (xs ++ ys ++ dd)[i]?
def goF (F : FD) (n m : Nat) (is : List Nat) (dd xs ys : List D) (S : Sto) (E : XC) (Q : Rv → Sto → Prop) : Prop := (xs.length = n ∧ ys.length = m) ∧ F (pickD is dd xs ys) S E Q
def eFn (F : FD) (n m : Nat) (is : List Nat) (dd : List D) (fs fk : Ev (List D)) : Ev Rv := fun γ S E Q => fs γ S E fun xs S => fk γ S E fun ys S => goF F n m is dd xs ys S E Q
theorem bound_run {n : Nat} {is : List Nat} {dd : List D} {pins : List (Addr × Obj)} {σ : L2.St} {H : Hp} {s : Shared} {Q : VK} {us ws : List Value} {vs zs : List V} {B : Hp} {ρ : List Addr} {γ : List Slot} {S : Sto} {xs ys : List D} {E' : XC} {Q' : Rv → Sto → Prop}
    (G : FnG X.prog X.w X.K X.mg X.base (CX X.prog X.w) k f fd ps (spD (kx X M) ps.length F)) (hg : X.A.guards = some []) (hr : Room k X.A) (bd : Bound (kx X M) fd ps n ks is dd) (tk : Takes X W) (I : Inv X pins σ H s) (at_ : At (kx X M) W σ B ρ H γ S E')
    (r1 : Vals vs us) (r2 : Vals zs ws) (d1 : RepL (kx X M) B ρ vs xs) (d2 : RepL (kx X M) B ρ zs ys) (l1 : xs.length = n) (l2 : ys.length = ks.length) (hF : F (pickD is dd xs ys) S E' Q') (hlen : (pickD is dd xs ys).length = ps.length)
    (hQ : ∀ r S', Q' r S' → Post (kx X M) B ρ H S' Q r) :
    wpAny (model X.prog X.w) X.A (call (.ref f) us (ks.zip ws)) (EP X pins σ Q) X.xe s := by
  obtain ⟨dvs, dus, e1, e2, to⟩ := bd.ex
  have hv : Vals (vs ++ zs ++ dvs) (us ++ ws ++ dus) := (r1.append r2).append e1
  have hd : RepL (kx X M) B ρ (vs ++ zs ++ dvs) (xs ++ ys ++ dd) := (d1.append d2).append (e2.mono (fun _ _ z => by cases z) fun _ _ z => by simp at z)
  exact call_fnG G hg hr (to s us ws I.kIn (by rw [← r1.length, d1.length]; exact l1) (by rw [← r2.length, d2.length]; exact l2)) tk I (Vals.pick hv is) ⟨B, ρ, S, _, E', Q', hlen, at_.rel.cells, hd.pick is, hF, at_.exn, hQ⟩
theorem fn_call {n : Nat} {is : List Nat} {dd : List D} (G : FnG X.prog X.w X.K X.mg X.base (CX X.prog X.w) k f fd ps (spD (kx X M) ps.length F)) (hgd : X.A.guards = some []) (hr : Room k X.A) (hg : Gl X x) (hm : X.mg x = some (.ref f)) (hk : PySem.W.keepIn X.K (.ref f) = true)
    (bd : Bound (kx X M) fd ps n [] is dd) (hlen : ∀ xs : List D, xs.length = n → (pickD is dd xs []).length = ps.length) (tk : Takes X W) (ha : DA X M W (e :: es) fs) (hdb : (x == ("__debug__" : Str)) = false) (he : starEach (e :: es) X.env = (false, eval e X.env) :: starEach es X.env)
    (hpl : (backTo pos (starEach es X.env)).any (·.1) = false) : DR X M W (.Call (.Name x p) (e :: es) [] pos) (eFn F n 0 is dd fs eNil) := by
  refine ⟨fun pins s σ H Q I ⟨B, ρ, γ, S, E', Q', at_, h, k⟩ => wpAny_Call_Name_kw (ld_glob I hg hm ?_ hdb)⟩
  apply PySem.W.callWith_K (h₀ := X.base) I.ok.mod.kin hk (he := he) (hplain := hpl)
  refine thn (PA.run ha pos pins s σ H (fun vs H1 => ∃ B1 ρ1 S1 xs, Ext B ρ H B1 ρ1 H1 ∧ Cells (kx X M) B1 ρ1 H1 S1 ∧ RepL (kx X M) B1 ρ1 vs xs ∧ goF F n 0 is dd xs [] S1 E' Q') I ⟨B, ρ, γ, S, E', _, at_, h, fun xs S1 h1 vs H1 B1 ρ1 x1 c1 r1 => ⟨B1, ρ1, S1, xs, x1, c1, r1, h1⟩⟩) ?_
  rintro us s1 ⟨vs, H1, I1, rr, B1, ρ1, S1, xs, x1, c1, r1, hl, hF⟩
  refine ⟨I1.kIn, ?_⟩
  exact bound_run (ks := []) (ws := []) (zs := []) (ys := []) G hgd hr bd tk I1 (at_.ext x1 c1) rr .nil r1 .nil hl.1 rfl hF (hlen xs hl.1) fun r S' h => (k r S' h).from x1
def DK (X : Cx) (M : Mp) (W : WX) (ks : List Keyword) (f : Ev (List D)) : Prop := PK X ks (tDA (kx X M) W f)
theorem PK.imp {X : Cx} {e : List Keyword} {t t' : TA} (h : PK X e t) (i : ∀ σ H Q, t' σ H Q → t σ H Q) : PK X e t' := ⟨fun pos pins s σ H Q I q => h.run pos pins s σ H Q I (i σ H Q q)⟩
theorem dk_nil : DK X M W [] eNil := PK.imp pk_nil fun σ H Q ⟨B, ρ, γ, S, E', Q', at_, h, k⟩ => k [] S h [] H B ρ (.refl _ _ _) at_.rel.cells .nil
theorem dk_cons {nm : Option Str} {kpos : Pos} {fa : Ev D} (d : DE X M W e fa) (ds : DK X M W kws fs) : DK X M W (⟨nm, e, kpos⟩ :: kws) (eCons fa fs) := PK.imp (pk_cons d ds) fun σ H Q ⟨B, ρ, γ, S, E', Q', at_, h, k⟩ =>
  ⟨B, ρ, γ, S, E', _, at_, h, fun x S1 h1 v H1 B1 ρ1 x1 c1 r1 => ⟨B1, ρ1, γ, S1, E', _, at_.ext x1 c1, h1, fun xs S2 h2 vs H2 B2 ρ2 x2 c2 r2 => k (x :: xs) S2 h2 (v :: vs) H2 B2 ρ2 (x1.tr x2) c2 (.cons (r1.ext x2) r2)⟩⟩
theorem fn_callK {n : Nat} {is : List Nat} {dd : List D} (G : FnG X.prog X.w X.K X.mg X.base (CX X.prog X.w) k f fd ps (spD (kx X M) ps.length F)) (hgd : X.A.guards = some []) (hr : Room k X.A) (hg : Gl X x) (hm : X.mg x = some (.ref f)) (hk : PySem.W.keepIn X.K (.ref f) = true)
    (bd : Bound (kx X M) fd ps n ks is dd) (hlen : ∀ xs ys : List D, xs.length = n → ys.length = ks.length → (pickD is dd xs ys).length = ps.length) (tk : Takes X W) (ha : DA X M W (e :: es) fs) (hkw : DK X M W kws fk) (hdb : (x == ("__debug__" : Str)) = false)
    (hall : (backToKw pos (keywordEach kws X.env)).all (·.1.isSome) = true) (hks : (backToKw pos (keywordEach kws X.env)).filterMap (·.1) = ks) (he : starEach (e :: es) X.env = (false, eval e X.env) :: starEach es X.env)
    (hpl : ((backTo pos (starEach (e :: es) X.env)).any (·.1) || (backToKw pos (keywordEach kws X.env)).any (·.1.isNone)) = false) : DR X M W (.Call (.Name x p) (e :: es) kws pos) (eFn F n ks.length is dd fs fk) := by
  refine ⟨fun pins s σ H Q I ⟨B, ρ, γ, S, E', Q', at_, h, k⟩ => wpAny_Call_Name_kw (ld_glob I hg hm ?_ hdb)⟩
  apply PySem.W.callWith_KW (h₀ := X.base) I.ok.mod.kin hk hall (hplain := hpl) (he := he)
  refine thn (PA.run ha pos pins s σ H (fun vs H1 => ∃ B1 ρ1 S1 xs, Ext B ρ H B1 ρ1 H1 ∧ Cells (kx X M) B1 ρ1 H1 S1 ∧ RepL (kx X M) B1 ρ1 vs xs ∧ fk γ S1 E' fun ys S => goF F n ks.length is dd xs ys S E' Q') I ⟨B, ρ, γ, S, E', _, at_, h, fun xs S1 h1 vs H1 B1 ρ1 x1 c1 r1 => ⟨B1, ρ1, S1, xs, x1, c1, r1, h1⟩⟩) ?_
  rintro us s1 ⟨vs, H1, I1, rr, B1, ρ1, S1, xs, x1, c1, r1, h1⟩
  refine thn (PK.run hkw pos pins s1 σ H1 (fun zs H2 => ∃ B2 ρ2 S2 ys, Ext B1 ρ1 H1 B2 ρ2 H2 ∧ Cells (kx X M) B2 ρ2 H2 S2 ∧ RepL (kx X M) B2 ρ2 zs ys ∧ goF F n ks.length is dd xs ys S2 E' Q') I1 ⟨B1, ρ1, γ, S1, E', _, at_.ext x1 c1, h1, fun ys S2 h2 zs H2 B2 ρ2 x2 c2 r2 => ⟨B2, ρ2, S2, ys, x2, c2, r2, h2⟩⟩) ?_
  rintro ws s2 ⟨zs, H2, I2, rr2, B2, ρ2, S2, ys, x2, c2, r2, hl, hF⟩
  refine ⟨I2.kIn, ?_⟩
  rw [hks]
  exact bound_run G hgd hr bd tk I2 (at_.ext (x1.tr x2) c2) rr rr2 (r1.ext x2) r2 hl.1 hl.2 hF (hlen xs ys hl.1 hl.2) fun r S' h => (k r S' h).from (x1.tr x2)
theorem fn_callK0 {is : List Nat} {dd : List D} (G : FnG X.prog X.w X.K X.mg X.base (CX X.prog X.w) k f fd ps (spD (kx X M) ps.length F)) (hgd : X.A.guards = some []) (hr : Room k X.A) (hg : Gl X x) (hm : X.mg x = some (.ref f)) (hk : PySem.W.keepIn X.K (.ref f) = true)
    (bd : Bound (kx X M) fd ps 0 ks is dd) (hlen : ∀ xs ys : List D, xs.length = 0 → ys.length = ks.length → (pickD is dd xs ys).length = ps.length) (tk : Takes X W) (hkw : DK X M W kws fk) (hdb : (x == ("__debug__" : Str)) = false)
    (hall : (backToKw pos (keywordEach kws X.env)).all (·.1.isSome) = true) (hks : (backToKw pos (keywordEach kws X.env)).filterMap (·.1) = ks)
    (hno : ((backTo pos (starEach [] X.env)).any (·.1) || (backToKw pos (keywordEach kws X.env)).any (·.1.isNone)) = false) : DR X M W (.Call (.Name x p) [] kws pos) (eFn F 0 ks.length is dd eNil fk) := by
  refine ⟨fun pins s σ H Q I ⟨B, ρ, γ, S, E', Q', at_, h, k⟩ => wpAny_Call_Name_kw (ld_glob I hg hm ?_ hdb)⟩
  apply PySem.W.callWith_KW0 (h₀ := X.base) I.ok.mod.kin hk hall (hplain := hno)
  refine thn (PK.run hkw pos pins s σ H (fun zs H2 => ∃ B2 ρ2 S2 ys, Ext B ρ H B2 ρ2 H2 ∧ Cells (kx X M) B2 ρ2 H2 S2 ∧ RepL (kx X M) B2 ρ2 zs ys ∧ goF F 0 ks.length is dd [] ys S2 E' Q') I ⟨B, ρ, γ, S, E', _, at_, h, fun ys S2 h2 zs H2 B2 ρ2 x2 c2 r2 => ⟨B2, ρ2, S2, ys, x2, c2, r2, h2⟩⟩) ?_
  rintro ws s2 ⟨zs, H2, I2, rr2, B2, ρ2, S2, ys, x2, c2, r2, hl, hF⟩
  refine ⟨I2.kIn, ?_⟩
  rw [hks]
  exact bound_run G hgd hr bd tk I2 (at_.ext x2 c2) .nil rr2 .nil r2 rfl hl.2 hF (hlen [] ys rfl hl.2) fun r S' h => (k r S' h).from x2
end
end DL
namespace DL
open PySem PySem.Spec L2 SeqAt
structure Ent where
  B : Hp
  ρ : List Addr
  H : Hp
  fB : Hp
  fρ : List Addr
structure StIn (K : Kx) (E : Ent) (γ : List Slot) (S : Sto) (σ : L2.St) (H : Hp) (B : Hp) (ρ : List Addr) : Prop where
  ext : Ext E.B E.ρ E.H B ρ H
  rel : Rel K B ρ σ H γ S
  mine : ∀ (i : Nat) (c : Cell) (a : Addr), γ[i]? = some (.own c) → σ[i]? = some (some (.ref a)) → E.H a = none
  floor : Same E.fB B
  fref : ∀ (n : Nat) (a : Addr), E.fρ[n]? = some a → ρ[n]? = some a
def StOk (K : Kx) (E : Ent) (γ : List Slot) (S : Sto) (σ : L2.St) (H : Hp) : Prop := ∃ B ρ, StIn K E γ S σ H B ρ
structure Kt where
  nx : List Slot → Sto → Prop
  rt : Rv → Sto → Prop
  bk : List Slot → Sto → Prop
  ct : List Slot → Sto → Prop
abbrev Ex := List Slot → Sto → XC → Kt → Prop
structure KPost (K : Kx) (E : Ent) (Dd : Ends) (κ : Kt) : Prop where
  nx : ∀ γ' S', κ.nx γ' S' → ∀ σ' H', StOk K E γ' S' σ' H' → Dd.nx σ' H'
  rt : ∀ r S', κ.rt r S' → Post K E.B E.ρ E.H S' Dd.rt r
  bk : ∀ γ' S', κ.bk γ' S' → ∀ σ' H', StOk K E γ' S' σ' H' → Dd.bk σ' H'
  ct : ∀ γ' S', κ.ct γ' S' → ∀ σ' H', StOk K E γ' S' σ' H' → Dd.ct σ' H'
def XOk (K : Kx) (W : WX) (E : Ent) (E' : XC) : Prop := ∀ x S', E' x S' → ∀ σ', XPost K E.B E.ρ E.H S' (fun cls d H' => W cls d σ' H') x
def tDS (K : Kx) (W : WX) (E : Ent) (f : Ex) : TS := fun Dd σ H => ∃ γ S E' κ, StOk K E γ S σ H ∧ f γ S E' κ ∧ XOk K W E E' ∧ KPost K E Dd κ
def DS (X : Cx) (M : Mp) (W : WX) (E : Ent) (st : Stmt) (f : Ex) : Prop := PS X st (tDS (kx X M) W E f)
def DSs (X : Cx) (M : Mp) (W : WX) (E : Ent) (st : List Stmt) (f : Ex) : Prop := PSs X st (tDS (kx X M) W E f)
section
variable {K : Kx} {W : WX} {E : Ent} {γ : List Slot} {S S1 : Sto} {σ : L2.St} {H H1 : Hp} {B B1 : Hp} {ρ ρ1 : List Addr} {E' : XC} {i : Nat}
theorem StIn.step (st : StIn K E γ S σ H B ρ) (x : Ext B ρ H B1 ρ1 H1) (c : Cells K B1 ρ1 H1 S1) : StIn K E γ S1 σ H1 B1 ρ1 := ⟨st.ext.tr x, st.rel.ext x c, st.mine, st.floor.trans x.base, fun n a h => x.rho n a (st.fref n a h)⟩
theorem StIn.at (st : StIn K E γ S σ H B ρ) (x : XOk K W E E') : At K W σ B ρ H γ S E' := ⟨st.rel, fun e S' h => (x e S' h σ).from st.ext⟩
theorem StIn.put (st : StIn K E γ S σ H B ρ) {o : Option V} {x : Slot} (hx : x = .no ∨ ∃ v d, x = .val d ∧ o = some v ∧ Rep K B ρ v d) : StIn K E (γ.set i x) S (σ.set i o) H B ρ := by
  refine ⟨st.ext, ⟨st.rel.cells, st.rel.slots.put i hx⟩, fun j c a h1 h2 => ?_, st.floor, st.fref⟩
  rcases get_set h1 with ⟨_, _, e⟩ | ⟨n, h⟩
  · rcases hx with rfl | ⟨_, _, rfl, _⟩ <;> cases e
  · rw [List.getElem?_set_ne n] at h2
    exact st.mine j c a h h2
theorem StIn.set (st : StIn K E γ S σ H B ρ) {v : V} {d : D} (r : Rep K B ρ v d) : StIn K E (γ.set i (.val d)) S (σ.set i (some v)) H B ρ := st.put (.inr ⟨v, d, rfl, rfl, r⟩)
theorem StIn.forget (st : StIn K E γ S σ H B ρ) (i : Nat) : StIn K E (γ.set i .no) S σ H B ρ := by
  refine ⟨st.ext, ⟨st.rel.cells, st.rel.slots.forget i⟩, fun j c a h1 h2 => ?_, st.floor, st.fref⟩
  rcases get_set h1 with ⟨_, _, e⟩ | ⟨n, h⟩
  · cases e
  · exact st.mine j c a h h2
def fg (γ : List Slot) : List Nat → List Slot
  | [] => γ
  | i :: is => fg (γ.set i .no) is
theorem StIn.fg : ∀ {γ : List Slot} (st : StIn K E γ S σ H B ρ) (ws : List Nat), StIn K E (fg γ ws) S σ H B ρ
  | _, st, [] => st
  | _, st, i :: ws => StIn.fg (st.forget i) ws
theorem StIn.setO (st : StIn K E γ S σ H B ρ) {a : Addr} {o : HO} {c : Cell} (ha : H a = some o) (nb : B a = none) (nr : a ∉ ρ) (rl : RepC K B ρ 0 a o c) (na : E.H a = none)
    (hd : ∀ (j : Nat) (k : Cell), j ≠ i → γ[j]? = some (.own k) → σ[j]? ≠ some (some (.ref a))) : StIn K E (γ.set i (.own c)) S (σ.set i (some (.ref a))) H B ρ := by
  have at_ : ∀ {j : Nat} {k : Cell}, (γ.set i (.own c))[j]? = some (.own k) → (i = j ∧ i < γ.length ∧ k = c) ∨ (i ≠ j ∧ γ[j]? = some (.own k)) := fun {j k} h => by
    rcases get_set h with ⟨e1, e2, e3⟩ | h
    · cases e3; exact .inl ⟨e1, e2, rfl⟩
    · exact .inr h
  have sl := st.rel.slots
  have self : ∀ hl : i < γ.length, (σ.set i (some (V.ref a)))[i]? = some (some (.ref a)) := fun hl => List.getElem?_set_self (by rw [← sl.len]; exact hl)
  refine ⟨st.ext, ⟨st.rel.cells, by simp [sl.len], fun j d h => ?_, fun j k h => ?_, fun j l c1 c2 b h1 h2 h3 h4 => ?_⟩, fun j k b h1 h2 => ?_, st.floor, st.fref⟩
  · rcases get_set h with ⟨_, _, e⟩ | ⟨n, h⟩
    · cases e
    · rw [List.getElem?_set_ne n]; exact sl.val j d h
  · rcases at_ h with ⟨rfl, hl, rfl⟩ | ⟨n, h⟩
    · exact ⟨a, o, self hl, ha, rl, nb, nr⟩
    · rw [List.getElem?_set_ne n]; exact sl.own j k h
  · rcases at_ h1 with ⟨rfl, hl, rfl⟩ | ⟨e1, h1⟩
    · rw [self hl] at h3
      cases h3
      rcases at_ h2 with ⟨rfl, _, _⟩ | ⟨e2, h2⟩
      · rfl
      · rw [List.getElem?_set_ne e2] at h4
        exact absurd h4 (hd l c2 (Ne.symm e2) h2)
    · rw [List.getElem?_set_ne e1] at h3
      rcases at_ h2 with ⟨rfl, hl, _⟩ | ⟨e2, h2⟩
      · rw [self hl] at h4
        cases h4
        exact absurd h3 (hd j c1 (Ne.symm e1) h1)
      · rw [List.getElem?_set_ne e2] at h4
        exact sl.apart j l c1 c2 b h1 h2 h3 h4
  · rcases at_ h1 with ⟨rfl, hl, rfl⟩ | ⟨n, h1⟩
    · rw [self hl] at h2
      cases h2
      exact na
    · rw [List.getElem?_set_ne n] at h2
      exact st.mine j k b h1 h2
theorem StIn.grow (st : StIn K E γ S σ H B ρ) {a : Addr} {c k : Cell} {o : HO} (hx : γ[i]? = some (.own c)) (hs : σ[i]? = some (some (.ref a))) (rl : RepC K B ρ 0 a o k) :
    StIn K E (γ.set i (.own k)) S σ (upd H a o) B ρ := by
  have sl := st.rel.slots
  obtain ⟨a', o0, h1, h2, h3, h4, h5⟩ := sl.own i c hx
  rw [hs] at h1; cases h1
  have hl : i < γ.length := (List.getElem?_eq_some_iff.mp hx).1
  have at_ : ∀ {j : Nat} {z : Cell}, (γ.set i (.own k))[j]? = some (.own z) → (i = j ∧ z = k) ∨ (i ≠ j ∧ γ[j]? = some (.own z)) := fun {j z} h => by
    rcases get_set h with ⟨e1, _, e3⟩ | h
    · cases e3; exact .inl ⟨e1, rfl⟩
    · exact .inr h
  have own0 : ∀ {j : Nat} {z : Cell}, (γ.set i (.own k))[j]? = some (.own z) → ∃ y, γ[j]? = some (.own y) := fun {j z} h => by
    rcases at_ h with ⟨rfl, _⟩ | ⟨_, h⟩
    · exact ⟨c, hx⟩
    · exact ⟨z, h⟩
  refine ⟨st.ext.mut (st.mine i c a hx hs), ⟨st.rel.cells.mut h4 h5, by simp [sl.len], fun j d h => ?_, fun j z h => ?_, fun j l y z b q1 q2 q3 q4 => ?_⟩, fun j z b q1 q2 => ?_, st.floor, st.fref⟩
  · rcases get_set h with ⟨_, _, e⟩ | ⟨n, h⟩
    · cases e
    · exact sl.val j d h
  · rcases at_ h with ⟨rfl, rfl⟩ | ⟨n, h⟩
    · exact ⟨a, o, hs, upd_same, rl, h4, h5⟩
    · obtain ⟨b, w, z1, z2, z3, z4, z5⟩ := sl.own j z h
      refine ⟨b, w, z1, ?_, z3, z4, z5⟩
      rw [upd_ne]
      · exact z2
      · intro q; subst q
        exact n (sl.apart i j c z _ hx h hs z1)
  · obtain ⟨w1, q1⟩ := own0 q1
    obtain ⟨w2, q2⟩ := own0 q2
    exact sl.apart j l w1 w2 b q1 q2 q3 q4
  · obtain ⟨w1, q1⟩ := own0 q1
    exact st.mine j w1 b q1 q2
theorem StIn.freeze (st : StIn K E γ S σ H B ρ) {c : Cell} {d : D} (hx : γ[i]? = some (.own c)) (hd : frzC c = some d) : StOk K E (γ.set i (.val d)) S σ H := by
  have sl := st.rel.slots
  obtain ⟨a, o, h1, h2, h3, h4, h5⟩ := sl.own i c hx
  obtain ⟨c2, sB⟩ := st.rel.cells.know h2 h4 h5
  have nE := st.mine i c a hx h1
  have hl : i < γ.length := (List.getElem?_eq_some_iff.mp hx).1
  have ne : ∀ {j : Nat} {z : Cell}, (γ.set i (.val d))[j]? = some (.own z) → i ≠ j ∧ γ[j]? = some (.own z) := fun {j z} h => by
    rcases get_set h with ⟨_, _, e⟩ | h
    · cases e
    · exact h
  refine ⟨upd B a o, ρ, st.ext.know nE sB, ⟨c2, by simp [sl.len], fun j e h => ?_, fun j z h => ?_, fun j l y z b q1 q2 q3 q4 => ?_⟩, fun j z b q1 q2 => ?_, st.floor.trans sB, st.fref⟩
  · rcases get_set h with ⟨rfl, _, e⟩ | ⟨n, h⟩
    · cases e
      exact ⟨_, h1, frz_rep upd_same (h3.mono sB (fun _ _ z => z) (Nat.le_refl _)) hd⟩
    · obtain ⟨v, z1, z2⟩ := sl.val j e h
      exact ⟨v, z1, z2.mono sB fun _ _ z => z⟩
  · obtain ⟨n, h⟩ := ne h
    obtain ⟨b, u, z1, z2, z3, z4, z5⟩ := sl.own j z h
    refine ⟨b, u, z1, z2, z3.mono sB (fun _ _ z => z) (Nat.le_refl _), ?_, z5⟩
    rw [upd_ne]
    · exact z4
    · intro q; subst q
      exact n (sl.apart i j c z _ hx h h1 z1)
  · exact sl.apart j l y z b (ne q1).2 (ne q2).2 q3 q4
  · exact st.mine j z b (ne q1).2 q2
end
section
variable {X : Cx} {M : Mp} {W : WX} {E : Ent} {st : Stmt} {sts : List Stmt} {f g : Ex} {e c : Expr} {fa : Ev D} {fc : Ev Bool} {fr : Ev Rv} {pos : Pos} {i : Nat}
def kSq (g : Ex) (E : XC) (κ : Kt) : Kt := ⟨fun γ S => g γ S E κ, κ.rt, κ.bk, κ.ct⟩
def xNext : Ex := fun γ S _ κ => κ.nx γ S
def xSeq (f g : Ex) : Ex := fun γ S E κ => f γ S E (kSq g E κ)
theorem ss_nil : DSs X M W E [] xNext := PSs.imp pss_nil fun Dd σ H ⟨γ, S, E', κ, st, h, x, k⟩ => k.nx γ S h σ H st
theorem ss_cons (h : DS X M W E st f) (hs : DSs X M W E sts g) : DSs X M W E (st :: sts) (xSeq f g) := PSs.imp (pss_cons h hs) fun Dd σ H ⟨γ, S, E', κ, st, h, x, k⟩ =>
  ⟨γ, S, E', _, st, h, x, fun γ1 S1 h1 σ1 H1 st1 => ⟨γ1, S1, E', κ, st1, h1, x, k⟩, k.rt, k.bk, k.ct⟩
def kSet (i : Nat) (γ : List Slot) (κ : Kt) (d : D) (S : Sto) : Prop := κ.nx (γ.set i (.val d)) S
def xSet (i : Nat) (fa : Ev D) : Ex := fun γ S E κ => fa γ S E (kSet i γ κ)
theorem s_set' (h : PS X st (tAsg (tD (kx X M) W fa) (gName i))) : DS X M W E st (xSet i fa) := PS.imp h fun Dd σ H ⟨γ, S, E', κ, ⟨B, ρ, si⟩, h, x, k⟩ =>
  ⟨B, ρ, γ, S, E', _, si.at x, h, fun d S1 h1 v H1 B1 ρ1 x1 c1 r1 => k.nx _ S1 h1 _ _ ⟨B1, ρ1, (si.step x1 c1).set r1⟩⟩
def kSetO (i : Nat) (γ : List Slot) (κ : Kt) : Rv → Sto → Prop
  | .v _, _ => False
  | .o c, S => κ.nx (γ.set i (.own c)) S
def xSetO (i : Nat) (fr : Ev Rv) : Ex := fun γ S E κ => fr γ S E (kSetO i γ κ)
theorem s_setO' (h : PS X st (tAsg (tR (kx X M) W fr) (gName i))) : DS X M W E st (xSetO i fr) := PS.imp h fun Dd σ H ⟨γ, S, E', κ, ⟨B, ρ, si⟩, h, x, k⟩ =>
  ⟨B, ρ, γ, S, E', _, si.at x, h, fun r S1 h1 => by
    cases r with
    | v d => exact h1.elim
    | o c =>
      intro a u H1 B1 ρ1 x1 c1 na ha nb nr rl
      refine k.nx _ S1 h1 _ _ ⟨B1, ρ1, (si.step x1 c1).setO ha nb nr rl (si.ext.free na) fun j z _ h1 h2 => ?_⟩
      obtain ⟨b, us, h3, h4, _⟩ := si.rel.slots.own j z h1
      rw [h2] at h3; cases h3
      rw [na] at h4; cases h4⟩
theorem asg_cell (h : PS X st (tAsg (tR (kx X M) W fr) (gName i))) : PS X st (tAsg (tD (kx X M) W (eCell fr)) (gName i)) := PS.imp h fun Dd σ H q => cell_imp σ H _ q
theorem StIn.names {K : Kx} {S : Sto} {H : Hp} {B : Hp} {ρ : List Addr} : ∀ {is : List Nat} {vs : List V} {ds : List D} {σ : L2.St} {γ γ' : List Slot} {Q : L2.St → Hp → Prop}, StIn K E γ S σ H B ρ → RepL K B ρ vs ds → setsG is ds γ = some γ' → (∀ σ', StIn K E γ' S σ' H B ρ → Q σ' H) → gNames is vs σ H Q
  | [], _, [], σ, γ, γ', Q, s, .nil, h, k => by
    simp only [setsG, Option.some.injEq] at h; subst h
    exact ⟨rfl, k σ s⟩
  | [], _, d :: ds, σ, γ, γ', Q, s, _, h, k => by simp [setsG] at h
  | i :: is, _, [], σ, γ, γ', Q, s, _, h, k => by simp [setsG] at h
  | i :: is, _, d :: ds, σ, γ, γ', Q, s, .cons r t, h, k => by
    simp only [setsG] at h
    exact ⟨_, _, rfl, StIn.names (s.set (i := i) r) t h k⟩
theorem StIn.tg {t : Tg} {K : Kx} {S : Sto} {H : Hp} {B : Hp} {ρ : List Addr} {v : V} {d : D} {σ : L2.St} {γ γ' : List Slot} {Q : L2.St → Hp → Prop} (s : StIn K E γ S σ H B ρ) (r : Rep K B ρ v d) (h : bindG t d γ = some γ') (k : ∀ σ', StIn K E γ' S σ' H B ρ → Q σ' H) : tTg K t v σ H Q := by
  induction t generalizing v d σ γ γ' Q with
  | one i =>
    simp only [bindG, Option.some.injEq] at h; subst h
    exact k _ (s.set r)
  | tup is =>
    cases d <;> simp only [bindG] at h <;> try cases h
    cases r with
    | tup h1 t1 => exact ⟨_, _, rfl, sqT_mono s.rel.cells.same h1, by rw [t1.length]; exact (tg_ok.setsG_len h).symm, s.names t1 h k⟩
  | pr a b iha ihb =>
    obtain ⟨x, y, γ1, rfl, e1, e2⟩ := bindG_inv h
    cases r with
    | tup h1 t1 =>
      cases t1 with
      | cons r1 t2 =>
        cases t2 with
        | cons r2 t3 =>
          cases t3
          exact ⟨_, _, rfl, sqT_mono s.rel.cells.same h1, rfl, _, _, rfl, iha s r1 e1 fun σ1 s1 => ⟨_, _, rfl, ihb s1 r2 e2 fun σ2 s2 => ⟨rfl, k σ2 s2⟩⟩⟩
theorem StIn.tgI {z : Bool} {t : Tg} {K : Kx} {S : Sto} {H : Hp} {B : Hp} {ρ : List Addr} {v : V} {d : D} {σ : L2.St} {γ γ' : List Slot} {Q : L2.St → Hp → Prop} (hz : ∀ i, t = .one i → z = false) (s : StIn K E γ S σ H B ρ) (r : RepI z K B ρ v d) (h : bindG t d γ = some γ') (k : ∀ σ', StIn K E γ' S σ' H B ρ → Q σ' H) : tTg K t v σ H Q := by
  rcases r with r | ⟨z1, a, vs, ds, rfl, rfl, hq, t1⟩
  · exact s.tg r h k
  cases t with
  | one i => rw [hz i rfl] at z1; cases z1
  | tup is => exact ⟨_, _, rfl, sqT_up s.rel.cells.same hq, by rw [t1.length]; exact (tg_ok.setsG_len h).symm, s.names t1 h k⟩
  | pr a b =>
    obtain ⟨x, y, γ1, e, e1, e2⟩ := bindG_inv h
    cases e
    cases t1 with
    | cons r1 t2 =>
      cases t2 with
      | cons r2 t3 =>
        cases t3
        exact ⟨_, _, rfl, sqT_up s.rel.cells.same hq, rfl, _, _, rfl, s.tg r1 e1 fun σ1 s1 => ⟨_, _, rfl, s1.tg r2 e2 fun σ2 s2 => ⟨rfl, k σ2 s2⟩⟩⟩
def kUnp (is : List Nat) (γ : List Slot) (κ : Kt) (d : D) (S : Sto) : Prop := optW (bindG (.tup is) d γ) S κ.nx
def xUnp (is : List Nat) (fa : Ev D) : Ex := fun γ S E κ => fa γ S E (kUnp is γ κ)
theorem s_unp' {is : List Nat} (h : PS X st (tAsg (tD (kx X M) W fa) (tTg (kx X M) (.tup is)))) : DS X M W E st (xUnp is fa) := PS.imp h fun Dd σ H ⟨γ, S, E', κ, ⟨B, ρ, si⟩, h, x, k⟩ =>
  ⟨B, ρ, γ, S, E', _, si.at x, h, fun d S1 h1 v H1 B1 ρ1 x1 c1 r1 => by
    obtain ⟨γ', e, h2⟩ := optW_ok h1
    exact (si.step x1 c1).tg r1 e fun σ' s' => k.nx γ' S1 h2 σ' H1 ⟨B1, ρ1, s'⟩⟩
def kEx (γ : List Slot) (κ : Kt) (_ : D) (S : Sto) : Prop := κ.nx γ S
def xExpr (fa : Ev D) : Ex := fun γ S E κ => fa γ S E (kEx γ κ)
theorem s_expr (h : DE X M W e fa) (hs : swapsWith e none pos.line X.env = pure false) : DS X M W E (.Expr e pos) (xExpr fa) := PS.imp (ps_expr h hs) fun Dd σ H ⟨γ, S, E', κ, ⟨B, ρ, si⟩, h, x, k⟩ =>
  ⟨B, ρ, γ, S, E', _, si.at x, h, fun d S1 h1 v H1 B1 ρ1 x1 c1 r1 => k.nx γ S1 h1 σ H1 ⟨B1, ρ1, si.step x1 c1⟩⟩
def xRet (fr : Ev Rv) : Ex := fun γ S E κ => fr γ S E κ.rt
theorem s_ret (h : DR X M W e fr) : DS X M W E (.Return (some e) pos) (xRet fr) := PS.imp (ps_ret h) fun Dd σ H ⟨γ, S, E', κ, ⟨B, ρ, si⟩, h, x, k⟩ =>
  ⟨B, ρ, γ, S, E', _, si.at x, h, fun r S1 h1 => (k.rt r S1 h1).from si.ext⟩
def rtO (o : Option Slot) (S : Sto) (κ : Kt) : Prop := match o with | some (.own c) => κ.rt (.o c) S | _ => False
def xRetO (i : Nat) : Ex := fun γ S _ κ => rtO γ[i]? S κ
theorem s_retO (h : PE X e (tVar i)) : DS X M W E (.Return (some e) pos) (xRetO i) := PS.imp (ps_ret h) fun Dd σ H ⟨γ, S, E', κ, ⟨B, ρ, si⟩, h, x, k⟩ => by
  unfold xRetO rtO at h
  split at h
  · rename_i c hx
    obtain ⟨a, o, h1, h2, h3, h4, h5⟩ := si.rel.slots.own i c hx
    exact ⟨.ref a, h1, k.rt _ S h a _ H B ρ si.ext si.rel.cells (si.mine i c a hx h1) h2 h4 h5 h3⟩
  · exact h.elim
def xRetN : Ex := fun _ S _ κ => κ.rt (.v .non) S
theorem s_retN : DS X M W E (.Return none pos) xRetN := PS.imp ps_retN fun Dd σ H ⟨γ, S, E', κ, ⟨B, ρ, si⟩, h, x, k⟩ => k.rt _ S h _ H B ρ si.ext si.rel.cells .non
def kCond (f g : Ex) (γ : List Slot) (E : XC) (κ : Kt) (b : Bool) (S : Sto) : Prop := match b with | true => f γ S E κ | false => g γ S E κ
def xIf (c : Ev Bool) (f g : Ex) : Ex := fun γ S E κ => c γ S E (kCond f g γ E κ)
theorem s_if {sa sb : List Stmt} (hc : DT X M W c fc) (ha : DSs X M W E sa f) (hb : DSs X M W E sb g) : DS X M W E (.If c sa sb pos) (xIf fc f g) := PS.imp (ps_if hc ha hb) fun Dd σ H ⟨γ, S, E', κ, ⟨B, ρ, si⟩, h, x, k⟩ =>
  ⟨B, ρ, γ, S, E', _, si.at x, h, fun b S1 h1 H1 B1 ρ1 x1 c1 => by
    cases b with
    | true => exact iteT ⟨γ, S1, E', κ, ⟨B1, ρ1, si.step x1 c1⟩, h1, x, k⟩
    | false => exact iteF ⟨γ, S1, E', κ, ⟨B1, ρ1, si.step x1 c1⟩, h1, x, k⟩⟩
def xPass : Ex := fun γ S _ κ => κ.nx γ S
def xBreak : Ex := fun γ S _ κ => κ.bk γ S
def xCont : Ex := fun γ S _ κ => κ.ct γ S
def xNever : Ex := fun _ _ _ _ => False
theorem s_pass : DS X M W E (.Pass pos) xPass := PS.imp ps_pass fun Dd σ H ⟨γ, S, E', κ, st, h, x, k⟩ => k.nx γ S h σ H st
theorem s_break : DS X M W E (.Break pos) xBreak := PS.imp ps_break fun Dd σ H ⟨γ, S, E', κ, st, h, x, k⟩ => k.bk γ S h σ H st
theorem s_cont : DS X M W E (.Continue pos) xCont := PS.imp ps_continue fun Dd σ H ⟨γ, S, E', κ, st, h, x, k⟩ => k.ct γ S h σ H st
theorem s_never : DS X M W E st xNever := PS.imp ps_never fun Dd σ H ⟨γ, S, E', κ, st, h, x, k⟩ => h
def frS (o : Option Slot) (i : Nat) (γ : List Slot) : List Slot := match o with | some (.own c) => (match frzC c with | some d => γ.set i (.val d) | none => γ) | _ => γ
def xFrz (i : Nat) (f : Ex) : Ex := fun γ S E κ => f (frS γ[i]? i γ) S E κ
theorem ss_frz (h : DSs X M W E sts f) : DSs X M W E sts (xFrz i f) := PSs.imp h fun Dd σ H ⟨γ, S, E', κ, ⟨B, ρ, si⟩, h, x, k⟩ => by
  refine ⟨_, S, E', κ, ?_, h, x, k⟩
  unfold frS
  split
  · rename_i c hx
    split
    · rename_i d hd
      exact si.freeze hx hd
    · exact ⟨B, ρ, si⟩
  · exact ⟨B, ρ, si⟩
end
end DL
namespace DL
open PySem PySem.Spec L2 SeqAt
def kBind (t : Tg) (body : Ex) (γ : List Slot) (E : XC) (κ : Kt) (x : D) (S : Sto) : Prop := optW (bindG t x γ) S fun γ S => body γ S E κ
def kTurn (ws : List Nat) (I : List Slot → Sto → Prop) (κ : Kt) : Kt := ⟨fun γ S => I (fg γ ws) S, κ.rt, fun γ S => κ.nx (fg γ ws) S, fun γ S => I (fg γ ws) S⟩
def InvW (t : Tg) (ws : List Nat) (body : Ex) (E : XC) (κ : Kt) (xs : List D) (γ : List Slot) (S : Sto) : Prop :=
  ∃ I : Nat → List Slot → Sto → Prop, I 0 γ S ∧ (∀ i x γ S, xs[i]? = some x → I i γ S → kBind t body γ E (kTurn ws (I (i + 1)) κ) x S) ∧ ∀ γ S, I xs.length γ S → κ.nx γ S
def forAt (t : Tg) (ws : List Nat) (body : Ex) (E : XC) (κ : Kt) : List D → List Slot → Sto → Prop
  | [], γ, S => κ.nx γ S
  | x :: xs, γ, S => InvW t ws body E κ (x :: xs) γ S ∨ kBind t body γ E (kTurn ws (forAt t ws body E κ xs) κ) x S
def kFor (t : Tg) (ws : List Nat) (body : Ex) (γ : List Slot) (E : XC) (κ : Kt) (xs : List D) (S : Sto) : Prop := forAt t ws body E κ xs (fg γ ws) S
theorem forAt_step {t : Tg} {ws : List Nat} {body : Ex} {E : XC} {κ : Kt} {x : D} {xs : List D} {γ : List Slot} {S : Sto} (h : forAt t ws body E κ (x :: xs) γ S) :
    ∃ J : List Slot → Sto → Prop, kBind t body γ E (kTurn ws J κ) x S ∧ ∀ γ S, J γ S → forAt t ws body E κ xs γ S := by
  rcases h with ⟨I, h0, st, en⟩ | h
  · refine ⟨I 1, st 0 x γ S rfl h0, fun γ' S' h1 => ?_⟩
    cases xs with
    | nil => exact en γ' S' h1
    | cons y ys => exact .inl ⟨fun i => I (i + 1), h1, fun i z γ2 S2 hz hI => st (i + 1) z γ2 S2 hz hI, en⟩
  · exact ⟨_, h, fun _ _ h => h⟩
def xFor (it : Ev (List D)) (t : Tg) (ws : List Nat) (body : Ex) : Ex := fun γ S E κ => it γ S E (kFor t ws body γ E κ)
section
variable {X : Cx} {M : Mp} {W : WX} {E : Ent} {tg iter : Expr} {body : List Stmt} {it : Ev (List D)} {t : Tg} {ws : List Nat} {fb : Ex} {pos : Pos}
theorem s_for (hp : PassesOwn (model X.prog X.w) X.A X.env X.xe) (hc : X.calm = true) (hi : DI X M W tg iter it) (hg : PG X tg (tTg (kx X M) t)) (hb : ∀ fB fρ, DSs X M W { E with fB := fB, fρ := fρ } body fb) (hs : ∀ x, foldedSetIterable iter X.env x = pure x) (ht : ∀ i, t = .one i → isT tg = false) :
    DS X M W E (.For tg iter body [] pos) (xFor it t ws fb) := by
  refine ⟨fun pins s σ H Dd I ⟨γ, S, E', κ, ⟨B, ρ, si⟩, h, x, k⟩ => ?_⟩
  -- the body at every floor
  have hb' : PSs X body (fun Dd σ H => ∃ fB fρ, tDS (kx X M) W { E with fB := fB, fρ := fρ } fb Dd σ H) := ⟨fun pins s σ H Dd I ⟨fB, fρ, h⟩ => (hb fB fρ).run pins s σ H Dd I h⟩
  refine (ps_for (pos := pos) hp hc hi hg hb' hs).run pins s σ H Dd I ⟨B, ρ, γ, S, E', _, si.at x, h, fun items S1 h1 J H1 B1 ρ1 x1 c1 yl => ?_⟩
  refine ⟨fun i m σ2 H2 => m = items.length - i ∧ i ≤ items.length ∧ ∃ γ2 S2 B2 ρ2, StIn (kx X M) E γ2 S2 σ2 H2 B2 ρ2 ∧ Same B1 B2 ∧ (∀ (n : Nat) (a : Addr), ρ1[n]? = some a → ρ2[n]? = some a) ∧ forAt t ws fb E' κ (items.drop i) γ2 S2,
    ⟨items.length, by simp, Nat.zero_le _, fg γ ws, S1, B1, ρ1, (si.step x1 c1).fg ws, .refl _, fun _ _ h => h, h1⟩, ?_⟩
  rintro i m σ2 H2 ⟨rfl, hi, γ2, S2, B2, ρ2, s2, sB, sρ, hI⟩
  obtain ⟨y1, y2⟩ := yl i B2 ρ2 H2 S2 sB sρ s2.rel.cells
  by_cases hlt : i < items.length
  · refine .inr ?_
    obtain ⟨go, yld⟩ := y1 items[i] (List.getElem?_eq_getElem hlt)
    refine ⟨go, fun σ3 H3 => i + 1 ≤ items.length ∧ ∃ γ3 S3 B3 ρ3, StIn (kx X M) E γ3 S3 σ3 H3 B3 ρ3 ∧ Same B1 B3 ∧ (∀ (n : Nat) (a : Addr), ρ1[n]? = some a → ρ3[n]? = some a) ∧ forAt t ws fb E' κ (items.drop (i + 1)) γ3 S3,
      fun σ3 H3 h3 => ⟨items.length - (i + 1), by omega, rfl, h3⟩, fun v H3 hy => ?_⟩
    obtain ⟨B3, x3, c3, r3⟩ := yld v H3 hy
    rw [List.drop_eq_getElem_cons hlt] at hI
    obtain ⟨J5, hJ, Jn⟩ := forAt_step hI
    obtain ⟨γ4, e4, h4⟩ := optW_ok hJ
    have s3 := s2.step x3 c3
    refine s3.tgI ht r3 e4 fun σ4 s4 => ⟨B1, ρ1, γ4, S2, E', _, ⟨B3, ρ2, ?_⟩, h4, x, ?_⟩
    · exact ⟨s4.ext, s4.rel, s4.mine, sB.trans x3.base, sρ⟩
    · have up : ∀ {γ5 S5 σ' H' B6 ρ6}, StIn (kx X M) { E with fB := B1, fρ := ρ1 } γ5 S5 σ' H' B6 ρ6 → StIn (kx X M) E γ5 S5 σ' H' B6 ρ6 := fun s6 =>
        ⟨s6.ext, s6.rel, s6.mine, (si.floor.trans x1.base).trans s6.floor, fun n a h => s6.fref n a (x1.rho n a (si.fref n a h))⟩
      have nx : ∀ γ5 S5, J5 (fg γ5 ws) S5 → ∀ σ' H', StOk (kx X M) { E with fB := B1, fρ := ρ1 } γ5 S5 σ' H' → i + 1 ≤ items.length ∧ ∃ γ3 S3 B3 ρ3, StIn (kx X M) E γ3 S3 σ' H' B3 ρ3 ∧ Same B1 B3 ∧ (∀ (n : Nat) (a : Addr), ρ1[n]? = some a → ρ3[n]? = some a) ∧ forAt t ws fb E' κ (items.drop (i + 1)) γ3 S3 := by
        rintro γ5 S5 h6 σ' H' ⟨B6, ρ6, s6⟩
        exact ⟨hlt, fg γ5 ws, S5, B6, ρ6, (up s6).fg ws, s6.floor, s6.fref, Jn _ _ h6⟩
      refine ⟨nx, k.rt, ?_, nx⟩
      rintro γ5 S5 h6 σ' H' ⟨B6, ρ6, s6⟩
      exact k.nx _ S5 h6 σ' H' ⟨B6, ρ6, (up s6).fg ws⟩
  · refine .inl ⟨y2 (by omega), ?_⟩
    have e0 : i = items.length := by omega
    subst e0
    rw [List.drop_length] at hI
    exact k.nx γ2 S2 hI σ2 H2 ⟨B2, ρ2, s2⟩
end
def kWh (body : Ex) (γ : List Slot) (E : XC) (κ κ' : Kt) (b : Bool) (S : Sto) : Prop := match b with | true => body γ S E κ' | false => κ.nx γ S
def whileW (c : Ev Bool) (ws : List Nat) (body : Ex) (γ : List Slot) (S : Sto) (E : XC) (κ : Kt) : Prop :=
  ∃ I : Nat → List Slot → Sto → Prop, (∃ m, I m (fg γ ws) S) ∧ ∀ m γ S, I m γ S → c γ S E (kWh body γ E κ (kTurn ws (fun γ S => ∃ m', m' < m ∧ I m' γ S) κ))
section
variable {X : Cx} {M : Mp} {W : WX} {E : Ent} {c : Expr} {body : List Stmt} {fc : Ev Bool} {ws : List Nat} {fb : Ex} {pos : Pos}
theorem s_while (hp : PassesOwn (model X.prog X.w) X.A X.env X.xe) (hc : DT X M W c fc) (hb : DSs X M W E body fb) : DS X M W E (.While c body [] pos) (whileW fc ws fb) := PS.imp (ps_while hp hc hb) fun Dd σ H ⟨γ, S, E', κ, ⟨B, ρ, si⟩, ⟨Iv, ⟨m0, i0⟩, istep⟩, x, k⟩ => by
  refine ⟨fun m σ H => ∃ γ S, StOk (kx X M) E γ S σ H ∧ Iv m γ S, ⟨m0, fg γ ws, S, ⟨B, ρ, si.fg ws⟩, i0⟩, ?_⟩
  rintro m σ H ⟨γ, S, ⟨B, ρ, si⟩, q⟩
  refine ⟨B, ρ, γ, S, E', _, si.at x, istep m γ S q, fun b S1 h1 H1 B1 ρ1 x1 c1 => ?_⟩
  cases b with
  | true =>
    have nx : ∀ γ' S', (∃ m', m' < m ∧ Iv m' (fg γ' ws) S') → ∀ σ' H', StOk (kx X M) E γ' S' σ' H' → ∃ m', m' < m ∧ ∃ γ S, StOk (kx X M) E γ S σ' H' ∧ Iv m' γ S := fun γ' S' ⟨m', h, h2⟩ σ' H' ⟨B2, ρ2, st'⟩ => ⟨m', h, _, S', ⟨B2, ρ2, st'.fg ws⟩, h2⟩
    exact iteT ⟨fun σ' H' => ∃ m', m' < m ∧ ∃ γ S, StOk (kx X M) E γ S σ' H' ∧ Iv m' γ S, fun σ' H' ⟨m', h, h2⟩ => ⟨m', h, h2⟩, γ, S1, E', _, ⟨B1, ρ1, si.step x1 c1⟩, h1, x, nx, k.rt, fun γ' S' h σ' H' ⟨B2, ρ2, st'⟩ => k.nx _ S' h σ' H' ⟨B2, ρ2, st'.fg ws⟩, nx⟩
  | false => exact iteF (k.nx γ S1 h1 σ H1 ⟨B1, ρ1, si.step x1 c1⟩)
end
section
variable {X : Cx} {M : Mp} {W : WX} {E : Ent} {o e e1 e2 : Expr} {i : Nat} {fa fb fc : Ev D} {pos apos cpos : Pos} {st : Stmt}
def apO (i : Nat) (o : Option Slot) (γ : List Slot) (κ : Kt) (d : D) (S : Sto) : Prop := match o with
  | some (.own (.lst xs)) => xs.length < sizeLine ∧ κ.nx (γ.set i (.own (.lst (xs ++ [d])))) S
  | _ => False
def kApp (i : Nat) (γ : List Slot) (κ : Kt) (d : D) (S : Sto) : Prop := apO i γ[i]? γ κ d S
def xApp (i : Nat) (fa : Ev D) : Ex := fun γ S E κ => (∃ xs, γ[i]? = some (.own (.lst xs))) ∧ fa γ S E (kApp i γ κ)
theorem s_app (ho : PE X o (tVar i)) (ha : DE X M W e fa) (hbase : attributeBase o "append" X.env (eval o X.env) = eval o X.env)
    (hfew : ((backTo cpos (starEach [e] X.env)).all (fun x => !x.1) && (backToKw cpos (keywordEach [] X.env)).all (fun x => x.1.isSome) && decide ([e].length + ([] : List Keyword).length + (if ([] : List Keyword).isEmpty then 0 else 1) < 30)) = true)
    (hline : (apos.endLine == cpos.line) = true) (hs : starEach [e] X.env = (false, eval e X.env) :: starEach [] X.env) : DS X M W E (.Expr (.Call (.Attribute o "append" apos) [e] [] cpos) pos) (xApp i fa) :=
  PS.imp (ps_expr (pe_bm PySem.F.plainAttrs_list PySem.F.slot_list_append PySem.F.type_list_append mt_append ho (pa_cons ha pa_nil hs) hbase hfew hline hs rfl) rfl) fun Dd σ H ⟨γ, S, E', κ, ⟨B, ρ, si⟩, ⟨⟨xs, hx⟩, h⟩, x, k⟩ => by
    obtain ⟨a, o, h1, h2, h3, h4, h5⟩ := si.rel.slots.own i _ hx
    cases h3 with
    | lst h3 =>
      refine ⟨.ref a, h1, .inl ⟨rfl, _, SqL.of h2⟩, B, ρ, γ, S, E', _, si.at x, h, fun d S1 q v H1 B1 ρ1 x1 c1 r1 => ?_⟩
      unfold kApp apO at q
      rw [hx] at q
      obtain ⟨hz, q⟩ := q
      obtain ⟨hp, nb, nr⟩ := x1.mine h2 h4 h5
      have s1 := si.step x1 c1
      exact ⟨a, _, v, rfl, rfl, hp, by rw [h3.length]; exact hz, k.nx _ S1 q σ _ ⟨B1, ρ1, s1.grow hx h1 (.lst ((h3.ext x1).append (.cons r1 .nil)))⟩⟩
def poR (i : Nat) (γ : List Slot) (κ : Kt) (v : D) (o : Option Slot) (j : D) (S : Sto) : Prop := match o, j with
  | some (.own (.lst xs)), .int j => optW (ixN xs.length j) S fun j S => κ.nx (γ.set i (.own (.lst (xs.set j v)))) S
  | _, _ => False
def xPutO (i : Nat) (fi fv : Ev D) : Ex := fun γ S E κ => (∃ c, γ[i]? = some (.own c)) ∧ fv γ S E fun v S => fi γ S E fun j S => poR i γ κ v γ[i]? j S
theorem s_putO (h : PS X st (tAsg (tD (kx X M) W fc) (gSub (tVar i) (tD (kx X M) W fb) rSetL))) : DS X M W E st (xPutO i fb fc) := PS.imp h fun Dd σ H ⟨γ, S, E', κ, ⟨B, ρ, si⟩, ⟨⟨c, hc⟩, h⟩, x, k⟩ =>
  ⟨B, ρ, γ, S, E', _, si.at x, h, fun v S1 h1 u1 H1 B1 ρ1 x1 c1 r1 => by
    obtain ⟨a, o, h2, h3, h4, h5, h6⟩ := si.rel.slots.own i c hc
    refine ⟨.ref a, h2, B1, ρ1, γ, S1, E', _, (si.step x1 c1).at x, h1, fun j S2 q u3 H3 B3 ρ3 x3 c3 r3 => ?_⟩
    unfold poR at q
    split at q
    · rename_i xs jj hx
      obtain ⟨n, hn, q⟩ := optW_ok q
      rw [hc] at hx
      cases hx
      cases h4 with
      | lst h4 =>
        cases r3
        have x13 := x1.tr x3
        obtain ⟨hp, nb, nr⟩ := x13.mine h3 h5 h6
        have s1 := si.step x13 c3
        exact ⟨a, _, jj, n, rfl, rfl, hp, by rw [h4.length]; exact hn, k.nx _ S2 q σ _ ⟨B3, ρ3, s1.grow hc h2 (.lst ((h4.ext x13).set (r1.ext x3) n))⟩⟩
    · exact q.elim⟩
def pdR (i : Nat) (γ : List Slot) (κ : Kt) (v : D) (o : Option Slot) (j : D) (S : Sto) : Prop := match o with
  | some (.own (.dct ks xs)) => optW (keyOf j) S fun key S => ks.length < sizeLine ∧ κ.nx (γ.set i (.own (.dct (putKs ks key) (putX ks xs key v)))) S
  | _ => False
def xPutD (i : Nat) (fi fv : Ev D) : Ex := fun γ S E κ => (∃ c, γ[i]? = some (.own c)) ∧ fv γ S E fun v S => fi γ S E fun j S => pdR i γ κ v γ[i]? j S
theorem s_putD (h : PS X st (sDPut (tVar i) (tD (kx X M) W fb) (tD (kx X M) W fc))) : DS X M W E st (xPutD i fb fc) := PS.imp h fun Dd σ H ⟨γ, S, E', κ, ⟨B, ρ, si⟩, ⟨⟨c, hc⟩, h⟩, x, k⟩ =>
  ⟨B, ρ, γ, S, E', _, si.at x, h, fun v S1 h1 u1 H1 B1 ρ1 x1 c1 r1 => by
    obtain ⟨a, o, h2, h3, h4, h5, h6⟩ := si.rel.slots.own i c hc
    refine ⟨.ref a, h2, B1, ρ1, γ, S1, E', _, (si.step x1 c1).at x, h1, fun j S2 q u3 H3 B3 ρ3 x3 c3 r3 => ?_⟩
    unfold pdR at q
    split at q
    · rename_i ks xs hx
      obtain ⟨key, hn, hz, q⟩ := optW_ok q
      rw [hc] at hx
      cases hx
      cases h4 with
      | dct l4 h4 =>
        have x13 := x1.tr x3
        obtain ⟨hp, nb, nr⟩ := x13.mine h3 h5 h6
        have s1 := si.step x13 c3
        rw [key_rep r3 hn]
        refine ⟨a, _, rfl, DPut.k hp (by rw [List.length_zip, ← l4]; simpa using hz), k.nx _ S2 q σ _ ⟨B3, ρ3, s1.grow hc h2 ?_⟩⟩
        rw [put_zip l4]
        exact .dct (put_len l4 key _) (put_rep (h4.ext x13) (r1.ext x3))
    · exact q.elim⟩
end
section
variable {X : Cx} {M : Mp} {W : WX} {E : Ent} {st : Stmt} {fa fb fc : Ev D}
def ptR (γ : List Slot) (κ : Kt) (v o j : D) (S : Sto) : Prop := match o, j with
  | .ref n, .int i => (match S.cs[n]? with
    | some (.lst xs) => optW (ixN xs.length i) S fun j S => κ.nx γ ⟨S.cs.set n (.lst (xs.set j v)), S.n⟩
    | _ => False)
  | _, _ => False
def xPut (fo fi fv : Ev D) : Ex := fun γ S E κ => fv γ S E fun v S => fo γ S E fun o S => fi γ S E fun j S => ptR γ κ v o j S
theorem s_put (h : PS X st (tAsg (tD (kx X M) W fc) (gSub (tD (kx X M) W fa) (tD (kx X M) W fb) rSetL))) : DS X M W E st (xPut fa fb fc) := PS.imp h fun Dd σ H ⟨γ, S, E', κ, ⟨B, ρ, si⟩, h, x, k⟩ =>
  ⟨B, ρ, γ, S, E', _, si.at x, h, fun v S1 h1 u1 H1 B1 ρ1 x1 c1 r1 => ⟨B1, ρ1, γ, S1, E', _, (si.step x1 c1).at x, h1, fun ov S2 h2 u2 H2 B2 ρ2 x2 c2 r2 =>
    ⟨B2, ρ2, γ, S2, E', _, (si.step (x1.tr x2) c2).at x, h2, fun j S3 q u3 H3 B3 ρ3 x3 c3 r3 => by
      unfold ptR at q
      split at q
      · rename_i n i
        split at q
        · rename_i xs hn
          obtain ⟨jj, hj, q⟩ := optW_ok q
          cases r3
          have r2' := r2.ext x3
          cases r2' with
          | ref hp =>
            obtain ⟨o, h1, t1⟩ := c3.cell n _ _ hp hn
            cases t1 with
            | lst t1 =>
              have r1' := (r1.ext x2).ext x3
              obtain ⟨c4, x4⟩ := c3.change (Nat.le_refl _) hp (.lst (t1.set r1' jj))
              exact ⟨_, _, i, jj, rfl, rfl, h1, by rw [t1.length]; exact hj, k.nx _ _ q σ _ ⟨B3, ρ3, si.step (((x1.tr x2).tr x3).tr x4) c4⟩⟩
        · exact q.elim
      · exact q.elim⟩⟩⟩
def pdD (γ : List Slot) (κ : Kt) (v o j : D) (S : Sto) : Prop := match o with
  | .ref n => (match S.cs[n]? with
    | some (.dct ks xs) => optW (keyOf j) S fun key S => ks.length < sizeLine ∧ κ.nx γ ⟨S.cs.set n (.dct (putKs ks key) (putX ks xs key v)), S.n⟩
    | _ => False)
  | _ => False
def xPutR (fo fi fv : Ev D) : Ex := fun γ S E κ => fv γ S E fun v S => fo γ S E fun o S => fi γ S E fun j S => pdD γ κ v o j S
theorem s_putR (h : PS X st (sDPut (tD (kx X M) W fa) (tD (kx X M) W fb) (tD (kx X M) W fc))) : DS X M W E st (xPutR fa fb fc) := PS.imp h fun Dd σ H ⟨γ, S, E', κ, ⟨B, ρ, si⟩, h, x, k⟩ =>
  ⟨B, ρ, γ, S, E', _, si.at x, h, fun v S1 h1 u1 H1 B1 ρ1 x1 c1 r1 => ⟨B1, ρ1, γ, S1, E', _, (si.step x1 c1).at x, h1, fun ov S2 h2 u2 H2 B2 ρ2 x2 c2 r2 =>
    ⟨B2, ρ2, γ, S2, E', _, (si.step (x1.tr x2) c2).at x, h2, fun j S3 q u3 H3 B3 ρ3 x3 c3 r3 => by
      unfold pdD at q
      split at q
      · rename_i n
        split at q
        · rename_i ks xs hn
          obtain ⟨key, hj, hz, q⟩ := optW_ok q
          rw [key_rep r3 hj]
          have r2' := r2.ext x3
          cases r2' with
          | ref hp =>
            obtain ⟨o, h1, t1⟩ := c3.cell n _ _ hp hn
            cases t1 with
            | dct l1 t1 =>
              have r1' := (r1.ext x2).ext x3
              obtain ⟨c4, x4⟩ := c3.change (Nat.le_refl _) hp (.dct (put_len l1 key u1) (put_rep (ks := ks) (k := key) t1 r1'))
              refine ⟨_, _, rfl, DPut.k h1 (by rw [List.length_zip, ← l1]; simpa using hz), ?_⟩
              rw [put_zip l1]
              exact k.nx _ _ q σ _ ⟨B3, ρ3, si.step (((x1.tr x2).tr x3).tr x4) c4⟩
        · exact q.elim
      · exact q.elim⟩⟩⟩
end
end DL
namespace DL
open PySem PySem.Spec PyProof.Rows L2 SeqAt
def dnS (xs : List Str) : Nat → Nat
  | 0 => 0
  | i + 1 => if (xs.take i).any (· == xs.getD i Str.empty) then dnS xs i else dnS xs i + 1
theorem dnS_le (xs : List Str) : ∀ i, dnS xs i ≤ i
  | 0 => Nat.le_refl _
  | i + 1 => by
    have := dnS_le xs i
    simp only [dnS]
    split <;> omega
section
variable {prog : Program} {w : World} {A : Around} {R : Result → Shared → Prop} {I : Addr} {fp wr : List Addr} {G : Array GenState → Array GenState → Prop} {n : Nat} {P : Nat → Value → Prop} {St : Nat → Shared → Prop}
abbrev setTo (prog : Program) (w : World) (h : Heap) (S : Addr) (xs : List Str) (i : Nat) : Prop := h.SetOf (PySem.strKind prog w) S (fun z => (xs.take i).any (· == z)) (dnS xs i)
theorem upd_loop (W : WalksS prog w A.in1 I fp wr G n P St) (S : Addr) (nS : S ∉ fp) (xs : List Str) (lx : xs.length = n) (ln : n < 4000) (vx : ∀ i v, P i v → ∃ t, v = .str (xs.getD i Str.empty) t) :
    ∀ (k i : Nat) (s : Shared), n - i = k → i ≤ n → St i s → setTo prog w s.heap S xs i → (∀ s', Moved (S :: wr) G s s' → setTo prog w s'.heap S xs n → R (.ok (.ret .none)) s') →
      codeAny (model prog w) A (.builtin "set.update.loop" ⟨[.ref S, .ref I], []⟩) R s := by
  have nW : S ∉ wr := fun h => nS (W.sub _ h)
  have up : ∀ b ∈ wr, b ∈ S :: wr := fun b hb => List.mem_cons_of_mem _ hb
  intro k
  induction k with
  | zero =>
    intro i s hk hi st hS hR; obtain rfl : i = n := by omega
    refine codeAny_builtin PyProof.Rows.F.entry_set_update_loop ?_; rw [Around.under_plainId PyProof.Rows.F.plain_set_update_loop _]
    show wpAny _ A.in1 (pyNext (.ref I) >>= _) _ _ s; refine wpAny_bind (W.done s _ _ st fun s' mv => ?_)
    show wpAny _ A.in1 (ret Value.none) _ _ s'; obtain ⟨o, es, ep, t, ho, rest⟩ := hS
    exact wpAny_pure (hR s' (mv.mono up) ⟨o, es, ep, t, mv.heap S _ nW ho, rest⟩)
  | succ k ih =>
    intro i s hk hi st hS hR; have lt : i < n := by omega
    refine codeAny_builtin PyProof.Rows.F.entry_set_update_loop ?_; rw [Around.under_plainId PyProof.Rows.F.plain_set_update_loop _]
    show wpAny _ A.in1 (pyNext (.ref I) >>= _) _ _ s; refine wpAny_bind (W.item i s _ _ lt st fun v s' hP st' mv => ?_)
    obtain ⟨t, rfl⟩ := vx i v hP
    have hS1 : setTo prog w s'.heap S xs i := by obtain ⟨o, es, ep, tb, ho, rest⟩ := hS; exact ⟨o, es, ep, tb, mv.heap S _ nW ho, rest⟩
    show wpAny _ A.in1 (holding [Value.str (xs.getD i Str.empty) t] (setAdd S (.str (xs.getD i Str.empty) t)) >>= _) _ _ s'
    refine wpAny_bind (wpAny_holding ?_); unfold setAdd; refine wpAny_holding ?_
    refine wpAny_bind ((PySem.strKind prog w).pyHash (k := xs.getD i Str.empty) (strKind_is _ _ _ _) ?_)
    have hd := dnS_le xs i
    refine wpAny_setAddHashed_of (knd := PySem.strKind prog w) (s := { s' with toks := s'.toks + 1 }) (strKind_is _ _ _ _) rfl hS1 (by unfold scanBound; omega) fun h' sb hS2 => ?_
    have hS3 : setTo prog w h' S xs (i + 1) := by
      refine SetOf_congr hS2 (fun z => ?_) (by simp only [dnS])
      have e : xs.getD i Str.empty = xs[i] := by rw [List.getD_eq_getElem?_getD, List.getElem?_eq_getElem (by omega)]; rfl
      rw [List.take_add_one, List.getElem?_eq_getElem (by omega), List.any_append, e]
      show _ = (_ || (xs[i] == z || false))
      rw [Bool.or_false]
      by_cases q : z = xs[i]
      · rw [q]; simp
      · have q2 : (xs[i] == z) = false := by simpa [beq_iff_eq] using fun h : xs[i] = z => q h.symm
        rw [q2, decide_eq_false q]
    refine wpAny_pure ⟨plainId_quiet PyProof.Rows.F.plain_set_update_loop _, ih (i + 1) _ (by omega) lt (W.frame _ s' _ _ st' (Nat.le_succ _) fun b hb o e => ?_) hS3 fun s2 mv2 hS4 => ?_⟩
    · rw [sb.2 b (fun h : b = S => nS (by rw [← h]; exact hb))]; exact e
    · refine hR s2 (Moved.trans W.gtrans ((mv.mono up).then_heap (Nat.le_succ _) fun b o hb e => ?_) mv2) hS4
      rw [sb.2 b (fun h : b = S => hb (by rw [h]; exact List.mem_cons_self))]; exact e
end
section
variable {prog : Program} {w : World} {A : Around} {E : Value → Shared → Prop} {s : Shared}
abbrev setO (led : Bool) : Obj := { cls := .type "set", dict := none, data := .set #[] 0 (.fresh 0 0 led) }
set_option maxHeartbeats 3200000 in
theorem set_of_list {l : Addr} {items : Array Value} {xs : List Str} {Q : Value → Shared → Prop} (hh : A.handled = none) (hl : s.heap.IsList l items) (hi : PyProof.Rows.StrsAre items.toList xs) (ln : xs.length < 4000)
    (h : ∀ (h' : Heap) (tk : Nat), setTo prog w h' s.heap.objs.size xs items.size → (∀ b o, b < s.heap.objs.size → s.heap.get? b = some o → h'.get? b = some o) → Q (.ref s.heap.objs.size) { s with heap := h', toks := tk }) :
    wpAny (model prog w) A (call (.type "set") [.ref l]) Q E s := by
  obtain ⟨c, tl, mro⟩ := PySem.F.called_set.mro; have made := PySem.F.called_set.made; have sub := PySem.F.called_set.sub
  refine wpAny_call (codeAny_of_tree ?_); show wpAny _ _ (callAny (.type "set") _) _ _ _
  refine wpAny_pure ⟨Code.quiet_builtin _ (by decide +kernel), codeAny_builtin PySem.F.entry_type_call ?_⟩
  rw [Around.under_plain (weight_type_call_type "set" [.ref l] []) rfl]; have g1 := PySem.F.called_set.notType; have g2 := PySem.F.called_set.canCreate; have g3 := PySem.F.typeCall_set_1 (.ref l)
  repeat (any_goals (first | assumption | wp_step))
  refine codeAny_mono (code_set_new_1 (.ref l) (E := E) (Q₁ := fun obj s1 => ∃ led : Bool, obj = .ref s.heap.objs.size ∧ s1 = { s with heap := s.heap.push (setO led) }) fun led => ⟨led, rfl, rfl⟩) fun r s1 hr => ?_
  cases r with
  | error e => exact hr
  | ok fl =>
    cases fl with
    | ret obj =>
      obtain ⟨led, rfl, rfl⟩ := hr
      have gS : (s.heap.push (setO led)).get? s.heap.objs.size = some (setO led) := Heap.get?_push_size _ rfl
      have tS : Shared.TypeIs { s with heap := s.heap.push (setO led) } (.ref s.heap.objs.size) "set" := ⟨_, gS, rfl⟩
      have li := PySem.F.called_set.init.lookup; have bi := PySem.F.called_set.init.bind (.ref s.heap.objs.size)
      repeat (any_goals (first | assumption | wp_step))
      refine codeAny_mono (codeAny_call_builtin (R := wants (fun r s2 => r = .none ∧ ∃ h' tk, s2 = { s with heap := h', toks := tk } ∧ setTo prog w h' s.heap.objs.size xs items.size ∧ (∀ b o, b < s.heap.objs.size → s.heap.get? b = some o → h'.get? b = some o)) E) PySem.F.called_set.init.plain PySem.F.entry_set_init (check_set_init_1 tS ?_)) fun r2 s2 hr2 => ?_
      · obtain ⟨⟨ocls, odict, odata, oslots⟩, hol, hcl, nl, hdl⟩ := hl
        simp only at hcl hdl; subst hcl; subst hdl
        have hol' : (s.heap.push (setO led)).get? l = some { cls := .type "list", dict := odict, data := .seq items nl, slots := oslots } := Heap.get?_push_of_some _ hol
        have q1 := PySem.F.sub_list_set; have q2 := PySem.F.sub_list_frozenset; have q3 : (Value.type "list" == Value.type "dict") = false := by decide
        have hl1 : (s.heap.push (setO led)).IsList l items := ⟨_, hol', rfl, nl, rfl⟩
        unfold Builtin.«set.__init__» noKeywords Builtin.Frozenset.updateFrom; generalize hPI : pyIter = PI
        wp_walk
        subst hPI; refine wpAny_pyIter_list hl1 ?_; refine wpAny_bind (wpAny_runValue ?_)
        have lS : l < s.heap.objs.size := Heap.lt_size hol
        have h3 : A.in1.in1.in1.handled = none := by simp [hh]
        have nI : l ≠ (s.heap.push (setO led)).objs.size := by rw [Heap.size_push]; exact Nat.ne_of_lt (Nat.lt_succ_of_lt lS)
        have nF : s.heap.objs.size ∉ [(s.heap.push (setO led)).objs.size, l] := by
          rw [Heap.size_push]; simp only [List.mem_cons, List.mem_singleton, List.not_mem_nil, or_false, not_or]; exact ⟨Nat.ne_of_lt (Nat.lt_succ_self _), Nat.ne_of_gt lS⟩
        have sz : xs.length = items.size := by rw [← StrsAre.len_eq hi, Array.length_toList]
        have vx : ∀ (i : Nat) (v : Value), items[i]? = some v → ∃ t, v = .str (xs.getD i Str.empty) t := fun i v hv => SS.strs_at hi i v (by rw [Array.getElem?_toList]; exact hv)
        refine upd_loop ((Walks.list h3 _ l nI items).toS) s.heap.objs.size nF xs sz (by omega) vx (items.size - 0) 0 _ (by omega) (Nat.zero_le _) ⟨⟨_, Heap.get?_push_size _ rfl, rfl, rfl⟩, (hl1.push _)⟩ ?s0 ?sR
        case s0 =>
          have g : ((s.heap.push (setO led)).push { cls := .type "list_iterator", data := .fields #[.ref l, .int 0 0] }).get? s.heap.objs.size = some (setO led) := Heap.get?_push_of_some _ gS
          exact PyProof.Rows.SetOf_congr ((PyProof.Rows.setObjOf_fresh (knd := PySem.strKind prog w) led).setOf g (by unfold scanBound; omega)) (fun _ => rfl) rfl
        case sR =>
          intro s' mv hS'; obtain ⟨h', g', d', tk', os'⟩ := s'
          have eg : g' = s.gens := mv.gens
          have ed : d' = s.drawn := mv.drawn
          have eo : os' = s.os := mv.os
          subst eg; subst ed; subst eo; show wpAny _ _ _ _ _ _; refine wpAny_pure ?_; show wpAny _ _ (ret Value.none) _ _ _
          refine wpAny_pure ⟨rfl, h', tk', rfl, hS', fun b o hb e => ?_⟩
          have b1 : b ≠ s.heap.objs.size := Nat.ne_of_lt hb
          have b2 : b ≠ (s.heap.push (setO led)).objs.size := by rw [Heap.size_push]; exact Nat.ne_of_lt (Nat.lt_succ_of_lt hb)
          exact mv.heap b o (by simp only [List.mem_cons, List.mem_singleton, List.not_mem_nil, or_false, not_or]; exact ⟨b1, b2⟩) (Heap.get?_push_of_some _ (Heap.get?_push_of_some _ e))
      · cases r2 with
        | error e => exact hr2
        | ok fl2 =>
          cases fl2 with
          | ret r =>
            obtain ⟨rfl, h', tk, rfl, hS', hk'⟩ := hr2
            repeat (any_goals (first | assumption | wp_step))
            exact h _ _ hS' hk'
          | _ => exact hr2.elim
    | _ => exact hr.elim
end
end DL
namespace DL
open PySem PySem.Spec L2 SeqAt
def leZ (x y : List Nat) : Bool := !decide (y < x)
theorem leZ_iff {x y : List Nat} : leZ x y = true ↔ x ≤ y := by
  simp only [leZ, Bool.not_eq_true', decide_eq_false_iff_not]
  exact Iff.rfl
theorem leZ_trans (a b c : List Nat) (h1 : leZ a b = true) (h2 : leZ b c = true) : leZ a c = true := leZ_iff.mpr (List.le_trans (leZ_iff.mp h1) (leZ_iff.mp h2))
theorem leZ_total (a b : List Nat) : (leZ a b || leZ b a) = true := by
  rw [Bool.or_eq_true, leZ_iff, leZ_iff]
  exact List.le_total a b
theorem leZ_anti {a b : List Nat} (h1 : leZ a b = true) (h2 : leZ b a = true) : a = b := List.le_antisymm (leZ_iff.mp h1) (leZ_iff.mp h2)
theorem ltZ_swo {α : Type} (k : α → List Nat) : SrtO.Swo fun v u => decide (k v < k u) := by
  refine ⟨fun x y h => ?_, fun x y z h1 h2 => ?_⟩
  · have := of_decide_eq_true h
    exact decide_eq_false fun h' => List.lt_asymm this h'
  · have a := of_decide_eq_false h1
    have b := of_decide_eq_false h2
    refine decide_eq_false ?_
    exact (List.le_trans (show k x ≤ k y from a) (show k y ≤ k z from b))
theorem sortedS_pw : ∀ {ys : List Str}, PyProof.Rows.sortedS ys = true → (ys.map fun y => y.cps.toList).Pairwise (fun a b => leZ a b = true)
  | [], _ => .nil
  | [x], _ => List.pairwise_singleton _ _
  | x :: y :: r, h => by
    simp only [PyProof.Rows.sortedS, PyProof.Rows.risingS, Bool.and_eq_true, Bool.not_eq_true'] at h
    have ih := sortedS_pw (ys := y :: r) (by simp only [PyProof.Rows.sortedS]; exact h.2)
    have hxy : leZ x.cps.toList y.cps.toList = true := by
      have := h.1
      rw [PyProof.Rows.ltCps_eq] at this
      simp only [leZ, this, Bool.not_false]
    refine List.Pairwise.cons (fun a ha => ?_) ih
    simp only [List.map_cons, List.mem_cons] at ha
    rcases ha with rfl | ha
    · exact hxy
    · exact leZ_trans _ _ _ hxy ((List.pairwise_cons.mp ih).1 a ha)
def headOf : D → Option (List Nat)
  | .tup (.str z :: _) => some z | _ => none
def headD (d : D) : List Nat := (headOf d).getD []
def leH (x y : D) : Bool := leZ (headD x) (headD y)
def gSorted : List D → Option (List D)
  | [.lst xs] => match strsOf xs with
    | some zs => if zs.length < 64 then some ((zs.mergeSort leZ).map .str) else none
    | none => if xs.all (fun d => (headOf d).isSome) && decide ((xs.map headD).Nodup) && decide (xs.length ≤ 1000) then some (xs.mergeSort leH) else none
  | _ => none
theorem paired_perm {α β : Type} {R : α → β → Prop} {xs : List α} {ys zs : List β} (p : zs.Perm ys) : Paired R xs ys → ∃ us, us.Perm xs ∧ Paired R us zs := by
  induction p generalizing xs with
  | nil => intro h; exact ⟨xs, .refl _, h⟩
  | cons a p ih =>
    intro h
    cases h with
    | cons h t => obtain ⟨us, p1, q1⟩ := ih t; exact ⟨_, p1.cons _, .cons h q1⟩
  | swap a b l =>
    intro h
    cases h with
    | cons h t => cases t with | cons h2 t => exact ⟨_, .swap _ _ _, .cons h2 (.cons h t)⟩
  | trans p1 p2 ih1 ih2 =>
    intro h
    obtain ⟨us, q1, q2⟩ := ih2 h
    obtain ⟨vs, q3, q4⟩ := ih1 q2
    exact ⟨vs, q3.trans q1, q4⟩
theorem repL_perm {K : Kx} {B : Hp} {ρ : List Addr} {vs us : List V} (p : us.Perm vs) : ∀ {ds : List D}, RepL K B ρ vs ds → ∃ es, es.Perm ds ∧ RepL K B ρ us es := by
  induction p with
  | nil => intro ds h; exact ⟨ds, .refl _, h⟩
  | cons a p ih =>
    intro ds h
    cases h with
    | cons h t => obtain ⟨es, p1, q1⟩ := ih t; exact ⟨_, p1.cons _, .cons h q1⟩
  | swap a b l =>
    intro ds h
    cases h with
    | cons h t => cases t with | cons h2 t => exact ⟨_, .swap _ _ _, .cons h2 (.cons h t)⟩
  | trans p1 p2 ih1 ih2 =>
    intro ds h
    obtain ⟨es, q1, q2⟩ := ih2 h
    obtain ⟨fs, q3, q4⟩ := ih1 q2
    exact ⟨fs, q3.trans q1, q4⟩
section
variable {X : Cx} {M : Mp} {W : WX}
def HT (h : Heap) (v : Value) (z : List Nat) : Prop := ∃ (a : Addr) (o : Obj) (its : List Value) (n : Nat) (t : Tok), v = .ref a ∧ h.get? a = some o ∧ o.cls = .type "tuple" ∧ o.data = .seq (Value.str (sOf z) t :: its).toArray n
theorem HT.uniq {h : Heap} {v : Value} {z z' : List Nat} (p : HT h v z) (q : HT h v z') : z = z' := by
  obtain ⟨a, o, its, n, t, rfl, ho, hc, hd⟩ := p
  obtain ⟨a', o', its', n', t', e, ho', hc', hd'⟩ := q
  cases e
  rw [ho] at ho'; cases ho'
  rw [hd] at hd'
  injection hd' with h1 h2
  have := congrArg Array.toList h1
  simp at this
  exact this.1.1
theorem HT.keeps {h h' : Heap} {v : Value} {z : List Nat} (p : HT h v z) (k : ∀ b o, h.get? b = some o → o.cls = .type "tuple" → h'.get? b = some o) : HT h' v z := by
  obtain ⟨a, o, its, n, t, e, ho, hc, hd⟩ := p
  exact ⟨a, o, its, n, t, e, k _ _ ho hc, hc, hd⟩
theorem kat_self {prog : Program} {w : World} {A : Around} {b fin : Bool} {Q : Bool → Shared → Prop} {s : Shared} (hq : Q fin s) : ∀ (l : List Value) (i : Nat), PySem.W.KatLex prog w A b fin Q (l.zip l) i s
  | [], i => PySem.W.kat_nil hq
  | v :: l, i => PySem.W.kat_cons (EqAt.same v prog w _ _ (PySem.W.kat_yes (kat_self hq l (i + 1))))
theorem ht_cmp {prog : Program} {w : World} {A : Around} {s : Shared} {vs : List Value} {k : Value → List Nat} (hp : ∀ v ∈ vs, HT s.heap v (k v)) (inj : ∀ v ∈ vs, ∀ u ∈ vs, k v = k u → v = u) : SrtO.Cmp prog w A s (PyProof.Rows.tuples' true) (fun p => p.1 ∈ vs) (SrtO.lt2 fun v u => decide (k v < k u)) := by
  intro p q hm hm'
  show wpAny (model prog w) A (PyProof.Rows.keyLt' (PyProof.Rows.tuples' true) p.1 q.1) (fun r s' => s' = s ∧ r = decide (k p.1 < k q.1)) (fun _ _ => False) s
  by_cases e : k p.1 = k q.1
  · have e2 := inj _ hm _ hm' e
    rw [← e2]
    obtain ⟨a, o, its, n, t, ev, ho, hc, hd⟩ := hp _ hm
    rw [ev]
    refine PySem.W.kat_lt ho hd ho hd (kat_self ⟨rfl, ?_⟩ _ _)
    rw [decide_eq_false (Nat.lt_irrefl _)]
    exact (decide_eq_false (List.lt_irrefl _)).symm
  · obtain ⟨a, o, its, n, t, ev, ho, hc, hd⟩ := hp _ hm
    obtain ⟨a', o', its', n', t', ev', ho', hc', hd'⟩ := hp _ hm'
    generalize k p.1 = z at e hd ⊢
    generalize k q.1 = z' at e hd' ⊢
    rw [ev, ev']
    refine PySem.W.kat_lt ho hd ho' hd' ?_
    refine PySem.W.kat_cons (EqAt.str_str (sOf z) t (sOf z') t' prog w _ _ ?_)
    have hne : (sOf z == sOf z') = false := by
      rw [beq_eq_false_iff_ne]
      intro h
      apply e
      simpa using h
    rw [hne]
    exact PySem.W.kat_no (PyProof.Rows.oneLt_str ⟨rfl, rfl⟩)
theorem ht_tups {h : Heap} {k : Value → List Nat} : ∀ {vs : List Value}, (∀ v ∈ vs, HT h v (k v)) → ∃ fs : List Value, PySem.W.KatTups h vs fs ∧ fs.length = vs.length ∧ ∀ f ∈ fs, ∃ x t, f = Value.str x t
  | [], _ => ⟨[], PySem.W.KatTups.nil, rfl, fun _ hm => by simp at hm⟩
  | v :: vs, hp => by
    obtain ⟨fs, h1, h2, h3⟩ := ht_tups (vs := vs) fun v' hm => hp v' (List.mem_cons_of_mem _ hm)
    obtain ⟨a, o, its, n, t, e, ho, hc, hd⟩ := hp v (List.mem_cons_self ..)
    subst e
    refine ⟨.str _ t :: fs, PySem.W.KatTups.cons ho hc hd rfl h1, by simp [h2], fun f hm => ?_⟩
    rcases List.mem_cons.mp hm with rfl | hm
    · exact ⟨_, t, rfl⟩
    · exact h3 f hm
theorem ht_sortable {prog : Program} {w : World} {A : Around} {s : Shared} {a : Addr} {vs : List Value} {k : Value → List Nat} (h0 : 0 < vs.length) (hp : ∀ v ∈ vs, HT s.heap v (k v)) (inj : ∀ v ∈ vs, ∀ u ∈ vs, k v = k u → v = u) (ha : ∀ o, s.heap.get? a = some o → o.cls ≠ .type "tuple") : SrtO.SortableO prog w A s a vs fun v u => decide (k v < k u) := by
  intro h' keep
  have hp' : ∀ v ∈ vs, HT h' v (k v) := fun v hm => (hp v hm).keeps fun b o e c => keep b o (fun z => by subst z; exact ha o e c) e
  obtain ⟨fs, h1, h2, h3⟩ := ht_tups hp'
  refine ⟨PyProof.Rows.tuples' true, fun Q E hq => ?_, ht_cmp (s := { s with heap := h' }) hp' inj⟩
  refine PySem.W.kat_kind (T := .type "str") h1 (by omega) (fun f hm => ?_) (by rfl) ?_
  · obtain ⟨x, t, rfl⟩ := h3 f hm
    exact PySem.W.Looks.now
  · have e : (Value.type "str" != Value.type "tuple") = true := by first | decide +kernel | rfl | decide
    rw [e]
    exact hq
theorem rep_head {pins : List (Addr × Obj)} {σ : St} {H : Hp} {s : Shared} {ρ : List Addr} (I : Inv X pins σ H s) {d : D} {v : V} {u : Value} (r : Rep (kx X M) H ρ v d) (q : RelV v u) (h : (headOf d).isSome = true) : HT s.heap u (headD d) := by
  unfold headD
  unfold headOf at h ⊢
  split at h
  · cases r with
    | tup hs t =>
      cases q
      obtain ⟨its, rv, ⟨o, ho, hc, n, hd⟩, _⟩ := I.tuple hs.sq
      cases t with
      | cons r1 t1 =>
        cases r1
        cases rv with
        | cons q1 rv1 =>
          obtain ⟨tk, rfl⟩ := q1
          exact ⟨_, o, _, n, tk, rfl, ho, hc, hd⟩
  · cases h
theorem heads_of {h : Heap} {H : Hp} {ρ : List Addr} {k : Value → List Nat} (hk : ∀ {d : D} {v : V} {u : Value}, Rep (kx X M) H ρ v d → RelV v u → (headOf d).isSome = true → k u = headD d) : ∀ {ds : List D} {vs : List V} {us : List Value}, RepL (kx X M) H ρ vs ds → Vals vs us → (∀ d ∈ ds, (headOf d).isSome = true) → us.map k = ds.map headD
  | [], _, _, .nil, .nil, _ => rfl
  | d :: ds, _, _, .cons r t, .cons q qs, ha => by
    rw [List.map_cons, List.map_cons, hk r q (ha d (by simp)), heads_of (h := h) hk t qs fun d' hd => ha d' (by simp [hd])]
theorem inj_of_nodup {α β : Type} {f : α → β} {l : List α} (h : (l.map f).Nodup) {a b : α} (ha : a ∈ l) (hb : b ∈ l) (e : f a = f b) : a = b := by
  induction l with
  | nil => simp at ha
  | cons x l ih =>
    simp only [List.map_cons, List.nodup_cons, List.mem_map, not_exists, not_and] at h
    rcases List.mem_cons.mp ha with rfl | ha' <;> rcases List.mem_cons.mp hb with rfl | hb'
    · rfl
    · exact absurd e.symm (h.1 b hb')
    · exact absurd e (h.1 a ha')
    · exact ih h.2 ha' hb'
def vl (g : List D → Option (List D)) : List D → Option Rv := fun d => (g d).map fun xs => .o (.lst xs)
theorem vl_some {g : List D → Option (List D)} {d : List D} {r : Rv} (h : vl g d = some r) : ∃ x, g d = some x ∧ r = .o (.lst x) := by
  simp only [vl, Option.map_eq_some_iff] at h
  obtain ⟨x, h1, h2⟩ := h
  exact ⟨x, h1, h2.symm⟩
theorem cd_sorted : CallR X (.builtin "sorted") (rCall (kx X M) (vl gSorted)) := by
  intro pins s σ H xs us Q I rv ⟨B, ρ, S, ds, r0, c, rd, g0, k⟩
  obtain ⟨r, g, rfl⟩ := vl_some g0
  unfold gSorted at g
  split at g
  · obtain ⟨v, rfl, h⟩ := paired1 rd
    obtain ⟨a, vs, rfl, h1, t1⟩ := h.lst c
    rename_i xs'
    split at g
    · rename_i zs hz
      obtain ⟨hl, rfl⟩ := guard_some g
      have e := strs_rep t1 hz
      subst e
      refine cr_sortedS pins s σ H _ us Q I rv ⟨a, zs.map sOf, rfl, SqL.of h1, by simpa using hl, fun ys p hp hs np => ?_⟩
      have e2 : (ys.map fun y => y.cps.toList) = zs.mergeSort leZ := by
        refine List.Perm.eq_of_pairwise (le := fun a b => leZ a b = true) (fun a b _ _ h1 h2 => leZ_anti h1 h2) (sortedS_pw hs) (List.pairwise_mergeSort leZ_trans leZ_total zs) ?_
        refine List.Perm.trans ?_ (List.mergeSort_perm zs leZ).symm
        have := hp.map fun y : Str => y.cps.toList
        simpa [List.map_map, Function.comp_def] using this
      have e3 : ys = (zs.mergeSort leZ).map sOf := by
        rw [← e2, List.map_map]
        have : (sOf ∘ fun y : Str => y.cps.toList) = id := by funext y; exact of_sOf y
        rw [this, List.map_id]
      rw [e3]
      refine Post.new c ?_ k p np
      clear e3 e2 hp hs k
      induction zs.mergeSort leZ with
      | nil => exact .nil
      | cons z l ih => exact .cons (.str z) ih
    · obtain ⟨hc, rfl⟩ := guard_some g
      simp only [Bool.and_eq_true, List.all_eq_true, decide_eq_true_eq] at hc
      obtain ⟨⟨ha, hnd⟩, hlen⟩ := hc
      obtain ⟨its, rv2, hl, hz⟩ := I.list (SqL.of h1)
      rw [Vals.ref1 rv]
      have t1' : RepL (kx X M) H ρ vs xs' := t1.mono c.same fun _ _ z => z
      let key : Value → List Nat := fun v => Classical.epsilon fun z => HT s.heap v z
      have hkey : ∀ {v : Value} {z : List Nat}, HT s.heap v z → key v = z := fun {v z} h => HT.uniq (Classical.epsilon_spec (p := fun z => HT s.heap v z) ⟨z, h⟩) h
      have hk : ∀ {d : D} {v : V} {u : Value}, Rep (kx X M) H ρ v d → RelV v u → (headOf d).isSome = true → key u = headD d := fun r q h => hkey (rep_head I r q h)
      have hm : its.map key = xs'.map headD := heads_of (h := s.heap) hk t1' rv2 ha
      have inj : ∀ v ∈ its, ∀ u ∈ its, key v = key u → v = u := fun v hv u hu e => inj_of_nodup (by rw [hm]; exact hnd) hv hu e
      have hht : ∀ v ∈ its, HT s.heap v (key v) := by
        have aux : ∀ {ds : List D} {vs : List V} {us : List Value}, RepL (kx X M) H ρ vs ds → Vals vs us → (∀ d ∈ ds, (headOf d).isSome = true) → ∀ v ∈ us, HT s.heap v (key v) := by
          intro ds vs us t q
          induction q generalizing ds with
          | nil => intro _ v hv; simp at hv
          | cons q qs ih =>
            intro ha v hv
            cases t with
            | cons r t =>
              rcases List.mem_cons.mp hv with rfl | hv
              · have := rep_head I r q (ha _ (by simp))
                rw [hkey this]; exact this
              · exact ih t (fun d hd => ha d (by simp [hd])) v hv
        exact aux t1' rv2 ha
      refine SrtO.sorted_ord (ltZ_swo key) hl.isList (by rw [← rv2.length]; exact hz) (fun h2 h₁ b hb kk => ?_) fun out hs hb => ?_
      · refine ht_sortable (s := { s with heap := h₁ }) (by omega) (fun v hm => (hht v hm).keeps fun b o e _ => (kk b o e).2) inj fun o e => ?_
        have e' : some o = some (PyProof.Rows.seqObj "list" its.toArray 0) := e.symm.trans hb
        cases e'
        intro c
        exact absurd (Value.type.inj c) (by decide)
      · obtain ⟨ep, he'⟩ := PyProof.Rows.sortedAll_at s.heap its out.toArray
        obtain ⟨vs', p1, q1⟩ := paired_perm hb.perm rv2
        obtain ⟨es, p2, q2⟩ := repL_perm p1 t1
        have q2' : RepL (kx X M) H ρ vs' es := q2.mono c.same fun _ _ z => z
        have hes : ∀ d ∈ es, (headOf d).isSome = true := fun d hd => ha d (p2.mem_iff.mp hd)
        have hm2 : out.map key = es.map headD := heads_of (h := s.heap) hk q2' q1 hes
        have hpw : es.Pairwise (fun a b => leH a b = true) := by
          have h1 : (out.map key).Pairwise (fun a b => leZ a b = true) := by
            rw [List.pairwise_map]
            refine hs.imp fun {a b} h => ?_
            have h' : decide (key b < key a) = false := h
            simp only [leZ, h', Bool.not_false]
          rw [hm2, List.pairwise_map] at h1
          exact h1
        have e : es = xs'.mergeSort leH := by
          refine List.Perm.eq_of_pairwise (le := fun a b => leH a b = true) (fun a b ma mb h1 h2 => ?_) hpw (List.pairwise_mergeSort (le := leH) (fun a b c => leZ_trans (headD a) (headD b) (headD c)) (fun a b => leZ_total (headD a) (headD b)) xs') (p2.trans (List.mergeSort_perm xs' leH).symm)
          exact inj_of_nodup hnd (p2.mem_iff.mp ma) ((List.mergeSort_perm xs' leH).mem_iff.mp mb) (leZ_anti h1 h2)
        have hlen2 : vs'.length ≤ sizeLine := by rw [p1.length_eq]; exact hz
        rw [← e] at k
        exact ⟨.ref _, upd H (s.heap.objs.size + 1) (.lst vs'), I.laid (t' := s.toks) (fun _ _ => PyProof.Rows.sortedAll_old) (Nat.le_succ _) ⟨hlen2, out, ep, q1, he'⟩, rfl, Post.new c q2 k _ (I.hok.fresh (Nat.le_succ _))⟩
  · cases g
end
end DL
namespace DLX
open PySem PySem.Spec PyProof.Rows HT PySem.SeqAt PySem.AutoSeq1 PySem.MeetsSeq PySem.MeetsSeq2 PySem.MeetsSeq3
section
variable {prog : Program} {w : World} {A : Around} {E : Value → Shared → Prop} {s : Shared}
theorem adjust_rev (n : Nat) : Builtin.Slice.sliceAdjust none none (-1) (n : Int) = ((n : Int) - 1, -1) := by
  unfold Builtin.Slice.sliceAdjust
  first | rfl | simp
theorem places_rev (n : Nat) : Builtin.Slice.slicePlaces ((n : Int) - 1) (-1) (-1) = n := by
  unfold Builtin.Slice.slicePlaces
  have h1 : ¬ ((-1 : Int) > 0) := by omega
  simp only [h1, if_false]
  have e : ((n : Int) - 1 - -1 - 1) / - -1 = (n : Int) - 1 := by rw [show (- -1 : Int) = 1 from rfl, Int.ediv_one]; omega
  rw [e]
  split <;> omega
theorem applied_rev {sl : Addr} {vl vu vs : Value} {n : Nat} {Q : Int × Int × Nat → Shared → Prop} (hs : s.heap.IsSliceOf sl vl vu vs) (pl : IsPart vl none) (pu : IsPart vu none) (ps : IsPart vs (some (-1)))
    (h : Q ((n : Int) - 1, -1, n) s) : wpAny (model prog w) A (Builtin.Slice.sliceApplied (.ref sl) (pure (n : Int))) Q E s := by
  obtain ⟨os, hos, hcs, hds⟩ := id hs
  unfold Builtin.Slice.sliceApplied Builtin.Slice.sliceFields
  refine wpAny_bind (wpAny_bind (wpAny_field hos hds (x := vl) rfl (wpAny_bind (wpAny_field hos hds (x := vu) rfl (wpAny_bind (wpAny_field hos hds (x := vs) rfl (wpAny_pure ?_)))))))
  refine wpAny_bind (slicePart_ ps ?_)
  show wpAny _ _ (if ((-1 : Int) == 0) = true then _ else _) _ _ s
  rw [if_neg (by decide)]
  refine wpAny_bind (slicePart_ pl (wpAny_bind (slicePart_ pu (wpAny_bind (wpAny_pure ?_)))))
  show wpAny _ _ (match Builtin.Slice.sliceAdjust none none (-1) (n : Int) with | (lo, hi) => pure (lo, (-1 : Int), Builtin.Slice.slicePlaces lo hi (-1))) _ _ s
  rw [adjust_rev n]
  show wpAny _ _ (pure ((n : Int) - 1, (-1 : Int), Builtin.Slice.slicePlaces ((n : Int) - 1) (-1) (-1))) _ _ s
  rw [places_rev]
  exact wpAny_pure h
theorem pick_rev (xs : Array Value) : ((List.range xs.size).filterMap fun (m : Nat) => xs[((xs.size : Int) - 1 + (m : Int) * (-1)).toNat]?).toArray = xs.toList.reverse.toArray := by
  have e : (fun (m : Nat) => xs[((xs.size : Int) - 1 + (m : Int) * (-1)).toNat]?) = fun m => xs[(xs.size - 1 - m)]? := by
    funext m
    have : ((xs.size : Int) - 1 + (m : Int) * (-1)).toNat = xs.size - 1 - m := by omega
    rw [this]
  rw [e]
  have e2 : (List.range xs.size).filterMap (fun m => xs[(xs.size - 1 - m)]?) = ((List.range xs.size).map fun k => xs.size - 1 - k).filterMap (xs[·]?) := by rw [List.filterMap_map]; rfl
  rw [e2, PySem.W.krv_range, List.filterMap_reverse, PySem.W.krv_all]
theorem getItem_tuple_rev {t sl : Addr} {items : Array Value} {vl vu vs : Value} {Q : Value → Shared → Prop} (ht : IsTup s.heap t items) (hs : s.heap.IsSliceOf sl vl vu vs) (pl : IsPart vl none) (pu : IsPart vu none) (ps : IsPart vs (some (-1)))
    (h : Q (.ref s.heap.objs.size) { s with heap := s.heap.push { cls := .type "tuple", data := .seq items.toList.reverse.toArray } })
    (hsz : items.size ≤ sizeLine) : wpAny (model prog w) A (getItem (.ref t) (.ref sl)) Q E s := by
  have htake : sizeOk (.seq items.toList.reverse.toArray) := by
    show items.toList.reverse.toArray.size ≤ sizeLine
    simpa using hsz
  obtain ⟨os, hos, hcs, hds⟩ := id hs
  have hTs : s.TypeIs (.ref sl) "slice" := ⟨os, hos, hcs⟩
  unfold getItem
  try with_reducible refine wpAny_holding ?_
  first | refine wpAny_bind (wpAny_pure ?_) | skip
  refine wpAny_bind (wpAny_sequenceKey ht.typeIs (by decide) ?_)
  refine wpAny_bind (wpAny_callSpecial?_slot (name := Str.ofString "__getitem__") ht.typeIs PyProof.Rows.slot_tuple_getitem
    (wpAny_call_entry PyProof.Rows.slot_tuple_getitem ht.typeIs entry_tuple_getitem ?_ (args_tuple_getitem _ _)))
  show wpAny _ _ (Builtin.Tuple.tupleItemsOf (.ref t) >>= _) _ _ s
  refine wpAny_bind (tupleItemsOf_ ht ?_)
  refine wpAny_bind (wpAny_typeOf hTs ?_)
  rw [if_pos (by decide)]
  refine wpAny_bind (applied_rev hs pl pu ps ?_)
  have hno : ¬ (((((items.size : Int) - 1) == 0 && (-1 : Int) == 1 && items.size == items.size)) = true) := by
    simp
  show wpAny _ _ (if (((items.size : Int) - 1) == 0 && (-1 : Int) == 1 && items.size == items.size) = true then _ else _) _ _ s
  rw [if_neg hno, pick_rev]
  first
    | exact wpAny_bind (m := Builtin.Tuple.tupleExact _) (wpAny_newObj_type (wpAny_pure ⟨_, rfl, wpAny_pure h⟩) htake)
    | exact wpAny_bind (m := Builtin.Tuple.tupleExact _) (wpAny_newObj_type (wpAny_bind (wpAny_pure (wpAny_pure ⟨_, rfl, wpAny_pure h⟩))) htake)
    | exact wpAny_bind (wpAny_bind (m := Builtin.Tuple.tupleExact _) (wpAny_newObj_type (wpAny_pure (wpAny_pure ⟨_, rfl, wpAny_pure h⟩)) htake))
    | exact wpAny_bind (wpAny_bind (m := Builtin.Tuple.tupleExact _) (wpAny_newObj_type (wpAny_pure ⟨_, rfl, wpAny_pure h⟩) htake))
end
end DLX
namespace DL
open PySem PySem.Spec L2 SeqAt
section
variable {X : Cx} {M : Mp} {W : WX}
def tRevD (K : Kx) (te : TE) : TE := fun σ H Q => te σ H fun x H1 => (∃ t xs, x = .ref t ∧ SqT K.K H1 t xs ∧ ∀ (p : Addr) (o : Obj), H1 p = none → o.dict = none → Q (.ref p) (upd H1 p (.frz o (.tup xs.reverse)))) ∨ (∃ z : List Nat, x = .str (sOf z) ∧ z.length ≤ sizeLine ∧ Q (.str (sOf z.reverse)) H1)
theorem pe_revD {e : Expr} {te : TE} {k : Nat} {p1 p2 p3 pos : Pos} (he : PE X e te) : PE X (.Subscript e (.Slice none none (some (.UnaryOp .USub (.Constant (.int 1) k p1) p2)) p3) pos) (tRevD (kx X M) te) := by
  refine ⟨fun pins s σ H Q I h => ?_⟩
  refine PyProof.Rows.Subscript_ (thn (he.run pins s σ H _ I h) fun v s1 ⟨x, H1, I1, r1, q1⟩ => ?_)
  have hst : PO X (some (.UnaryOp .USub (.Constant (.int 1) k p1) p2)) (tPart (tUn (rU fun i => .int (-i)) (tC (.int 1)))) := po_some (pe_un un_neg pe_int)
  refine wpAny_Slice (thn (po_none.run pins s1 σ H1 (fun o H2 => o = none ∧ H2 = H1) I1 ⟨rfl, rfl⟩) fun vl s2 ⟨l, H2, I2, pl, el, e2⟩ => ?_)
  subst el e2
  refine thn (po_none.run pins s2 σ H2 (fun o H3 => o = none ∧ H3 = H2) I2 ⟨rfl, rfl⟩) fun vu s3 ⟨u, H3, I3, pu, eu, e3⟩ => ?_
  subst eu e3
  refine thn (hst.run pins s3 σ H3 (fun o H4 => o = some (-1) ∧ H4 = H3) I3 ⟨1, rfl, -1, rfl, rfl, rfl⟩) fun vs s4 ⟨o, H4, I4, ps, eo, e4⟩ => ?_
  subst eo e4
  have I5 : Inv X pins σ H4 { s4 with heap := s4.heap.push { cls := .type "slice", data := .fields #[vl, vu, vs] } } := I4.kept (t' := s4.toks) fun b ob q => Heap.get?_push_of_some _ q
  rcases q1 with ⟨a, xs, ex, hx, q⟩ | ⟨z, ex, hz, q⟩
  · subst ex
    cases r1
    obtain ⟨its, r, ht, hz⟩ := I5.tuple hx
    have hlen := r.length
    show wpAny (model X.prog X.w) X.A (PyProof.Rows.subscriptTail e (.Slice none none (some (.UnaryOp .USub (.Constant (.int 1) k p1) p2)) p3) (.ref a) (.ref s4.heap.objs.size)) (EP X pins σ Q) X.xe { s4 with heap := s4.heap.push { cls := .type "slice", data := .fields #[vl, vu, vs] } }
    refine PyProof.Rows.tail_any (ops := [.ref a, .ref s4.heap.objs.size]) ht.typeIs (PyProof.Rows.slot_tuple_getitem.lookup) ?_ (by with_unfolding_all rfl)
    refine DLX.getItem_tuple_rev ht (Heap.IsSliceOf.new _ vl vu vs) pl pu ps ?_ (by rw [List.size_toArray]; omega)
    exact ⟨.ref _, _, I5.laid (t' := s4.toks) (o := .frz _ (.tup xs.reverse)) (fun b ob q => Heap.get?_push_of_some _ q) (Nat.le_refl _) ⟨Heap.get?_push_size _ rfl, by rw [List.length_reverse]; exact hz, _, r.reverse, PyProof.Rows.IsTup.new _ _⟩, rfl, q _ _ (I5.hok.fresh (Nat.le_refl _)) rfl⟩
  · subst ex
    obtain ⟨t, rfl⟩ := r1
    obtain ⟨ll, e1, e2⟩ := IsPart.raw pl
    obtain ⟨lu, e3, e4⟩ := IsPart.raw pu
    obtain ⟨ls, e5, e6⟩ := IsPart.raw ps
    subst e1 e3 e5
    show wpAny (model X.prog X.w) X.A (PyProof.Rows.subscriptTail e (.Slice none none (some (.UnaryOp .USub (.Constant (.int 1) k p1) p2)) p3) (.str (sOf z) t) (.ref s4.heap.objs.size)) (EP X pins σ Q) X.xe { s4 with heap := s4.heap.push { cls := .type "slice", data := .fields #[partValue ll, partValue lu, partValue ls] } }
    refine PyProof.Rows.tail_any (ops := [.str (sOf z) t, .ref s4.heap.objs.size]) (typeIs_str _ _ _) (F.slot_str_getitem.lookup) ?_ (by with_unfolding_all rfl)
    refine wpAny_getItem_str_slice (l := ll) (u := lu) (st := ls) ⟨_, Heap.get?_push_size _ rfl, rfl, rfl⟩ (by rw [e6]; rfl) ?_
    unfold sliceMade slicePicked
    rw [e2, e4, e6]
    show Made.post (if ((-1 : Int) == 1 && _) = true then _ else Made.str ⟨((Builtin.Str.strSliceIndices none none (-1) (sOf z).length).filterMap ((sOf z).cps[·]?)).toArray⟩) _ _
    rw [if_neg (by simp), PyProof.Rows.picked_rev]
    have e7 : ((List.range (sOf z).length).map fun k => (sOf z).length - 1 - k).filterMap ((sOf z).cps[·]?) = z.reverse := by
      show ((List.range (sOf z).cps.size).map fun k => (sOf z).cps.size - 1 - k).filterMap ((sOf z).cps[·]?) = z.reverse
      rw [PySem.W.krv_range, List.filterMap_reverse, PySem.W.krv_all]
    rw [e7]
    exact ⟨by show z.reverse.toArray.size ≤ sizeLine; simpa using hz, .str _, H4, I5.tok _, ⟨_, rfl⟩, q⟩
end
end DL
namespace DL
open PySem PySem.Spec L2 SeqAt
section
variable {X : Cx} {M : Mp} {W : WX} {e e1 e2 : Expr} {fa fb fc : Ev D} {pos apos cpos p1 p2 p3 : Pos} {k : Nat}
def dRev : D → Option Rv
  | .tup xs => some (.v (.tup xs.reverse))
  | .str z => if z.length ≤ sizeLine then some (.v (.str z.reverse)) else none
  | _ => none
def dRevL : D → Option Rv
  | .lst xs => some (.o (.lst xs.reverse))
  | _ => none
theorem dr_rev (ha : DO X M W e fa) : DR X M W (.Subscript e (.Slice none none (some (.UnaryOp .USub (.Constant (.int 1) k p1) p2)) p3) pos) (eUn dRev fa) := PE.imp (pe_revD (M := M) ha) fun σ H Q ⟨B, ρ, γ, S, E', Q', at_, h, kk⟩ =>
  ⟨B, ρ, γ, S, E', _, at_, h, fun x S1 h1 v H1 B1 ρ1 x1 c1 r1 => by
    obtain ⟨r, q3, h2⟩ := optW_ok h1
    have r1 := r1.o c1
    unfold dRev at q3
    split at q3
    · rename_i xs hx
      rw [hx] at r1
      cases q3
      obtain ⟨a, vs, rfl, h1, t1⟩ := r1.tup
      refine .inl ⟨a, vs, rfl, sqT_mono c1.same h1, fun p o np ho => ?_⟩
      obtain ⟨c4, x4⟩ := c1.lay (o := .frz o (.tup vs.reverse)) np
      exact kk _ S1 h2 (.ref p) _ _ _ (x1.tr x4) c4 (.tup (.new ho) (t1.ext x4).reverse)
    · rename_i z hx
      rw [hx] at r1
      obtain ⟨hz, rfl⟩ := guard_some q3
      have hv := r1.str
      subst hv
      exact .inr ⟨_, rfl, hz, kk _ S1 h2 _ H1 B1 ρ1 x1 c1 (.str _)⟩
    · cases q3⟩
theorem dr_revL (ha : DO X M W e fa) : DR X M W (.Subscript e (.Slice none none (some (.UnaryOp .USub (.Constant (.int 1) k p1) p2)) p3) pos) (eUn dRevL fa) := PE.imp (pe_revL ha) fun σ H Q ⟨B, ρ, γ, S, E', Q', at_, h, kk⟩ =>
  ⟨B, ρ, γ, S, E', _, at_, h, fun x S1 h1 v H1 B1 ρ1 x1 c1 r1 => by
    obtain ⟨r, q3, h2⟩ := optW_ok h1
    have r1 := r1.o c1
    unfold dRevL at q3
    split at q3
    · rename_i xs hx
      rw [hx] at r1
      cases q3
      obtain ⟨a, vs, rfl, h1, t1⟩ := r1.lst c1
      exact ⟨a, vs, rfl, SqL.of h1, Post.new c1 t1.reverse ((kk _ S1 h2).from x1)⟩
    · cases q3⟩
def kTxt (g : List Nat → Option Rv) (Q : Rv → Sto → Prop) (x : D) (S : Sto) : Prop := ∃ a, x = .str a ∧ optW (g a) S Q
def gUpper (z : List Nat) : Option Rv := if z.length ≤ 5592405 then some (.v (.str (Txt.upper (sOf z)).cps.toList)) else none
def eTxt (g : List Nat → Option Rv) (fa : Ev D) : Ev Rv := fun γ S E Q => fa γ S E (kTxt g Q)
theorem dr_upper (ha : DO X M W e fa) (hbase : attributeBase e "upper" X.env (eval e X.env) = eval e X.env) (hline : (apos.endLine == pos.line) = true) : DR X M W (.Call (.Attribute e "upper" apos) [] [] pos) (eTxt gUpper fa) := PE.imp (pe_upper ha hbase hline) fun σ H Q ⟨B, ρ, γ, S, E', Q', at_, h, kk⟩ =>
  ⟨B, ρ, γ, S, E', _, at_, h, fun x S1 h1 v H1 B1 ρ1 x1 c1 r1 => by
    obtain ⟨a, rfl, h1⟩ := h1
    obtain ⟨r, q3, h2⟩ := optW_ok h1
    obtain ⟨hz, rfl⟩ := guard_some q3
    have hv := (r1.o c1).str
    subst hv
    exact ⟨⟨_, rfl⟩, _, rfl, rfl, by simpa [Str.length] using hz, kk _ S1 h2 _ H1 B1 ρ1 x1 c1 (rep_strOf _)⟩⟩
end
end DL
namespace DL
open PySem PySem.Spec PyProof.Rows L2 SeqAt
def dnL (zs : List (List Nat)) : Nat := dnS (zs.map sOf) zs.length
def gLset (d : D) : Option D := match d with
  | .lst xs => (strsOf xs).bind fun zs => if zs.length < 4000 then some (.int (dnL zs)) else none
  | _ => none
def tLsetD (K : Kx) (te : TE) : TE := fun σ H Q => te σ H fun x H1 => ∃ (l : Addr) (zs : List (List Nat)), x = .ref l ∧ SqL K.K H1 l ((zs.map sOf).map V.str) ∧ zs.length < 4000 ∧ Q (.int (dnL zs)) H1
section
variable {X : Cx} {M : Mp} {W : WX}
theorem pe_lset {a : Expr} {ta : TE} {p p2 q pos : Pos} (hc : X.calm = true) (g1 : Gl X "len") (m1 : X.mg "len" = none) (g2 : Gl X "set") (m2 : X.mg "set" = none) (ha : PE X a ta) (na : starEach [a] X.env = (false, eval a X.env) :: starEach [] X.env) :
    PE X (.Call (.Name "len" p) [.Call (.Name "set" p2) [a] [] q] [] pos) (tLsetD (kx X M) ta) := by
  refine ⟨fun pins s σ H Q I h => ?_⟩
  refine Call_ (ld_blt I g1 m1 boot_len (PyProof.Rows.callWith_builtin1 (PyProof.Rows.args_cons (Call_ (ld_blt I g2 m2 boot_set ?_)) rfl) rfl rfl))
  refine PyProof.Rows.callWith_type1 (PyProof.Rows.args_cons (thn (ha.run pins s σ H _ I h) fun v s1 ⟨x, H1, I1, r1, q1⟩ => PyProof.Rows.args_nil ?_) na) na rfl
  obtain ⟨l, zs, rfl, hq, hl, q1⟩ := q1
  cases r1
  obtain ⟨its, r, pl, hz⟩ := I1.list hq
  have sz : its.toArray.size = zs.length := by rw [List.size_toArray, ← r.length, List.length_map, List.length_map]
  refine set_of_list (I1.ok.hd hc) pl.isList (xs := zs.map sOf) (by simpa using L2.strsAre_of r) (by simpa using hl) fun h' tk hS hk => PyProof.Rows.args_nil ?_
  rw [sz] at hS
  obtain ⟨o, es, ep, t, ho, hex, hd, _, _, _, hf, hn⟩ := hS
  have I2 : Inv X pins σ H1 { s1 with heap := h', toks := tk } := I1.kept fun b o e => hk b o (Heap.lt_size e) e
  have le := dnS_le (zs.map sOf) zs.length
  exact call_len_set ho hex hd hf (by rw [hn]; omega) ⟨.int (dnL zs), H1, I2.tok _, ⟨_, by rw [hn]; rfl⟩, q1⟩
theorem dr_lset {e : Expr} {fa : Ev D} {p p2 q pos : Pos} (hc : X.calm = true) (g1 : Gl X "len") (m1 : X.mg "len" = none) (g2 : Gl X "set") (m2 : X.mg "set" = none) (ha : DO X M W e fa) (na : starEach [e] X.env = (false, eval e X.env) :: starEach [] X.env) :
    DR X M W (.Call (.Name "len" p) [.Call (.Name "set" p2) [e] [] q] [] pos) (eUn (vu gLset) fa) := PE.imp (pe_lset (M := M) hc g1 m1 g2 m2 ha na) fun σ H Q ⟨B, ρ, γ, S, E', Q', at_, h, k⟩ =>
  ⟨B, ρ, γ, S, E', _, at_, h, fun x S1 h1 v H1 B1 ρ1 x1 c1 r1 => by
    obtain ⟨r, e, h2⟩ := optW_ok h1
    unfold vu gLset at e
    split at e
    · rename_i xs hx
      rw [Option.map_eq_some_iff] at e
      obtain ⟨d, e, rfl⟩ := e
      rw [Option.bind_eq_some_iff] at e
      obtain ⟨zs, e1, e2⟩ := e
      split at e2
      · rename_i hl
        cases e2
        have r2 := r1.o c1
        rw [hx] at r2
        obtain ⟨pa, vs, rfl, q1, t1⟩ := r2.lst c1
        rw [strs_rep t1 e1] at q1
        exact ⟨pa, zs, rfl, SqL.of q1, hl, k _ S1 h2 _ H1 B1 ρ1 x1 c1 (.int _)⟩
      · cases e2
    · simp at e⟩
end
def seqOf : D → Option (List D)
  | .lst xs => some xs | .tup xs => some xs | _ => none
def popI (xs : List D) (i : Int) : Option (D × Cell) := (ixN xs.length i).bind fun k => (xs[k]?).map fun y => (y, .lst (xs.eraseIdx k))
def gMt (k : Nat) (S : Sto) (c : Cell) (ds : List D) : Option (D × Cell) := match k, c, ds with
  | 0, .lst xs, [d] => if xs.length < sizeLine then some (.non, .lst (xs ++ [d])) else none
  | 1, .lst xs, [d] => (seqOf (dr S d)).bind fun ys => if xs.length + ys.length ≤ sizeLine then some (.non, .lst (xs ++ ys)) else none
  | 2, .lst xs, [] => (xs[xs.length - 1]?).map fun y => (y, .lst xs.dropLast)
  | 3, .lst xs, [.int i] => if xs.length ≤ sizeLine then popI xs i else none
  | 4, .lst xs, [] => some (.non, .lst xs.reverse)
  | 5, .lst _, [] => some (.non, .lst [])
  | 6, .lst xs, [.int i, d] => if xs.length < sizeLine ∧ 0 ≤ i ∧ i < 2 ^ 63 then some (.non, .lst (xs.take i.toNat ++ [d] ++ xs.drop i.toNat)) else none
  | _, _, _ => none
def mtN : Nat → Str
  | 0 => "append" | 1 => "extend" | 2 => "pop" | 3 => "pop" | 4 => "reverse" | 5 => "clear" | 6 => "insert" | _ => ""
def mtI : Nat → String
  | 0 => "list.append" | 1 => "list.extend" | 2 => "list.pop" | 3 => "list.pop" | 4 => "list.reverse" | 5 => "list.clear" | 6 => "list.insert" | _ => ""
def rMt (K : Kx) (k : Nat) : V → List V → Hp → VK → Prop := fun x vs H Q => ∃ a o B ρ S N c ds d c', x = .ref a ∧ H a = some o ∧ Cells K B ρ H S ∧ RepC K B ρ N a o c ∧ RepL K B ρ vs ds ∧ gMt k S c ds = some (d, c') ∧
  ∀ v o', Rep K B ρ v d → RepC K B ρ N a o' c' → Q v (upd H a o')
theorem RepL.dropLast {K : Kx} {B : Hp} {ρ : List Addr} : ∀ {vs : List V} {ds : List D}, RepL K B ρ vs ds → RepL K B ρ vs.dropLast ds.dropLast
  | _, _, .nil => .nil
  | _, _, .cons _ .nil => .nil
  | _, _, .cons h (.cons h2 t) => .cons h (RepL.dropLast (.cons h2 t))
theorem RepL.one {K : Kx} {B : Hp} {ρ : List Addr} {vs : List V} {d : D} (h : RepL K B ρ vs [d]) : ∃ v, vs = [v] ∧ Rep K B ρ v d := by
  cases h with | cons h t => cases t; exact ⟨_, rfl, h⟩
theorem RepL.two {K : Kx} {B : Hp} {ρ : List Addr} {vs : List V} {d e : D} (h : RepL K B ρ vs [d, e]) : ∃ v u, vs = [v, u] ∧ Rep K B ρ v d ∧ Rep K B ρ u e := by
  cases h with | cons h t => obtain ⟨u, rfl, h2⟩ := RepL.one t; exact ⟨_, _, rfl, h, h2⟩
theorem ext_tup (l : Addr) (xs : Array Value) (n : Nat) (b : Addr) (ys : Array Value) (m : Nat) (dd : Option Addr) (sl : Array (Option Value)) (h0 : ¬(!xs.isEmpty && Builtin.List.listTooLong (xs.size + ys.size)) = true) (h1 : xs.size ≤ sizeLine) (h2 : xs.size + ys.size ≤ sizeLine + 1) :
    Meets (Builtin.«list.extend» ⟨[.ref l, .ref b], []⟩) (fun _ R s => s.heap.get? l = some { cls := .type "list", dict := none, data := .seq xs n, slots := #[] } ∧ s.heap.get? b = some ⟨.type "tuple", dd, .seq ys m, sl⟩ ∧ R (.ok (.ret Value.none)) { s with heap := s.heap.update l (Obj.mapSeq fun x => x ++ ys), toks := s.toks }) :=
  .of_wp fun prog w A R s h => by
    obtain ⟨hp, g, d, tk, os⟩ := s; obtain ⟨hl, hb, h⟩ := h; have f2 := sub_tuple_tuple; have f3 := sub_list_list; have f4 := sub_tuple_list; have f5 := sub_list_tuple
    have hz' : (xs ++ ys).size ≤ sizeLine + 1 := by rw [Array.size_append]; exact h2
    wp_walk using (wpAny_updateSeq hl rfl (hz := h1) (_hz' := hz')), wpAny_loadPart' hl, wpAny_loadPart' hb
    exact ⟨_, rfl, h⟩
section
variable {X : Cx} {M : Mp} {W : WX}
theorem mt_extendT : MtM X "list.extend" (fun x vs H Q => ∃ l b xs zs, x = .ref l ∧ vs = [.ref b] ∧ H l = some (.lst xs) ∧ SqT X.K H b zs ∧ xs.length + zs.length ≤ sizeLine ∧ Q .non (upd H l (.lst (xs ++ zs)))) := by
  intro pins s σ H x vs v us Q I rx rv h
  obtain ⟨l, b, xs, zs, rfl, rfl, hH, hB, hz, q⟩ := h
  cases rx
  obtain ⟨u, rfl, ru⟩ := rv.one
  cases ru
  obtain ⟨z, its, n, r, hl, e⟩ := I.lstM hH
  obtain ⟨its2, r2, p2, hz2⟩ := I.tuple hB
  obtain ⟨dd2, n2, sl2, e2⟩ := tup_obj p2
  have hsz : its.toArray.size + its2.toArray.size ≤ sizeLine := by rw [List.size_toArray, List.size_toArray, ← hl, ← r2.length]; exact hz
  have nl : ¬ (!its.toArray.isEmpty && Builtin.List.listTooLong (its.toArray.size + its2.toArray.size)) = true := by rw [notLongL hsz, Bool.and_false]; exact Bool.false_ne_true
  refine call_meets F.slot_list_extend ⟨_, e, rfl⟩ F.entry_list_extend (F.args_list_extend_2 _ _) (ext_tup l its.toArray n b its2.toArray n2 dd2 sl2 nl (by rw [List.size_toArray]; omega) (by omega)) ⟨e, e2, ?_⟩
  exact ⟨.non, _, I.lset (its' := its ++ its2) hH e (by simp) (r.append r2) (by rw [List.length_append]; exact hz), rfl, q⟩
theorem mt_all {k : Nat} (hk : k < 7) : MtM X (mtI k) (rMt (kx X M) k) := by
  intro pins s σ H x vs v us Q I rx rv h
  obtain ⟨a, o, B, ρ, S, N, c, ds, d, c', rfl, ha, cc, rc, rl, g, q⟩ := h
  unfold gMt at g
  split at g
  · rename_i xs d0
    split at g
    · rename_i hz
      cases g
      cases rc with
      | lst rc =>
        obtain ⟨y, rfl, ry⟩ := rl.one
        exact mt_append pins s σ H _ _ v us Q I rx rv ⟨a, _, y, rfl, rfl, ha, by rw [rc.length]; exact hz, q _ _ .non (.lst (rc.append (.cons ry .nil)))⟩
    · cases g
  · rename_i xs d0
    rw [Option.bind_eq_some_iff] at g
    obtain ⟨ys, e1, g⟩ := g
    split at g
    · rename_i hz
      cases g
      cases rc with
      | lst rc =>
        obtain ⟨y, rfl, ry⟩ := rl.one
        have ro := RepS.o cc (.inl ry)
        unfold seqOf at e1
        split at e1
        · rename_i zs hd
          cases e1
          rw [hd] at ro
          obtain ⟨b, us2, rfl, hb, tb⟩ := ro.lst cc
          exact mt_extend pins s σ H _ _ v us Q I rx rv ⟨a, b, _, us2, rfl, rfl, ha, hb, by rw [rc.length, tb.length]; exact hz, q _ _ .non (.lst (rc.append tb))⟩
        · rename_i zs hd
          cases e1
          rw [hd] at ro
          obtain ⟨b, us2, rfl, hb, tb⟩ := ro.tup
          exact mt_extendT pins s σ H _ _ v us Q I rx rv ⟨a, b, _, us2, rfl, rfl, ha, sqT_mono cc.same hb, by rw [rc.length, tb.length]; exact hz, q _ _ .non (.lst (rc.append tb))⟩
        · cases e1
    · cases g
  · rename_i xs
    rw [Option.map_eq_some_iff] at g
    obtain ⟨y, e1, g⟩ := g
    cases g
    cases rc with
    | lst rc =>
      cases rl
      obtain ⟨u, e2, ru⟩ := rc.get e1
      rw [← rc.length] at e2
      exact mt_pop pins s σ H _ _ v us Q I rx rv ⟨a, _, u, rfl, rfl, ha, e2, q _ _ ru (.lst rc.dropLast)⟩
  · rename_i xs i
    split at g
    · rename_i hz
      unfold popI at g
      rw [Option.bind_eq_some_iff] at g
      obtain ⟨j, e0, g⟩ := g
      rw [Option.map_eq_some_iff] at g
      obtain ⟨y, e1, g⟩ := g
      cases g
      cases rc with
      | lst rc =>
        obtain ⟨w, rfl, rw'⟩ := rl.one
        cases rw'
        obtain ⟨u, e2, ru⟩ := rc.get e1
        obtain ⟨s1, s2, s3, s4⟩ := ixN_seq e0
        have hz' : xs.length ≤ 2 ^ 40 := Nat.le_trans hz (by decide)
        exact mt_popAt pins s σ H _ _ v us Q I rx rv ⟨a, _, i, j, u, rfl, rfl, ha, by omega, by omega, by rw [rc.length]; exact s1, e2, q _ _ ru (.lst (rc.erase j))⟩
    · cases g
  · rename_i xs
    cases g
    cases rc with
    | lst rc =>
      cases rl
      exact mt_reverse pins s σ H _ _ v us Q I rx rv ⟨a, _, rfl, rfl, ha, q _ _ .non (.lst rc.reverse)⟩
  · rename_i xs
    cases g
    cases rc with
    | lst rc =>
      cases rl
      exact mt_clear pins s σ H _ _ v us Q I rx rv ⟨a, _, rfl, rfl, ha, q _ _ .non (.lst .nil)⟩
  · rename_i xs i d0
    split at g
    · rename_i hz
      cases g
      cases rc with
      | lst rc =>
        obtain ⟨w, y, rfl, rw', ry⟩ := rl.two
        cases rw'
        exact mt_insert pins s σ H _ _ v us Q I rx rv ⟨a, _, i, y, rfl, rfl, ha, by rw [rc.length]; exact hz.1, hz.2.1, hz.2.2, q _ _ .non (.lst (((rc.take _).append (.cons ry .nil)).append (rc.drop _)))⟩
    · cases g
  · cases g
end
end DL
namespace DL
open PySem PySem.Spec PyProof.Rows L2 SeqAt
theorem mt_slot {k : Nat} (h : k < 7) : PySem.Slot "list" (mtN k) (mtI k) ∧ typeOf (.builtin (mtI k)) = pure (.type "method_descriptor") := by
  match k, h with
  | 0, _ => exact ⟨PySem.F.slot_list_append, PySem.F.type_list_append⟩
  | 1, _ => exact ⟨PySem.F.slot_list_extend, PySem.F.type_list_extend⟩
  | 2, _ => exact ⟨PySem.F.slot_list_pop, PySem.F.type_list_pop⟩
  | 3, _ => exact ⟨PySem.F.slot_list_pop, PySem.F.type_list_pop⟩
  | 4, _ => exact ⟨PySem.F.slot_list_reverse, PySem.F.type_list_reverse⟩
  | 5, _ => exact ⟨PySem.F.slot_list_clear, PySem.F.type_list_clear⟩
  | 6, _ => exact ⟨PySem.F.slot_list_insert, PySem.F.type_list_insert⟩
def isL (o : D) (S : Sto) : Prop := match o with | .ref n => (match S.cs[n]? with | some (.lst _) => True | _ => False) | _ => False
def kMR (k : Nat) (o : D) (ds : List D) (S : Sto) (Q : Rv → Sto → Prop) : Prop := match o with
  | .ref n => (match S.cs[n]? with | some c => optW (gMt k S c ds) S fun p S => Q (.v p.1) ⟨S.cs.set n p.2, S.n⟩ | none => False)
  | _ => False
def eMR (k : Nat) (fo : Ev D) (fs : Ev (List D)) : Ev Rv := fun γ S E Q => fo γ S E fun o S => isL o S ∧ fs γ S E fun ds S => kMR k o ds S Q
section
variable {X : Cx} {M : Mp} {W : WX} {o e : Expr} {es : List Expr} {fo : Ev D} {fs : Ev (List D)} {apos cpos pos : Pos} {k i : Nat}
theorem isL_ty {K : Kx} {B : Hp} {ρ : List Addr} {H : Hp} {S : Sto} {v : V} {d : D} (c : Cells K B ρ H S) (r : Rep K B ρ v d) (h : isL d S) : ∃ n a, d = .ref n ∧ v = .ref a ∧ ρ[n]? = some a ∧ tyV K.K "list" v H := by
  unfold isL at h
  split at h
  · rename_i n
    split at h
    · rename_i xs hn
      cases r with
      | ref hp =>
        obtain ⟨o, ho, rc⟩ := c.cell n _ _ hp hn
        cases rc with
        | lst rc => exact ⟨n, _, rfl, rfl, hp, .inl ⟨rfl, _, SqL.of ho⟩⟩
    · exact h.elim
  · exact h.elim
theorem mr_imp {K : Kx} : ∀ σ H Q, tR K W (eMR k fo fs) σ H Q → tBM K.K "list" (rMt K k) (tD K W fo) (tDA K W fs) σ H Q := fun σ H Q ⟨B, ρ, γ, S, E', Q', at_, h, kk⟩ =>
  ⟨B, ρ, γ, S, E', _, at_, h, fun od S1 h1 v H1 B1 ρ1 x1 c1 r1 => by
    obtain ⟨hl, h1⟩ := h1
    obtain ⟨n, a, rfl, rfl, hp, ty⟩ := isL_ty c1 r1 hl
    refine ⟨ty, B1, ρ1, γ, S1, E', _, at_.ext x1 c1, h1, fun ds S2 h2 vs H2 B2 ρ2 x2 c2 r2 => ?_⟩
    unfold kMR at h2
    split at h2
    · rename_i n' hn'
      cases hn'
      split at h2
      · rename_i c hc
        obtain ⟨⟨d, c'⟩, g, h3⟩ := optW_ok h2
        have hp2 := x2.rho n a hp
        obtain ⟨ho, e1, e2⟩ := c2.cell n a c hp2 hc
        refine ⟨a, ho, B2, ρ2, S2, S2.n, c, ds, d, c', rfl, e1, c2, e2, r2, g, fun v o' rv rc => ?_⟩
        obtain ⟨c3, x3⟩ := c2.change (Nat.le_refl _) hp2 rc
        exact kk _ _ h3 v _ B2 ρ2 ((x1.tr x2).tr x3) c3 rv
      · exact h2.elim
    · rename_i hno; exact (hno n rfl).elim⟩
theorem dr_mR (hk : k < 7) (ho : DE X M W o fo) (ha : DA X M W (e :: es) fs) (hbase : attributeBase o (mtN k) X.env (eval o X.env) = eval o X.env)
    (hfew : ((backTo cpos (starEach (e :: es) X.env)).all (fun x => !x.1) && (backToKw cpos (keywordEach [] X.env)).all (fun x => x.1.isSome) && decide ((e :: es).length + ([] : List Keyword).length + (if ([] : List Keyword).isEmpty then 0 else 1) < 30)) = true)
    (hline : (apos.endLine == cpos.line) = true) (hs : starEach (e :: es) X.env = (false, eval e X.env) :: starEach es X.env) (hpl : (backTo cpos (starEach es X.env)).any (·.1) = false) : DR X M W (.Call (.Attribute o (mtN k) apos) (e :: es) [] cpos) (eMR k fo fs) :=
  PE.imp (pe_bm PySem.F.plainAttrs_list (mt_slot hk).1 (mt_slot hk).2 (mt_all (M := M) hk) ho ha hbase hfew hline hs hpl) mr_imp
theorem dr_mR0 (hk : k < 7) (ho : DE X M W o fo) (hbase : attributeBase o (mtN k) X.env (eval o X.env) = eval o X.env) (hline : (apos.endLine == cpos.line) = true) : DR X M W (.Call (.Attribute o (mtN k) apos) [] [] cpos) (eMR k fo eNil) :=
  PE.imp (pe_bm0 PySem.F.plainAttrs_list (mt_slot hk).1 (mt_slot hk).2 (mt_all (M := M) hk) ho hbase hline) fun σ H Q h => by
    obtain ⟨B, ρ, γ, S, E', Q', at_, h, kk⟩ := mr_imp (fs := eNil) σ H Q h
    refine ⟨B, ρ, γ, S, E', Q', at_, h, fun d S1 h1 v H1 B1 ρ1 x1 c1 r1 => ?_⟩
    obtain ⟨ty, B2, ρ2, γ2, S2, E2, Q2, at2, h2, kk2⟩ := kk d S1 h1 v H1 B1 ρ1 x1 c1 r1
    exact ⟨ty, kk2 [] S2 h2 [] H1 B2 ρ2 (.refl _ _ _) at2.rel.cells .nil⟩
def kMO (k i : Nat) (o : Option Slot) (γ : List Slot) (κ : Kt) (ds : List D) (S : Sto) : Prop := match o with
  | some (.own c) => optW (gMt k S c ds) S fun p S => κ.nx (γ.set i (.own p.2)) S
  | _ => False
def xMO (k i : Nat) (fs : Ev (List D)) : Ex := fun γ S E κ => (∃ xs, γ[i]? = some (.own (.lst xs))) ∧ fs γ S E fun ds S => kMO k i γ[i]? γ κ ds S
theorem mo_imp {E : Ent} {K : Kx} : ∀ Dd σ H, tDS K W E (xMO k i fs) Dd σ H → tBM K.K "list" (rMt K k) (tVar i) (tDA K W fs) σ H (fun _ H' => Dd.nx σ H') := fun Dd σ H ⟨γ, S, E', κ, ⟨B, ρ, si⟩, ⟨⟨xs, hx⟩, h⟩, x, kk⟩ => by
  obtain ⟨a, o, h1, h2, h3, h4, h5⟩ := si.rel.slots.own i _ hx
  cases h3 with
  | lst h3 =>
    refine ⟨.ref a, h1, .inl ⟨rfl, _, SqL.of h2⟩, B, ρ, γ, S, E', _, si.at x, h, fun ds S1 q vs H1 B1 ρ1 x1 c1 r1 => ?_⟩
    unfold kMO at q
    rw [hx] at q
    obtain ⟨⟨d, c'⟩, g, q⟩ := optW_ok q
    obtain ⟨hp, nb, nr⟩ := x1.mine h2 h4 h5
    have s1 := si.step x1 c1
    exact ⟨a, _, B1, ρ1, S1, 0, _, ds, d, c', rfl, hp, c1, .lst (h3.ext x1), r1, g, fun v o' _ rc => kk.nx _ S1 q σ _ ⟨B1, ρ1, s1.grow hx h1 rc⟩⟩
theorem s_mO {E : Ent} (hk : k < 7) (ho : PE X o (tVar i)) (ha : DA X M W (e :: es) fs) (hbase : attributeBase o (mtN k) X.env (eval o X.env) = eval o X.env)
    (hfew : ((backTo cpos (starEach (e :: es) X.env)).all (fun x => !x.1) && (backToKw cpos (keywordEach [] X.env)).all (fun x => x.1.isSome) && decide ((e :: es).length + ([] : List Keyword).length + (if ([] : List Keyword).isEmpty then 0 else 1) < 30)) = true)
    (hline : (apos.endLine == cpos.line) = true) (hs : starEach (e :: es) X.env = (false, eval e X.env) :: starEach es X.env) (hpl : (backTo cpos (starEach es X.env)).any (·.1) = false) : DS X M W E (.Expr (.Call (.Attribute o (mtN k) apos) (e :: es) [] cpos) pos) (xMO k i fs) :=
  PS.imp (ps_expr (pe_bm PySem.F.plainAttrs_list (mt_slot hk).1 (mt_slot hk).2 (mt_all (M := M) hk) ho ha hbase hfew hline hs hpl) rfl) mo_imp
theorem s_mO0 {E : Ent} (hk : k < 7) (ho : PE X o (tVar i)) (hbase : attributeBase o (mtN k) X.env (eval o X.env) = eval o X.env) (hline : (apos.endLine == cpos.line) = true) : DS X M W E (.Expr (.Call (.Attribute o (mtN k) apos) [] [] cpos) pos) (xMO k i eNil) :=
  PS.imp (ps_expr (pe_bm0 PySem.F.plainAttrs_list (mt_slot hk).1 (mt_slot hk).2 (mt_all (M := M) hk) ho hbase hline) rfl) fun Dd σ H h => by
    obtain ⟨v, h1, ty, B2, ρ2, γ2, S2, E2, Q2, at2, h2, kk2⟩ := mo_imp (fs := eNil) Dd σ H h
    exact ⟨v, h1, ty, kk2 [] S2 h2 [] H B2 ρ2 (.refl _ _ _) at2.rel.cells .nil⟩
end
theorem zip_look {K : Kx} {B : Hp} {ρ : List Addr} {f : Str} {d : D} : ∀ {ns : List Str} {vs : List V} {xs : List D}, RepL K B ρ vs xs → (ns.zip xs).lookup f = some d → ∃ v, (ns.zip vs).lookup f = some v ∧ Rep K B ρ v d
  | [], _, _, _, h => by simp at h
  | _ :: _, _, _, .nil, h => by simp at h
  | n :: ns, _, _, .cons (v := v) (d := e) r t, h => by
    simp only [List.zip_cons_cons, List.lookup_cons] at h ⊢
    cases q : (f == n) with
    | true => rw [q] at h; cases h; exact ⟨v, rfl, r⟩
    | false => rw [q] at h; exact zip_look t h
def kFld (c : Nat) (f : Str) (o : D) (S : Sto) (Q : Rv → Sto → Prop) : Prop := match dr S o with
  | .obj c' ns xs => c' = c ∧ optW ((ns.zip xs).lookup f) S fun d S => Q (.v d) S
  | _ => False
def eFld (c : Nat) (f : Str) (fo : Ev D) : Ev Rv := fun γ S E Q => fo γ S E fun o S => kFld c f o S Q
def putN : List Str → Str → List Str
  | [], f => [f]
  | n :: ns, f => if n = f then n :: ns else n :: putN ns f
def putY {α : Type} : List Str → List α → Str → α → List α
  | n :: ns, x :: xs, f, v => if n = f then v :: xs else x :: putY ns xs f v
  | _, _, _, v => [v]
theorem putF_zip (f : Str) (v : V) : ∀ {ns : List Str} {vs : List V}, ns.length = vs.length → putF f v (ns.zip vs) = (putN ns f).zip (putY ns vs f v) ∧ (putN ns f).length = (putY ns vs f v).length
  | [], [], _ => ⟨rfl, rfl⟩
  | n :: ns, x :: vs, h => by
    have ih := putF_zip f v (ns := ns) (vs := vs) (by simpa using h)
    simp only [putN, putY, List.zip_cons_cons, putF]
    by_cases q : n = f
    · rw [if_pos q, if_pos q, if_pos q]; exact ⟨rfl, by simpa using h⟩
    · rw [if_neg q, if_neg q, if_neg q, ih.1]; exact ⟨rfl, by simp [ih.2]⟩
theorem putY_rep {K : Kx} {B : Hp} {ρ : List Addr} {f : Str} {v : V} {d : D} (r : Rep K B ρ v d) : ∀ {ns : List Str} {vs : List V} {xs : List D}, RepL K B ρ vs xs → RepL K B ρ (putY ns vs f v) (putY ns xs f d)
  | [], _, _, _ => by simp only [putY]; exact .cons r .nil
  | _ :: _, _, _, .nil => by simp only [putY]; exact .cons r .nil
  | n :: ns, _, _, .cons q t => by
    simp only [putY]
    by_cases h : n = f
    · rw [if_pos h, if_pos h]; exact .cons r t
    · rw [if_neg h, if_neg h]; exact .cons q (putY_rep r t)
def pfR (c : Nat) (f : Str) (γ : List Slot) (κ : Kt) (v o : D) (S : Sto) : Prop := match o with
  | .ref n => (match S.cs[n]? with
    | some (.ins c' ns xs) => c' = c ∧ ns.length < 900 ∧ κ.nx γ ⟨S.cs.set n (.ins c (putN ns f) (putY ns xs f v)), S.n⟩
    | _ => False)
  | _ => False
def xPutF (c : Nat) (f : Str) (fo fv : Ev D) : Ex := fun γ S E κ => fv γ S E fun v S => fo γ S E fun o S => pfR c f γ κ v o S
section
variable {X : Cx} {M : Mp} {W : WX} {o e : Expr} {fo fv : Ev D} {f : Str} {c : Nat} {pos pos' : Pos}
theorem dr_fld (hc : c < 1000) (cl : Cls X.K (M.cls c)) (na : NoAttr X.K (M.cls c) f) (ho : DO X M W o fo) (hb : attributeBase o f X.env (eval o X.env) = eval o X.env) : DR X M W (.Attribute o f pos) (eFld c f fo) := PE.imp (pe_fld ho hb) fun σ H Q ⟨B, ρ, γ, S, E', Q', at_, h, kk⟩ =>
  ⟨B, ρ, γ, S, E', _, at_, h, fun od S1 h1 v H1 B1 ρ1 x1 c1 r1 => by
    unfold kFld at h1
    split at h1
    · rename_i c' ns xs hd
      obtain ⟨rfl, h1⟩ := h1
      obtain ⟨d, e1, h2⟩ := optW_ok h1
      have ro := r1.o c1
      rw [hd] at ro
      obtain ⟨a, dx, vs, rfl, ha, hl, rl⟩ := ro.obj hc c1
      obtain ⟨v, e2, rv⟩ := zip_look rl e1
      exact ⟨a, _, dx, _, v, rfl, ha, cl, na, e2, kk _ S1 h2 v H1 B1 ρ1 x1 c1 rv⟩
    · exact h1.elim⟩
theorem s_putF {E : Ent} (cl : Cls X.K (M.cls c)) (na : NoAttr X.K (M.cls c) f) (ho : DE X M W o fo) (hv : DE X M W e fv) (hs : swapsWith e (some (.Attribute o f pos')) pos.line X.env = pure false) : DS X M W E (.Assign [.Attribute o f pos'] e pos) (xPutF c f fo fv) :=
  PS.imp (ps_fld ho hv hs) fun Dd σ H ⟨γ, S, E', κ, ⟨B, ρ, si⟩, h, x, kk⟩ =>
  ⟨B, ρ, γ, S, E', _, si.at x, h, fun vd S1 h1 y H1 B1 ρ1 x1 c1 r1 => ⟨B1, ρ1, γ, S1, E', _, (si.step x1 c1).at x, h1, fun od S2 q u H2 B2 ρ2 x2 c2 r2 => by
    unfold pfR at q
    split at q
    · rename_i n
      split at q
      · rename_i c' ns xs hn
        obtain ⟨rfl, hz, q⟩ := q
        cases r2 with
        | ref hp =>
          rename_i a
          obtain ⟨ob, ha, rc⟩ := c2.cell n a _ hp hn
          cases rc with
          | ins h0 hd hl rl =>
            rename_i dx vs
            obtain ⟨p1, p2⟩ := putF_zip f y hl
            obtain ⟨c3, x3⟩ := c2.change (Nat.le_refl _) hp (.ins h0 hd p2 (putY_rep (r1.ext x2) rl))
            refine ⟨a, _, dx, _, rfl, ha, cl, na, by rw [List.length_zip]; omega, ?_⟩
            rw [p1]
            exact kk.nx _ _ q σ _ ⟨B2, ρ2, si.step ((x1.tr x2).tr x3) c3⟩
      · exact q.elim
    · exact q.elim⟩⟩
end
end DL
namespace DL
open PySem PySem.Spec PyProof.Rows L2 SeqAt
def isI (c : Nat) (m : Str) (o : D) (S : Sto) : Prop := match dr S o with
  | .obj c' ns _ => c' = c ∧ ns.contains m = false
  | _ => False
def eMeth (c : Nat) (m : Str) (F : FD) (n l : Nat) (is : List Nat) (dd : List D) (fo : Ev D) (fs fk : Ev (List D)) : Ev Rv := fun γ S E Q => fo γ S E fun o S => isI c m o S ∧ fs γ S E fun xs S => fk γ S E fun ys S => goF F (n + 1) l is dd (o :: xs) ys S E Q
theorem no_look {α : Type} {m : Str} : ∀ {ns : List Str} {xs : List α}, ns.contains m = false → (ns.zip xs).lookup m = none
  | [], _, _ => by simp
  | _ :: _, [], _ => by simp
  | n :: ns, x :: xs, h => by
    simp only [List.contains_cons, Bool.or_eq_false_iff] at h
    simp only [List.zip_cons_cons, List.lookup_cons, h.1]
    exact no_look h.2
theorem isI_at {K : Kx} {B : Hp} {ρ : List Addr} {H : Hp} {S : Sto} {v : V} {d : D} {c : Nat} {m : Str} (hk : c < 1000) (cc : Cells K B ρ H S) (r : Rep K B ρ v d) (h : isI c m d S) : ∃ a dx fs, v = .ref a ∧ H a = some (.ins (K.cls c) dx fs) ∧ fs.lookup m = none := by
  unfold isI at h
  split at h
  · rename_i c' ns xs hd
    obtain ⟨rfl, hm⟩ := h
    have ro := RepS.o cc (.inl r)
    rw [hd] at ro
    obtain ⟨a, dx, vs, rfl, ha, hl, rl⟩ := ro.obj hk cc
    exact ⟨a, dx, _, rfl, ha, no_look hm⟩
  · exact h.elim
theorem wp_mcall {prog : Program} {w : World} {A : Around} {env : Env} {o : Expr} {m : Str} {apos pos : Pos} {args : List Expr} {kws : List Keyword} {Q : Value → Shared → Prop} {E : Value → Shared → Prop} {s : Shared} (hbase : attributeBase o m env (eval o env) = eval o env)
    (hf : methodCallForm (args.length + kws.length) (backTo pos (starEach args env)) (backToKw pos (keywordEach kws env)) = true) (hl : (apos.endLine == pos.line) = true)
    (h : wpAny (model prog w) A (eval o env) (fun ov s1 => wpAny (model prog w) A (getMethod ov m (plainOf o env)) (fun fx s2 => wpAny (model prog w) A (callWith pos fx.1 fx.2 (backTo pos (starEach args env)) (backToKw pos (keywordEach kws env))) Q E s2) E s1) E s) :
    wpAny (model prog w) A (eval (.Call (.Attribute o m apos) args kws pos) env) Q E s := by
  rw [arm_eval_Call, hbase]
  refine wpAny_bind (wpAny_mono h (fun ov s1 h1 => wpAny_bind (wpAny_standAt ?_)) fun _ _ e => e)
  rw [mcall_line hf hl]
  exact wpAny_bind (wpAny_holding (wpAny_mono h1 (fun fx s2 h2 => h2) fun _ _ e => e))
section
variable {X : Cx} {M : Mp} {W : WX} {k n c : Nat} {f : Addr} {fd : FuncData} {ps ks : List Str} {m x : Str} {p pos apos : Pos} {e o : Expr} {es args : List Expr} {kws : List Keyword} {F : FD} {fo : Ev D} {fs fk : Ev (List D)} {is : List Nat} {dd : List D}
theorem dr_meth (hk : c < 1000) (G : FnG X.prog X.w X.K X.mg X.base (CX X.prog X.w) k f fd ps (spD (kx X M) ps.length F)) (hgd : X.A.guards = some []) (hr : Room k X.A) (cl : Cls X.K (M.cls c)) (mt : Meth X.K (M.cls c) m f) (bd : Bound (kx X M) fd ps (n + 1) [] is dd)
    (hlen : ∀ xs : List D, xs.length = n + 1 → (pickD is dd xs []).length = ps.length) (tk : Takes X W) (ho : DE X M W o fo) (ha : DA X M W (e :: es) fs) (hbase : attributeBase o m X.env (eval o X.env) = eval o X.env)
    (hf : methodCallForm ((e :: es).length + ([] : List Keyword).length) (backTo pos (starEach (e :: es) X.env)) (backToKw pos (keywordEach [] X.env)) = true) (hl : (apos.endLine == pos.line) = true)
    (he : starEach (e :: es) X.env = (false, eval e X.env) :: starEach es X.env) (hpl : (backTo pos (starEach es X.env)).any (·.1) = false) : DR X M W (.Call (.Attribute o m apos) (e :: es) [] pos) (eMeth c m F n 0 is dd fo fs eNil) := by
  refine ⟨fun pins s σ H Q I ⟨B, ρ, γ, S, E', Q', at_, h, kk⟩ => wp_mcall hbase hf hl ?_⟩
  refine thn (ho.run pins s σ H (fun v H1 => ∃ B1 ρ1 S1 d, Ext B ρ H B1 ρ1 H1 ∧ Cells (kx X M) B1 ρ1 H1 S1 ∧ Rep (kx X M) B1 ρ1 v d ∧ isI c m d S1 ∧ fs γ S1 E' fun xs S => goF F (n + 1) 0 is dd (d :: xs) [] S E' Q') I ⟨B, ρ, γ, S, E', _, at_, h, fun d S1 h1 v H1 B1 ρ1 x1 c1 r1 => ⟨B1, ρ1, S1, d, x1, c1, r1, h1.1, h1.2⟩⟩) ?_
  rintro u s1 ⟨v, H1, I1, ru, B1, ρ1, S1, d, x1, c1, r1, hi, h1⟩
  obtain ⟨a, dx, fl, rfl, h2, h3⟩ := isI_at hk c1 r1 hi
  obtain rfl : u = Value.ref a := ru
  refine getmeth_ok I1 h2 cl mt h3 ?_
  refine PySem.W.callWith_K (first := [.ref a]) (h₀ := X.base) I.ok.mod.kin mt.kp (thn (PA.run ha pos pins s1 σ H1 (fun vs H2 => ∃ B2 ρ2 S2 xs, Ext B1 ρ1 H1 B2 ρ2 H2 ∧ Cells (kx X M) B2 ρ2 H2 S2 ∧ RepL (kx X M) B2 ρ2 vs xs ∧ goF F (n + 1) 0 is dd (d :: xs) [] S2 E' Q') I1 ⟨B1, ρ1, γ, S1, E', _, at_.ext x1 c1, h1, fun xs S2 h2 vs H2 B2 ρ2 x2 c2 r2 => ⟨B2, ρ2, S2, xs, x2, c2, r2, h2⟩⟩) ?_) he hpl
  rintro us s2 ⟨vs, H2, I2, rr, B2, ρ2, S2, xs, x2, c2, r2, hl, hF⟩
  refine ⟨I2.kIn, ?_⟩
  exact bound_run (ks := []) (ws := []) (zs := []) (ys := []) (us := .ref a :: us) (vs := .ref a :: vs) (xs := d :: xs) G hgd hr bd tk I2 (at_.ext (x1.tr x2) c2) (.cons rfl rr) .nil (.cons (r1.ext x2) r2) .nil hl.1 rfl hF (hlen (d :: xs) hl.1) fun r S' h => (kk r S' h).from (x1.tr x2)
theorem dr_meth0 (hk : c < 1000) (G : FnG X.prog X.w X.K X.mg X.base (CX X.prog X.w) k f fd ps (spD (kx X M) ps.length F)) (hgd : X.A.guards = some []) (hr : Room k X.A) (cl : Cls X.K (M.cls c)) (mt : Meth X.K (M.cls c) m f) (bd : Bound (kx X M) fd ps (n + 1) [] is dd)
    (hlen : ∀ xs : List D, xs.length = n + 1 → (pickD is dd xs []).length = ps.length) (tk : Takes X W) (ho : DE X M W o fo) (hbase : attributeBase o m X.env (eval o X.env) = eval o X.env) (hl : (apos.endLine == pos.line) = true) : DR X M W (.Call (.Attribute o m apos) [] [] pos) (eMeth c m F n 0 is dd fo eNil eNil) := by
  refine ⟨fun pins s σ H Q I ⟨B, ρ, γ, S, E', Q', at_, h, kk⟩ => wp_mcall hbase rfl hl ?_⟩
  refine thn (ho.run pins s σ H (fun v H1 => ∃ B1 ρ1 S1 d, Ext B ρ H B1 ρ1 H1 ∧ Cells (kx X M) B1 ρ1 H1 S1 ∧ Rep (kx X M) B1 ρ1 v d ∧ isI c m d S1 ∧ goF F (n + 1) 0 is dd [d] [] S1 E' Q') I ⟨B, ρ, γ, S, E', _, at_, h, fun d S1 h1 v H1 B1 ρ1 x1 c1 r1 => ⟨B1, ρ1, S1, d, x1, c1, r1, h1.1, h1.2⟩⟩) ?_
  rintro u s1 ⟨v, H1, I1, ru, B1, ρ1, S1, d, x1, c1, r1, hi, hl, hF⟩
  obtain ⟨a, dx, fl, rfl, h2, h3⟩ := isI_at hk c1 r1 hi
  obtain rfl : u = Value.ref a := ru
  refine getmeth_ok I1 h2 cl mt h3 ?_
  refine PySem.W.callWith_K0 (first := [.ref a]) I1.kIn mt.kp ?_
  exact bound_run (ks := []) (ws := []) (zs := []) (ys := []) (us := [.ref a]) (vs := [.ref a]) (xs := [d]) G hgd hr bd tk I1 (at_.ext x1 c1) (.cons rfl .nil) .nil (.cons r1 .nil) .nil hl.1 rfl hF (hlen [d] hl.1) fun r S' h => (kk r S' h).from x1
def kMkN (c : Nat) (F : FD) (n l : Nat) (is : List Nat) (dd xs ys : List D) (S : Sto) (E : XC) (Q : Rv → Sto → Prop) : Prop :=
  goF F (n + 1) l is dd (.ref S.cs.length :: xs) ys ⟨S.cs ++ [.ins c [] []], S.n⟩ E fun r S' => r = .v .non ∧ Q (.v (.ref S.cs.length)) S'
def eNew (c : Nat) (F : FD) (n l : Nat) (is : List Nat) (dd : List D) (fs fk : Ev (List D)) : Ev Rv := fun γ S E Q => fs γ S E fun xs S => fk γ S E fun ys S => kMkN c F n l is dd xs ys S E Q
theorem new_run (hk : c < 1000) {pins : List (Addr × Obj)} {σ : L2.St} {H : Hp} {s : Shared} {Q : VK} {us ws : List Value} {vs zs : List V} {B : Hp} {ρ : List Addr} {γ : List Slot} {S : Sto} {xs ys : List D} {E' : XC} {Q' : Rv → Sto → Prop} (mk : Mk X.K (M.cls c) f)
    (G : FnG X.prog X.w X.K X.mg X.base (CX X.prog X.w) k f fd ps (spD (kx X M) ps.length F)) (hg : X.A.guards = some []) (hr : Room (k + 1) X.A) (bd : Bound (kx X M) fd ps (n + 1) ks is dd) (tk : Takes X W) (I : Inv X pins σ H s) (at_ : At (kx X M) W σ B ρ H γ S E')
    (r1 : Vals vs us) (r2 : Vals zs ws) (d1 : RepL (kx X M) B ρ vs xs) (d2 : RepL (kx X M) B ρ zs ys) (hF : kMkN c F n ks.length is dd xs ys S E' Q') (hlen : ∀ xs ys : List D, xs.length = n + 1 → ys.length = ks.length → (pickD is dd xs ys).length = ps.length)
    (hQ : ∀ r S', Q' r S' → Post (kx X M) B ρ H S' Q r) : wpAny (model X.prog X.w) X.A (call (.ref (M.cls c)) us (ks.zip ws)) (EP X pins σ Q) X.xe s := by
  obtain ⟨⟨l1, l2⟩, hF⟩ := hF
  obtain ⟨dvs, dus, e1, e2, to⟩ := bd.ex
  have nx : H (s.heap.objs.size + 1) = none := I.hok.fresh (Nat.le_succ _)
  have nd : H s.heap.objs.size = none := I.hok.fresh (Nat.le_refl _)
  have ne : s.heap.objs.size ≠ s.heap.objs.size + 1 := Nat.ne_of_lt (Nat.lt_succ_self _)
  have I2 := Inv.made (C := M.cls c) I
  obtain ⟨c1, x1⟩ := at_.rel.cells.lay (o := .own (s.heap.objs.size + 1)) nd
  have nx1 : upd H s.heap.objs.size (.own (s.heap.objs.size + 1)) (s.heap.objs.size + 1) = none := by rw [upd_ne (Ne.symm ne)]; exact nx
  obtain ⟨c2, x2⟩ := c1.drop (o := .ins (M.cls c) s.heap.objs.size []) nx1
  obtain ⟨nb, nr⟩ := ext_new c1 nx1
  have rc : RepC (kx X M) (upd B s.heap.objs.size (.own (s.heap.objs.size + 1))) ρ S.n (s.heap.objs.size + 1) (.ins (M.cls c) s.heap.objs.size (([] : List Str).zip ([] : List V))) (.ins c [] []) := .ins hk upd_same rfl .nil
  have c3 := c2.opened (k := .ins c [] []) upd_same nb nr rc
  have x3 := (x1.tr x2).open nx
  have hx : (ρ ++ [s.heap.objs.size + 1])[S.cs.length]? = some (s.heap.objs.size + 1) := by rw [← at_.rel.cells.len, List.getElem?_append_right (Nat.le_refl _)]; simp
  have hv : Vals ((V.ref (s.heap.objs.size + 1) :: vs) ++ zs ++ dvs) ((Value.ref (s.heap.objs.size + 1) :: us) ++ ws ++ dus) := ((show Vals (V.ref (s.heap.objs.size + 1) :: vs) (Value.ref (s.heap.objs.size + 1) :: us) from .cons rfl r1).append r2).append e1
  have hd : RepL (kx X M) _ (ρ ++ [s.heap.objs.size + 1]) ((V.ref (s.heap.objs.size + 1) :: vs) ++ zs ++ dvs) ((.ref S.cs.length :: xs) ++ ys ++ dd) :=
    ((RepL.cons (.ref hx) (d1.ext x3)).append (d2.ext x3)).append (e2.mono (fun _ _ z => by cases z) fun _ _ z => by simp at z)
  have gd : (X.A.under (.builtin "type.__call__" ⟨.ref (M.cls c) :: us, ks.zip ws⟩)).guards = some [] := by
    first | exact hg | simp [Around.under, Code.isGuard, guardIds, hg]
  refine wpAny_call (make_map (f := f) I.kIn mk.makes mk.init (beq_iff_eq.mp mk.fn) (codeAny_mono (G.run _ X.stack _ _ ⟨Value.ref (s.heap.objs.size + 1) :: us, ks.zip ws⟩ _ _ (fun v H2 => v = .non ∧ Q (.ref (s.heap.objs.size + 1)) H2) (fun cls d H' => W cls d σ H') gd (hr.make (M.cls c) us (ks.zip ws))
    (I2.env0.make (M.cls c) us (ks.zip ws)) (to _ (Value.ref (s.heap.objs.size + 1) :: us) ws I2.kIn (by rw [List.length_cons, ← r1.length, d1.length]; exact l1) (by rw [← r2.length, d2.length]; exact l2)) (Vals.pick hv is)
    ⟨_, _, _, _, E', _, hlen _ _ l1 l2, c3, hd.pick is, hF, fun x S' h => (at_.exn x S' h).from x3, fun r S' h => ?_⟩) fun r s' hq' => ?_))
  · obtain ⟨rfl, h⟩ := h
    intro v H' B' ρ' x4 c4 rv
    cases rv
    refine ⟨rfl, hQ _ S' h _ H' B' ρ' (x3.tr x4) c4 (.ref (x4.rho _ _ hx))⟩
  · cases r with
    | error e => exact tk _ _ (XE.of_call I2 (fun cls d H' h => h) hq')
    | ok fl =>
      cases fl with
      | ret u =>
        obtain ⟨v, H', I3, rv, ev, q3⟩ := I2.after hq'
        subst ev
        exact ⟨rv, ⟨V.ref (s.heap.objs.size + 1), H', I3, rfl, q3⟩⟩
      | next => exact False.elim hq'
      | brk => exact False.elim hq'
      | cont => exact False.elim hq'
theorem dr_new (hk : c < 1000) (mk : Mk X.K (M.cls c) f) (G : FnG X.prog X.w X.K X.mg X.base (CX X.prog X.w) k f fd ps (spD (kx X M) ps.length F)) (hgd : X.A.guards = some []) (hr : Room (k + 1) X.A) (hg : Gl X x) (hm : X.mg x = some (.ref (M.cls c)))
    (bd : Bound (kx X M) fd ps (n + 1) [] is dd) (hlen : ∀ xs ys : List D, xs.length = n + 1 → ys.length = 0 → (pickD is dd xs ys).length = ps.length) (tk : Takes X W) (ha : DA X M W (e :: es) fs) (hdb : (x == ("__debug__" : Str)) = false)
    (he : starEach (e :: es) X.env = (false, eval e X.env) :: starEach es X.env) (hpl : (backTo pos (starEach es X.env)).any (·.1) = false) : DR X M W (.Call (.Name x p) (e :: es) [] pos) (eNew c F n 0 is dd fs eNil) := by
  refine ⟨fun pins s σ H Q I ⟨B, ρ, γ, S, E', Q', at_, h, kk⟩ => wpAny_Call_Name_kw (ld_glob I hg hm ?_ hdb)⟩
  apply PySem.W.callWith_K (h₀ := X.base) I.ok.mod.kin mk.kp (he := he) (hplain := hpl)
  refine thn (PA.run ha pos pins s σ H (fun vs H1 => ∃ B1 ρ1 S1 xs, Ext B ρ H B1 ρ1 H1 ∧ Cells (kx X M) B1 ρ1 H1 S1 ∧ RepL (kx X M) B1 ρ1 vs xs ∧ kMkN c F n 0 is dd xs [] S1 E' Q') I ⟨B, ρ, γ, S, E', _, at_, h, fun xs S1 h1 vs H1 B1 ρ1 x1 c1 r1 => ⟨B1, ρ1, S1, xs, x1, c1, r1, h1⟩⟩) ?_
  rintro us s1 ⟨vs, H1, I1, rr, B1, ρ1, S1, xs, x1, c1, r1, hF⟩
  exact ⟨I1.kIn, new_run hk (ks := []) (ws := []) (zs := []) (ys := []) mk G hgd hr bd tk I1 (at_.ext x1 c1) rr .nil r1 .nil hF hlen fun r S' h => (kk r S' h).from x1⟩
theorem dr_newK (hk : c < 1000) (mk : Mk X.K (M.cls c) f) (G : FnG X.prog X.w X.K X.mg X.base (CX X.prog X.w) k f fd ps (spD (kx X M) ps.length F)) (hgd : X.A.guards = some []) (hr : Room (k + 1) X.A) (hg : Gl X x) (hm : X.mg x = some (.ref (M.cls c)))
    (bd : Bound (kx X M) fd ps (n + 1) ks is dd) (hlen : ∀ xs ys : List D, xs.length = n + 1 → ys.length = ks.length → (pickD is dd xs ys).length = ps.length) (tk : Takes X W) (ha : DA X M W (e :: es) fs) (hkw : DK X M W kws fk) (hdb : (x == ("__debug__" : Str)) = false)
    (hall : (backToKw pos (keywordEach kws X.env)).all (·.1.isSome) = true) (hks : (backToKw pos (keywordEach kws X.env)).filterMap (·.1) = ks) (he : starEach (e :: es) X.env = (false, eval e X.env) :: starEach es X.env)
    (hpl : ((backTo pos (starEach (e :: es) X.env)).any (·.1) || (backToKw pos (keywordEach kws X.env)).any (·.1.isNone)) = false) : DR X M W (.Call (.Name x p) (e :: es) kws pos) (eNew c F n ks.length is dd fs fk) := by
  refine ⟨fun pins s σ H Q I ⟨B, ρ, γ, S, E', Q', at_, h, kk⟩ => wpAny_Call_Name_kw (ld_glob I hg hm ?_ hdb)⟩
  apply PySem.W.callWith_KW (h₀ := X.base) I.ok.mod.kin mk.kp hall (hplain := hpl) (he := he)
  refine thn (PA.run ha pos pins s σ H (fun vs H1 => ∃ B1 ρ1 S1 xs, Ext B ρ H B1 ρ1 H1 ∧ Cells (kx X M) B1 ρ1 H1 S1 ∧ RepL (kx X M) B1 ρ1 vs xs ∧ fk γ S1 E' fun ys S => kMkN c F n ks.length is dd xs ys S E' Q') I ⟨B, ρ, γ, S, E', _, at_, h, fun xs S1 h1 vs H1 B1 ρ1 x1 c1 r1 => ⟨B1, ρ1, S1, xs, x1, c1, r1, h1⟩⟩) ?_
  rintro us s1 ⟨vs, H1, I1, rr, B1, ρ1, S1, xs, x1, c1, r1, h1⟩
  refine thn (PK.run hkw pos pins s1 σ H1 (fun zs H2 => ∃ B2 ρ2 S2 ys, Ext B1 ρ1 H1 B2 ρ2 H2 ∧ Cells (kx X M) B2 ρ2 H2 S2 ∧ RepL (kx X M) B2 ρ2 zs ys ∧ kMkN c F n ks.length is dd xs ys S2 E' Q') I1 ⟨B1, ρ1, γ, S1, E', _, at_.ext x1 c1, h1, fun ys S2 h2 zs H2 B2 ρ2 x2 c2 r2 => ⟨B2, ρ2, S2, ys, x2, c2, r2, h2⟩⟩) ?_
  rintro ws s2 ⟨zs, H2, I2, rr2, B2, ρ2, S2, ys, x2, c2, r2, hF⟩
  refine ⟨I2.kIn, ?_⟩
  rw [hks]
  exact new_run hk mk G hgd hr bd tk I2 (at_.ext (x1.tr x2) c2) rr rr2 (r1.ext x2) r2 hF hlen fun r S' h => (kk r S' h).from (x1.tr x2)
theorem dr_newK0 (hk : c < 1000) (mk : Mk X.K (M.cls c) f) (G : FnG X.prog X.w X.K X.mg X.base (CX X.prog X.w) k f fd ps (spD (kx X M) ps.length F)) (hgd : X.A.guards = some []) (hr : Room (k + 1) X.A) (hg : Gl X x) (hm : X.mg x = some (.ref (M.cls c)))
    (bd : Bound (kx X M) fd ps (n + 1) ks is dd) (hlen : ∀ xs ys : List D, xs.length = n + 1 → ys.length = ks.length → (pickD is dd xs ys).length = ps.length) (tk : Takes X W) (hkw : DK X M W kws fk) (hdb : (x == ("__debug__" : Str)) = false)
    (hall : (backToKw pos (keywordEach kws X.env)).all (·.1.isSome) = true) (hks : (backToKw pos (keywordEach kws X.env)).filterMap (·.1) = ks)
    (hno : ((backTo pos (starEach [] X.env)).any (·.1) || (backToKw pos (keywordEach kws X.env)).any (·.1.isNone)) = false) : DR X M W (.Call (.Name x p) [] kws pos) (eNew c F n ks.length is dd eNil fk) := by
  refine ⟨fun pins s σ H Q I ⟨B, ρ, γ, S, E', Q', at_, h, kk⟩ => wpAny_Call_Name_kw (ld_glob I hg hm ?_ hdb)⟩
  apply PySem.W.callWith_KW0 (h₀ := X.base) I.ok.mod.kin mk.kp hall (hplain := hno)
  refine thn (PK.run hkw pos pins s σ H (fun zs H2 => ∃ B2 ρ2 S2 ys, Ext B ρ H B2 ρ2 H2 ∧ Cells (kx X M) B2 ρ2 H2 S2 ∧ RepL (kx X M) B2 ρ2 zs ys ∧ kMkN c F n ks.length is dd [] ys S2 E' Q') I ⟨B, ρ, γ, S, E', _, at_, h, fun ys S2 h2 zs H2 B2 ρ2 x2 c2 r2 => ⟨B2, ρ2, S2, ys, x2, c2, r2, h2⟩⟩) ?_
  rintro ws s2 ⟨zs, H2, I2, rr2, B2, ρ2, S2, ys, x2, c2, r2, hF⟩
  refine ⟨I2.kIn, ?_⟩
  rw [hks]
  exact new_run hk (us := []) (vs := []) mk G hgd hr bd tk I2 (at_.ext x2 c2) .nil rr2 .nil r2 hF hlen fun r S' h => (kk r S' h).from x2
end
end DL
namespace DLX
open PySem PySem.Spec PyProof.Rows HT PySem.SeqAt PySem.AutoSeq1 PySem.MeetsSeq PySem.MeetsSeq2 PySem.MeetsSeq3
def stepA (lo hi : Option Int) (st : Int) (n : Nat) : Int := (Builtin.Slice.sliceAdjust lo hi st (n : Int)).1
def stepN (lo hi : Option Int) (st : Int) (n : Nat) : Nat := Builtin.Slice.slicePlaces (Builtin.Slice.sliceAdjust lo hi st (n : Int)).1 (Builtin.Slice.sliceAdjust lo hi st (n : Int)).2 st
def stepIx (lo hi : Option Int) (st : Int) (n : Nat) : List Nat := (List.range (stepN lo hi st n)).map fun (m : Nat) => (stepA lo hi st n + (m : Int) * st).toNat
section
variable {prog : Program} {w : World} {A : Around} {E : Value → Shared → Prop} {s : Shared}
theorem applied_st {sl : Addr} {vl vu vs : Value} {n : Nat} {lo hi : Option Int} {st : Int} {Q : Int × Int × Nat → Shared → Prop} (hs : s.heap.IsSliceOf sl vl vu vs) (pl : IsPart vl lo) (pu : IsPart vu hi) (ps : IsPart vs (some st)) (h0 : st ≠ 0)
    (h : Q (stepA lo hi st n, st, stepN lo hi st n) s) : wpAny (model prog w) A (Builtin.Slice.sliceApplied (.ref sl) (pure (n : Int))) Q E s := by
  obtain ⟨os, hos, hcs, hds⟩ := id hs
  unfold Builtin.Slice.sliceApplied Builtin.Slice.sliceFields
  refine wpAny_bind (wpAny_bind (wpAny_field hos hds (x := vl) rfl (wpAny_bind (wpAny_field hos hds (x := vu) rfl (wpAny_bind (wpAny_field hos hds (x := vs) rfl (wpAny_pure ?_)))))))
  refine wpAny_bind (slicePart_ ps ?_)
  show wpAny _ _ (if (st == 0) = true then _ else _) _ _ s
  rw [if_neg (by simpa using h0)]
  refine wpAny_bind (slicePart_ pl (wpAny_bind (slicePart_ pu (wpAny_bind (wpAny_pure ?_)))))
  exact wpAny_pure h
theorem getItem_tuple_st {t sl : Addr} {items : Array Value} {vl vu vs : Value} {lo hi : Option Int} {st : Int} {Q : Value → Shared → Prop} (ht : IsTup s.heap t items) (hs : s.heap.IsSliceOf sl vl vu vs) (pl : IsPart vl lo) (pu : IsPart vu hi) (ps : IsPart vs (some st)) (h0 : st ≠ 0) (h1 : st ≠ 1)
    (h : Q (.ref s.heap.objs.size) { s with heap := s.heap.push { cls := .type "tuple", data := .seq ((stepIx lo hi st items.size).filterMap fun i => items[i]?).toArray } })
    (hsz : ((stepIx lo hi st items.size).filterMap fun i => items[i]?).length ≤ sizeLine) : wpAny (model prog w) A (getItem (.ref t) (.ref sl)) Q E s := by
  have htake : sizeOk (.seq ((stepIx lo hi st items.size).filterMap fun i => items[i]?).toArray) := by
    show ((stepIx lo hi st items.size).filterMap fun i => items[i]?).toArray.size ≤ sizeLine
    simpa using hsz
  obtain ⟨os, hos, hcs, hds⟩ := id hs
  have hTs : s.TypeIs (.ref sl) "slice" := ⟨os, hos, hcs⟩
  unfold getItem
  try with_reducible refine wpAny_holding ?_
  first | refine wpAny_bind (wpAny_pure ?_) | skip
  refine wpAny_bind (wpAny_sequenceKey ht.typeIs (by decide) ?_)
  refine wpAny_bind (wpAny_callSpecial?_slot (name := Str.ofString "__getitem__") ht.typeIs PyProof.Rows.slot_tuple_getitem
    (wpAny_call_entry PyProof.Rows.slot_tuple_getitem ht.typeIs entry_tuple_getitem ?_ (args_tuple_getitem _ _)))
  show wpAny _ _ (Builtin.Tuple.tupleItemsOf (.ref t) >>= _) _ _ s
  refine wpAny_bind (tupleItemsOf_ ht (wpAny_bind (wpAny_typeOf hTs ?_)))
  rw [if_pos (by decide)]
  refine wpAny_bind (applied_st hs pl pu ps h0 ?_)
  show wpAny _ _ (if (stepA lo hi st items.size == 0 && st == 1 && stepN lo hi st items.size == items.size) = true then _ else _) _ _ s
  rw [if_neg (by have : (st == 1) = false := by simpa using h1
                 rw [this]; simp)]
  have e : ((List.range (stepN lo hi st items.size)).filterMap fun (m : Nat) => items[(stepA lo hi st items.size + (m : Int) * st).toNat]?) = (stepIx lo hi st items.size).filterMap fun i => items[i]? := by
    unfold stepIx; rw [List.filterMap_map]; rfl
  rw [e]
  first
    | exact wpAny_bind (m := Builtin.Tuple.tupleExact _) (wpAny_newObj_type (wpAny_pure ⟨_, rfl, wpAny_pure h⟩) htake)
    | exact wpAny_bind (m := Builtin.Tuple.tupleExact _) (wpAny_newObj_type (wpAny_bind (wpAny_pure (wpAny_pure ⟨_, rfl, wpAny_pure h⟩))) htake)
    | exact wpAny_bind (wpAny_bind (m := Builtin.Tuple.tupleExact _) (wpAny_newObj_type (wpAny_pure (wpAny_pure ⟨_, rfl, wpAny_pure h⟩)) htake))
    | exact wpAny_bind (wpAny_bind (m := Builtin.Tuple.tupleExact _) (wpAny_newObj_type (wpAny_pure ⟨_, rfl, wpAny_pure h⟩) htake))
end
end DLX
namespace DL
open PySem PySem.Spec L2 SeqAt
def cutT {α : Type} (xs : List α) (lo hi : Option Int) (st : Int) : List α := (DLX.stepIx lo hi st xs.length).filterMap fun i => xs[i]?
def dSt : D → Option Int → Option Int → Option Int → Option Rv
  | .tup xs, lo, hi, some st => if st ≠ 0 ∧ st ≠ 1 ∧ (DLX.stepIx lo hi st xs.length).length ≤ sizeLine then some (.v (.tup (cutT xs lo hi st))) else none
  | _, _, _, _ => none
theorem dSt_some {d : D} {l h s : Option Int} {r : Rv} (e : dSt d l h s = some r) : ∃ xs st, d = .tup xs ∧ s = some st ∧ st ≠ 0 ∧ st ≠ 1 ∧ (DLX.stepIx l h st xs.length).length ≤ sizeLine ∧ r = .v (.tup (cutT xs l h st)) := by
  cases d <;> cases s <;> simp only [dSt] at e <;> first | cases e | skip
  split at e
  · rename_i hz
    cases e
    exact ⟨_, _, rfl, rfl, hz.1, hz.2.1, hz.2.2, rfl⟩
  · cases e
def kSt (x : D) (l h s : Option Int) (S : Sto) (Q : Rv → Sto → Prop) : Prop := optW (dSt (dr S x) l h s) S Q
def eSt (fa : Ev D) (fl fh fs : Ev (Option Int)) : Ev Rv := fun γ S E Q => fa γ S E fun x S => fl γ S E fun l S => fh γ S E fun h S => fs γ S E fun s S => kSt x l h s S Q
section
variable {X : Cx} {M : Mp} {W : WX} {e : Expr} {lo hi : Option Expr} {st : Expr} {fa : Ev D} {fl fh fs : Ev (Option Int)} {p3 pos : Pos}
theorem dr_st (ha : DO X M W e fa) (hl : DP X M W lo fl) (hh : DP X M W hi fh) (hs : DP X M W (some st) fs) : DR X M W (.Subscript e (.Slice lo hi (some st) p3) pos) (eSt fa fl fh fs) := by
  refine ⟨fun pins s σ H Q I ⟨B, ρ, γ, S, E', Q', at_, h, kk⟩ => ?_⟩
  refine PyProof.Rows.Subscript_ (thn (ha.run pins s σ H (fun v H1 => ∃ B1 ρ1 S1 d, Ext B ρ H B1 ρ1 H1 ∧ Cells (kx X M) B1 ρ1 H1 S1 ∧ RepS (kx X M) B1 ρ1 H1 v d ∧ fl γ S1 E' fun l S => fh γ S E' fun h S => fs γ S E' fun s S => kSt d l h s S Q') I ⟨B, ρ, γ, S, E', _, at_, h, fun d S1 h1 v H1 B1 ρ1 x1 c1 r1 => ⟨B1, ρ1, S1, d, x1, c1, r1, h1⟩⟩) fun v s1 ⟨x, H1, I1, rx, B1, ρ1, S1, d, x1, c1, r1, h1⟩ => ?_)
  refine wpAny_Slice (thn (PO.run hl pins s1 σ H1 (fun l H2 => ∃ B2 ρ2 S2, Ext B1 ρ1 H1 B2 ρ2 H2 ∧ Cells (kx X M) B2 ρ2 H2 S2 ∧ fh γ S2 E' fun h S => fs γ S E' fun s S => kSt d l h s S Q') I1 ⟨B1, ρ1, γ, S1, E', _, at_.ext x1 c1, h1, fun l S2 h2 H2 B2 ρ2 x2 c2 => ⟨B2, ρ2, S2, x2, c2, h2⟩⟩) fun vl s2 ⟨l, H2, I2, pl, B2, ρ2, S2, x2, c2, h2⟩ => ?_)
  refine thn (PO.run hh pins s2 σ H2 (fun u H3 => ∃ B3 ρ3 S3, Ext B2 ρ2 H2 B3 ρ3 H3 ∧ Cells (kx X M) B3 ρ3 H3 S3 ∧ fs γ S3 E' fun s S => kSt d l u s S Q') I2 ⟨B2, ρ2, γ, S2, E', _, at_.ext (x1.tr x2) c2, h2, fun l S3 h3 H3 B3 ρ3 x3 c3 => ⟨B3, ρ3, S3, x3, c3, h3⟩⟩) fun vu s3 ⟨u, H3, I3, pu, B3, ρ3, S3, x3, c3, h3⟩ => ?_
  refine thn (PO.run hs pins s3 σ H3 (fun st H4 => ∃ B4 ρ4 S4, Ext B3 ρ3 H3 B4 ρ4 H4 ∧ Cells (kx X M) B4 ρ4 H4 S4 ∧ kSt d l u st S4 Q') I3 ⟨B3, ρ3, γ, S3, E', _, at_.ext ((x1.tr x2).tr x3) c3, h3, fun l S4 h4 H4 B4 ρ4 x4 c4 => ⟨B4, ρ4, S4, x4, c4, h4⟩⟩) fun vs s4 ⟨st', H4, I4, ps, B4, ρ4, S4, x4, c4, h4⟩ => ?_
  obtain ⟨r, g, h5⟩ := optW_ok h4
  have ro := (((r1.ext x2).ext x3).ext x4).o c4
  obtain ⟨xs, stp, hd, rfl, z0, z1, z2, rfl⟩ := dSt_some g
  rw [hd] at ro
  obtain ⟨a, ws, rfl, hx, tx⟩ := ro.tup
  cases rx
  have I5 : Inv X pins σ H4 { s4 with heap := s4.heap.push { cls := .type "slice", data := .fields #[vl, vu, vs] } } := I4.kept (t' := s4.toks) fun b ob q => Heap.get?_push_of_some _ q
  obtain ⟨its, rv, ht, hz⟩ := I5.tuple (sqT_mono c4.same hx)
  have el : its.toArray.size = xs.length := by rw [List.size_toArray, ← rv.length, tx.length]
  show wpAny (model X.prog X.w) X.A (PyProof.Rows.subscriptTail e (.Slice lo hi (some st) p3) (.ref a) (.ref s4.heap.objs.size)) (EP X pins σ Q) X.xe { s4 with heap := s4.heap.push { cls := .type "slice", data := .fields #[vl, vu, vs] } }
  refine PyProof.Rows.tail_any (ops := [.ref a, .ref s4.heap.objs.size]) ht.typeIs (PyProof.Rows.slot_tuple_getitem.lookup) ?_ (by with_unfolding_all rfl)
  have ei : ((DLX.stepIx l u stp its.toArray.size).filterMap fun i => its.toArray[i]?) = (DLX.stepIx l u stp xs.length).filterMap fun i => its[i]? := by rw [el]; simp
  refine DLX.getItem_tuple_st ht (Heap.IsSliceOf.new _ vl vu vs) pl pu ps z0 z1 ?_ (by rw [el]; exact Nat.le_trans (List.length_filterMap_le _ _) z2)
  rw [ei]
  obtain ⟨c6, x6⟩ := c4.lay (o := .frz { cls := .type "tuple", data := .seq ((DLX.stepIx l u stp xs.length).filterMap fun i => its[i]?).toArray } (.tup ((DLX.stepIx l u stp xs.length).filterMap fun i => ws[i]?))) (p := (s4.heap.push { cls := .type "slice", data := .fields #[vl, vu, vs] }).objs.size) (I5.hok.fresh (Nat.le_refl _))
  refine ⟨.ref _, _, I5.laid (t' := s4.toks) (o := .frz { cls := .type "tuple", data := .seq ((DLX.stepIx l u stp xs.length).filterMap fun i => its[i]?).toArray } (.tup ((DLX.stepIx l u stp xs.length).filterMap fun i => ws[i]?))) (fun b ob q => Heap.get?_push_of_some _ q) (Nat.le_refl _) ?_, rfl, kk _ S4 h5 _ _ _ _ (((x1.tr x2).tr (x3.tr x4)).tr x6) c6 (.tup (.new rfl) ((tx.ext x6).pick _))⟩
  exact ⟨Heap.get?_push_size _ rfl, Nat.le_trans (List.length_filterMap_le _ _) z2, _, Vals.pick rv _, PyProof.Rows.IsTup.new _ _⟩
end
end DL
namespace DL
open PySem PySem.Spec L2 SeqAt
structure WdOk (X : Cx) (M : Mp) (x : Str) (l : List (List Nat × D)) : Prop where
  ex : ∃ (a : Addr) (es : Array DictEntry) (n : Nat), X.mg x = some (.ref a) ∧ KDict X.K X.w a es n ∧ ∀ z : List Nat, match l.lookup z with
    | some d => ∃ (u : Value) (v : V), PySem.W.nsIn X.K a (sOf z) = some (some u) ∧ RelV v u ∧ Rep (kx X M) (fun _ => none) [] v d
    | none => PySem.W.nsIn X.K a (sOf z) = some none
def gWix (l : List (List Nat × D)) : D → Option D
  | .str z => l.lookup z
  | _ => none
def gWin (l : List (List Nat × D)) (neg : Bool) : D → Option D
  | .str z => some (.bl (xor neg (l.lookup z).isSome))
  | _ => none
section
variable {X : Cx} {M : Mp} {W : WX} {e e1 e2 : Expr} {es : List Expr} {fa fb : Ev D} {x : Str} {p pos : Pos} {l : List (List Nat × D)}
theorem un_imp {K : Kx} {g : D → Option D} {r : R2} {c : V} (hr : ∀ B ρ S H v d d' Q, Cells K B ρ H S → RepO K B ρ H v d → g d = some d' → (∀ v', Rep K B ρ v' d' → Q v' H) → r v c H Q) :
    ∀ σ H Q, tR K W (eUn (vu g) fa) σ H Q → tOp r (tDO K W fa) (tC c) σ H Q := fun σ H Q ⟨B, ρ, γ, S, E', Q', at_, h, k⟩ =>
  ⟨B, ρ, γ, S, E', _, at_, h, fun d S1 h1 v H1 B1 ρ1 x1 c1 r1 => by
    obtain ⟨r', e, h2⟩ := optW_ok h1
    unfold vu at e
    rw [Option.map_eq_some_iff] at e
    obtain ⟨d', e, rfl⟩ := e
    exact hr B1 ρ1 S1 H1 v _ d' Q c1 (r1.o c1) e fun v' rv => k _ S1 h2 v' H1 B1 ρ1 x1 c1 rv⟩
theorem dr_win (wd : WdOk X M x l) (hg : Gl X x) (hdb : (x == ("__debug__" : Str)) = false) (ha : DO X M W e fa) : DR X M W (.Compare e [.In] [.Name x p] pos) (eUn (vu (gWin l false)) fa) := by
  obtain ⟨a, es, n, hm, kd, hz⟩ := wd.ex
  refine PE.imp (pe_cmpR (op_in_kd kd) ha (pe_glob (v := .ref a) (u := .ref a) hg hm rfl hdb) rfl) (un_imp fun B ρ S H v d d' Q c1 ro e k => ?_)
  unfold gWin at e
  split at e
  · rename_i z
    cases e
    have h := hz z
    cases q : l.lookup z with
    | none => rw [q] at h; exact ⟨sOf z, none, ro.str, rfl, h, by have := k (.bl false) (by rw [q]; exact .bl _); exact this⟩
    | some d => rw [q] at h; obtain ⟨u, v', h1, h2, h3⟩ := h; exact ⟨sOf z, some u, ro.str, rfl, h1, by have := k (.bl true) (by rw [q]; exact .bl _); exact this⟩
  · cases e
theorem dr_wnin (wd : WdOk X M x l) (hg : Gl X x) (hdb : (x == ("__debug__" : Str)) = false) (ha : DO X M W e fa) : DR X M W (.Compare e [.NotIn] [.Name x p] pos) (eUn (vu (gWin l true)) fa) := by
  obtain ⟨a, es, n, hm, kd, hz⟩ := wd.ex
  refine PE.imp (pe_cmpR (op_notIn_kd kd) ha (pe_glob (v := .ref a) (u := .ref a) hg hm rfl hdb) rfl) (un_imp fun B ρ S H v d d' Q c1 ro e k => ?_)
  unfold gWin at e
  split at e
  · rename_i z
    cases e
    have h := hz z
    cases q : l.lookup z with
    | none => rw [q] at h; exact ⟨sOf z, none, ro.str, rfl, h, by have := k (.bl true) (by rw [q]; exact .bl _); exact this⟩
    | some d => rw [q] at h; obtain ⟨u, v', h1, h2, h3⟩ := h; exact ⟨sOf z, some u, ro.str, rfl, h1, by have := k (.bl false) (by rw [q]; exact .bl _); exact this⟩
  · cases e
theorem dt_win (wd : WdOk X M x l) (hg : Gl X x) (hdb : (x == ("__debug__" : Str)) = false) (ha : DO X M W e fa) : DT X M W (.Compare e [.In] [.Name x p] pos) (eBl (eVal (eUn (vu (gWin l false)) fa))) := by
  obtain ⟨a, es, n, hm, kd, hz⟩ := wd.ex
  refine PT.imp (pt_cmpR (op_in_kd kd) ha (pe_glob (v := .ref a) (u := .ref a) hg hm rfl hdb) rfl) fun σ H Q h => un_imp (fun B ρ S H v d d' Q c1 ro e k => ?_) σ H _ (val_imp σ H _ (bl_imp σ H _ h))
  unfold gWin at e
  split at e
  · rename_i z
    cases e
    have h := hz z
    cases q : l.lookup z with
    | none => rw [q] at h; exact ⟨sOf z, none, ro.str, rfl, h, by have := k (.bl false) (by rw [q]; exact .bl _); exact this⟩
    | some d => rw [q] at h; obtain ⟨u, v', h1, h2, h3⟩ := h; exact ⟨sOf z, some u, ro.str, rfl, h1, by have := k (.bl true) (by rw [q]; exact .bl _); exact this⟩
  · cases e
theorem dt_wnin (wd : WdOk X M x l) (hg : Gl X x) (hdb : (x == ("__debug__" : Str)) = false) (ha : DO X M W e fa) : DT X M W (.Compare e [.NotIn] [.Name x p] pos) (eBl (eVal (eUn (vu (gWin l true)) fa))) := by
  obtain ⟨a, es, n, hm, kd, hz⟩ := wd.ex
  refine PT.imp (pt_cmpR (op_notIn_kd kd) ha (pe_glob (v := .ref a) (u := .ref a) hg hm rfl hdb) rfl) fun σ H Q h => un_imp (fun B ρ S H v d d' Q c1 ro e k => ?_) σ H _ (val_imp σ H _ (bl_imp σ H _ h))
  unfold gWin at e
  split at e
  · rename_i z
    cases e
    have h := hz z
    cases q : l.lookup z with
    | none => rw [q] at h; exact ⟨sOf z, none, ro.str, rfl, h, by have := k (.bl true) (by rw [q]; exact .bl _); exact this⟩
    | some d => rw [q] at h; obtain ⟨u, v', h1, h2, h3⟩ := h; exact ⟨sOf z, some u, ro.str, rfl, h1, by have := k (.bl false) (by rw [q]; exact .bl _); exact this⟩
  · cases e
theorem dr_wix (wd : WdOk X M x l) (hg : Gl X x) (hdb : (x == ("__debug__" : Str)) = false) (ha : DO X M W e fa) (hs : PlainIx e) : DR X M W (.Subscript (.Name x p) e pos) (eUn (vu (gWix l)) fa) := by
  obtain ⟨a, es, n, hm, kd, hz⟩ := wd.ex
  refine PE.imp (pe_ix ix_kdict (pe_glob (pos := p) (v := .ref a) (u := .ref a) hg hm rfl hdb) ha hs) fun σ H Q ⟨B, ρ, γ, S, E', Q', at_, h, k⟩ => ?_
  refine ⟨B, ρ, γ, S, E', _, at_, h, fun d S1 h1 v H1 B1 ρ1 x1 c1 r1 => ?_⟩
  obtain ⟨r', e, h2⟩ := optW_ok h1
  unfold vu at e
  rw [Option.map_eq_some_iff] at e
  obtain ⟨d', e, rfl⟩ := e
  have ro := r1.o c1
  generalize dr S1 d = dd at e ro
  unfold gWix at e
  split at e
  · rename_i z
    have h := hz z
    rw [e] at h
    obtain ⟨u, v', q1, q2, q3⟩ := h
    exact ⟨a, sOf z, v', rfl, ro.str, ⟨es, n, u, kd.at_, kd.lit, q1, q2⟩, k _ S1 h2 v' H1 B1 ρ1 x1 c1 (q3.mono (fun _ _ z => by cases z) fun _ _ z => by simp at z)⟩
  · cases e
def truD : D → Option Bool
  | .non => some false
  | .bl b => some b
  | .int i => some (i != 0)
  | .str x => if x.length ≤ sizeLine then some (!x.isEmpty) else none
  | .tup xs => some (!xs.isEmpty)
  | .lst xs => some (!xs.isEmpty)
  | .dct ks _ => some (!ks.isEmpty)
  | _ => none
def kOrv (fb : Ev D) (γ : List Slot) (E : XC) (Q : D → Sto → Prop) (d : D) (S : Sto) : Prop := match truD (dr S d) with
  | some true => Q d S
  | some false => fb γ S E Q
  | none => False
def eOrv (fa fb : Ev D) : Ev D := fun γ S E Q => fa γ S E (kOrv fb γ E Q)
theorem tru_rep {K : Kx} {B : Hp} {ρ : List Addr} {H : Hp} {S : Sto} {v : V} {d : D} {b : Bool} (c : Cells K B ρ H S) (r : RepO K B ρ H v d) (h : truD d = some b) : TruV K.K v H b := by
  unfold truD at h
  split at h
  · cases h; rw [r.non]; exact rfl
  · cases h; rw [r.bl]; exact rfl
  · cases h; rw [r.int]; exact rfl
  · rename_i x
    split at h
    · rename_i hz
      cases h
      rw [r.str]
      refine ⟨by rw [sOf_len]; exact hz, ?_⟩
      rw [sOf_len]
      cases x with
      | nil => rfl
      | cons a x => simp; omega
    · cases h
  · rename_i xs
    cases h
    obtain ⟨a, vs, rfl, h1, t⟩ := r.tup
    exact .inr (.inl ⟨vs, sqT_mono c.same h1, by cases t <;> rfl⟩)
  · rename_i xs
    cases h
    obtain ⟨a, vs, rfl, h1, t⟩ := r.lst c
    exact .inl ⟨vs, SqL.of h1, by cases t <;> rfl⟩
  · rename_i ks xs
    cases h
    obtain ⟨a, vs, rfl, h1, hl, t⟩ := r.dct c
    refine .inr (.inr ⟨_, h1, ?_⟩)
    cases ks with
    | nil => rfl
    | cons k ks => cases vs with
      | nil => simp at hl
      | cons v vs => rfl
  · cases h
theorem de_orv (ha : DE X M W e1 fa) (hb : DE X M W e2 fb) : DE X M W (.BoolOp .Or [e1, e2] pos) (eOrv fa fb) := PE.imp (pe_orT ha (pe_one hb)) fun σ H Q ⟨B, ρ, γ, S, E', Q', at_, h, k⟩ =>
  ⟨B, ρ, γ, S, E', _, at_, h, fun d S1 h1 v H1 B1 ρ1 x1 c1 r1 => by
    unfold kOrv at h1
    split at h1
    · rename_i hb
      exact ⟨true, tru_rep c1 (RepS.o c1 (.inl r1)) hb, iteT (k d S1 h1 v H1 B1 ρ1 x1 c1 r1)⟩
    · rename_i hb
      exact ⟨false, tru_rep c1 (RepS.o c1 (.inl r1)) hb, iteF ⟨B1, ρ1, γ, S1, E', _, at_.ext x1 c1, h1, fun d S2 h2 => (k d S2 h2).from x1⟩⟩
    · exact h1.elim⟩
def intsOf : List D → Option (List Int)
  | [] => some []
  | .int i :: r => (intsOf r).map (i :: ·)
  | _ => none
theorem ints_rep {K : Kx} {B : Hp} {ρ : List Addr} : ∀ {ds : List D} {vs : List V} {is : List Int}, RepL K B ρ vs ds → intsOf ds = some is → vs = is.map V.int
  | [], _, is, .nil, h => by simp [intsOf] at h; subst h; rfl
  | d :: ds, _, is, .cons h1 t, h => by
    cases d <;> simp [intsOf] at h
    obtain ⟨a, h2, rfl⟩ := h
    cases h1
    rw [ints_rep t h2]
    rfl
def gSum : List D → Option D
  | [.lst xs] => (intsOf xs).map fun is => .int is.sum
  | _ => none
theorem cd_sum (hc : X.calm = true) : CallR X (.builtin "sum") (rCall (kx X M) (v1 gSum)) := by
  intro pins s σ H xs us Q I rv ⟨B, ρ, S, ds, r, c, rd, g, k⟩
  unfold v1 at g
  rw [Option.map_eq_some_iff] at g
  obtain ⟨d, g, rfl⟩ := g
  unfold gSum at g
  split at g
  · rw [Option.map_eq_some_iff] at g
    obtain ⟨is, g, rfl⟩ := g
    obtain ⟨v, rfl, h⟩ := paired1 rd
    obtain ⟨a, vs, rfl, h1, t1⟩ := h.lst c
    rw [ints_rep t1 g] at h1
    exact cr_sum hc pins s σ H _ us Q I rv ⟨a, is, rfl, SqL.of h1, k _ H B ρ (.refl _ _ _) c (.int _)⟩
  · cases g
def pairsOf : List D → Option (List (D × D))
  | [] => some []
  | .tup [a, b] :: r => (pairsOf r).map ((a, b) :: ·)
  | _ => none
def gDict : List D → Option Rv
  | [.lst xs] => (pairsOf xs).bind fun ps => (keysOf ps).map fun l => .o (.dct (mergeL ([], []) l).1 (mergeL ([], []) l).2)
  | [.tup xs] => none
  | [.dct ks xs] => some (.o (.dct ks xs))
  | _ => none
theorem pairs_rep {K : Kx} {B : Hp} {ρ : List Addr} : ∀ {xs : List D} {vs : List V} {ps : List (D × D)} {l : List (Key × D)}, RepL K B ρ vs xs → pairsOf xs = some ps → keysOf ps = some l →
    ∃ (as : List Addr) (kvs : List (Key × V)), vs = as.map V.ref ∧ Paired (fun p kv => SqP K.K B p [kV kv.1, kv.2]) as kvs ∧ RepKs K B ρ kvs l
  | [], _, ps, l, .nil, h, h2 => by simp [pairsOf] at h; subst h; simp [keysOf] at h2; subst h2; exact ⟨[], [], rfl, .nil, .nil⟩
  | d :: xs, _, ps, l, .cons h1 t, h, h2 => by
    unfold pairsOf at h
    split at h
    · rename_i q; cases q
    · rename_i a b r q
      cases q
      rw [Option.map_eq_some_iff] at h
      obtain ⟨ps', h3, rfl⟩ := h
      simp only [keysOf, Option.bind_eq_some_iff, Option.map_eq_some_iff] at h2
      obtain ⟨k, h4, l', h5, rfl⟩ := h2
      obtain ⟨as, kvs, e1, e2, e3⟩ := pairs_rep t h3 h5
      cases h1 with
      | tup hs rl =>
        rename_i pa vs0
        obtain ⟨u, w, rfl, r1, r2⟩ := rl.two
        rw [key_rep r1 h4] at hs
        exact ⟨pa :: as, (k, w) :: kvs, by rw [e1]; rfl, .cons hs e2, .cons r2 e3⟩
    · cases h
theorem cd_dict (hc : X.calm = true) : CallR X (.type "dict") (rCall (kx X M) gDict) := by
  intro pins s σ H xs us Q I rv ⟨B, ρ, S, ds, r, c, rd, g, k⟩
  unfold gDict at g
  split at g
  · rw [Option.bind_eq_some_iff] at g
    obtain ⟨ps, g1, g⟩ := g
    rw [Option.map_eq_some_iff] at g
    obtain ⟨l, g2, rfl⟩ := g
    obtain ⟨v, rfl, h⟩ := paired1 rd
    obtain ⟨a, vs, rfl, h1, t1⟩ := h.lst c
    obtain ⟨as, kvs, rfl, e2, e3⟩ := pairs_rep t1 g1 g2
    refine call_dictP hc pins s σ H _ us Q I rv ⟨a, as, kvs, rfl, SqL.of h1, Paired.imp2 (fun p kv h => sqT_mono c.same h) e2, fun p np => ?_⟩
    obtain ⟨c2, x2⟩ := c.drop (o := .dK (mergeK [] kvs)) np
    obtain ⟨nb, nr⟩ := ext_new c np
    have mz : mergeK [] kvs = (mergeL ([], []) kvs).1.zip (mergeL ([], []) kvs).2 := merge_zip (ps := kvs) (acc := ([], [])) rfl
    obtain ⟨m1, m2⟩ := merge_rep (ks := []) e3 (.nil : RepL (kx X M) B ρ [] [])
    have ml := merge_len (ps := kvs) (acc := (([] : List Key), ([] : List V))) rfl
    refine k p _ _ B ρ x2 c2 np upd_same nb nr ?_
    rw [mz, m1]
    exact .dct (by rw [← m1]; exact ml) m2
  · cases g
  · cases g
    obtain ⟨v, rfl, h⟩ := paired1 rd
    obtain ⟨a, vs, rfl, h1, hl, t1⟩ := h.dct c
    refine call_dictD pins s σ H _ us Q I rv ⟨a, _, rfl, .inl h1, fun p np => ?_⟩
    rename_i ks xs
    obtain ⟨c2, x2⟩ := c.drop (o := .dK (ks.zip vs)) np
    obtain ⟨nb, nr⟩ := ext_new c np
    exact k p _ _ B ρ x2 c2 np upd_same nb nr (.dct hl t1)
  · cases g
def keyStrs : List Key → Option (List (List Nat))
  | [] => some []
  | .inr x :: r => (keyStrs r).map (x.cps.toList :: ·)
  | _ => none
theorem keyStrs_map : ∀ {ks : List Key} {zs : List (List Nat)}, keyStrs ks = some zs → ks = zs.map fun z => .inr (sOf z)
  | [], zs, h => by simp [keyStrs] at h; subst h; rfl
  | .inr x :: r, zs, h => by
    simp only [keyStrs, Option.map_eq_some_iff] at h
    obtain ⟨a, h1, rfl⟩ := h
    rw [keyStrs_map h1]
    rfl
  | .inl _ :: _, zs, h => by simp [keyStrs] at h
def gSortedD : List D → Option (List D)
  | [.dct ks _] => (keyStrs ks).bind fun zs => if zs.length < 64 then some ((zs.mergeSort leZ).map .str) else none
  | _ => none
def gListD : List D → Option (List D)
  | [.dct ks _] => (keyStrs ks).map fun zs => zs.map .str
  | _ => none
theorem zip_fst {α β : Type} : ∀ {xs : List α} {ys : List β}, xs.length = ys.length → (xs.zip ys).map (·.1) = xs
  | [], [], _ => rfl
  | x :: xs, y :: ys, h => by simp only [List.zip_cons_cons, List.map_cons]; rw [zip_fst (by simpa using h)]
theorem repL_strs {K : Kx} {B : Hp} {ρ : List Addr} : ∀ (zs : List (List Nat)), RepL K B ρ ((zs.map sOf).map V.str) (zs.map D.str)
  | [] => .nil
  | z :: zs => .cons (.str z) (repL_strs zs)
theorem cd_sortedD (hc : X.calm = true) : CallR X (.builtin "sorted") (rCall (kx X M) (vl gSortedD)) := by
  intro pins s σ H xs us Q I rv ⟨B, ρ, S, ds, r, c, rd, g, k⟩
  obtain ⟨l, g0, rfl⟩ := vl_some g
  clear g
  have g := g0
  clear g0
  unfold gSortedD at g
  split at g
  · rename_i ks ds0
    rw [Option.bind_eq_some_iff] at g
    obtain ⟨zs, g1, g⟩ := g
    split at g
    · rename_i h64
      cases g
      obtain ⟨v, rfl, h⟩ := paired1 rd
      obtain ⟨a, vs, rfl, h1, hl, t1⟩ := h.dct c
      have ek : ((ks.zip vs).map (·.1)) = (zs.map sOf).map Sum.inr := by rw [zip_fst hl, keyStrs_map g1, List.map_map]; rfl
      refine call_sortedD hc pins s σ H _ us Q I rv ⟨a, _, zs.map sOf, rfl, .inl h1, ek, by rw [List.length_map]; exact h64, fun ys p g2 g3 np => ?_⟩
      have e1 : ys.map (fun y : Str => y.cps.toList) = zs.mergeSort leZ := by
        refine List.Perm.eq_of_pairwise (le := fun a b => leZ a b = true) (fun a b h1 h2 h3 h4 => leZ_anti h3 h4) (sortedS_pw g3) (List.pairwise_mergeSort (le := leZ) leZ_trans leZ_total zs) ?_
        have p1 := g2.map fun y : Str => y.cps.toList
        rw [List.map_map] at p1
        have e2 : (fun y : Str => y.cps.toList) ∘ sOf = id := by funext z; simp [sOf]
        rw [e2, List.map_id] at p1
        exact p1.trans (List.mergeSort_perm zs leZ).symm
      have e3 : ys.map V.str = ((zs.mergeSort leZ).map sOf).map V.str := by
        have e5 : sOf ∘ (fun y : Str => y.cps.toList) = id := by funext y; cases y; simp [sOf]
        have e4 : (ys.map (fun y : Str => y.cps.toList)).map sOf = ys := by rw [List.map_map, e5, List.map_id]
        rw [← e1, e4]
      rw [e3]
      exact Post.new c (repL_strs _) k p np
    · cases g
  · cases g
theorem cd_listD (hc : X.calm = true) : CallR X (.type "list") (rCall (kx X M) (vl gListD)) := by
  intro pins s σ H xs us Q I rv ⟨B, ρ, S, ds, r, c, rd, g, k⟩
  obtain ⟨l, g0, rfl⟩ := vl_some g
  clear g
  have g := g0
  clear g0
  unfold gListD at g
  split at g
  · rename_i ks ds0
    rw [Option.map_eq_some_iff] at g
    obtain ⟨zs, g1, rfl⟩ := g
    obtain ⟨v, rfl, h⟩ := paired1 rd
    obtain ⟨a, vs, rfl, h1, hl, t1⟩ := h.dct c
    refine call_listD hc pins s σ H _ us Q I rv ⟨a, _, rfl, .inl h1, fun p np => ?_⟩
    have e : (ks.zip vs).map (fun kv => kV kv.1) = (zs.map sOf).map V.str := by
      have : (ks.zip vs).map (fun kv => kV kv.1) = ((ks.zip vs).map (·.1)).map kV := by rw [List.map_map]; rfl
      rw [this, zip_fst hl, keyStrs_map g1, List.map_map, List.map_map]
      rfl
    rw [e]
    exact Post.new c (repL_strs zs) k p np
  · cases g
end
end DL
namespace DL
open PySem PySem.Spec L2 SeqAt
def kPar (is : List Nat) (γ : List Slot) (κ : Kt) (ds : List D) (S : Sto) : Prop := optW (setsG is ds γ) S κ.nx
def xPar (is : List Nat) (fs : Ev (List D)) : Ex := fun γ S E κ => fs γ S E (kPar is γ κ)
section
variable {X : Cx} {M : Mp} {W : WX} {E : Ent} {st : Stmt} {fs : Ev (List D)} {i j l : Nat}
theorem s_par2 (h : PS X st (tPar i j (tDA (kx X M) W fs))) : DS X M W E st (xPar [i, j] fs) := PS.imp h fun Dd σ H ⟨γ, S, E', κ, ⟨B, ρ, si⟩, h, x, k⟩ =>
  ⟨B, ρ, γ, S, E', _, si.at x, h, fun ds S1 h1 vs H1 B1 ρ1 x1 c1 r1 => by
    obtain ⟨γ', e, h2⟩ := optW_ok h1
    match ds, r1, e with
    | [], _, e => simp [setsG] at e
    | [_], _, e => simp [setsG] at e
    | [d1, d2], .cons q1 (.cons q2 .nil), e =>
      simp only [setsG, Option.some.injEq] at e
      subst e
      exact ⟨_, _, rfl, k.nx _ S1 h2 _ _ ⟨B1, ρ1, ((si.step x1 c1).set q1).set q2⟩⟩
    | _ :: _ :: _ :: _, _, e => simp [setsG] at e⟩
theorem s_par3 (h : PS X st (tPar3 i j l (tDA (kx X M) W fs))) : DS X M W E st (xPar [i, j, l] fs) := PS.imp h fun Dd σ H ⟨γ, S, E', κ, ⟨B, ρ, si⟩, h, x, k⟩ =>
  ⟨B, ρ, γ, S, E', _, si.at x, h, fun ds S1 h1 vs H1 B1 ρ1 x1 c1 r1 => by
    obtain ⟨γ', e, h2⟩ := optW_ok h1
    match ds, r1, e with
    | [], _, e => simp [setsG] at e
    | [_], _, e => simp [setsG] at e
    | [_, _], _, e => simp [setsG] at e
    | [d1, d2, d3], .cons q1 (.cons q2 (.cons q3 .nil)), e =>
      simp only [setsG, Option.some.injEq] at e
      subst e
      exact ⟨_, _, _, rfl, k.nx _ S1 h2 _ _ ⟨B1, ρ1, (((si.step x1 c1).set q1).set q2).set q3⟩⟩
    | _ :: _ :: _ :: _ :: _, _, e => simp [setsG] at e⟩
end
def isStar : Expr → Bool
  | .Starred _ _ => true | _ => false
def parNm (sc : Scope) (line : Nat) : Expr → Option Str
  | .Name id pos => if sc.names.lookup id == some .local && pos.line == line then some id else none
  | _ => none
def parK (sc : Scope) (ts vs : List Expr) : Option (Option (List Str)) :=
  if sc.kind = .function then
    if !(ts.length == 2 || ts.length == 3) || vs.length != ts.length then some none
    else if vs.any isStar then some none
    else if (ts.filterMap (parNm sc ((ts.head?.map (·.pos.line)).getD 0))).length != ts.length || (ts.filterMap (parNm sc ((ts.head?.map (·.pos.line)).getD 0))).eraseDups.length != (ts.filterMap (parNm sc ((ts.head?.map (·.pos.line)).getD 0))).length then some none
    else if vs.all (foldedForSure 8) then some none
    else if vs.all (constantsAlone 8) then none
    else some (some (ts.filterMap (parNm sc ((ts.head?.map (·.pos.line)).getD 0))))
  else none
theorem parK_ok {sc : Scope} {env : Env} {ts vs : List Expr} {r : Option (List Str)} {k k2 : Nat} {p p2 : Pos} (hs : env.scope = sc) (h : parK sc ts vs = some r) : swappedStores [.Tuple ts k p] (.Tuple vs k2 p2) env = pure r := by
  subst hs
  unfold parK at h
  split at h
  · rename_i hk
    have hb : env.blockKind = .function := by unfold Env.blockKind; rw [hk]; rfl
    have go : ∀ (b0 : Bool) (z : Sem (Option (List Str))), b0 = (env.blockKind != .function) → z = swappedStores [.Tuple ts k p] (.Tuple vs k2 p2) env → ∃ u : Sem (Option (List Str)), z = (if (!(ts.length == 2 || ts.length == 3) || vs.length != ts.length || b0) = true then pure none else if vs.any isStar = true then pure none else if ((ts.filterMap (parNm env.scope ((ts.head?.map (·.pos.line)).getD 0))).length != ts.length || (ts.filterMap (parNm env.scope ((ts.head?.map (·.pos.line)).getD 0))).eraseDups.length != (ts.filterMap (parNm env.scope ((ts.head?.map (·.pos.line)).getD 0))).length) = true then pure none else if vs.all (foldedForSure 8) = true then pure none else if vs.all (constantsAlone 8) = true then u else pure (some (ts.filterMap (parNm env.scope ((ts.head?.map (·.pos.line)).getD 0))))) := by
      intro b0 z e1 e2
      subst e1 e2
      exact ⟨_, rfl⟩
    obtain ⟨u, e⟩ := go false _ (by rw [hb]; rfl) rfl
    rw [e]
    rw [Bool.or_false]
    by_cases c1 : (!(ts.length == 2 || ts.length == 3) || vs.length != ts.length) = true
    · rw [if_pos c1] at h ⊢; cases h; rfl
    rw [if_neg c1] at h ⊢
    by_cases c2 : vs.any isStar = true
    · rw [if_pos c2] at h ⊢; cases h; rfl
    rw [if_neg c2] at h ⊢
    by_cases c3 : ((ts.filterMap (parNm env.scope ((ts.head?.map (·.pos.line)).getD 0))).length != ts.length || (ts.filterMap (parNm env.scope ((ts.head?.map (·.pos.line)).getD 0))).eraseDups.length != (ts.filterMap (parNm env.scope ((ts.head?.map (·.pos.line)).getD 0))).length) = true
    · rw [if_pos c3] at h ⊢; cases h; rfl
    rw [if_neg c3] at h ⊢
    by_cases c4 : vs.all (foldedForSure 8) = true
    · rw [if_pos c4] at h ⊢; cases h; rfl
    rw [if_neg c4] at h ⊢
    by_cases c5 : vs.all (constantsAlone 8) = true
    · rw [if_pos c5] at h; cases h
    rw [if_neg c5] at h ⊢
    cases h; rfl
  · cases h
end DL
namespace DL
open PySem PySem.Spec L2 SeqAt
def gSplit (z y : List Nat) : Option Rv := if y ≠ [] ∧ z.length + 2 ≤ sizeLine then some (.o (.lst ((Txt.split (sOf z) (sOf y)).map fun p => .str p.cps.toList))) else none
def eSplit (fa fb : Ev D) : Ev Rv := fun γ S E Q => fa γ S E fun x S => ∃ a, x = .str a ∧ fb γ S E fun y S => ∃ b, y = .str b ∧ optW (gSplit a b) S Q
theorem rep_strs {K : Kx} {B : Hp} {ρ : List Addr} : ∀ (l : List Str), RepL K B ρ (l.map V.str) (l.map fun p => D.str p.cps.toList)
  | [] => .nil
  | x :: l => .cons (rep_strOf x) (rep_strs l)
section
variable {X : Cx} {M : Mp} {W : WX} {e1 e2 : Expr} {fa fb : Ev D} {pos apos : Pos}
theorem dr_split (ha : DO X M W e1 fa) (hb : DO X M W e2 fb) (hs : starEach [e2] X.env = [(false, eval e2 X.env)]) (hbase : attributeBase e1 "split" X.env (eval e1 X.env) = eval e1 X.env) (hline : (apos.endLine == pos.line) = true) :
    DR X M W (.Call (.Attribute e1 "split" apos) [e2] [] pos) (eSplit fa fb) := PE.imp (pe_split ha hb hs hbase hline) fun σ H Q ⟨B, ρ, γ, S, E', Q', at_, h, k⟩ =>
  ⟨B, ρ, γ, S, E', _, at_, h, fun x S1 h1 v H1 B1 ρ1 x1 c1 r1 => by
    obtain ⟨a, rfl, h1⟩ := h1
    have hv := (r1.o c1).str
    subst hv
    refine ⟨⟨_, rfl⟩, B1, ρ1, γ, S1, E', _, at_.ext x1 c1, h1, fun y S2 h2 u H2 B2 ρ2 x2 c2 r2 => ?_⟩
    obtain ⟨b, rfl, h2⟩ := h2
    have hu := (r2.o c2).str
    subst hu
    obtain ⟨r, q3, h3⟩ := optW_ok h2
    unfold gSplit at q3
    split at q3
    · rename_i hc
      cases q3
      refine ⟨_, _, rfl, rfl, ?_, by simpa [Str.length] using hc.2, ?_⟩
      · have := hc.1
        cases b with
        | nil => exact absurd rfl this
        | cons _ _ => rfl
      · exact Post.new c2 (rep_strs _) ((k _ S2 h3).from (x1.tr x2))
    · cases q3⟩
end
def gIntS : List D → Option D
  | [.str z] => if z.length ≤ 640 then (PySem.intText? (sOf z)).map D.int else none
  | _ => none
theorem cd_intS {X : Cx} {M : Mp} : CallR X (.type "int") (rCall (kx X M) (v1 gIntS)) := by
  intro pins s σ H xs us Q I rv ⟨B, ρ, S, ds, r0, c, rd, g0, k⟩
  obtain ⟨r, g, rfl⟩ := v1_some g0
  unfold gIntS at g
  split at g
  · rename_i z
    obtain ⟨v, rfl, h⟩ := paired1 rd
    have hv := h.str
    subst hv
    split at g
    · rename_i hl
      obtain ⟨n, hn, rfl⟩ := Option.map_eq_some_iff.1 g
      exact call_int_str pins s σ H _ us Q I rv ⟨_, n, rfl, hn, by simpa [Str.length] using hl, k _ H B ρ (.refl _ _ _) c (.int _)⟩
    · cases g
  · cases g
def gStrP : List D → Option D
  | [.int i] => if i.natAbs.log2 < 1920 then some (.str (numS i)) else none
  | [.str z] => some (.str z)
  | _ => none
theorem cd_strP {X : Cx} {M : Mp} : CallR X (.type "str") (rCall (kx X M) (v1 gStrP)) := by
  intro pins s σ H xs us Q I rv ⟨B, ρ, S, ds, r0, c, rd, g0, k⟩
  obtain ⟨r, g, rfl⟩ := v1_some g0
  unfold gStrP at g
  split at g
  · obtain ⟨hz, rfl⟩ := guard_some g
    obtain ⟨v, rfl, h⟩ := paired1 rd
    rw [h.int] at rv
    exact call_str_int pins s σ H _ us Q I rv ⟨_, rfl, hz, k _ H B ρ (.refl _ _ _) c (rep_strOf _)⟩
  · cases g
    obtain ⟨v, rfl, h⟩ := paired1 rd
    have hv := h.str
    subst hv
    exact SkE.call_str_str pins s σ H _ us Q I rv ⟨_, rfl, k _ H B ρ (.refl _ _ _) c (.str _)⟩
  · cases g
end DL
set_option maxHeartbeats 1000000
namespace DL
open PySem PySem.Spec L2 SeqAt PyProof.Rows
section
variable {prog : Program} {w : World} {A : Around}
theorem endL (hh : A.handled = none) (it l : Addr) (items : Array Value) (i : Nat) (hi : items.size ≤ i) : Draws prog w A it [it, l] i (fun _ _ => True) (fun j h => j = i ∧ h.IsListIter it l j ∧ h.IsList l items) where
  live := fun _ _ st => let ⟨o, ho, _⟩ := st.2.1; ⟨o, ho⟩
  frame := fun _ _ _ st hk => ⟨st.1, st.2.1.at fun o e => hk it (by simp) o e, st.2.2.at fun o e => hk l (by simp) o e⟩
  item := fun j s Q E hj st _ => absurd st.1 (by omega)
  done := fun s Q E st hE => wpAny_nextOf_list_end hh st.2.1 st.2.2 (by simp [hi]) hE
theorem goS (hh : A.handled = none) (it : Addr) (x : Str) (t : Tok) : Draws prog w A it [it] x.cps.size (fun i v => ∃ c u, x.cps[i]? = some c ∧ v = .str ⟨#[c]⟩ u) (fun i h => h.IsStrIter it (strIterType x) x t i) := by
  unfold strIterType
  split
  · exact Draws.strAscii hh it x t
  · exact Draws.strWide hh it x t
theorem endS (hh : A.handled = none) (it : Addr) (x : Str) (t : Tok) (i : Nat) (hi : x.cps.size ≤ i) : Draws prog w A it [it] i (fun _ _ => True) (fun j h => j = i ∧ h.IsStrIter it (strIterType x) x t j) where
  live := fun _ _ st => let ⟨o, ho, _⟩ := st.2; ⟨o, ho⟩
  frame := fun _ _ _ st hk => let ⟨e, o, ho, r⟩ := st; ⟨e, o, hk it (by simp) o ho, r⟩
  item := fun j s Q E hj st _ => absurd st.1 (by omega)
  done := fun s Q E st hE => by
    have h2 := st.2
    have hx : x.cps[i]? = none := Array.getElem?_eq_none hi
    unfold strIterType at h2
    split at h2
    · exact wpAny_nextOf_ascii_end hh h2 hx hE
    · exact wpAny_nextOf_wide_end hh h2 hx hE
theorem anyL (hh : A.handled = none) (it l : Addr) (hne : l ≠ it) (items : Array Value) (i : Nat) : ∃ n P St, Draws prog w A it [it, l] n P St ∧ i ≤ n ∧ (items.size ≤ i → i = n) ∧ ∀ h : Heap, h.IsListIter it l i → h.IsList l items → St i h := by
  by_cases hi : items.size ≤ i
  · exact ⟨_, _, _, endL hh it l items i hi, Nat.le_refl _, fun _ => rfl, fun h a b => ⟨rfl, a, b⟩⟩
  · exact ⟨_, _, _, Draws.list hh it l hne items, by omega, fun h => absurd h hi, fun h a b => ⟨a, b⟩⟩
theorem anyS (hh : A.handled = none) (it : Addr) (x : Str) (t : Tok) (i : Nat) : ∃ n P St, Draws prog w A it [it] n P St ∧ i ≤ n ∧ (x.cps.size ≤ i → i = n) ∧ ∀ h : Heap, h.IsStrIter it (strIterType x) x t i → St i h := by
  by_cases hi : x.cps.size ≤ i
  · exact ⟨_, _, _, endS hh it x t i hi, Nat.le_refl _, fun _ => rfl, fun h a => ⟨rfl, a⟩⟩
  · exact ⟨_, _, _, goS hh it x t, by omega, fun h => absurd h hi, fun h a => a⟩
end
def ItzS (K : PySem.W.Frag) (a : Addr) (x : Str) : It :=
  ⟨fun i H => ∃ (xs : List V) (v : V), SqL K H a xs ∧ xs[i]? = some v ∧ i < x.cps.size,
    fun i H v H' => ∃ T u c, v = .ref T ∧ H T = none ∧ H' = upd H T (.tup [u, .str ⟨#[c]⟩]) ∧ (∀ xs, SqL K H a xs → xs[i]? = some u) ∧ x.cps[i]? = some c,
    fun i H => ∃ xs : List V, SqL K H a xs ∧ (xs.length ≤ i ∨ x.cps.size ≤ i)⟩
def ZsT (x : Str) (t : Tok) (a z TI TO i1 i2 : Addr) (i : Nat) (h : Heap) : Prop := IsZip h z TI TO .none ∧ IsTupOf2 h TI (.ref i1) (.ref i2) ∧ (∃ v u, IsTupOf2 h TO v u) ∧ h.IsListIter i1 a i ∧ h.IsStrIter i2 (strIterType x) x t i
theorem five {c z TI TO i1 i2 : Addr} (h : c ∈ [z, TI, TO, i1, i2]) : c = z ∨ c = TI ∨ c = TO ∨ c = i1 ∨ c = i2 := by simpa using h
theorem turn_zipS {P : Program} {w : World} {K : PySem.W.Frag} {elts : List Expr} {kk : Nat} {tpos : Pos} {x : Str} {t : Tok} {a z TI TO i1 i2 : Addr} (D : ZipSep2 z TI TO i1 i2 [i1, a] [i2]) (hai : a ≠ i1) :
    Turn P w K (.Tuple elts kk tpos) (ItzS K a x) [z, TI, TO, i1, i2] z (ZsT x t a z TI TO i1 i2) where
  mem := by simp
  obj := fun i h st c hc => by
    obtain ⟨hz, hTI, ⟨_, _, hTO⟩, ⟨o1, e1, _, d1⟩, ⟨o2, e2, _, d2⟩⟩ := st
    rcases five hc with q | q | q | q | q <;> rw [q]
    · exact ⟨_, hz, fun _ q => nomatch q⟩
    · exact ⟨_, hTI, fun _ q => nomatch q⟩
    · exact ⟨_, hTO, fun _ q => nomatch q⟩
    · exact ⟨o1, e1, fun _ q => by rw [d1] at q; cases q⟩
    · exact ⟨o2, e2, fun _ q => by rw [d2] at q; cases q⟩
  keep := fun i h h' st k => by
    obtain ⟨hz, hTI, ⟨v, u, hTO⟩, h1, o, ho, r⟩ := st
    exact ⟨k _ (by simp) _ hz, k _ (by simp) _ hTI, ⟨v, u, k _ (by simp) _ hTO⟩, h1.at fun _ q => k _ (by simp) _ q, o, k _ (by simp) _ ho, r⟩
  item := by
    intro X hP hw hK hc i pins s σ H E I hf st ⟨xs, v, hqx, hx, hi⟩
    subst hP hw hK
    obtain ⟨hz, hTI, ⟨_, _, hTO⟩, h1, h2⟩ := st
    obtain ⟨its, rv, p, _⟩ := I.list hqx
    obtain ⟨u, hu, ru⟩ := rv.get hx
    have hzl : z < s.heap.objs.size := Heap.lt_size hz
    have hh := I.ok.hd hc
    have hui : i < its.toArray.size := by simpa using (List.getElem?_eq_some_iff.mp hu).1
    refine wpAny_pyNext_zipD2_item D (Draws.list (A := X.A.in1) hh i1 a hai its.toArray) (goS (A := X.A.in1) hh i2 x t) hz hTI hTO ⟨h1, p.isList⟩ h2 hui hi fun x1 x2 h' tk y1 y2 z' TO' st1 st2 hT hsz hk => ?_
    obtain ⟨c, tc, hcx, rfl⟩ := y2
    have e1 : x1 = u := by
      have e : its.toArray[i]? = some u := by simpa using hu
      exact Option.some.inj (y1.symm.trans e)
    subst e1
    refine ⟨_, rfl, wpAny_letOwnedTupleGo_zip (s := { s with heap := h', toks := tk }) z' fun h'' z'' sb => ?_⟩
    have hT2 : h''.get? s.heap.objs.size = some { cls := .type "tuple", data := .seq #[x1, .str ⟨#[c]⟩ tc] } := (sb.2 _ (Nat.ne_of_gt hzl)).trans hT
    have new : ObjOk X.prog X.w (upd H s.heap.objs.size (.tup [v, .str ⟨#[c]⟩])) h'' s.heap.objs.size (.tup [v, .str ⟨#[c]⟩]) :=
      ⟨by show 2 ≤ sizeLine; decide, _, .cons ru (.cons ⟨tc, rfl⟩ .nil), ⟨_, hT2, rfl, _, rfl⟩⟩
    have old : ∀ c o, c ∉ [z, TI, TO, i1, i2] → s.heap.get? c = some o → h''.get? c = some o := fun c o hb q => by
      simp only [List.mem_cons, List.not_mem_nil, or_false, not_or] at hb
      exact (sb.2 c hb.1).trans (hk c o hb.1 hb.2.2.1 hb.2.2.2.1 hb.2.2.2.2 q)
    have I1 := I.turnedNew (t' := tk) (ch := [z, TI, TO, i1, i2]) old hf (Nat.le_refl _) new
    refine ⟨.ref s.heap.objs.size, _, I1, rfl, ⟨_, v, c, rfl, I.hok.fresh (Nat.le_refl _), rfl, fun l hl => by rw [I.list_inj hl hqx]; exact hx, hcx⟩, ⟨z'', ?_, ⟨_, _, (sb.2 _ D.TOz).trans TO'⟩, ?_, ?_⟩, fun c hcm => ?_⟩
    · exact (sb.2 _ D.TIz).trans (hk _ _ D.TIz D.TITO D.TIi1 D.TIi2 hTI)
    · exact st1.1.at fun o q => (sb.2 _ D.zi1.symm).trans q
    · obtain ⟨o, ho, r⟩ := st2
      exact ⟨o, (sb.2 _ D.zi2.symm).trans ho, r⟩
    · have hlt : c < s.heap.objs.size := by
        rcases five hcm with q | q | q | q | q <;> rw [q]
        · exact hzl
        · exact Heap.lt_size hTI
        · exact Heap.lt_size hTO
        · obtain ⟨_, e1, _⟩ := h1; exact Heap.lt_size e1
        · obtain ⟨_, e2, _⟩ := h2; exact Heap.lt_size e2
      rw [upd_ne (Nat.ne_of_lt hlt)]
      exact (hf c hcm).1
  done := by
    intro X hP hw hK hc i pins s σ H E I hf st ⟨xs, hqx, hend⟩
    subst hP hw hK
    obtain ⟨hz, hTI, ⟨_, _, hTO⟩, h1, h2⟩ := st
    obtain ⟨its, rv, p, _⟩ := I.list hqx
    have l1 := rv.length
    have hh := I.ok.hd hc
    obtain ⟨n1, P1, S1, D1, a1, b1, c1⟩ := anyL (prog := X.prog) (w := X.w) (A := X.A.in1) hh i1 a hai its.toArray i
    obtain ⟨n2, P2, S2, D2, a2, b2, c2⟩ := anyS (prog := X.prog) (w := X.w) (A := X.A.in1) hh i2 x t i
    refine wpAny_pyNext_zipD2_end D D1 D2 hz hTI hTO (c1 _ h1 p.isList) (c2 _ h2) a1 a2 ?_ fun h' tk hk => ⟨rfl, I.turnedL (t' := tk) (ch := [z, TI, TO, i1, i2]) (fun c o hb q => ?_) hf⟩
    · rcases hend with q | q
      · exact .inl (b1 (by simp; omega))
      · exact .inr (b2 q)
    · simp only [List.mem_cons, List.not_mem_nil, or_false, not_or] at hb
      exact hk c o hb.1 hb.2.2.1 hb.2.2.2.1 hb.2.2.2.2 q
  self := fun A i s Q E st h => wpAny_pyIter_zip st.1 h
abbrev zsA (h : Heap) (l : Addr) : Heap := h.push { cls := .type "list_iterator", data := .fields #[.ref l, .int 0 0] }
abbrev zsB (h : Heap) (l : Addr) (x : Str) (t : Tok) : Heap := (zsA h l).push { cls := .type (strIterType x), data := .fields #[.str x t, .int 0 0] }
abbrev zsC (h : Heap) (l : Addr) (x : Str) (t : Tok) : Heap := (zsB h l x t).push { cls := .type "tuple", data := .seq #[.ref h.objs.size, .ref (zsA h l).objs.size] }
abbrev zsD (h : Heap) (l : Addr) (x : Str) (t : Tok) : Heap := (zsC h l x t).push { cls := .type "tuple", data := .seq #[.none, .none] }
abbrev zsE (h : Heap) (l : Addr) (x : Str) (t : Tok) : Heap := (zsD h l x t).push { cls := .type "zip", data := .fields #[.none, .bool false, .bool false, .ref (zsB h l x t).objs.size, .ref (zsC h l x t).objs.size] }
theorem meets_zipS (l : Addr) (xs : Array Value) (x : Str) (t : Tok) :
    Meets (Builtin.«zip.__new__» ⟨[.type "zip", .ref l, .str x t], []⟩) (fun _ R s => s.heap.IsList l xs ∧ R (.ok (.ret (.ref (zsD s.heap l x t).objs.size))) { s with heap := zsE s.heap l x t }) :=
  .of_wp fun prog w A R s h => by
    obtain ⟨hp, g, d, tk, os⟩ := s
    obtain ⟨hl, h⟩ := h
    have hsub := sub_zip
    have hL : Heap.IsList (Shared.heap ⟨hp, g, d, tk, os⟩) l xs := hl
    wp_walk using wpAny_pyIter_list hL, wpAny_pyIter_strU
    exact ⟨_, rfl, h⟩
theorem call_zipS {prog : Program} {w : World} {A : Around} {E : Value → Shared → Prop} {s : Shared} {l : Addr} {xs : Array Value} {x : Str} {t : Tok} {Q : Value → Shared → Prop} (hl : s.heap.IsList l xs)
    (h : ∀ h', ZsT x t l (s.heap.objs.size + 4) (s.heap.objs.size + 2) (s.heap.objs.size + 3) s.heap.objs.size (s.heap.objs.size + 1) 0 h' → (∀ c o, s.heap.get? c = some o → h'.get? c = some o) → Q (.ref (s.heap.objs.size + 4)) { s with heap := h' }) :
    wpAny (model prog w) A (call (.type "zip") [.ref l, .str x t]) Q E s := by
  refine callType_new F.called_zip (by decide) (F.typeCall_zip_2 _ _) (F.newCall_zip_2 _ _) (fun obj => F.args_object_init_3 obj _ _) F.entry_zip_new (meets_zipS l xs x t) ⟨hl, ?_⟩
  have n1 : (zsA s.heap l).objs.size = s.heap.objs.size + 1 := Heap.size_push ..
  have n2 : (zsB s.heap l x t).objs.size = s.heap.objs.size + 2 := by rw [Heap.size_push, n1]
  have n3 : (zsC s.heap l x t).objs.size = s.heap.objs.size + 3 := by rw [Heap.size_push, n2]
  have n4 : (zsD s.heap l x t).objs.size = s.heap.objs.size + 4 := by rw [Heap.size_push, n3]
  have up : ∀ {h : Heap} {o o' : Obj} {c : Addr}, h.get? c = some o' → (h.push o).get? c = some o' := fun e => Heap.get?_push_of_some _ e
  have g5 : (zsE s.heap l x t).get? (zsD s.heap l x t).objs.size = some _ := Heap.get?_push_size _ rfl
  have g4 : (zsE s.heap l x t).get? (zsC s.heap l x t).objs.size = some _ := up (Heap.get?_push_size _ rfl)
  have g3 : (zsE s.heap l x t).get? (zsB s.heap l x t).objs.size = some _ := up (up (Heap.get?_push_size _ rfl))
  have g2 : (zsE s.heap l x t).get? (zsA s.heap l).objs.size = some _ := up (up (up (Heap.get?_push_size _ rfl)))
  have g1 : (zsE s.heap l x t).get? s.heap.objs.size = some _ := up (up (up (up (Heap.get?_push_size _ rfl))))
  show _ ∧ _
  rw [n2, n3, n4] at g5
  rw [n1, n2] at g3
  rw [n3] at g4
  rw [n1] at g2
  rw [n4]
  exact ⟨⟨_, g5, rfl⟩, h _ ⟨g5, g3, ⟨_, _, g4⟩, ⟨_, g1, rfl, rfl⟩, _, g2, rfl, rfl⟩ fun c o e => up (up (up (up (up e))))⟩
theorem neq_num {a b : Nat} (h : a < b ∨ b < a) : (show Addr from a) ≠ (show Addr from b) := by
  intro e
  have : a = b := e
  omega
theorem sep_num (I a : Nat) (h : a < I) : ZipSep2 (I + 4) (I + 2) (I + 3) I (I + 1) [I, a] [I + 1] := by
  have nm1 : ∀ {c : Nat}, (I < c) → (show Addr from c) ∉ ([I, a] : List Addr) := fun {c} hc hm => by
    rcases List.mem_cons.mp hm with e | hm
    · exact neq_num (.inr hc) e
    · exact neq_num (a := c) (b := a) (.inr (Nat.lt_trans h hc)) (List.mem_singleton.mp hm)
  have nm2 : ∀ {c : Nat}, (I + 1 < c ∨ c < I + 1) → (show Addr from c) ∉ ([I + 1] : List Addr) := fun {c} hc hm => neq_num (Or.symm hc) (List.mem_singleton.mp hm)
  exact ⟨neq_num (.inl (by omega)), neq_num (.inl (by omega)), neq_num (.inl (by omega)), neq_num (.inr (by omega)), List.mem_cons_self .., nm1 (by omega), nm1 (by omega), neq_num (.inr (by omega)), List.mem_cons_self .., nm2 (by omega), nm2 (by omega), nm2 (by omega), nm1 (by omega)⟩
section
variable {K : Kx} {B1 : Hp} {ρ1 : List Addr}
theorem yl_zipS {a : Addr} {vs : List V} {ds : List D} {z : List Nat} (h1 : B1 a = some (.lst vs)) (t1 : RepL K B1 ρ1 vs ds) : Yields true K B1 ρ1 (ItzS K.K a (sOf z)) (zipD ds (chars z)) := fun i B2 ρ2 H2 S sB hr c => by
  have q1 : SqL K.K H2 a vs := SqL.of (c.same _ _ (sB _ _ h1))
  have hz : (sOf z).cps.size = z.length := by simp
  refine ⟨fun d hd => ?_, fun hl => ⟨vs, q1, by rw [zipD_len] at hl; rw [t1.length, hz]; simp only [chars, List.length_map] at hl; omega⟩⟩
  obtain ⟨x, y, e1, e2, rfl⟩ := zipD_get hd
  obtain ⟨v, z1, r1⟩ := t1.get e1
  simp only [chars, List.getElem?_map, Option.map_eq_some_iff] at e2
  obtain ⟨ch, e2, rfl⟩ := e2
  refine ⟨⟨vs, v, q1, z1, by rw [hz]; exact (List.getElem?_eq_some_iff.mp e2).1⟩, fun x H3 ⟨T, x', c', e, nT, eH, f1, f2⟩ => ?_⟩
  subst e; subst eH
  have w1 := f1 vs q1
  rw [z1] at w1; cases w1
  have e3 : c' = ch := by
    have : z[i]? = some c' := by simpa using f2
    exact Option.some.inj (this.symm.trans e2)
  subst e3
  obtain ⟨c3, x3⟩ := c.lay (o := .tup [v, .str ⟨#[c']⟩]) nT
  exact ⟨_, x3, c3, .inr ⟨rfl, _, _, _, rfl, rfl, .inl (.inl upd_same), .cons ((r1.mono sB hr).ext x3) (.cons (.str [c']) .nil)⟩⟩
end
end DL
set_option maxHeartbeats 1000000
namespace DL
open PySem PySem.Spec L2 SeqAt PyProof.Rows
section
variable {prog : Program} {w : World} {A : Around}
theorem endT (hh : A.handled = none) (it l : Addr) (items : Array Value) (i : Nat) (hi : items.size ≤ i) : Draws prog w A it [it, l] i (fun _ _ => True) (fun j h => j = i ∧ h.IsTupleIter it l j ∧ h.IsTuple l items) where
  live := fun _ _ st => let ⟨o, ho, _⟩ := st.2.1; ⟨o, ho⟩
  frame := fun _ _ _ st hk => ⟨st.1, st.2.1.at fun o e => hk it (by simp) o e, st.2.2.at fun o e => hk l (by simp) o e⟩
  item := fun j s Q E hj st _ => absurd st.1 (by omega)
  done := fun s Q E st hE => wpAny_nextOf_tuple_end hh (st.1 ▸ st.2.1) st.2.2 (by simp [hi]) hE
theorem anyT (hh : A.handled = none) (it l : Addr) (hne : l ≠ it) (items : Array Value) (i : Nat) : ∃ n P St, Draws prog w A it [it, l] n P St ∧ i ≤ n ∧ (items.size ≤ i → i = n) ∧ ∀ h : Heap, h.IsTupleIter it l i → h.IsTuple l items → St i h := by
  by_cases hi : items.size ≤ i
  · exact ⟨_, _, _, endT hh it l items i hi, Nat.le_refl _, fun _ => rfl, fun h a b => ⟨rfl, a, b⟩⟩
  · exact ⟨_, _, _, Draws.tuple hh it l hne items, by omega, fun h => absurd h hi, fun h a b => ⟨a, b⟩⟩
end
def ItzM (K : PySem.W.Frag) (a b : Addr) : It :=
  ⟨fun i H => ∃ (xs ys : List V) (v u : V), SqT K H a xs ∧ SqL K H b ys ∧ xs[i]? = some v ∧ ys[i]? = some u,
    fun i H v H' => ∃ T x y, v = .ref T ∧ H T = none ∧ H' = upd H T (.tup [x, y]) ∧ (∀ xs, SqT K H a xs → xs[i]? = some x) ∧ ∀ ys, SqL K H b ys → ys[i]? = some y,
    fun i H => ∃ xs ys : List V, SqT K H a xs ∧ SqL K H b ys ∧ (xs.length ≤ i ∨ ys.length ≤ i)⟩
def ZmT (a b z TI TO i1 i2 : Addr) (i : Nat) (h : Heap) : Prop := IsZip h z TI TO .none ∧ IsTupOf2 h TI (.ref i1) (.ref i2) ∧ (∃ v u, IsTupOf2 h TO v u) ∧ h.IsTupleIter i1 a i ∧ h.IsListIter i2 b i
theorem turn_zipM {P : Program} {w : World} {K : PySem.W.Frag} {elts : List Expr} {kk : Nat} {tpos : Pos} {a b z TI TO i1 i2 : Addr} (D : ZipSep2 z TI TO i1 i2 [i1, a] [i2, b]) (hai : a ≠ i1) (hbi : b ≠ i2) :
    Turn P w K (.Tuple elts kk tpos) (ItzM K a b) [z, TI, TO, i1, i2] z (ZmT a b z TI TO i1 i2) where
  mem := by simp
  obj := fun i h st c hc => by
    obtain ⟨hz, hTI, ⟨_, _, hTO⟩, ⟨o1, e1, _, d1⟩, ⟨o2, e2, _, d2⟩⟩ := st
    rcases five hc with q | q | q | q | q <;> rw [q]
    · exact ⟨_, hz, fun _ q => nomatch q⟩
    · exact ⟨_, hTI, fun _ q => nomatch q⟩
    · exact ⟨_, hTO, fun _ q => nomatch q⟩
    · exact ⟨o1, e1, fun _ q => by rw [d1] at q; cases q⟩
    · exact ⟨o2, e2, fun _ q => by rw [d2] at q; cases q⟩
  keep := fun i h h' st k => by
    obtain ⟨hz, hTI, ⟨v, u, hTO⟩, h1, h2⟩ := st
    exact ⟨k _ (by simp) _ hz, k _ (by simp) _ hTI, ⟨v, u, k _ (by simp) _ hTO⟩, h1.at fun _ q => k _ (by simp) _ q, h2.at fun _ q => k _ (by simp) _ q⟩
  item := by
    intro X hP hw hK hc i pins s σ H E I hf st ⟨xs, ys, v, v2, hqx, hqy, hx, hy⟩
    subst hP hw hK
    obtain ⟨hz, hTI, ⟨_, _, hTO⟩, h1, h2⟩ := st
    obtain ⟨its, rv, p, _⟩ := I.tuple hqx
    obtain ⟨its2, rv2, p2, _⟩ := I.list hqy
    obtain ⟨u, hu, ru⟩ := rv.get hx
    obtain ⟨u2, hu2, ru2⟩ := rv2.get hy
    have hzl : z < s.heap.objs.size := Heap.lt_size hz
    have hh := I.ok.hd hc
    have hui : i < its.toArray.size := by simpa using (List.getElem?_eq_some_iff.mp hu).1
    have hui2 : i < its2.toArray.size := by simpa using (List.getElem?_eq_some_iff.mp hu2).1
    refine wpAny_pyNext_zipD2_item D (Draws.tuple (A := X.A.in1) hh i1 a hai its.toArray) (Draws.list (A := X.A.in1) hh i2 b hbi its2.toArray) hz hTI hTO ⟨h1, p⟩ ⟨h2, p2.isList⟩ hui hui2 fun x1 x2 h' tk y1 y2 z' TO' st1 st2 hT hsz hk => ?_
    have e1 : x1 = u := by
      have e : its.toArray[i]? = some u := by simpa using hu
      exact Option.some.inj (y1.symm.trans e)
    have e2 : x2 = u2 := by
      have e : its2.toArray[i]? = some u2 := by simpa using hu2
      exact Option.some.inj (y2.symm.trans e)
    subst e1 e2
    refine ⟨_, rfl, wpAny_letOwnedTupleGo_zip (s := { s with heap := h', toks := tk }) z' fun h'' z'' sb => ?_⟩
    have hT2 : h''.get? s.heap.objs.size = some { cls := .type "tuple", data := .seq #[x1, x2] } := (sb.2 _ (Nat.ne_of_gt hzl)).trans hT
    have new : ObjOk X.prog X.w (upd H s.heap.objs.size (.tup [v, v2])) h'' s.heap.objs.size (.tup [v, v2]) :=
      ⟨by show 2 ≤ sizeLine; decide, _, .cons ru (.cons ru2 .nil), ⟨_, hT2, rfl, _, rfl⟩⟩
    have old : ∀ c o, c ∉ [z, TI, TO, i1, i2] → s.heap.get? c = some o → h''.get? c = some o := fun c o hb q => by
      simp only [List.mem_cons, List.not_mem_nil, or_false, not_or] at hb
      exact (sb.2 c hb.1).trans (hk c o hb.1 hb.2.2.1 hb.2.2.2.1 hb.2.2.2.2 q)
    have I1 := I.turnedNew (t' := tk) (ch := [z, TI, TO, i1, i2]) old hf (Nat.le_refl _) new
    refine ⟨.ref s.heap.objs.size, _, I1, rfl, ⟨_, v, v2, rfl, I.hok.fresh (Nat.le_refl _), rfl, fun l hl => by rw [I.tuple_inj hl hqx]; exact hx, fun l hl => by rw [I.list_inj hl hqy]; exact hy⟩, ⟨z'', ?_, ⟨_, _, (sb.2 _ D.TOz).trans TO'⟩, ?_, ?_⟩, fun c hcm => ?_⟩
    · exact (sb.2 _ D.TIz).trans (hk _ _ D.TIz D.TITO D.TIi1 D.TIi2 hTI)
    · exact st1.1.at fun o q => (sb.2 _ D.zi1.symm).trans q
    · exact st2.1.at fun o q => (sb.2 _ D.zi2.symm).trans q
    · have hlt : c < s.heap.objs.size := by
        rcases five hcm with q | q | q | q | q <;> rw [q]
        · exact hzl
        · exact Heap.lt_size hTI
        · exact Heap.lt_size hTO
        · obtain ⟨_, e1, _⟩ := h1; exact Heap.lt_size e1
        · obtain ⟨_, e2, _⟩ := h2; exact Heap.lt_size e2
      rw [upd_ne (Nat.ne_of_lt hlt)]
      exact (hf c hcm).1
  done := by
    intro X hP hw hK hc i pins s σ H E I hf st ⟨xs, ys, hqx, hqy, hend⟩
    subst hP hw hK
    obtain ⟨hz, hTI, ⟨_, _, hTO⟩, h1, h2⟩ := st
    obtain ⟨its, rv, p, _⟩ := I.tuple hqx
    obtain ⟨its2, rv2, p2, _⟩ := I.list hqy
    have l1 := rv.length
    have l2 := rv2.length
    have hh := I.ok.hd hc
    obtain ⟨n1, P1, S1, D1, a1, b1, c1⟩ := anyT (prog := X.prog) (w := X.w) (A := X.A.in1) hh i1 a hai its.toArray i
    obtain ⟨n2, P2, S2, D2, a2, b2, c2⟩ := anyL (prog := X.prog) (w := X.w) (A := X.A.in1) hh i2 b hbi its2.toArray i
    refine wpAny_pyNext_zipD2_end D D1 D2 hz hTI hTO (c1 _ h1 p) (c2 _ h2 p2.isList) a1 a2 ?_ fun h' tk hk => ⟨rfl, I.turnedL (t' := tk) (ch := [z, TI, TO, i1, i2]) (fun c o hb q => ?_) hf⟩
    · rcases hend with q | q
      · exact .inl (b1 (by simp; omega))
      · exact .inr (b2 (by simp; omega))
    · simp only [List.mem_cons, List.not_mem_nil, or_false, not_or] at hb
      exact hk c o hb.1 hb.2.2.1 hb.2.2.2.1 hb.2.2.2.2 q
  self := fun A i s Q E st h => wpAny_pyIter_zip st.1 h
abbrev zmA (h : Heap) (l : Addr) : Heap := h.push { cls := .type "tuple_iterator", data := .fields #[.ref l, .int 0 0] }
abbrev zmB (h : Heap) (l m : Addr) : Heap := (zmA h l).push { cls := .type "list_iterator", data := .fields #[.ref m, .int 0 0] }
abbrev zmC (h : Heap) (l m : Addr) : Heap := (zmB h l m).push { cls := .type "tuple", data := .seq #[.ref h.objs.size, .ref (zmA h l).objs.size] }
abbrev zmD (h : Heap) (l m : Addr) : Heap := (zmC h l m).push { cls := .type "tuple", data := .seq #[.none, .none] }
abbrev zmE (h : Heap) (l m : Addr) : Heap := (zmD h l m).push { cls := .type "zip", data := .fields #[.none, .bool false, .bool false, .ref (zmB h l m).objs.size, .ref (zmC h l m).objs.size] }
theorem meets_zipM (l m : Addr) (xs ys : Array Value) :
    Meets (Builtin.«zip.__new__» ⟨[.type "zip", .ref l, .ref m], []⟩) (fun _ R s => s.heap.IsTuple l xs ∧ s.heap.IsList m ys ∧ R (.ok (.ret (.ref (zmD s.heap l m).objs.size))) { s with heap := zmE s.heap l m }) :=
  .of_wp fun prog w A R s h => by
    obtain ⟨hp, g, d, tk, os⟩ := s
    obtain ⟨hl, hm, h⟩ := h
    have hsub := sub_zip
    have hL : Heap.IsTuple (Shared.heap ⟨hp, g, d, tk, os⟩) l xs := hl
    have hM : Heap.IsList (Shared.heap ⟨hp.push { cls := .type "tuple_iterator", data := .fields #[.ref l, .int 0 0] }, g, d, tk, os⟩) m ys := hm.at fun o e => Heap.get?_push_of_some _ e
    wp_walk using wpAny_pyIter_tuple hL, wpAny_pyIter_list hM
    exact ⟨_, rfl, h⟩
theorem call_zipM {prog : Program} {w : World} {A : Around} {E : Value → Shared → Prop} {s : Shared} {l m : Addr} {xs ys : Array Value} {Q : Value → Shared → Prop} (hl : s.heap.IsTuple l xs) (hm : s.heap.IsList m ys)
    (h : ∀ h', ZmT l m (s.heap.objs.size + 4) (s.heap.objs.size + 2) (s.heap.objs.size + 3) s.heap.objs.size (s.heap.objs.size + 1) 0 h' → (∀ c o, s.heap.get? c = some o → h'.get? c = some o) → Q (.ref (s.heap.objs.size + 4)) { s with heap := h' }) :
    wpAny (model prog w) A (call (.type "zip") [.ref l, .ref m]) Q E s := by
  refine callType_new F.called_zip (by decide) (F.typeCall_zip_2 _ _) (F.newCall_zip_2 _ _) (fun obj => F.args_object_init_3 obj _ _) F.entry_zip_new (meets_zipM l m xs ys) ⟨hl, hm, ?_⟩
  have n1 : (zmA s.heap l).objs.size = s.heap.objs.size + 1 := Heap.size_push ..
  have n2 : (zmB s.heap l m).objs.size = s.heap.objs.size + 2 := by rw [Heap.size_push, n1]
  have n3 : (zmC s.heap l m).objs.size = s.heap.objs.size + 3 := by rw [Heap.size_push, n2]
  have n4 : (zmD s.heap l m).objs.size = s.heap.objs.size + 4 := by rw [Heap.size_push, n3]
  have up : ∀ {h : Heap} {o o' : Obj} {c : Addr}, h.get? c = some o' → (h.push o).get? c = some o' := fun e => Heap.get?_push_of_some _ e
  have g5 : (zmE s.heap l m).get? (zmD s.heap l m).objs.size = some _ := Heap.get?_push_size _ rfl
  have g4 : (zmE s.heap l m).get? (zmC s.heap l m).objs.size = some _ := up (Heap.get?_push_size _ rfl)
  have g3 : (zmE s.heap l m).get? (zmB s.heap l m).objs.size = some _ := up (up (Heap.get?_push_size _ rfl))
  have g2 : (zmE s.heap l m).get? (zmA s.heap l).objs.size = some _ := up (up (up (Heap.get?_push_size _ rfl)))
  have g1 : (zmE s.heap l m).get? s.heap.objs.size = some _ := up (up (up (up (Heap.get?_push_size _ rfl))))
  show _ ∧ _
  rw [n2, n3, n4] at g5
  rw [n1, n2] at g3
  rw [n3] at g4
  rw [n1] at g2
  rw [n4]
  exact ⟨⟨_, g5, rfl⟩, h _ ⟨g5, g3, ⟨_, _, g4⟩, ⟨_, g1, rfl, rfl⟩, _, g2, rfl, rfl⟩ fun c o e => up (up (up (up (up e))))⟩
theorem sep_num2 (I a b : Nat) (h : a < I) (hb : b < I) : ZipSep2 (I + 4) (I + 2) (I + 3) I (I + 1) [I, a] [I + 1, b] := by
  have nm1 : ∀ {c : Nat}, (I < c) → (show Addr from c) ∉ ([I, a] : List Addr) := fun {c} hc hm => by
    rcases List.mem_cons.mp hm with e | hm
    · exact neq_num (.inr hc) e
    · exact neq_num (a := c) (b := a) (.inr (Nat.lt_trans h hc)) (List.mem_singleton.mp hm)
  have nm2 : ∀ {c : Nat}, (I + 1 < c ∨ c = I) → (show Addr from c) ∉ ([I + 1, b] : List Addr) := fun {c} hc hm => by
    rcases List.mem_cons.mp hm with e | hm
    · exact neq_num (a := c) (b := I + 1) (by omega) e
    · exact neq_num (a := c) (b := b) (by omega) (List.mem_singleton.mp hm)
  exact ⟨neq_num (.inl (by omega)), neq_num (.inl (by omega)), neq_num (.inl (by omega)), neq_num (.inr (by omega)), List.mem_cons_self .., nm1 (by omega), nm1 (by omega), neq_num (.inr (by omega)), List.mem_cons_self .., nm2 (by omega), nm2 (by omega), nm2 (by omega), nm1 (by omega)⟩
def iZipX (K : PySem.W.Frag) (ta : TA) : TI := fun σ H R => ta σ H fun vs H1 => (∃ a x xs, vs = [.ref a, .str x] ∧ SqL K H1 a xs ∧ R (ItzS K a x) H1) ∨ ∃ a b xs ys, vs = [.ref a, .ref b] ∧ SqT K H1 a xs ∧ SqL K H1 b ys ∧ R (ItzM K a b) H1
theorem pi_zipX {X : Cx} {e e2 : Expr} {ta : TA} {p pos tpos : Pos} {elts : List Expr} {kk : Nat} (hg : Gl X "zip") (hm : X.mg "zip" = none) (ha : PA X [e, e2] ta)
    (hs : starEach [e, e2] X.env = (false, eval e X.env) :: starEach [e2] X.env) (hpl : (backTo pos (starEach [e2] X.env)).any (·.1) = false) :
    PI X (.Tuple elts kk tpos) (.Call (.Name "zip" p) [e, e2] [] pos) (iZipX X.K ta) := by
  refine ⟨fun pins s σ H R I h => ?_⟩
  refine Call_ (ld_blt I hg hm PyProof.Rows.boot_zip (PyProof.Rows.callWith_type1 (thn (ha.run pos pins s σ H _ I h) fun us s1 ⟨vs, H1, I1, r1, q1⟩ => ?_) hs hpl))
  rcases q1 with ⟨a, x, xs, ex, hqx, q⟩ | ⟨a, b, xs, ys, ex, hqx, hqy, q⟩
  · subst ex
    cases r1 with
    | cons r rr =>
      cases rr with
      | cons r' rr =>
        cases rr
        cases r
        obtain ⟨t, rfl⟩ := r'
        obtain ⟨its, rv, p1, _⟩ := I1.list hqx
        have hlt := p1.lt
        refine call_zipS p1.isList fun h' st hk => wpAny_pyIter_zip st.1 ⟨_, _, _, _, H1, rfl, I1.kept (t' := s1.toks) hk, turn_zipS ?_ (Nat.ne_of_lt hlt), st, fun c hcm => ?_, q⟩
        · exact sep_num _ _ hlt
        · have hle : s1.heap.objs.size ≤ c := by rcases five hcm with z | z | z | z | z <;> rw [z] <;> omega
          exact I1.fpOk hle (I1.hok.fresh hle)
  · subst ex
    cases r1 with
    | cons r rr =>
      cases rr with
      | cons r' rr =>
        cases rr
        cases r
        cases r'
        obtain ⟨its, rv, p1, _⟩ := I1.tuple hqx
        obtain ⟨its2, rv2, p2, _⟩ := I1.list hqy
        obtain ⟨o1, ho1, _⟩ := id p1
        have hlt : a < s1.heap.objs.size := Heap.lt_size ho1
        have hlt2 := p2.lt
        refine call_zipM (show s1.heap.IsTuple a its.toArray from p1) p2.isList fun h' st hk => wpAny_pyIter_zip st.1 ⟨_, _, _, _, H1, rfl, I1.kept (t' := s1.toks) hk, turn_zipM ?_ (Nat.ne_of_lt hlt) (Nat.ne_of_lt (Nat.lt_succ_of_lt hlt2)), st, fun c hcm => ?_, q⟩
        · exact sep_num2 _ _ _ hlt hlt2
        · have hle : s1.heap.objs.size ≤ c := by rcases five hcm with z | z | z | z | z <;> rw [z] <;> omega
          exact I1.fpOk hle (I1.hok.fresh hle)
def gZipX : List D → Option (List D)
  | [.lst xs, .str z] => some (zipD xs (chars z))
  | [.tup xs, .lst ys] => some (zipD xs ys)
  | _ => none
section
variable {K : Kx} {B1 : Hp} {ρ1 : List Addr}
theorem yl_zipM {a b : Addr} {vs us : List V} {ds es : List D} (h1 : SqP K.K B1 a vs) (t1 : RepL K B1 ρ1 vs ds) (h2 : B1 b = some (.lst us)) (t2 : RepL K B1 ρ1 us es) : Yields true K B1 ρ1 (ItzM K.K a b) (zipD ds es) := fun i B2 ρ2 H2 S sB hr c => by
  have q1 : SqT K.K H2 a vs := sqT_mono (sB.trans c.same) h1
  have q2 : SqL K.K H2 b us := SqL.of (c.same _ _ (sB _ _ h2))
  refine ⟨fun d hd => ?_, fun hl => ⟨vs, us, q1, q2, by rw [zipD_len] at hl; rw [t1.length, t2.length]; omega⟩⟩
  obtain ⟨x, y, e1, e2, rfl⟩ := zipD_get hd
  obtain ⟨v, z1, r1⟩ := t1.get e1
  obtain ⟨u, z2, r2⟩ := t2.get e2
  refine ⟨⟨vs, us, v, u, q1, q2, z1, z2⟩, fun x H3 ⟨T, x', y', e, nT, eH, f1, f2⟩ => ?_⟩
  subst e; subst eH
  have w1 := f1 vs q1
  have w2 := f2 us q2
  rw [z1] at w1; rw [z2] at w2; cases w1; cases w2
  obtain ⟨c3, x3⟩ := c.lay (o := .tup [v, u]) nT
  exact ⟨_, x3, c3, .inr ⟨rfl, _, _, _, rfl, rfl, .inl (.inl upd_same), .cons ((r1.mono sB hr).ext x3) (.cons ((r2.mono sB hr).ext x3) .nil)⟩⟩
end
theorem di_zipX {X : Cx} {M : Mp} {W : WX} {e1 e2 : Expr} {fs : Ev (List D)} {p pos tpos : Pos} {elts : List Expr} {kk : Nat} (hg : Gl X "zip") (hm : X.mg "zip" = none) (ha : DA X M W [e1, e2] fs) (hs : starEach [e1, e2] X.env = (false, eval e1 X.env) :: starEach [e2] X.env) (hpl : (backTo pos (starEach [e2] X.env)).any (·.1) = false) :
    DI X M W (.Tuple elts kk tpos) (.Call (.Name "zip" p) [e1, e2] [] pos) (eCI gZipX fs) :=
  PI.imp (pi_zipX hg hm ha hs hpl) fun σ H Rq ⟨B, ρ, γ, S, E', Q', at_, h, k⟩ => ⟨B, ρ, γ, S, E', _, at_, h, fun ds S1 h1 vs H1 B1 ρ1 x1 c1 r1 => by
    obtain ⟨items, q3, h2⟩ := optW_ok h1
    unfold gZipX at q3
    split at q3
    · cases q3
      cases r1 with
      | cons r1 t1 =>
        cases t1 with
        | cons r2 t2 =>
          cases t2
          cases r2
          cases r1 with
          | lst h t => exact .inl ⟨_, _, _, rfl, SqL.of (c1.same _ _ h), k _ S1 h2 _ H1 B1 ρ1 x1 c1 (yl_zipS h t)⟩
    · cases q3
      cases r1 with
      | cons r1 t1 =>
        cases t1 with
        | cons r2 t2 =>
          cases t2
          cases r1 with
          | tup h t =>
            cases r2 with
            | lst h' t' => exact .inr ⟨_, _, _, _, rfl, sqT_mono c1.same h, SqL.of (c1.same _ _ h'), k _ S1 h2 _ H1 B1 ρ1 x1 c1 (yl_zipM h t h' t')⟩
    · cases q3⟩
end DL
namespace DL
open PySem PySem.Spec L2 SeqAt PyProof.Rows
def strK (x : List Nat) : List Int := 2 :: (x.map (fun c : Nat => (c : Int) + 1) ++ [0])
def scV : Value → Option (List Int)
  | .str x _ => some (strK x.cps.toList)
  | .int i _ => some [4, i]
  | _ => none
def scD : D → Option (List Int)
  | .str x => some (strK x)
  | .int i => some [4, i]
  | _ => none
def goL : List (Option (List Int)) → List Int
  | [] => [0]
  | some c :: r => 1 :: (c ++ goL r)
  | none :: _ => [1, 7]
def encD : D → List Int
  | .tup xs => 3 :: goL (xs.map scD)
  | d => (scD d).getD []
def encV (h : Heap) : Value → List Int
  | .ref a => match h.get? a with
    | some o => (match o.data with | .seq xs _ => 3 :: goL (xs.toList.map scV) | _ => [])
    | none => []
  | v => (scV v).getD []
def leE (x y : D) : Bool := !decide (encD y < encD x)
theorem leE_iff {x y : D} : leE x y = true ↔ encD x ≤ encD y := by
  simp only [leE, Bool.not_eq_true', decide_eq_false_iff_not]
  exact List.not_lt
theorem leE_trans (a b c : D) (h1 : leE a b = true) (h2 : leE b c = true) : leE a c = true := leE_iff.mpr (List.le_trans (leE_iff.mp h1) (leE_iff.mp h2))
theorem leE_total (a b : D) : (leE a b || leE b a) = true := by
  rw [Bool.or_eq_true, leE_iff, leE_iff]
  exact List.le_total _ _
theorem ltI_swo {α : Type} (k : α → List Int) : SrtO.Swo fun v u => decide (k v < k u) := by
  refine ⟨fun x y h => ?_, fun x y z h1 h2 => ?_⟩
  · have := of_decide_eq_true h
    exact decide_eq_false fun h' => List.lt_asymm this h'
  · have a := of_decide_eq_false h1
    have b := of_decide_eq_false h2
    refine decide_eq_false ?_
    exact (List.le_trans (show k x ≤ k y from a) (show k y ≤ k z from b))
theorem strK_lt : ∀ {x y : List Nat} {r r' : List Int}, x ≠ y → ((x.map (fun c : Nat => (c : Int) + 1) ++ (0 :: r)) < (y.map (fun c : Nat => (c : Int) + 1) ++ (0 :: r')) ↔ x < y)
  | [], [], _, _, h => absurd rfl h
  | [], y :: ys, r, r', _ => by
    simp only [List.map_nil, List.nil_append, List.map_cons, List.cons_append, List.cons_lt_cons_iff, List.nil_lt_cons, iff_true]
    exact .inl (by omega)
  | x :: xs, [], r, r', _ => by
    simp only [List.map_nil, List.nil_append, List.map_cons, List.cons_append, List.cons_lt_cons_iff, List.not_lt_nil, iff_false]
    intro h
    rcases h with h | h
    · omega
    · omega
  | x :: xs, y :: ys, r, r', h => by
    simp only [List.map_cons, List.cons_append, List.cons_lt_cons_iff]
    by_cases e : x = y
    · subst e
      have h2 : xs ≠ ys := fun q => h (by rw [q])
      rw [strK_lt h2]
      simp
    · constructor
      · rintro (q | q)
        · exact .inl (by omega)
        · exact absurd q.1 (by omega)
      · rintro (q | q)
        · exact .inl (by omega)
        · exact absurd q.1 e
theorem app_lt {a b c : List Int} : a ++ b < a ++ c ↔ b < c := by
  induction a with
  | nil => simp
  | cons x xs ih => simp only [List.cons_append, List.cons_lt_cons_iff, Int.lt_irrefl, true_and, false_or]; exact ih
theorem z_lt {r : List Int} : [0] < 1 :: r := List.cons_lt_cons_iff.mpr (.inl (by decide))
theorem z_nlt {r : List Int} : ¬ 1 :: r < [0] := fun h => by
  rcases List.cons_lt_cons_iff.mp h with h | h
  · omega
  · exact absurd h.1 (by decide)
def cmpV : List (Option (List Int)) → List (Option (List Int)) → Bool
  | some c :: r, some c' :: r' => decide (c.head? = c'.head?) && (decide (c ≠ c') || cmpV r r')
  | [], _ => true
  | _, [] => true
  | _, _ => false
theorem strK_inj {x y : List Nat} (h : strK x = strK y) : x = y := by
  unfold strK at h
  injection h with _ h
  have h2 := List.append_inj_left' h rfl
  exact (List.map_inj_right fun a b e => by omega).mp h2
section
variable {prog : Program} {w : World} {A : Around} {s : Shared}
theorem item_kat {p q : Value} {c c' : List Int} {r : List (Value × Value)} {i : Nat} {b fin : Bool} {Q : Bool → Shared → Prop} {g g' : List Int} (h1 : scV p = some c) (h2 : scV q = some c') (hk : c.head? = c'.head?)
    (heq : c = c' → PySem.W.KatLex prog w A b fin Q r (i + 1) s) (hne : c ≠ c' → Q (decide (1 :: (c ++ g) < 1 :: (c' ++ g'))) s) : PySem.W.KatLex prog w A b fin Q ((p, q) :: r) i s := by
  cases p <;> simp only [scV, Option.some.injEq, reduceCtorEq] at h1
  · rename_i x t
    cases q <;> simp only [scV, Option.some.injEq, reduceCtorEq] at h2
    · rename_i y u
      subst h1; subst h2
      refine PySem.W.kat_cons (EqAt.int_int x t y u prog w _ _ ?_)
      by_cases e : x = y
      · subst e
        rw [beq_self_eq_true]
        exact PySem.W.kat_yes (heq rfl)
      · rw [show (x == y) = false by simpa using e]
        refine PySem.W.kat_no (oneLt_any_int ?_)
        have := hne fun z => e (by simpa using z)
        have e2 : decide (1 :: ([4, x] ++ g) < 1 :: ([4, y] ++ g')) = decide (x < y) := by
          rw [decide_eq_decide]
          simp only [List.cons_append, List.nil_append, List.cons_lt_cons_iff, Int.lt_irrefl, true_and, false_or, e, false_and, or_false]
        rw [e2] at this
        exact this
    · subst h1; subst h2
      simp [strK] at hk
  · rename_i x t
    cases q <;> simp only [scV, Option.some.injEq, reduceCtorEq] at h2
    · subst h1; subst h2
      simp [strK] at hk
    · rename_i y u
      subst h1; subst h2
      refine PySem.W.kat_cons (EqAt.str_str x t y u prog w _ _ ?_)
      by_cases e : x = y
      · subst e
        rw [beq_self_eq_true]
        exact PySem.W.kat_yes (heq rfl)
      · have e0 : x.cps.toList ≠ y.cps.toList := fun z => e (by rw [← of_sOf x, ← of_sOf y, z])
        rw [show (x == y) = false by simpa using e]
        refine PySem.W.kat_no (oneLt_any_str ?_)
        have := hne fun z => e0 (strK_inj z)
        have e2 : decide (1 :: (strK x.cps.toList ++ g) < 1 :: (strK y.cps.toList ++ g')) = decide (x.cps.toList < y.cps.toList) := by
          rw [decide_eq_decide]
          simp only [strK, List.cons_append, List.cons_lt_cons_iff, Int.lt_irrefl, true_and, false_or, List.append_assoc, List.nil_append]
          exact strK_lt e0
        rw [e2] at this
        exact this
theorem items_kat {b : Bool} {Q : Bool → Shared → Prop} : ∀ (us ws : List Value) (i : Nat) (fin : Bool), cmpV (us.map scV) (ws.map scV) = true → fin = decide (us.length < ws.length) → Q (decide (goL (us.map scV) < goL (ws.map scV))) s → PySem.W.KatLex prog w A b fin Q (us.zip ws) i s
  | [], [], i, fin, _, hf, q => by
    subst hf
    exact PySem.W.kat_nil (by simpa [goL] using q)
  | [], y :: ys, i, fin, _, hf, q => by
    have e : decide (goL (([] : List Value).map scV) < goL ((y :: ys).map scV)) = true := by
      simp only [List.map_nil, List.map_cons, decide_eq_true_eq]
      cases scV y <;> exact z_lt
    rw [e] at q
    subst hf
    exact PySem.W.kat_nil (by simpa using q)
  | x :: xs, [], i, fin, _, hf, q => by
    have e : decide (goL ((x :: xs).map scV) < goL (([] : List Value).map scV)) = false := by
      simp only [List.map_nil, List.map_cons, decide_eq_false_iff_not]
      cases scV x <;> exact z_nlt
    rw [e] at q
    subst hf
    exact PySem.W.kat_nil (by simpa using q)
  | x :: xs, y :: ys, i, fin, hc, hf, q => by
    rw [List.map_cons, List.map_cons] at hc q
    cases h1 : scV x with
    | none => rw [h1] at hc; simp [cmpV] at hc
    | some c =>
      cases h2 : scV y with
      | none => rw [h1, h2] at hc; simp [cmpV] at hc
      | some c' =>
        rw [h1, h2] at hc q
        simp only [cmpV, Bool.and_eq_true, decide_eq_true_eq, Bool.or_eq_true] at hc
        refine item_kat (g := goL (xs.map scV)) (g' := goL (ys.map scV)) h1 h2 hc.1 (fun e => ?_) fun e => q
        subst e
        refine items_kat xs ys (i + 1) fin (hc.2.resolve_left fun z => z rfl) (by rw [hf]; simp) ?_
        have e2 : decide (goL (some c :: xs.map scV) < goL (some c :: ys.map scV)) = decide (goL (xs.map scV) < goL (ys.map scV)) := by
          rw [decide_eq_decide]
          simp only [goL, List.cons_lt_cons_iff, Int.lt_irrefl, true_and, false_or]
          exact app_lt
        rw [e2] at q
        exact q
end
end DL
namespace DL
open PySem PySem.Spec L2 SeqAt PyProof.Rows
def cmpD : D → D → Bool
  | .str _, .str _ => true
  | .int _, .int _ => true
  | .tup xs, .tup ys => cmpV (xs.map scD) (ys.map scD)
  | _, _ => false
def pairAll (f : D → D → Bool) : List D → Bool
  | [] => true
  | x :: xs => xs.all (f x) && pairAll f xs
def hdK : D → Nat
  | .str _ => 1
  | .int _ => 2
  | .tup (.str _ :: _) => 3
  | .tup (.int _ :: _) => 4
  | _ => 0
def sortOk (xs : List D) : Bool := (xs.all (fun d => hdK d == 1) || xs.all (fun d => hdK d == 2) || xs.all (fun d => hdK d == 3) || xs.all (fun d => hdK d == 4)) && pairAll cmpD xs && decide (xs.length ≤ 1000)
def gSortX : List D → Option (List D)
  | [.lst xs] => if sortOk xs then some (xs.mergeSort leE) else none
  | [.tup xs] => if sortOk xs then some (xs.mergeSort leE) else none
  | _ => none
theorem cmpV_symm : ∀ {a b : List (Option (List Int))}, cmpV a b = true → cmpV b a = true
  | [], [], _ => rfl
  | [], x :: _, _ => by cases x <;> rfl
  | some _ :: _, [], _ => rfl
  | none :: _, [], _ => rfl
  | none :: _, none :: _, h => by simp [cmpV] at h
  | none :: _, some _ :: _, h => by simp [cmpV] at h
  | some _ :: _, none :: _, h => by simp [cmpV] at h
  | some c :: r, some c' :: r', h => by
    simp only [cmpV, Bool.and_eq_true, decide_eq_true_eq, Bool.or_eq_true] at h ⊢
    exact ⟨h.1.symm, h.2.imp Ne.symm cmpV_symm⟩
theorem cmpD_symm {a b : D} (h : cmpD a b = true) : cmpD b a = true := by
  unfold cmpD at h
  split at h
  · rfl
  · rfl
  · exact cmpV_symm h
  · cases h
theorem pairAll_get {f : D → D → Bool} (hs : ∀ {a b}, f a b = true → f b a = true) : ∀ {xs : List D}, pairAll f xs = true → ∀ {i j : Nat} {a b : D}, i ≠ j → xs[i]? = some a → xs[j]? = some b → f a b = true
  | [], _, _, _, _, _, _, h, _ => by simp at h
  | x :: xs, hp, 0, 0, _, _, h, _, _ => absurd rfl h
  | x :: xs, hp, 0, j + 1, a, b, _, h1, h2 => by
    simp only [pairAll, Bool.and_eq_true, List.all_eq_true] at hp
    simp at h1 h2
    subst h1
    exact hp.1 b (List.mem_of_getElem? h2)
  | x :: xs, hp, i + 1, 0, a, b, _, h1, h2 => by
    simp only [pairAll, Bool.and_eq_true, List.all_eq_true] at hp
    simp at h1 h2
    subst h2
    exact hs (hp.1 a (List.mem_of_getElem? h1))
  | x :: xs, hp, i + 1, j + 1, a, b, h, h1, h2 => by
    simp only [pairAll, Bool.and_eq_true] at hp
    simp at h1 h2
    exact pairAll_get hs hp.2 (fun e => h (by rw [e])) h1 h2
theorem scD_inj {a b : D} {c : List Int} (h1 : scD a = some c) (h2 : scD b = some c) : a = b := by
  cases a <;> simp only [scD, Option.some.injEq, reduceCtorEq] at h1 <;> cases b <;> simp only [scD, Option.some.injEq, reduceCtorEq] at h2
  · subst h1
    injection h2 with _ h2
    injection h2 with h2
    rw [h2]
  · subst h1
    simp [strK] at h2
  · subst h1
    simp [strK] at h2
  · rw [strK_inj (h1.trans h2.symm)]
theorem goL_inj : ∀ {xs ys : List D}, cmpV (xs.map scD) (ys.map scD) = true → goL (xs.map scD) = goL (ys.map scD) → xs = ys
  | [], [], _, _ => rfl
  | [], y :: ys, _, h => by
    simp only [List.map_nil, List.map_cons] at h
    cases h2 : scD y <;> rw [h2] at h <;> simp [goL] at h
  | x :: xs, [], _, h => by
    simp only [List.map_nil, List.map_cons] at h
    cases h2 : scD x <;> rw [h2] at h <;> simp [goL] at h
  | x :: xs, y :: ys, hc, h => by
    simp only [List.map_cons] at h hc
    cases h1 : scD x with
    | none => rw [h1] at hc; simp [cmpV] at hc
    | some c =>
      cases h2 : scD y with
      | none => rw [h1, h2] at hc; simp [cmpV] at hc
      | some c' =>
        rw [h1, h2] at hc h
        simp only [cmpV, Bool.and_eq_true, decide_eq_true_eq, Bool.or_eq_true] at hc
        by_cases e : c = c'
        · subst e
          rw [scD_inj h1 h2]
          simp only [goL, List.cons.injEq, true_and, List.append_cancel_left_eq] at h
          rw [goL_inj (hc.2.resolve_left fun z => z rfl) h]
        · exfalso
          have l1 := item_lt h1 h2 hc.1 e (g := goL (xs.map scD)) (g' := goL (ys.map scD))
          have h : 1 :: (c ++ goL (xs.map scD)) = 1 :: (c' ++ goL (ys.map scD)) := h
          rcases l1 with l1 | l1 <;> (rw [h] at l1; exact List.lt_irrefl _ l1)
where
  item_lt {x y : D} {c c' g g' : List Int} (h1 : scD x = some c) (h2 : scD y = some c') (hk : c.head? = c'.head?) (e : c ≠ c') : 1 :: (c ++ g) < 1 :: (c' ++ g') ∨ 1 :: (c' ++ g') < 1 :: (c ++ g) := by
    cases x <;> simp only [scD, Option.some.injEq, reduceCtorEq] at h1 <;> cases y <;> simp only [scD, Option.some.injEq, reduceCtorEq] at h2
    · rename_i i j
      subst h1; subst h2
      have ne : i ≠ j := fun z => e (by rw [z])
      simp only [List.cons_append, List.nil_append, List.cons_lt_cons_iff, Int.lt_irrefl, true_and, false_or, ne, Ne.symm ne, false_and, or_false]
      omega
    · subst h1; subst h2; simp [strK] at hk
    · subst h1; subst h2; simp [strK] at hk
    · rename_i x y
      subst h1; subst h2
      have ne : x ≠ y := fun z => e (by rw [z])
      simp only [strK, List.cons_append, List.cons_lt_cons_iff, Int.lt_irrefl, true_and, false_or, List.append_assoc, List.nil_append]
      rw [strK_lt ne, strK_lt (Ne.symm ne)]
      by_cases q : x < y
      · exact .inl q
      · rcases List.le_iff_lt_or_eq.mp (show y ≤ x from q) with z | z
        · exact .inr z
        · exact absurd z.symm ne
theorem encD_inj {a b : D} (hc : cmpD a b = true) (h : encD a = encD b) : a = b := by
  unfold cmpD at hc
  split at hc
  · have : strK _ = strK _ := h
    rw [strK_inj this]
  · rename_i i j
    have h : ([4, i] : List Int) = [4, j] := h
    injection h with _ h
    injection h with h
    rw [h]
  · have h : 3 :: goL _ = 3 :: goL _ := h
    injection h with _ h
    rw [goL_inj hc h]
  · cases hc
def VD (h : Heap) (u : Value) : D → Prop
  | .str x => ∃ t, u = .str (sOf x) t
  | .int i => ∃ t, u = .int i t
  | .tup ds => ∃ (a : Addr) (o : Obj) (its : List Value) (n : Nat), u = .ref a ∧ h.get? a = some o ∧ o.cls = .type "tuple" ∧ o.data = .seq its.toArray n ∧ its.map scV = ds.map scD
  | _ => True
theorem VD.enc {h : Heap} {u : Value} {d : D} (v : VD h u d) (hk : hdK d ≠ 0) : encV h u = encD d := by
  cases d <;> simp [hdK] at hk
  · obtain ⟨t, rfl⟩ := v
    rfl
  · obtain ⟨t, rfl⟩ := v
    rfl
  · obtain ⟨a, o, its, n, rfl, ho, _, hd, e⟩ := v
    simp only [encV, ho, hd, encD, e]
theorem VD.keeps {h h' : Heap} {u : Value} {d : D} (v : VD h u d) (k : ∀ b o, h.get? b = some o → o.cls = .type "tuple" → h'.get? b = some o) : VD h' u d := by
  cases d <;> first | exact v | skip
  obtain ⟨a, o, its, n, rfl, ho, hc, hd, e⟩ := v
  exact ⟨a, o, its, n, rfl, k a o ho hc, hc, hd, e⟩
section
variable {X : Cx} {M : Mp}
theorem rep_sc {H : Hp} {ρ : List Addr} {v : V} {u : Value} {d : D} (r : Rep (kx X M) H ρ v d) (q : RelV v u) : scV u = scD d := by
  cases r <;> first | (cases q; rfl) | (obtain ⟨t, rfl⟩ := q; rfl)
theorem rep_scs {H : Hp} {ρ : List Addr} : ∀ {vs : List V} {us : List Value} {ds : List D}, RepL (kx X M) H ρ vs ds → Vals vs us → us.map scV = ds.map scD
  | _, _, _, .nil, .nil => rfl
  | _, _, _, .cons r t, .cons q qs => by rw [List.map_cons, List.map_cons, rep_sc r q, rep_scs t qs]
theorem rep_vd {pins : List (Addr × Obj)} {σ : L2.St} {H : Hp} {s : Shared} {ρ : List Addr} (I : Inv X pins σ H s) {d : D} {v : V} {u : Value} (r : Rep (kx X M) H ρ v d) (q : RelV v u) : VD s.heap u d := by
  cases r with
  | str x => exact q
  | int i => exact q
  | tup hs t =>
    cases q
    obtain ⟨its, rv, ⟨o, ho, hc, n, hd⟩, _⟩ := I.tuple hs.sq
    exact ⟨_, o, its, n, rfl, ho, hc, hd, rep_scs t rv⟩
  | _ => trivial
theorem vds_of {pins : List (Addr × Obj)} {σ : L2.St} {H : Hp} {s : Shared} {ρ : List Addr} (I : Inv X pins σ H s) : ∀ {vs : List V} {us : List Value} {ds : List D}, RepL (kx X M) H ρ vs ds → Vals vs us → us.length = ds.length ∧ ∀ (i : Nat) (u : Value) (d : D), us[i]? = some u → ds[i]? = some d → VD s.heap u d
  | _, _, _, .nil, .nil => ⟨rfl, fun i u d h => by simp at h⟩
  | _, _, _, .cons r t, .cons q qs => by
    obtain ⟨l, g⟩ := vds_of I t qs
    refine ⟨by simp [l], fun i u d h1 h2 => ?_⟩
    cases i with
    | zero => simp at h1 h2; subst h1; subst h2; exact rep_vd I r q
    | succ i => exact g i u d (by simpa using h1) (by simpa using h2)
end
section
variable {prog : Program} {w : World} {A : Around} {s : Shared}
theorem vd_cmp {h : Heap} {vs : List Value} {ds : List D} {key : Value → List Int} (hl : vs.length = ds.length) (hv : ∀ (i : Nat) (u : Value) (d : D), vs[i]? = some u → ds[i]? = some d → VD h u d) (hkey : ∀ (i : Nat) (u : Value) (d : D), vs[i]? = some u → ds[i]? = some d → key u = encD d)
    (hp : pairAll cmpD ds = true) {k : Nat} (hk : ∀ d ∈ ds, hdK d = k) (h34 : k = 3 ∨ k = 4) : SrtO.Cmp prog w A { s with heap := h } (tuples' true) (fun p => p.1 ∈ vs) (SrtO.lt2 fun v u => decide (key v < key u)) := by
  intro p q hm hm'
  show wpAny (model prog w) A (keyLt' (tuples' true) p.1 q.1) (fun r s' => s' = { s with heap := h } ∧ r = decide (key p.1 < key q.1)) (fun _ _ => False) { s with heap := h }
  obtain ⟨i, hi⟩ := List.getElem?_of_mem hm
  obtain ⟨j, hj⟩ := List.getElem?_of_mem hm'
  have li : i < ds.length := by rw [← hl]; exact (List.getElem?_eq_some_iff.mp hi).1
  have lj : j < ds.length := by rw [← hl]; exact (List.getElem?_eq_some_iff.mp hj).1
  have di : ds[i]? = some ds[i] := List.getElem?_eq_getElem li
  have dj : ds[j]? = some ds[j] := List.getElem?_eq_getElem lj
  have ki := hk _ (List.getElem_mem li)
  have kj := hk _ (List.getElem_mem lj)
  have vi := hv i _ _ hi di
  have vj := hv j _ _ hj dj
  have ei := hkey i _ _ hi di
  have ej := hkey j _ _ hj dj
  have tup_of : ∀ {d : D}, hdK d = k → ∃ xs, d = .tup xs := fun {d} z => by
    cases d <;> first | exact ⟨_, rfl⟩ | (simp [hdK] at z; omega)
  obtain ⟨xi, hxi⟩ := tup_of ki
  obtain ⟨xj, hxj⟩ := tup_of kj
  by_cases e : i = j
  · subst e
    have e2 : p.1 = q.1 := by rw [hi] at hj; exact Option.some.inj hj
    rw [← e2]
    rw [hxi] at vi
    obtain ⟨a, o, its, n, ev, ho, hc, hd, hs⟩ := vi
    rw [ev]
    refine PySem.W.kat_lt ho hd ho hd (kat_self ⟨rfl, ?_⟩ _ _)
    rw [decide_eq_false (Nat.lt_irrefl _)]
    exact (decide_eq_false (List.lt_irrefl _)).symm
  · have hc := pairAll_get cmpD_symm hp e di dj
    rw [hxi] at vi
    rw [hxj] at vj
    obtain ⟨a, o, its, n, ev, ho, _, hd, hs⟩ := vi
    obtain ⟨a', o', its', n', ev', ho', _, hd', hs'⟩ := vj
    rw [ei, ej, hxi, hxj]
    rw [hxi, hxj] at hc
    rw [ev, ev']
    refine PySem.W.kat_lt ho hd ho' hd' ?_
    have hc : cmpV (xi.map scD) (xj.map scD) = true := hc
    refine items_kat its its' 0 _ (by rw [hs, hs']; exact hc) (by simp) ⟨rfl, ?_⟩
    rw [hs, hs', decide_eq_decide]
    show _ ↔ 3 :: goL (xi.map scD) < 3 :: goL (xj.map scD)
    simp only [List.cons_lt_cons_iff, Int.lt_irrefl, true_and, false_or]
end
end DL
namespace DL
open PySem PySem.Spec L2 SeqAt PyProof.Rows
section
variable {prog : Program} {w : World} {A : Around} {E : Value → Shared → Prop} {s : Shared}
theorem gather {l : Addr} {vs : List Value} {Q : List Value → Shared → Prop} {T : String} (hT : T = "list" ∨ T = "tuple") (hl : ∃ (o : Obj) (n : Nat), s.heap.get? l = some o ∧ o.cls = .type T ∧ o.data = .seq vs.toArray n)
    (h : Q vs { s with heap := (s.heap.push (seqObj "list" #[] 0)).update s.heap.objs.size (Obj.mapSeq (· ++ vs.toArray)) }) (hz : vs.length ≤ sizeLine) : wpAny (model prog w) A (collect (.ref l)) Q E s := by
  obtain ⟨o, n, ho, hc, hd⟩ := hl
  rcases hT with rfl | rfl
  · exact collect_list ⟨o, ho, hc, n, hd⟩ h hz
  have hp : (s.heap.push (seqObj "list" #[] 0)).get? l = some o := Heap.get?_push_of_some _ ho
  have h0 : (s.heap.push (seqObj "list" #[] 0)).get? s.heap.objs.size = some (seqObj "list" #[] 0) := Heap.get?_push_size _ rfl
  unfold collect
  refine wpAny_bind (wpAny_runValue (codeAny_builtin entry_proto_collect' ?_))
  refine wpAny_bind (wpAny_newList (wpAny_pure ⟨Code.quiet_builtin _ (by decide +kernel), codeAny_builtin entry_list_iadd' ?_⟩))
  show wpAny (model prog w) _ (Builtin.List.listExtendWith _ _ _) _ _ _
  unfold Builtin.List.listExtendWith
  refine wpAny_bind (wpAny_typeOf (T := "tuple") ⟨o, hp, hc⟩ ?_)
  have c1 : (Value.type "tuple" == Value.type "list" || Value.type "tuple" == Value.type "tuple") = true := by first | rfl | decide +kernel
  first | rw [if_pos c1] | rw [if_pos (by simpa using c1)]
  refine wpAny_bind (listItems_at hp hd (wpAny_bind (listItems_at (xs := #[]) (n := 0) h0 rfl ?_)))
  have sz : ((#[] : Array Value) ++ vs.toArray).size ≤ sizeLine + 1 := by simp only [Array.size_append, List.size_toArray, List.length_nil]; omega
  have eL : ((#[] : Array Value) ++ vs.toArray).toList = vs := by simp
  rw [if_neg (show ¬ _ = true by simp)]
  refine wpAny_bind (listUpdate_at (xs := #[]) (n := 0) h0 rfl (wpAny_pure ?_) (Nat.zero_le _) sz)
  refine wpAny_bind (wpAny_load (get?_update_seq h0 _) ?_)
  refine wpAny_pure ?_
  rw [show (Array.toList ((#[] : Array Value) ++ vs.toArray)) = vs from eL]
  exact h
theorem sorted_any {l : Addr} {vs : List Value} {ltv : Value → Value → Bool} {Q : Value → Shared → Prop} {T : String} (O : SrtO.Swo ltv) (hT : T = "list" ∨ T = "tuple") (hl : ∃ (o : Obj) (n : Nat), s.heap.get? l = some o ∧ o.cls = .type T ∧ o.data = .seq vs.toArray n) (hz : vs.length ≤ sizeLine)
    (hS : 2 ≤ vs.length → ∀ (h₁ : Heap) (a : Addr), h₁.get? a = some (seqObj "list" vs.toArray 0) → (∀ b o, s.heap.get? b = some o → b ≠ a ∧ h₁.get? b = some o) → SrtO.SortableO prog w A.in1.in1 { s with heap := h₁ } a vs ltv)
    (h : ∀ out : List Value, SrtO.Srtd ltv out → SrtO.Stb ltv out vs → Q (.ref (s.heap.objs.size + 1)) { s with heap := sortedAll s.heap vs out.toArray }) : wpAny (model prog w) A (call (.builtin "sorted") [.ref l]) Q E s := by
  refine Calls.call_function_entry kind_sorted plain_sorted entry_sorted (args_sorted1 _) ?_
  unfold Builtin.«sorted»
  refine wpAny_bind (m := checkCount "sorted" 1 1 _) (wpAny_pure ?_)
  refine wpAny_bind (gather hT hl (wpAny_bind (wpAny_newList ?_ hz)) hz)
  generalize hg : (s.heap.push (seqObj "list" #[] 0)).update s.heap.objs.size (Obj.mapSeq (· ++ vs.toArray)) = hh
  have hs1 : hh.objs.size = s.heap.objs.size + 1 := by rw [← hg, Heap.size_update, size_push']
  have hnew : (hh.push (seqObj "list" vs.toArray 0)).get? (s.heap.objs.size + 1) = some (seqObj "list" vs.toArray 0) := by rw [← hs1]; exact Heap.get?_push_size _ rfl
  have old : ∀ b o, s.heap.get? b = some o → b ≠ s.heap.objs.size + 1 ∧ (hh.push (seqObj "list" vs.toArray 0)).get? b = some o := fun b o q => by
    have lt : b < s.heap.objs.size := Heap.lt_size q
    refine ⟨Nat.ne_of_lt (Nat.lt_succ_of_lt lt), Heap.get?_push_of_some _ ?_⟩
    rw [← hg, Heap.get?_update_ne _ _ _ _ (Nat.ne_of_lt lt)]
    exact Heap.get?_push_of_some _ q
  show wpAny (model prog w) _ _ _ _ { s with heap := hh.push (seqObj "list" vs.toArray 0) }
  rw [hs1]
  refine wpAny_bind (wpAny_holding (wpAny_call_entry slot_list_sort ⟨_, hnew, rfl⟩ entry_list_sort (SrtO.list_sort_ord O hnew hz (fun h2 => hS h2 _ _ hnew old) fun out hs hb => ⟨_, rfl, ?_⟩) (args_list_sort _)))
  refine wpAny_pure ⟨_, rfl, ?_⟩
  have := h out hs hb
  unfold sortedAll at this
  rw [hg] at this
  exact this
theorem strs_of {vs : List Value} {ds : List D} {h : Heap} (hl : vs.length = ds.length) (hv : ∀ (i : Nat) (u : Value) (d : D), vs[i]? = some u → ds[i]? = some d → VD h u d) (hk : ∀ d ∈ ds, hdK d = 1) : ∃ ss, StrsAre vs ss := by
  induction vs generalizing ds with
  | nil => exact ⟨[], .nil⟩
  | cons v vs ih =>
    cases ds with
    | nil => simp at hl
    | cons d ds =>
      obtain ⟨ss, hs⟩ := ih (ds := ds) (by simpa using hl) (fun i u d h1 h2 => hv (i + 1) u d (by simpa using h1) (by simpa using h2)) fun d hd => hk d (List.mem_cons_of_mem _ hd)
      have h0 := hv 0 v d rfl rfl
      have k0 := hk d List.mem_cons_self
      cases d with
      | str x =>
        obtain ⟨t, rfl⟩ := h0
        exact ⟨_, .cons _ t hs⟩
      | tup xs => cases xs with
        | nil => simp [hdK] at k0
        | cons x xs => cases x <;> simp [hdK] at k0
      | _ => simp [hdK] at k0
theorem ints_of {vs : List Value} {ds : List D} {h : Heap} (hl : vs.length = ds.length) (hv : ∀ (i : Nat) (u : Value) (d : D), vs[i]? = some u → ds[i]? = some d → VD h u d) (hk : ∀ d ∈ ds, hdK d = 2) : ∃ ss, IntsAre vs ss := by
  induction vs generalizing ds with
  | nil => exact ⟨[], .nil⟩
  | cons v vs ih =>
    cases ds with
    | nil => simp at hl
    | cons d ds =>
      obtain ⟨ss, hs⟩ := ih (ds := ds) (by simpa using hl) (fun i u d h1 h2 => hv (i + 1) u d (by simpa using h1) (by simpa using h2)) fun d hd => hk d (List.mem_cons_of_mem _ hd)
      have h0 := hv 0 v d rfl rfl
      have k0 := hk d List.mem_cons_self
      cases d with
      | int x =>
        obtain ⟨t, rfl⟩ := h0
        exact ⟨_, .cons _ t hs⟩
      | tup xs => cases xs with
        | nil => simp [hdK] at k0
        | cons x xs => cases x <;> simp [hdK] at k0
      | _ => simp [hdK] at k0
theorem firsts_of {vs : List Value} {ds : List D} {h : Heap} {k : Nat} (hl : vs.length = ds.length) (hv : ∀ (i : Nat) (u : Value) (d : D), vs[i]? = some u → ds[i]? = some d → VD h u d) (hk : ∀ d ∈ ds, hdK d = k) (h34 : k = 3 ∨ k = 4) :
    ∃ fs : List Value, PySem.W.KatTups h vs fs ∧ fs.length = vs.length ∧ ∀ f ∈ fs, if k = 3 then ∃ x t, f = Value.str x t else ∃ x t, f = Value.int x t := by
  induction vs generalizing ds with
  | nil => exact ⟨[], PySem.W.KatTups.nil, rfl, fun f hf => nomatch hf⟩
  | cons v vs ih =>
    cases ds with
    | nil => simp at hl
    | cons d ds =>
      obtain ⟨fs, h1, h2, h3⟩ := ih (ds := ds) (by simpa using hl) (fun i u d h1 h2 => hv (i + 1) u d (by simpa using h1) (by simpa using h2)) fun d hd => hk d (List.mem_cons_of_mem _ hd)
      have h0 := hv 0 v d rfl rfl
      have k0 := hk d List.mem_cons_self
      cases d with
      | tup xs =>
        cases xs with
        | nil => simp [hdK] at k0; omega
        | cons x xs =>
          obtain ⟨a, o, its, n, rfl, ho, hc, hd, e⟩ := h0
          cases its with
          | nil => simp at e
          | cons f its =>
            simp only [List.map_cons, List.cons.injEq] at e
            refine ⟨f :: fs, PySem.W.KatTups.cons ho hc hd rfl h1, by simp [h2], fun g hg => ?_⟩
            rcases List.mem_cons.mp hg with rfl | hg
            · cases x with
              | str z =>
                have : k = 3 := by simpa [hdK] using k0.symm
                rw [if_pos this]
                have e1 := e.1
                clear e hd hg h3
                cases g <;> simp only [scV, scD, Option.some.injEq, reduceCtorEq] at e1
                · simp [strK] at e1
                · exact ⟨_, _, rfl⟩
              | int z =>
                have : k = 4 := by simpa [hdK] using k0.symm
                rw [if_neg (by omega)]
                have e1 := e.1
                clear e hd hg h3
                cases g <;> simp only [scV, scD, Option.some.injEq, reduceCtorEq] at e1
                · exact ⟨_, _, rfl⟩
                · simp [strK] at e1
              | _ => simp [hdK] at k0; omega
            · exact h3 g hg
      | str _ => simp [hdK] at k0; omega
      | int _ => simp [hdK] at k0; omega
      | _ => simp [hdK] at k0; omega
theorem vd_sortable {a : Addr} {vs : List Value} {ds : List D} {key : Value → List Int} (h0 : 2 ≤ vs.length) (hl : vs.length = ds.length) (hv : ∀ (i : Nat) (u : Value) (d : D), vs[i]? = some u → ds[i]? = some d → VD s.heap u d) (hkey : ∀ (i : Nat) (u : Value) (d : D), vs[i]? = some u → ds[i]? = some d → key u = encD d)
    (hp : pairAll cmpD ds = true) {k : Nat} (hk : ∀ d ∈ ds, hdK d = k) (h14 : 1 ≤ k ∧ k ≤ 4) (ha : ∀ o, s.heap.get? a = some o → o.cls ≠ .type "tuple") : SrtO.SortableO prog w A s a vs fun v u => decide (key v < key u) := by
  intro h' keep
  have hv' : ∀ (i : Nat) (u : Value) (d : D), vs[i]? = some u → ds[i]? = some d → VD h' u d := fun i u d h1 h2 => (hv i u d h1 h2).keeps fun b o e c => keep b o (fun z => by subst z; exact ha o e c) e
  have idx : ∀ {v : Value}, v ∈ vs → ∃ i d, vs[i]? = some v ∧ ds[i]? = some d ∧ hdK d = k := fun {v} hm => by
    obtain ⟨i, hi⟩ := List.getElem?_of_mem hm
    have li : i < ds.length := by rw [← hl]; exact (List.getElem?_eq_some_iff.mp hi).1
    exact ⟨i, ds[i], hi, List.getElem?_eq_getElem li, hk _ (List.getElem_mem li)⟩
  obtain ⟨v1, v2, vr, e12⟩ : ∃ v1 v2 vr, vs = v1 :: v2 :: vr := by
    match vs, h0 with
    | v1 :: v2 :: vr, _ => exact ⟨v1, v2, vr, rfl⟩
  rcases (by omega : k = 1 ∨ k = 2 ∨ k = 3 ∨ k = 4) with rfl | rfl | h3
  · refine ⟨oneType', fun Q E hq => ?_, fun p q hm hm' => ?_⟩
    · obtain ⟨ss, hs⟩ := strs_of hl hv' hk
      rw [e12] at hs ⊢
      rw [keyKind_strs hs]
      exact wpAny_pure hq
    · show wpAny (model prog w) A (keyLt' oneType' p.1 q.1) _ _ _
      obtain ⟨i, d, h1, h2, h3⟩ := idx hm
      obtain ⟨j, e, g1, g2, g3⟩ := idx hm'
      have a1 := hv' i _ _ h1 h2
      have a2 := hv' j _ _ g1 g2
      have b1 := hkey i _ _ h1 h2
      have b2 := hkey j _ _ g1 g2
      have sd : ∀ {d : D}, hdK d = 1 → ∃ x, d = .str x := fun {d} z => by
        cases d with
        | str x => exact ⟨x, rfl⟩
        | tup xs => cases xs with
          | nil => simp [hdK] at z
          | cons x xs => cases x <;> simp [hdK] at z
        | _ => simp [hdK] at z
      obtain ⟨x, rfl⟩ := sd h3
      obtain ⟨y, rfl⟩ := sd g3
      obtain ⟨t, e1⟩ := a1
      obtain ⟨u, e2⟩ := a2
      rw [e1, e2, keyLt'_oneType]
      refine oneLt_str ⟨rfl, ?_⟩
      show decide (x < y) = decide (key p.1 < key q.1)
      rw [b1, b2, decide_eq_decide]
      show x < y ↔ strK x < strK y
      by_cases e : x = y
      · subst e
        exact ⟨fun z => absurd z (List.lt_irrefl x), fun z => absurd z (List.lt_irrefl _)⟩
      · unfold strK
        rw [List.cons_lt_cons_iff]
        simp only [Int.lt_irrefl, true_and, false_or]
        exact (strK_lt (r := []) (r' := []) e).symm
  · refine ⟨oneType', fun Q E hq => ?_, fun p q hm hm' => ?_⟩
    · obtain ⟨ss, hs⟩ := ints_of hl hv' hk
      rw [e12] at hs ⊢
      rw [keyKind_ints hs]
      exact wpAny_pure hq
    · show wpAny (model prog w) A (keyLt' oneType' p.1 q.1) _ _ _
      obtain ⟨i, d, h1, h2, h3⟩ := idx hm
      obtain ⟨j, e, g1, g2, g3⟩ := idx hm'
      have a1 := hv' i _ _ h1 h2
      have a2 := hv' j _ _ g1 g2
      have b1 := hkey i _ _ h1 h2
      have b2 := hkey j _ _ g1 g2
      have sd : ∀ {d : D}, hdK d = 2 → ∃ x, d = .int x := fun {d} z => by
        cases d with
        | int x => exact ⟨x, rfl⟩
        | tup xs => cases xs with
          | nil => simp [hdK] at z
          | cons x xs => cases x <;> simp [hdK] at z
        | _ => simp [hdK] at z
      obtain ⟨x, rfl⟩ := sd h3
      obtain ⟨y, rfl⟩ := sd g3
      obtain ⟨t, e1⟩ := a1
      obtain ⟨u, e2⟩ := a2
      rw [e1, e2, keyLt'_oneType]
      refine oneLt_int ⟨rfl, ?_⟩
      show decide (x < y) = decide (key p.1 < key q.1)
      rw [b1, b2, decide_eq_decide]
      show x < y ↔ ([4, x] : List Int) < [4, y]
      simp [List.cons_lt_cons_iff]
  · obtain ⟨fs, k1, k2, k3⟩ := firsts_of hl hv' hk h3
    refine ⟨tuples' true, fun Q E hq => ?_, vd_cmp (s := s) hl hv' hkey hp hk h3⟩
    by_cases e3 : k = 3
    · refine PySem.W.kat_kind (T := .type "str") k1 (by omega) (fun f hm => ?_) (by rfl) ?_
      · obtain ⟨x, t, rfl⟩ := (by have := k3 f hm; rwa [if_pos e3] at this : ∃ x t, f = Value.str x t)
        exact PySem.W.Looks.now
      · have e : (Value.type "str" != Value.type "tuple") = true := by first | decide +kernel | rfl | decide
        rw [e]
        exact hq
    · refine PySem.W.kat_kind (T := .type "int") k1 (by omega) (fun f hm => ?_) (by rfl) ?_
      · obtain ⟨x, t, rfl⟩ := (by have := k3 f hm; rwa [if_neg e3] at this : ∃ x t, f = Value.int x t)
        exact PySem.W.Looks.now
      · have e : (Value.type "int" != Value.type "tuple") = true := by first | decide +kernel | rfl | decide
        rw [e]
        exact hq
end
section
variable {X : Cx} {M : Mp}
theorem encs_of {us : List Value} {es : List D} {key : Value → List Int} (hl : us.length = es.length) (hv : ∀ (i : Nat) (u : Value) (d : D), us[i]? = some u → es[i]? = some d → key u = encD d) : us.map key = es.map encD := by
  refine List.ext_getElem? fun i => ?_
  rw [List.getElem?_map, List.getElem?_map]
  by_cases h1 : i < us.length
  · have h2 : i < es.length := by omega
    rw [List.getElem?_eq_getElem h1, List.getElem?_eq_getElem h2]
    exact congrArg some (hv i _ _ (List.getElem?_eq_getElem h1) (List.getElem?_eq_getElem h2))
  · rw [List.getElem?_eq_none (by omega), List.getElem?_eq_none (by omega)]
    rfl
theorem cd_sortX : CallR X (.builtin "sorted") (rCall (kx X M) (vl gSortX)) := by
  intro pins s σ H xs us Q I rv ⟨B, ρ, S, ds, r0, c, rd, g0, k⟩
  obtain ⟨r, g, rfl⟩ := vl_some g0
  have core : ∀ (ys : List D) (vs : List V) (its : List Value) (l : Addr) (T : String), sortOk ys = true → r = ys.mergeSort leE → RepL (kx X M) B ρ vs ys → Vals vs its → vs.length ≤ sizeLine → (T = "list" ∨ T = "tuple") → (∃ (o : Obj) (n : Nat), s.heap.get? l = some o ∧ o.cls = .type T ∧ o.data = .seq its.toArray n) → us = [.ref l] →
      wpAny (model X.prog X.w) X.A (call (.builtin "sorted") us) (fun u s' => ∃ v H', Inv X pins σ H' s' ∧ RelV v u ∧ Q v H') X.xe s := by
    intro ys vs its l T hok er t1 rv2 hz hT hobj eu
    subst er
    simp only [sortOk, Bool.and_eq_true, decide_eq_true_eq] at hok
    obtain ⟨⟨hk, hp⟩, hlen⟩ := hok
    obtain ⟨kk, h14, hk⟩ : ∃ kk, (1 ≤ kk ∧ kk ≤ 4) ∧ ∀ d ∈ ys, hdK d = kk := by
      simp only [Bool.or_eq_true, List.all_eq_true, beq_iff_eq] at hk
      rcases hk with ((q | q) | q) | q
      · exact ⟨1, by omega, q⟩
      · exact ⟨2, by omega, q⟩
      · exact ⟨3, by omega, q⟩
      · exact ⟨4, by omega, q⟩
    have t1' : RepL (kx X M) H ρ vs ys := t1.mono c.same fun _ _ z => z
    obtain ⟨hl, hv⟩ := vds_of I t1' rv2
    have hkey : ∀ (i : Nat) (u : Value) (d : D), its[i]? = some u → ys[i]? = some d → encV s.heap u = encD d := fun i u d h1 h2 => (hv i u d h1 h2).enc (by rw [hk d (List.mem_of_getElem? h2)]; omega)
    subst eu
    refine sorted_any (ltI_swo (encV s.heap)) hT hobj (by rw [← rv2.length]; exact hz) (fun h2 h₁ b hb kk2 => ?_) fun out hs hb => ?_
    · refine vd_sortable (s := { s with heap := h₁ }) h2 hl (fun i u d q1 q2 => (hv i u d q1 q2).keeps fun b o e _ => (kk2 b o e).2) hkey hp hk h14 fun o e => ?_
      have e' : some o = some (seqObj "list" its.toArray 0) := e.symm.trans hb
      cases e'
      intro c
      exact absurd (Value.type.inj c) (by decide)
    · obtain ⟨ep, he'⟩ := sortedAll_at s.heap its out.toArray
      obtain ⟨vs', p1, q1⟩ := paired_perm hb.perm rv2
      obtain ⟨es, p2, q2⟩ := repL_perm p1 t1
      have q2' : RepL (kx X M) H ρ vs' es := q2.mono c.same fun _ _ z => z
      obtain ⟨hl2, hv2⟩ := vds_of I q2' q1
      have hm2 : out.map (encV s.heap) = es.map encD := encs_of hl2 fun i u d z1 z2 => (hv2 i u d z1 z2).enc (by rw [hk d (p2.mem_iff.mp (List.mem_of_getElem? z2))]; omega)
      have hpw : es.Pairwise (fun a b => leE a b = true) := by
        have h1 : (out.map (encV s.heap)).Pairwise (fun a b => ¬ b < a) := by
          rw [List.pairwise_map]
          refine hs.imp fun {a b} h => ?_
          exact of_decide_eq_false h
        rw [hm2, List.pairwise_map] at h1
        exact h1.imp fun {a b} z => leE_iff.mpr z
      have e : es = ys.mergeSort leE := by
        refine List.Perm.eq_of_pairwise (le := fun a b => leE a b = true) (fun a b ma mb z1 z2 => ?_) hpw (List.pairwise_mergeSort leE_trans leE_total ys) (p2.trans (List.mergeSort_perm ys leE).symm)
        have ma := p2.mem_iff.mp ma
        have mb := (List.mergeSort_perm ys leE).mem_iff.mp mb
        obtain ⟨i, hi⟩ := List.getElem?_of_mem ma
        obtain ⟨j, hj⟩ := List.getElem?_of_mem mb
        have ee : encD a = encD b := List.le_antisymm (leE_iff.mp z1) (leE_iff.mp z2)
        by_cases ij : i = j
        · subst ij; rw [hi] at hj; exact Option.some.inj hj
        · exact encD_inj (pairAll_get cmpD_symm hp ij hi hj) ee
      have hlen2 : vs'.length ≤ sizeLine := by rw [p1.length_eq]; exact hz
      rw [← e] at k
      exact ⟨.ref _, upd H (s.heap.objs.size + 1) (.lst vs'), I.laid (t' := s.toks) (fun _ _ => sortedAll_old) (Nat.le_succ _) ⟨hlen2, out, ep, q1, he'⟩, rfl, Post.new c q2 k _ (I.hok.fresh (Nat.le_succ _))⟩
  unfold gSortX at g
  split at g
  · obtain ⟨hok, er⟩ := guard_some g
    obtain ⟨v, rfl, h⟩ := paired1 rd
    obtain ⟨a, vs, rfl, h1, t1⟩ := h.lst c
    obtain ⟨its, rv2, ⟨o, n, ho, hc, _, hd⟩, hz⟩ := I.list (SqL.of h1)
    exact core _ vs its a "list" hok er.symm t1 rv2 hz (.inl rfl) ⟨o, n, ho, hc, hd⟩ (Vals.ref1 rv)
  · obtain ⟨hok, er⟩ := guard_some g
    obtain ⟨v, rfl, h⟩ := paired1 rd
    obtain ⟨a, vs, rfl, h1, t1⟩ := h.tup
    obtain ⟨its, rv2, ⟨o, ho, hc, n, hd⟩, hz⟩ := I.tuple (sqT_mono c.same h1)
    exact core _ vs its a "tuple" hok er.symm t1 rv2 hz (.inr rfl) ⟨o, n, ho, hc, hd⟩ (Vals.ref1 rv)
  · cases g
end
end DL
namespace DL
open PySem PySem.Spec L2 SeqAt
theorem idx_min : ∀ {l : List (List Nat)} {z y : List Nat} {m : Nat}, m < l.idxOf z → l[m]? = some y → y ≠ z
  | [], _, _, _, _, h => by simp at h
  | a :: l, z, y, 0, hm, h => by
    simp at h
    subst h
    intro e
    subst e
    simp [List.idxOf_cons] at hm
  | a :: l, z, y, m + 1, hm, h => by
    rw [List.idxOf_cons] at hm
    cases e : a == z
    · rw [e] at hm
      exact idx_min (l := l) (by simpa using hm) (by simpa using h)
    · rw [e] at hm
      simp at hm
def gIdx (xs : List D) (y : D) : Option D := match strsOf xs, y with
  | some zs, .str z => if z ∈ zs then some (.int (zs.idxOf z : Nat)) else none
  | _, _ => none
def kLix2 (Q : Rv → Sto → Prop) (xs : List D) (y : D) (S : Sto) : Prop := optW (gIdx xs y) S fun d S => Q (.v d) S
def eLix (fo fb : Ev D) : Ev Rv := fun γ S E Q => fo γ S E fun o S => ∃ xs, o = .lst xs ∧ fb γ S E (kLix2 Q xs)
section
variable {X : Cx} {M : Mp} {W : WX} {o e : Expr} {fo fb : Ev D} {apos cpos : Pos}
theorem eqV_str {a b : List Nat} : eqV (.str (sOf a)) (.str (sOf b)) = (a == b) := by
  show (sOf a == sOf b) = (a == b)
  rw [Bool.eq_iff_iff, beq_iff_eq, beq_iff_eq]
  exact ⟨sOf_inj, fun h => by rw [h]⟩
theorem dr_lix (ho : DE X M W o fo) (hb : DE X M W e fb) (hbase : attributeBase o "index" X.env (eval o X.env) = eval o X.env)
    (hfew : ((backTo cpos (starEach [e] X.env)).all (fun x => !x.1) && (backToKw cpos (keywordEach [] X.env)).all (fun x => x.1.isSome) && decide ([e].length + ([] : List Keyword).length + (if ([] : List Keyword).isEmpty then 0 else 1) < 30)) = true)
    (hline : (apos.endLine == cpos.line) = true) (hs : starEach [e] X.env = (false, eval e X.env) :: starEach [] X.env) : DR X M W (.Call (.Attribute o "index" apos) [e] [] cpos) (eLix fo fb) :=
  PE.imp (pe_bm PySem.F.plainAttrs_list PySem.F.slot_list_index PySem.F.type_list_index mt_index ho (pa_cons hb pa_nil hs) hbase hfew hline hs rfl) fun σ H Q ⟨B, ρ, γ, S, E', Q', at_, h, k⟩ => by
    refine ⟨B, ρ, γ, S, E', _, at_, h, fun d S1 h1 v H1 B1 ρ1 x1 c1 r1 => ?_⟩
    obtain ⟨xs, rfl, h1⟩ := h1
    cases r1 with
    | @lst a vs _ q0 t1 =>
    have q1 := c1.same _ _ q0
    refine ⟨.inl ⟨rfl, _, SqL.of q1⟩, B1, ρ1, γ, S1, E', _, at_.ext x1 c1, h1, fun y S2 h2 u H2 B2 ρ2 x2 c2 r2 => ?_⟩
    unfold kLix2 gIdx at h2
    split at h2
    · rename_i zs z hz
      obtain ⟨d, hd, h2⟩ := optW_ok h2
      obtain ⟨hm, rfl⟩ := guard_some hd
      have e := strs_rep t1 hz
      subst e
      cases r2
      have q2 := c2.same _ _ (x2.base _ _ q0)
      have hj : zs.idxOf z < zs.length := List.idxOf_lt_length_iff.mpr hm
      refine ⟨a, _, _, zs.idxOf z, .str (sOf z), rfl, rfl, SqL.of q2, rfl, ?_, ?_, ?_, ?_, k _ S2 h2 _ H2 B2 ρ2 (x1.tr x2) c2 (.int _)⟩
      · rw [List.all_eq_true]
        intro x hx
        obtain ⟨y, hy, rfl⟩ := List.mem_map.mp hx
        obtain ⟨w, _, rfl⟩ := List.mem_map.mp hy
        rfl
      · rw [List.getElem?_map, List.getElem?_map, List.getElem?_eq_getElem hj]
        simp
      · rw [eqV_str]; simp
      · intro m z' hm' hz'
        rw [List.getElem?_map, List.getElem?_map] at hz'
        have lm : m < zs.length := by omega
        rw [List.getElem?_eq_getElem lm] at hz'
        simp at hz'
        subst hz'
        rw [eqV_str, beq_eq_false_iff_ne]
        exact fun e => idx_min hm' (List.getElem?_eq_getElem lm) e
    · exact h2.elim
end
def gDictT : List D → Option Rv
  | [.tup xs] => (pairsOf xs).bind fun ps => (keysOf ps).map fun l => .o (.dct (mergeL ([], []) l).1 (mergeL ([], []) l).2)
  | _ => none
section
variable {X : Cx} {M : Mp}
theorem cd_dictT (hc : X.calm = true) : CallR X (.type "dict") (rCall (kx X M) gDictT) := by
  intro pins s σ H xs us Q I rv ⟨B, ρ, S, ds, r, c, rd, g, k⟩
  unfold gDictT at g
  split at g
  · rw [Option.bind_eq_some_iff] at g
    obtain ⟨ps, g1, g⟩ := g
    rw [Option.map_eq_some_iff] at g
    obtain ⟨l, g2, rfl⟩ := g
    obtain ⟨v, rfl, h⟩ := paired1 rd
    obtain ⟨a, vs, rfl, h1, t1⟩ := h.tup
    obtain ⟨as, kvs, rfl, e2, e3⟩ := pairs_rep t1 g1 g2
    have hT := sqP_mono c.same h1
    obtain ⟨its, rv2, it, hz⟩ := I.tuple hT.sq
    have ei := refs_at rv2
    subst ei
    obtain ⟨prs, rel, hl, hpr⟩ := pairs_of I (Paired.imp2 (fun p kv h => sqT_mono c.same h) e2)
    obtain ⟨o, ho, hcl, n, hd⟩ := it
    have hdn : o.dict = none := by
      rcases hT with ⟨o2, hf, hd2⟩ | ⟨o2, _, _, hk, _, hd2, _⟩
      · have := (I.hok a _ hf).1
        rw [ho] at this
        cases this
        exact hd2
      · have := I.kIn a o2 hk
        rw [ho] at this
        cases this
        exact hd2
    have ch : ∀ j : Nat, ∃ u : Value, ∀ q, prs[j]? = some q → ∃ b, as[j]? = some b ∧ PyProof.Rows.IsTup s.heap b #[u, q.2] ∧ keyIs q.1 u = true := fun j => by
      cases e : prs[j]? with
      | none => exact ⟨.none, fun q z => nomatch z⟩
      | some q =>
        obtain ⟨b, u, e1, e2, e3⟩ := hpr j q e
        exact ⟨u, fun q' z => by cases z; exact ⟨b, e1, e2, e3⟩⟩
    obtain ⟨U, hU⟩ := Classical.axiomOfChoice ch
    rw [Vals.ref1 rv]
    rw [List.length_map] at hz
    have hm : (s.heap.objs.size == sysModules) = false := beq_eq_false_iff_ne.mpr (Nat.ne_of_gt I.big)
    have hlen : (mergeK [] kvs).length ≤ sizeLine := by
      refine Nat.le_trans (length_mergeK kvs []) ?_
      rw [List.length_nil, Nat.zero_add, rel.length, hl]
      exact hz
    have len2 : (prs.mapIdx fun j q => (U j, q.2)).length = prs.length := List.length_mapIdx
    refine PySem.call_dict_pairs (knd := mixKind X.prog X.w) (kvs := prs) (PySem.PairArg.tuple a (as.map Value.ref).toArray (fun j => (as[j]?).getD 0) (prs.mapIdx fun j q => (U j, q.2))) (I.ok.hd hc) ⟨⟨o, n, ho, hcl, hdn, hd⟩, by simp [hl], fun j kk v hj => ?_⟩ ⟨len2.symm, fun i key v hi => ?_⟩ (by rw [len2, hl]; exact hz) fun h' tk hd' kp => ?_
    · rw [List.getElem?_mapIdx, Option.map_eq_some_iff] at hj
      obtain ⟨q, hq, e⟩ := hj
      cases e
      obtain ⟨b, e1, e2, e3⟩ := hU j q hq
      refine ⟨by simp [e1], .inl ?_⟩
      show s.heap.IsTuple ((as[j]?).getD 0) _
      rw [e1]
      exact e2
    · have hi : (prs.mapIdx fun j q => (U j, q.2))[i]? = some (key, v) := hi
      rw [List.getElem?_mapIdx, Option.map_eq_some_iff] at hi
      obtain ⟨q, hq, e⟩ := hi
      cases e
      obtain ⟨b, e1, e2, e3⟩ := hU i q hq
      exact ⟨q.1, hq, e3⟩
    · have np : H s.heap.objs.size = none := I.hok.fresh (Nat.le_refl _)
      obtain ⟨c2, x2⟩ := c.drop (o := .dK (mergeK [] kvs)) np
      obtain ⟨nb, nr⟩ := ext_new c np
      have mz : mergeK [] kvs = (mergeL ([], []) kvs).1.zip (mergeL ([], []) kvs).2 := merge_zip (ps := kvs) (acc := ([], [])) rfl
      obtain ⟨m1, m2⟩ := merge_rep (ks := []) e3 (.nil : RepL (kx X M) B ρ [] [])
      have ml := merge_len (ps := kvs) (acc := (([] : List Key), ([] : List V))) rfl
      refine ⟨.ref s.heap.objs.size, upd H s.heap.objs.size (.dK (mergeK [] kvs)), I.laid (t' := tk) (fun b o e => kp b o List.not_mem_nil e) (Nat.le_refl _) (show ObjOk X.prog X.w _ _ _ (.dK (mergeK [] kvs)) from ⟨hlen, hm, merged [] prs, KV.merge rel .nil, hd'⟩), rfl, ?_⟩
      refine k s.heap.objs.size _ _ B ρ x2 c2 np upd_same nb nr ?_
      rw [mz, m1]
      exact .dct (by rw [← m1]; exact ml) m2
  · cases g
end
end DL
set_option maxHeartbeats 4000000
namespace DL
open PySem PySem.Spec PyProof.Rows L2
structure XBase (B newId initId : String) (bmB : List Value) : Prop where
  F : ExcBaseFacts B newId initId bmB
  SF : StoreFacts B bmB "object.__setattr__" "object"
  hand : PySem.W.handedIn (.builtin initId) = true
abbrev leL : List Value := [.type "LookupError", .type "Exception", .type "BaseException", .type "object"]
theorem xb_le : XBase "LookupError" "LookupError.__new__" "LookupError.__init__" leL := ⟨PySem.F.excBase_LookupError, PySem.F.store_LookupError, by decide +kernel⟩
structure XCl (K : PySem.W.Frag) (newId : String) (bmB : List Value) (C : Addr) : Prop where
  q : PySem.W.excInitIn K C bmB newId = true
  hd : PySem.W.hasDictIn K C = true
  ov : PySem.W.excOver K C bmB = true
  sa : PySem.W.findIn K (.ref C) "__setattr__" = some (some (.builtin "object.__setattr__"))
  sub : PySem.W.subIn K (.ref C) (.type "BaseException") = some true
  ty : PySem.W.typeIn K (.ref C) = some (.type "type")
  kp : PySem.W.keepIn K (.ref C) = true
section
variable {X : Cx} {pins : List (Addr × Obj)} {σ : L2.St} {H H2 : Hp} {s s2 : Shared} {z : Addr} {o : HO}
theorem Inv_track (I : Inv X pins σ H s) (J : Inv X pins σ H2 s2) (fresh : s.heap.get? z = none) (hz : H2 z = none) (ok : ObjOk X.prog X.w (upd H2 z o) s2.heap z o) (hex : X.ex = []) : Inv X pins σ (upd H2 z o) s2 := by
  have n0 : X.s_0.heap.get? z = none := by
    cases w : X.s_0.heap.get? z with
    | none => rfl
    | some v =>
      obtain ⟨u, hu⟩ := I.base.there z v w (by rw [hex]; exact List.not_mem_nil)
      rw [fresh] at hu; cases hu
  have ne0 : ∀ {c : Addr} {v : Obj}, X.s_0.heap.get? c = some v → c ≠ z := fun {c v} w e => by rw [e, n0] at w; cases w
  have neH : ∀ {c : Addr} {v : HO}, H2 c = some v → c ≠ z := fun {c v} w e => by rw [e, hz] at w; cases w
  have nel : X.env.locals ≠ z := fun e => by
    obtain ⟨m, ⟨w, _, _, hw, _⟩, _⟩ := I.loc
    rw [e, fresh] at hw; cases hw
  refine ⟨J.ok, J.os, J.bare, ⟨J.base.keep, J.base.slot, fun c v w n hx => ?_, J.base.there, fun c xs w => ?_, fun c v u w => ?_, fun c ps w => ?_⟩, J.loc, J.cell, ?_, fun y c w => ?_, fun p hp => ?_, fun c v w => ?_, J.len⟩
  · rw [upd_ne (ne0 w)]; exact J.base.free c v w n hx
  · have := J.base.tups c xs w
    rw [upd_ne (neH this)]; exact this
  · have := J.base.frzs c v u w
    rw [upd_ne (neH this)]; exact this
  · obtain ⟨more, this⟩ := J.base.tbls c ps w
    exact ⟨more, by rw [upd_ne (neH this)]; exact this⟩
  · rw [upd_ne nel]; exact J.free
  · have : c ≠ z := fun e => by
      obtain ⟨v, u, hu, _⟩ := I.cell y c w
      rw [e, fresh] at hu; cases hu
    rw [upd_ne this]; exact J.freeC y c w
  · obtain ⟨h1, h2, h3⟩ := J.pin p hp
    have : p.1 ≠ z := fun e => by
      have := (I.pin p hp).1
      rw [e, fresh] at this; cases this
    exact ⟨h1, by rw [upd_ne this]; exact h2, h3⟩
  · by_cases e : c = z
    · subst e
      rw [upd_same] at w; cases w
      exact ok
    · rw [upd_ne e] at w
      exact (J.hok c v w).stay (fun _ _ _ y => y) (fun y hy => by rw [upd_ne (neH hy)]; exact hy) fun y ys hy => by rw [upd_ne (neH hy)]; exact hy
end
section
open Builtin Builtin.ObjectAttr
variable {prog : Program} {w : World} {A : Around} {R : Result → Shared → Prop} {K : PySem.W.Frag} {B newId initId : String} {bmB : List Value} {C : Addr}
theorem taker_none {f : Str} (h : PySem.W.findIn K (.ref C) f = some none) : PySem.W.takerIn K C f = some none := by
  unfold PySem.W.takerIn
  rw [h]; rfl
theorem cls_dict (h : PySem.W.hasDictIn K C = true) : ∃ cd, PySem.W.clsIn K C = some cd ∧ cd.hasDict = true := PySem.W.any_some h
theorem x_put0 (XB : XBase B newId initId bmB) (T : XCl K newId bmB C) {f : Str} {tk : Tok} {v : Value} {x : Addr} {fv : Array Value} {hp : Heap} {g : Array GenState} {d : Drawn} {t : Nat} {os : OsState}
    (KH : K.In hp) (hx : hp.get? x = some { cls := .ref C, data := .fields fv }) (hno : PySem.W.findIn K (.ref C) f = some none)
    (hq : ∀ h' tk' dx, (∀ c u, c ≠ x → hp.get? c = some u → h'.get? c = some u) → hp.get? dx = none → dx ≠ x → h'.get? x = some { cls := .ref C, dict := some dx, data := .fields fv } →
      h'.Ns1 dx (fun y => if y = f then some v else none) → R (.ok (.ret .none)) ⟨h', g, d, tk', os⟩) :
    codeAny (model prog w) A (.call (.builtin "object.__setattr__") ⟨[.ref x, .str f tk, v], []⟩) R ⟨hp, g, d, t, os⟩ := by
  have inst : PySem.W.InstAt hp x { cls := .ref C, data := .fields fv } C none := ⟨hx, rfl, rfl, trivial⟩
  obtain ⟨cd, hcd, hdict⟩ := cls_dict T.hd
  have lk : PySem.W.Looks (model prog w) hp (classData C) cd := PySem.W.looks_clsIn KH hcd
  have nx : x ≠ hp.objs.size := Nat.ne_of_lt (Heap.lt_size hx)
  refine PySem.W.osa_openX XB.SF KH inst T.ov (taker_none hno) fun b => ?_
  dsimp only
  obtain ⟨a1, a2, a3, a4, a5, a6, a7, a8, a9, a10, a11⟩ := cd
  dsimp only at hdict
  subst hdict
  unfold storeInOwnDict ownDictForStores
  repeat (first | (with_reducible refine HandSPX.store_in_new ?_ ?_) | (with_reducible refine wpAny_loadPart_at hx ?_) | (with_reducible refine lk.at ?_) | wp_step)
  · refine ⟨_, #[], _, (Heap.get?_update_ne _ _ _ _ nx.symm).trans (Heap.get?_push_at rfl rfl), rfl, ?_, fun _ => rfl⟩
    intro u hu
    simp at hu
  · intro h' tk' hn sb
    have hx1 : (hp.push { cls := .type "dict", data := .dict #[] }).get? x = some { cls := .ref C, data := .fields fv } := Heap.get?_push_of_some _ hx
    refine hq h' tk' hp.objs.size (fun c u hc hu => ?_) ?_ nx.symm ?_ hn
    · have hc2 : c ≠ hp.objs.size := Nat.ne_of_lt (Heap.lt_size hu)
      rw [sb.2 c hc2, Heap.get?_update_ne _ _ _ _ hc]
      exact Heap.get?_push_of_some _ hu
    · cases e : hp.get? hp.objs.size with
      | none => rfl
      | some u => exact absurd (Heap.lt_size e) (Nat.lt_irrefl _)
    · rw [sb.2 x nx]
      exact Heap.get?_update_self _ hx1 rfl
theorem x_put1 (XB : XBase B newId initId bmB) (T : XCl K newId bmB C) {f : Str} {tk : Tok} {v : Value} {x dx : Addr} {fv : Array Value} {hp : Heap} {g : Array GenState} {d : Drawn} {t : Nat} {os : OsState} {m0 : Str → Option Value} {ns : List Str}
    (KH : K.In hp) (hx : hp.get? x = some { cls := .ref C, dict := some dx, data := .fields fv }) (hns : hp.Ns1 dx m0) (hw : Within m0 ns) (hz : ns.length ≤ 1000) (hno : PySem.W.findIn K (.ref C) f = some none)
    (hq : ∀ h' tk', (∀ c u, c ≠ dx → hp.get? c = some u → h'.get? c = some u) → h'.Ns1 dx (fun y => if y = f then some v else m0 y) → R (.ok (.ret .none)) ⟨h', g, d, tk', os⟩) :
    codeAny (model prog w) A (.call (.builtin "object.__setattr__") ⟨[.ref x, .str f tk, v], []⟩) R ⟨hp, g, d, t, os⟩ := by
  obtain ⟨od, es, ep, hod, hdd, _⟩ := hns.count hw
  have inst : PySem.W.InstAt hp x { cls := .ref C, dict := some dx, data := .fields fv } C (some od) := ⟨hx, rfl, rfl, hod⟩
  obtain ⟨cd, hcd, hdict⟩ := cls_dict T.hd
  have lk : PySem.W.Looks (model prog w) hp (classData C) cd := PySem.W.looks_clsIn KH hcd
  refine PySem.W.osa_openX XB.SF KH inst T.ov (taker_none hno) fun b => ?_
  dsimp only
  obtain ⟨a1, a2, a3, a4, a5, a6, a7, a8, a9, a10, a11⟩ := cd
  dsimp only at hdict
  subst hdict
  unfold storeInOwnDict ownDictForStores
  repeat (first | (with_reducible refine PySem.OEX.store_in_old hns hw hz ?_) | (with_reducible refine wpAny_loadPart_at hx ?_) | (with_reducible refine lk.at ?_) | wp_step)
  intro h' tk' hn sb
  exact hq h' tk' (fun c u hc hu => (sb.2 c hc).trans hu) hn
end
section
variable {X : Cx} {pins : List (Addr × Obj)} {σ : L2.St} {H : Hp} {s : Shared} {a C dx : Addr} {f : Str} {y : V} {u : Value} {fs : List (Str × V)} {Q : Unit → Shared → Prop} {E : Value → Shared → Prop} {A : Around} {B newId initId : String} {bmB : List Value}
theorem x_st0 (XB : XBase B newId initId bmB) (T : XCl X.K newId bmB C) (hex : X.ex = []) (I : Inv X pins σ H s) (e : H a = some (exo a C none)) (hno : PySem.W.findIn X.K (.ref C) f = some none) (ry : RelV y u)
    (k : ∀ dx s', H dx = none → dx ≠ a → Inv X pins σ (upd (upd H a (exo a C (some dx))) dx (exd dx [(f, y)])) s' → Q () s') : wpAny (model X.prog X.w) A (setAttr (.ref a) f u) Q E s := by
  obtain ⟨t1, ho⟩ := exo_at I.hok e
  obtain ⟨hp, g, d, t, os⟩ := s
  refine PySem.W.set_plain I.kIn (od := none) ⟨ho, rfl, rfl, trivial⟩ T.sa (x_put0 XB T I.kIn ho hno fun h' tk' dx hk fresh dne hx hn => ?_)
  have hnd : H dx = none := I.hok.gone fresh
  have J := I.write (t' := tk') (x := a) (e := a) (o := exo a C (some dx)) (by rw [e]; exact True.intro) (.inl rfl) hk ⟨_, hx⟩ (exo_ok hx)
  exact k dx _ hnd dne (Inv_track I J fresh (by rw [upd_ne dne]; exact hnd) (exd_ok hn (relO_put (fs := []) ry fun _ => True.intro)) hex)
theorem x_st1 (XB : XBase B newId initId bmB) (T : XCl X.K newId bmB C) (I : Inv X pins σ H s) (e : H a = some (exo a C (some dx))) (ed : H dx = some (exd dx fs)) (hl : fs.length ≤ 900) (hno : PySem.W.findIn X.K (.ref C) f = some none) (ry : RelV y u)
    (k : ∀ s', Inv X pins σ (upd H dx (exd dx ((f, y) :: fs))) s' → Q () s') : wpAny (model X.prog X.w) A (setAttr (.ref a) f u) Q E s := by
  obtain ⟨t1, ho⟩ := exo_at I.hok e
  obtain ⟨mA, hns, rel⟩ := exd_at I.hok ed
  have hw := within_of rel
  obtain ⟨hp, g, d, t, os⟩ := s
  obtain ⟨od, _, _, hod, _, _⟩ := hns.count hw
  refine PySem.W.set_plain I.kIn (od := some od) ⟨ho, rfl, rfl, hod⟩ T.sa (x_put1 XB T I.kIn ho hns hw (by rw [List.length_map]; omega) hno fun h' tk' hk hn => ?_)
  have there : ∃ v, h'.get? dx = some v := by
    obtain ⟨v, _, _, q, _⟩ := hn
    exact ⟨v, q⟩
  exact k _ (I.write (t' := tk') (x := dx) (e := dx) (o := exd dx ((f, y) :: fs)) (by rw [ed]; exact True.intro) (.inl rfl) hk there (exd_ok hn (relO_put ry rel)))
end
end DL
set_option maxHeartbeats 4000000
namespace DL
open PySem PySem.Spec PyProof.Rows L2
structure XSup (K : PySem.W.Frag) (initId : String) (P : Addr) : Prop where
  ga : PySem.W.specialIn K (.ref P) "__getattribute__" = some (some (.builtin "type.__getattribute__"))
  rd : PySem.W.readsIn K P (.type "type") = true
  fi : PySem.W.findCls K (.ref P) (.type "type") "__init__" = some (.val (.builtin initId))
def tXin (K : PySem.W.Frag) (newId : String) (bmB : List Value) (ta : TA) : TE := fun σ H Q => ta σ H fun vs H1 => ∃ (a C : Addr) (ws : List V), vs = .ref a :: ws ∧ ws.length ≤ 1000 ∧ XCl K newId bmB C ∧ H1 a = some (exo a C none) ∧ Q .non H1
def tXst (K : PySem.W.Frag) (newId : String) (bmB : List Value) (f : Str) (to te : TE) : TS := fun D σ H => te σ H fun y H1 => to σ H1 fun x H2 => ∃ a C : Addr, x = .ref a ∧ XCl K newId bmB C ∧ PySem.W.findIn K (.ref C) f = some none ∧
  ((H2 a = some (exo a C none) ∧ ∀ dx, H2 dx = none → dx ≠ a → D.nx σ (upd (upd H2 a (exo a C (some dx))) dx (exd dx [(f, y)]))) ∨
    ∃ (dx : Addr) (fs : List (Str × V)), H2 a = some (exo a C (some dx)) ∧ H2 dx = some (exd dx fs) ∧ fs.length ≤ 900 ∧ D.nx σ (upd H2 dx (exd dx ((f, y) :: fs))))
section
variable {X : Cx} {pins : List (Addr × Obj)} {σ : L2.St} {H : Hp} {s : Shared} {a C P : Addr} {o e : Expr} {es : List Expr} {to te : TE} {ta : TA} {f x : Str} {p p' p1 p2 pos : Pos} {B newId initId : String} {bmB : List Value}
theorem x_init (XB : XBase B newId initId bmB) (T : XCl X.K newId bmB C) {us : List Value} {Q : Value → Shared → Prop} {E : Value → Shared → Prop} {A : Around} (I : Inv X pins σ H s) (e : H a = some (exo a C none)) (hl : us.length ≤ sizeLine)
    (k : ∀ s', Inv X pins σ H s' → Q .none s') : wpAny (model X.prog X.w) A (call (.builtin initId) (.ref a :: us)) Q E s := by
  obtain ⟨_, _, _, _, _, _, _, _, _, _, _, _, _, _, _, _, hC, hT⟩ := PySem.W.excInit_of I.kIn T.q
  obtain ⟨t1, ho⟩ := exo_at I.hok e
  obtain ⟨hp, g, d, t, os⟩ := s
  refine wpAny_call (PySem.HandSPX.init_base XB.F hT hC ho hl fun h' t2 hk hx => ?_)
  have J := I.write (t' := t) (x := a) (e := a) (o := exo a C none) (by rw [e]; exact True.intro) (.inl rfl) hk ⟨_, hx⟩ (exo_ok hx)
  have same : upd H a (exo a C none) = H := by
    funext c
    by_cases hc : c = a
    · subst hc; rw [upd_same, e]
    · exact upd_ne hc
  rw [same] at J
  exact k _ J
theorem pe_xinit (XB : XBase B newId initId bmB) (S : XSup X.K initId P) (hg : Gl X x) (hm : X.mg x = some (.ref P)) (hdb : (x == ("__debug__" : Str)) = false) (ha : PA X (e :: es) ta)
    (he : starEach (e :: es) X.env = (false, eval e X.env) :: starEach es X.env) (hpl : (backTo pos (starEach es X.env)).any (·.1) = false) (hl : (p2.endLine == pos.line) = true)
    (hf : methodCallForm ((e :: es).length + ([] : List Keyword).length) (backTo pos (starEach (e :: es) X.env)) (backToKw pos (keywordEach [] X.env)) = true) :
    PE X (.Call (.Attribute (.Name x p1) "__init__" p2) (e :: es) [] pos) (tXin X.K newId bmB ta) := by
  refine ⟨fun pins s σ H Q I h => wp_mcall rfl hf hl (ld_glob I hg hm ?_ hdb)⟩
  refine PySem.W.method_cls I.kIn S.ga (PySem.W.cls_value I.kIn S.rd S.fi XB.hand ?_)
  show wpAny _ _ (callWith pos (Value.builtin initId) [] (backTo pos (starEach (e :: es) X.env)) []) _ _ _
  refine callWith_method1 (thn (ha.run pos pins _ σ H _ (I.tok _) h) fun us s1 ⟨vs, H1, I1, r1, a, C, ws, ev, hlen, T, ea, q⟩ => ?_) he hpl
  subst ev
  cases r1 with
  | @cons _ u0 _ ur ra rr =>
    obtain rfl : u0 = Value.ref a := ra
    have lu : ur.length ≤ sizeLine := by
      rw [← Paired.length rr, sizeLine_eq]
      omega
    exact x_init XB T I1 ea lu fun s' J => ⟨.non, H1, J, rfl, q⟩
theorem ps_xst (XB : XBase B newId initId bmB) (hex : X.ex = []) (ho : PE X o to) (he : PE X e te) (hs : swapsWith e (some (.Attribute o f p')) pos.line X.env = pure false) : PS X (.Assign [.Attribute o f p'] e pos) (tXst X.K newId bmB f to te) := by
  refine ⟨fun pins s σ H D I h => ?_⟩
  refine plainObj_wpAny_Assign_Attribute (thn (he.run pins s σ H _ I h) fun v s1 ⟨y, H1, I1, r1, q1⟩ => thn (ho.run pins s1 σ H1 _ I1 q1) fun u s2 ⟨x, H2, I2, r2, a, C, ex, T, hno, q⟩ => ?_) hs
  subst ex
  obtain rfl : u = Value.ref a := r2
  rcases q with ⟨ea, q⟩ | ⟨dx, fs, ea, ed, hl, q⟩
  · exact x_st0 XB T hex I2 ea hno r1 fun dx s' h1 h2 J => ⟨σ, _, J, q dx h1 h2⟩
  · exact x_st1 XB T I2 ea ed hl hno r1 fun s' J => ⟨σ, _, J, q⟩
end
def spX (K : PySem.W.Frag) (newId : String) (bmB : List Value) (fs : List Str) : Sp := fun vs H Q _ => ∃ (a C : Addr) (ys : List V), vs = .ref a :: ys ∧ ys.length = fs.length ∧ XCl K newId bmB C ∧ H a = some (exo a C none) ∧
  (∀ f ∈ fs, PySem.W.findIn K (.ref C) f = some none) ∧ ∀ dx, H dx = none → dx ≠ a → Q .non (upd (upd H a (exo a C (some dx))) dx (exd dx (fs.zip ys).reverse))
def nmIs (x : Str) : Expr → Bool
  | .Name y _ => decide (y = x)
  | _ => false
def xsB (self f p : Str) : Stmt → Bool
  | .Assign [.Attribute (.Name s _) g _] (.Name q _) _ => decide (s = self) && decide (g = f) && decide (q = p)
  | _ => false
def xcB (P self : Str) : Stmt → Bool
  | .Expr (.Call (.Attribute (.Name c _) m ap) [.Name s _, .Constant (.str _) _ _] [] pos) _ => decide (c = P) && decide (m = "__init__") && decide (s = self) && (ap.endLine == pos.line)
  | _ => false
section
variable {Pg : Program} {w : World} {K : PySem.W.Frag} {mg : Str → Option Value} {base : Heap} {f0 : Addr} {name qual : Str} {params : Arguments} {body : List Stmt} {sc : Scope} {dV kV doc pm cdv ct oc : Value} {an od : Option Addr} {osl : Array (Option Value)}
  {B newId initId : String} {bmB : List Value} {P : Str} {PA : Addr} {CX : CXT}
theorem xs_of {X : Cx} {self f p : Str} {st : Stmt} {i j : Nat} (XB : XBase B newId initId bmB) (hex : X.ex = []) (h : xsB self f p st = true) (hi : X.N[i]? = some self) (hj : X.N[j]? = some p) (vi : Vis X.env.scope self) (vj : Vis X.env.scope p)
    (d1 : (self == ("__debug__" : Str)) = false) (d2 : (self == ("__classdict__" : Str)) = false) (d3 : (p == ("__debug__" : Str)) = false) (d4 : (p == ("__classdict__" : Str)) = false) : PS X st (tXst X.K newId bmB f (tVar i) (tVar j)) := by
  unfold xsB at h
  split at h
  · simp only [Bool.and_eq_true, decide_eq_true_eq] at h
    obtain ⟨⟨rfl, rfl⟩, rfl⟩ := h
    exact ps_xst XB hex (pe_var hi vi d1 d2) (pe_var hj vj d3 d4) rfl
  · cases h
theorem xc_of {X : Cx} {self : Str} {st : Stmt} {i : Nat} (XB : XBase B newId initId bmB) (S : XSup X.K initId PA) (hg : Gl X P) (hm : X.mg P = some (.ref PA)) (hdb : (P == ("__debug__" : Str)) = false) (h : xcB P self st = true) (hi : X.N[i]? = some self) (vi : Vis X.env.scope self)
    (d1 : (self == ("__debug__" : Str)) = false) (d2 : (self == ("__classdict__" : Str)) = false) : ∃ m : Str, PS X st (tDrop (tXin X.K newId bmB (tCons (tVar i) (tCons (tC (.str m)) tNil)))) := by
  unfold xcB at h
  split at h
  · simp only [Bool.and_eq_true, decide_eq_true_eq] at h
    obtain ⟨⟨⟨rfl, rfl⟩, rfl⟩, h4⟩ := h
    exact ⟨_, ps_expr (pe_xinit XB S hg hm hdb (pa_cons (pe_var hi vi d1 d2) (pa_cons pe_str pa_nil)) rfl rfl h4 rfl)⟩
  · cases h
theorem fn_x1 {f p1 self : Str} {s0 s1 : Stmt} (XB : XBase B newId initId bmB) (lk : K.lookup f0 = some ⟨oc, od, .func (PySem.W.fnOf name qual params [s0, s1] sc dV kV doc pm an cdv ct), osl⟩) (hcd : PySem.W.codeIn K cdv qual = true) (FS : FnScope [self, p1] [self, p1] sc)
    (h0 : xcB P self s0 = true) (h1 : xsB self f p1 s1 = true) (S : XSup K initId PA) (hg : sc.names.lookup P = some .globalImplicit) (hm : mg P = some (.ref PA)) (hdb : (P == ("__debug__" : Str)) = false)
    (v0 : sc.names.lookup self = some .local) (v1 : sc.names.lookup p1 = some .local)
    (d1 : (self == ("__debug__" : Str)) = false) (d2 : (self == ("__classdict__" : Str)) = false) (d3 : (p1 == ("__debug__" : Str)) = false) (d4 : (p1 == ("__classdict__" : Str)) = false) :
    FnOk Pg w K mg base CX 1 f0 (PySem.W.fnOf name qual params [s0, s1] sc dV kV doc pm an cdv ct) [self, p1] (spX K newId bmB [f]) := by
  refine fn_of lk hcd FS (fun vs H Q E ⟨a, C, ys, e, l, _⟩ => by rw [e]; simp [l]) fun A out s H vs Q E hr ⟨a, C, ys, e, l, T, ea, hno, hq⟩ => ?_
  obtain ⟨y, rfl⟩ : ∃ y, ys = [y] := by
    match ys, l with
    | [y], _ => exact ⟨y, rfl⟩
  subst e
  obtain ⟨m, c0⟩ := xc_of (X := cxOf CX Pg w K mg base [self, p1] qual sc f0 cdv A out s H E) (i := 0) XB S hg hm hdb h0 rfl (.inl v0) d1 d2
  have c1 := xs_of (X := cxOf CX Pg w K mg base [self, p1] qual sc f0 cdv A out s H E) (i := 0) (j := 1) XB rfl h1 rfl rfl (.inl v0) (.inl v1) d1 d2 d3 d4
  refine ⟨_, pss_cons c0 (pss_one c1), ?_⟩
  exact ⟨.ref a, rfl, a, C, [.str m], rfl, by simp, T, ea, y, rfl, .ref a, rfl, a, C, rfl, T, hno f (by simp), .inl ⟨ea, fun dx n1 n2 => hq dx n1 n2⟩⟩
end
def tXmk (C : Addr) (fs : List Str) (ta : TA) : L2.St → Hp → XK → Prop := fun σ H Q => ta σ H fun vs H1 => vs.length = fs.length ∧ fs.length ≤ 10 ∧ ∀ d, H1 d = none → Q (.ref C) (some d) (upd H1 d (.xd (fs.zip vs).reverse))
theorem pmk_x {X : Cx} {CX : CXT} {x : Str} {C fI : Addr} {k : Nat} {fd : FuncData} {ps fs : List Str} {B newId initId : String} {bmB : List Value} {e : Expr} {es : List Expr} {ta : TA} {p pos : Pos} (XB : XBase B newId initId bmB) (T : XCl X.K newId bmB C)
    (iC : PySem.W.findIn X.K (.ref C) "__init__" = some (some (.ref fI))) (tI : PySem.W.typeIn X.K (.ref fI) = some (.type "function")) (F1 : FnOk X.prog X.w X.K X.mg X.base CX k fI fd ps (spX X.K newId bmB fs)) (hno : ∀ f ∈ fs, PySem.W.findIn X.K (.ref C) f = some none)
    (hr : Room (k + 1) X.A) (hb : Binds X.K fd ps []) (hx : Passes CX X (fun _ _ _ => False)) (hg : Gl X x) (hm : X.mg x = some (.ref C)) (hdb : (x == ("__debug__" : Str)) = false) (ha : PA X (e :: es) ta)
    (he : starEach (e :: es) X.env = (false, eval e X.env) :: starEach es X.env) (hpl : (backTo pos (starEach es X.env)).any (·.1) = false) : PMk X (.Call (.Name x p) (e :: es) [] pos) (tXmk C fs ta) := by
  intro pins s σ H Q I h
  refine wpAny_Call_Name_kw (ld_glob I hg hm ?_ hdb)
  refine PySem.W.callWith_K (h₀ := X.base) I.ok.mod.kin T.kp (thn (ha.run pos pins s σ H _ I h) fun us s1 ⟨vs, H1, I1, r1, hl, hl2, q1⟩ => ⟨I1.kIn, ?_⟩) he hpl
  show wpAny _ _ (call (.ref C) us) _ _ _
  obtain ⟨_, _, _, _, _, _, _, _, _, _, _, _, _, _, _, _, hC, hT⟩ := PySem.W.excInit_of I1.kIn T.q
  obtain ⟨hp, g, dr, tk, os⟩ := s1
  have ge : hp.objs.size ≤ hp.objs.size + 1 := Nat.le_add_right _ 1
  have hn : H1 (hp.objs.size + 1) = none := I1.hok.fresh ge
  have kk : ∀ c u, hp.get? c = some u → ((hp.push (PySem.W.kdv_tup us)).push (PySem.HandSPX.excO C hp.objs.size)).get? c = some u := fun c u w => Heap.get?_push_of_some _ (Heap.get?_push_of_some _ w)
  have at1 : ((hp.push (PySem.W.kdv_tup us)).push (PySem.HandSPX.excO C hp.objs.size)).get? (hp.objs.size + 1) = some (PySem.HandSPX.excO C hp.objs.size) := by heap_get
  have I2 := I1.laid (t' := tk) (a := hp.objs.size + 1) (o := exo (hp.objs.size + 1) C none) (h' := (hp.push (PySem.W.kdv_tup us)).push (PySem.HandSPX.excO C hp.objs.size)) kk ge (exo_ok at1)
  have hus : us.length ≤ sizeLine := by
    rw [← Paired.length r1, sizeLine_eq, hl]
    omega
  have sp : spX X.K newId bmB fs (V.ref (hp.objs.size + 1) :: vs) (upd H1 (hp.objs.size + 1) (exo (hp.objs.size + 1) C none))
      (fun v H3 => v = .non ∧ ∃ d, H3 (hp.objs.size + 1) = some (exo (hp.objs.size + 1) C (some d)) ∧ H3 d = some (exd d (fs.zip vs).reverse) ∧ H1 d = none ∧ Q (.ref C) (some d) (upd (del H3 (hp.objs.size + 1)) d (.xd (fs.zip vs).reverse))) (fun _ _ _ => False) := by
    refine ⟨_, C, vs, rfl, hl, T, upd_same, hno, fun dx n1 n2 => ⟨rfl, dx, ?_, upd_same, ?_, ?_⟩⟩
    · rw [upd_ne (Ne.symm n2)]; exact upd_same
    · rw [upd_ne n2] at n1; exact n1
    · have n3 : H1 dx = none := by rw [upd_ne n2] at n1; exact n1
      have e : upd (del (upd (upd (upd H1 (hp.objs.size + 1) (exo (hp.objs.size + 1) C none)) (hp.objs.size + 1) (exo (hp.objs.size + 1) C (some dx))) dx (exd dx (fs.zip vs).reverse)) (hp.objs.size + 1)) dx (.xd (fs.zip vs).reverse) = upd H1 dx (.xd (fs.zip vs).reverse) := by
        funext c
        by_cases hc : c = dx
        · subst hc; rw [upd_same, upd_same]
        · rw [upd_ne hc, upd_ne hc]
          by_cases hc2 : c = hp.objs.size + 1
          · subst hc2; rw [del_same, hn]
          · rw [del_ne hc2, upd_ne hc, upd_ne hc2, upd_ne hc2]
      rw [e]
      exact q1 dx n3
  have r2 : Vals (V.ref (hp.objs.size + 1) :: vs) (Value.ref (hp.objs.size + 1) :: us) := .cons rfl r1
  have hlen : (Value.ref (hp.objs.size + 1) :: us ++ ([] : List Value)).length = ps.length := by
    rw [List.append_nil, ← r2.length]
    exact F1.len _ _ _ _ sp
  have hbd := hb _ (Value.ref (hp.objs.size + 1) :: us) I2.kIn hlen
  rw [List.append_nil] at hbd
  refine wpAny_call (PySem.HandSPX.call_own XB.F hT hC (PySem.W.looks_findIn I1.kIn iC) (fun self => PySem.W.bind_fn I1.kIn self tI) hus
    (codeAny_mono (F1.run _ X.stack _ _ ⟨Value.ref (hp.objs.size + 1) :: us, []⟩ (Value.ref (hp.objs.size + 1) :: us) _ _ (fun _ _ _ => False) (hr.make C us []) (I2.env0.make C us []) hbd r2 sp) fun r s' hq' => ?_))
  cases r with
  | error er => exact hx pins σ _ _ er s' I2 hq'
  | ok fl =>
    cases fl with
    | ret u =>
      obtain ⟨v, H3, os2, bare2, un2, hok2, rv, ev, d, ea, ed, hd1, q2⟩ := hq'
      subst ev
      obtain ⟨h2, g2, d2, t2, os'⟩ := s'
      exact ⟨rv, mk_end (raises_own T.sub T.ty) I1 ge kk un2 hok2 os2 bare2 ea ed hd1 q2⟩
    | next => exact False.elim hq'
    | brk => exact False.elim hq'
    | cont => exact False.elim hq'
end DL
set_option maxHeartbeats 4000000
namespace DL
open PySem PySem.Spec PyProof.Rows L2
theorem zip_rev {α β : Type} : ∀ {xs : List α} {ys : List β}, xs.length = ys.length → (xs.zip ys).reverse = xs.reverse.zip ys.reverse
  | [], [], _ => rfl
  | x :: xs, y :: ys, h => by
    have h2 : xs.length = ys.length := by simpa using h
    rw [List.zip_cons_cons, List.reverse_cons, zip_rev h2, List.reverse_cons, List.reverse_cons, List.zip_append (by simp [h2])]
    rfl
def xRse (c : Nat) : Ex := fun _ S E' _ => E' ⟨c, [], []⟩ S
def xRsi (c : Nat) (ns : List Str) (fa : Ev (List D)) : Ex := fun γ S E' _ => fa γ S E' fun xs S1 => xs.length = ns.length ∧ E' ⟨c, ns.reverse, xs.reverse⟩ S1
section
variable {X : Cx} {M : Mp} {W : WX} {E : Ent} {c : Nat} {e : Expr} {es : List Expr} {pos p : Pos} {fa : Ev (List D)} {ns ps : List Str} {x : Str}
theorem s_rse (hc : X.calm = true) (tk : Takes X W) (he : PMk X e (fun _ H Q => Q (.ref (M.cls c)) none H)) : DS X M W E (.Raise (some e) none pos) (xRse c) :=
  PS.imp (ps_raise hc tk he) fun Dd σ H ⟨γ, S, E', κ, ⟨B, ρ, si⟩, h, x, kk⟩ => x _ _ h σ _ none H B ρ si.ext si.rel.cells ⟨rfl, rfl, rfl⟩
theorem s_rsi (hc : X.calm = true) (tk : Takes X W) (hn : ns.length ≤ 10) (he : PMk X e (tXmk (M.cls c) ns (tDA (kx X M) W fa))) : DS X M W E (.Raise (some e) none pos) (xRsi c ns fa) :=
  PS.imp (ps_raise hc tk he) fun Dd σ H ⟨γ, S, E', κ, ⟨B, ρ, si⟩, h, x, kk⟩ =>
    ⟨B, ρ, γ, S, E', _, si.at x, h, fun xs S1 ⟨hl, h1⟩ vs H1 B1 ρ1 x1 c1 r1 => ⟨by rw [r1.length]; exact hl, hn, fun d nd => by
      obtain ⟨c2, x2⟩ := c1.lay (o := .xd (ns.zip vs).reverse) nd
      have lv : ns.length = vs.length := by rw [r1.length]; exact hl.symm
      have ez : (ns.zip vs).reverse = ns.reverse.zip vs.reverse := by
        rw [zip_rev lv]
      refine x _ _ h1 σ _ (some d) _ _ ρ1 ((si.ext.tr x1).tr x2) c2 ⟨rfl, vs.reverse, ?_, by simp [lv], (r1.ext x2).reverse⟩
      rw [ez]
      exact upd_same⟩⟩
end
theorem exc_at {P : Program} {w : World} {H : Hp} {h : Heap} {cls : Value} {d : Option Addr} {a : Addr} (hok : HOk P w H h) (he : H a = some (ExC cls d a)) : ∃ (oe : Obj) (vs : Array Value), h.get? a = some oe ∧ oe.cls = cls ∧ oe.dict = d ∧ oe.data = .fields vs := by
  have z : ObjOk P w H h a (.ext fun h => ∃ (oe : Obj) (vs : Array Value), h.get? a = some oe ∧ oe.cls = cls ∧ oe.dict = d ∧ oe.data = .fields vs) := hok a _ he
  exact z.1
theorem exc_ok {P : Program} {w : World} {H : Hp} {h : Heap} {a : Addr} {oe : Obj} {vs : Array Value} (he : h.get? a = some oe) (hd : oe.data = .fields vs) : ObjOk P w H h a (ExC oe.cls oe.dict a) :=
  ⟨⟨oe, vs, he, rfl, rfl, hd⟩, ⟨oe, he⟩, fun h1 h2 ⟨o, v, q, r⟩ k => ⟨o, v, k _ q, r⟩⟩
structure XCk (K : PySem.W.Frag) (D : Addr) : Prop where
  g : PySem.W.findIn K (.ref D) "__getattribute__" = some (some (.builtin "BaseException.__getattribute__"))
  h : PySem.W.findIn K (.ref D) "__getattr__" = some none
  s : PySem.W.subIn K (.ref D) (.type "BaseException") = some true
  d : PySem.W.hasDictIn K D = true
  a : PySem.W.findIn K (.ref D) "__class__" = some (some (.builtin "object.__class__"))
  n : PySem.W.specialIn K (.builtin "object.__class__") "__get__" = some (some (.builtin "getset_descriptor.__get__"))
  t : PySem.W.takesIn K (.builtin "object.__class__") = some true
  m : PySem.W.mroIn K D (.type "object") = some true
section
variable {prog : Program} {w : World} {A : Around} {E : Value → Shared → Prop} {s : Shared} {K : PySem.W.Frag} {x D : Addr} {ox : Obj} {od : Option Obj}
open PySem.W
theorem x_found (C : XCk K D) : findObj K D od "__class__" = some (.bind (.builtin "getset_descriptor.__get__") (.builtin "object.__class__")) := by
  obtain ⟨cd, hc, _⟩ := cls_dict C.d
  unfold findObj
  rw [hc]
  simp [C.a, C.n, C.t]
theorem x_class (C : XCk K D) {Q : Option Value → Shared → Prop} (KH : K.In s.heap) (I : InstAt s.heap x ox D od) (q : Q (some (.ref D)) { s with toks := s.toks + 1 }) : wpAny (model prog w) A (getAttr? (.ref x) "__class__") Q E s := by
  have hf := x_found (od := od) C
  obtain ⟨hp, g, d, t, os⟩ := s
  have lt := I.type (M := model prog w)
  have lg := looks_findIn (M := model prog w) KH C.g
  have lh := looks_findIn (M := model prog w) KH C.h
  have lf := looks_find (M := model prog w) KH I hf
  have ls : Looks (model prog w) hp (isInstance (.ref x) (.type "BaseException")) true := lt.andThen (looks_subIn KH C.s)
  have e1 : (Value.builtin "BaseException.__getattribute__" == Value.builtin "object.__getattribute__") = false := by decide +kernel
  have e2 : (onTheHeap (Value.ref D) && Value.builtin "BaseException.__getattribute__" == Value.builtin "object.__getattribute__") = false := by rw [e1]; exact Bool.and_false _
  unfold getAttr?; unfold getAttrBy?; unfold getAttrBy
  refine wpAny_bind (wpAny_mkText (wpAny_bind (wpAny_attempt (wpAny_holding (wpAny_bind (lt.at (wpAny_bind (lg.at ?_))))))))
  show wpAny _ _ (if (onTheHeap (Value.ref D) && Value.builtin "BaseException.__getattribute__" == Value.builtin "object.__getattribute__") = true then _ else _) _ _ _
  rw [e2, if_neg (by decide)]
  unfold getAttrByItsOwn; unfold hookBefore
  refine wpAny_bind ?_
  rw [if_pos (by rfl : onTheHeap (Value.ref D) = true)]
  refine lh.at (wpAny_bind (wpAny_attempt (wpAny_holding ?_)))
  unfold callGetattribute
  rw [show (false && onTheHeap (Value.builtin "BaseException.__getattribute__")) = false from rfl, if_neg (by decide)]
  unfold boundAndCalled
  rw [PySem.F.excAttr_ValueError.ga.bind (Value.ref x)]
  refine wpAny_bind (wpAny_pure ?_)
  show wpAny _ _ (call (.builtin "BaseException.__getattribute__") [Value.ref x, .str "__class__" t]) _ _ _
  refine wpAny_call (codeAny_call_builtin PySem.F.excAttr_ValueError.ga.plain PySem.F.entry_bexc_ga (@check_slot (model prog w) _ _ ⟨hp, g, d, t + 1, os⟩ "BaseException.__getattribute__" "BaseException" "__getattribute__" (.ref x) [.str "__class__" t] [] _ (by decide +kernel) (by decide +kernel) ls (PySem.F.args_bexc_ga (.ref x) (.str "__class__" t)) ?_))
  unfold Builtin.«object.__getattribute__»
  refine wpAny_bind (wpAny_of_eq (a := ((Value.ref x : Value), [Value.str "__class__" t])) (by first | (simp only [slotArgs]; rfl) | rfl) ?_)
  refine wpAny_bind (wpAny_pure (wpAny_bind (lt.at (wpAny_bind (lf.at ?_)))))
  show wpAny _ _ (holding [Value.builtin "object.__class__"] (call (.builtin "getset_descriptor.__get__") [.builtin "object.__class__", Value.ref x, Value.ref D]) >>= ret) _ _ _
  refine wpAny_bind (wpAny_holding (wpAny_call (class_get (s := ⟨hp, g, d, t + 1, os⟩) KH I C.m (wpAny_pure ?_))))
  show wpAny _ _ (handedOut (Value.ref D)) _ _ _
  rw [handedOut_of (v := Value.ref D) rfl]
  first
    | exact wpAny_pure (wpAny_pure q)
    | exact wpAny_pure q
    | exact wpAny_pure (wpAny_bind (wpAny_pure (wpAny_pure q)))
theorem x_kit (C : XCk K D) : KitX K (.ref x) (.ref D) (fun h => InstAt h x ox D od) where
  ty := fun _ _ _ I => I.type
  it := fun _ _ KH _ => by
    obtain ⟨cd, hc, _⟩ := cls_dict C.d
    unfold clsIn at hc
    split at hc
    · rename_i ho
      intro A' Q' E' s' k q
      unfold isType; unfold loadHead
      exact wpAny_bind (wpAny_loadPart (k _ _ (KH _ _ ho)) (wpAny_pure q))
    · cases hc
  ne := fun h tp dd its n sl KH htp => by
    obtain ⟨cd, hc, _⟩ := cls_dict C.d
    rw [beq_eq_false_iff_ne]
    intro q
    cases q
    unfold clsIn at hc
    split at hc
    · rename_i ho
      cases (KH _ _ ho).symm.trans htp
    · cases hc
  ca := fun KH I k => x_class C KH I k
end
end DL
set_option maxHeartbeats 4000000
namespace DL
open PySem PySem.Spec PyProof.Rows L2
def kIsx (l : List (Nat × Bool)) (S : Sto) (Q : Rv → Sto → Prop) : D → Prop
  | .obj c _ _ => optW (l.lookup c) S fun b S => Q (.v (.bl b)) S
  | _ => False
def eIsx (l : List (Nat × Bool)) (fa : Ev D) : Ev Rv := fun γ S E Q => fa γ S E fun x S => kIsx l S Q x
def kXfl (l : List Nat) (f : Str) (S : Sto) (Q : Rv → Sto → Prop) : D → Prop
  | .obj c ns xs => c ∈ l ∧ optW ((ns.zip xs).lookup f) S fun d S => Q (.v d) S
  | _ => False
def eXfl (l : List Nat) (f : Str) (fa : Ev D) : Ev Rv := fun γ S E Q => fa γ S E fun x S => kXfl l f S Q x
structure XAt (K : PySem.W.Frag) (H : Hp) (a D : Addr) (d : Option Addr) (fs : List (Str × V)) : Prop where
  c : XCk K D
  e : H a = some (ExC (.ref D) d a)
  d : match d with | none => fs = [] | some dd => H dd = some (.xd fs)
section
variable {X : Cx} {M : Mp} {W : WX} {E : Ent} {pins : List (Addr × Obj)} {σ : L2.St} {H : Hp} {s : Shared} {a Da : Addr} {d : Option Addr} {fs : List (Str × V)}
theorem XAt.inst (x : XAt X.K H a Da d fs) (I : Inv X pins σ H s) : ∃ (oe : Obj) (od : Option Obj), PySem.W.InstAt s.heap a oe Da od ∧ ∀ f v, fs.lookup f = some v → ∃ o u, od = some o ∧ PySem.W.lookIn f o = some (some u) ∧ RelV v u := by
  obtain ⟨oe, vs, ho, h1, h2, h3⟩ := exc_at I.hok x.e
  have nc : PySem.W.notCls oe = true := by unfold PySem.W.notCls; rw [h3]
  have xd := x.d
  cases d with
  | none =>
    refine ⟨oe, none, ⟨ho, h1, nc, by rw [h2]; trivial⟩, fun f v q => ?_⟩
    dsimp only at xd
    rw [xd] at q
    cases q
  | some dd =>
    have z : ObjOk X.prog X.w H s.heap dd (.xd fs) := I.hok dd _ xd
    obtain ⟨mA, hns, hr⟩ := z
    obtain ⟨od, hod, hl⟩ := lookIn_ns hns
    refine ⟨oe, some od, ⟨ho, h1, nc, by rw [h2]; exact hod⟩, fun f v q => ?_⟩
    have := hr f
    rw [q] at this
    obtain ⟨u, hu, ru⟩ := RelO.some_of this
    exact ⟨od, u, rfl, by rw [hl, hu], ru⟩
def rIsx (K : PySem.W.Frag) : List V → Hp → VK → Prop := fun xs H Q => ∃ (a D : Addr) (d : Option Addr) (fs : List (Str × V)) (c : V) (cv : Value) (b : Bool), xs = [.ref a, c] ∧ XAt K H a D d fs ∧ (∀ u, RelV c u → u = cv) ∧ PySem.W.kitOne K (.ref D) cv = some b ∧ Q (.bl b) H
theorem call_isx : CallR X (.builtin "isinstance") (rIsx X.K) := by
  rintro pins s σ H xs us Q I r ⟨a, D, d, fs, c, cv, b, rfl, x, hcv, e, q⟩
  cases r with
  | cons rx rr =>
    cases rr with
    | cons rt rr =>
      cases rr
      cases rx
      have ec := hcv _ rt
      subst ec
      obtain ⟨oe, od, inst, _⟩ := x.inst I
      exact PySem.W.kia_one (x_kit x.c) I.kIn inst e (fun z => nomatch z) fun tk => ⟨.bl b, H, I.kept (t' := tk) fun _ _ z => z, rfl, q⟩
theorem pe_xfl {e : Expr} {te : TE} {pos : Pos} {n : Str} (he : PE X e te) (hb : attributeBase e n X.env (eval e X.env) = eval e X.env) :
    PE X (.Attribute e n pos) (fun σ H Q => te σ H fun x H1 => ∃ (a D : Addr) (d : Option Addr) (fs : List (Str × V)) (v : V), x = .ref a ∧ XAt X.K H1 a D d fs ∧ PySem.W.findIn X.K (.ref D) n = some none ∧ fs.lookup n = some v ∧ Q v H1) := by
  refine ⟨fun pins s σ H Q I h => attr_of hb (thn (he.run pins s σ H _ I h) fun u s1 ⟨x, H1, I1, rx, a, D, d, fs, v, ex, xa, hno, l, q⟩ => ?_)⟩
  subst ex
  obtain rfl : u = Value.ref a := rx
  obtain ⟨oe, od, inst, look⟩ := xa.inst I1
  obtain ⟨ob, w, rfl, hw, rw_⟩ := look n v l
  exact HandSPX.exc_get I1.kIn inst xa.c.g xa.c.h xa.c.s (PySem.W.findObj_own xa.c.d hno rfl hw) (handed_of rw_) ⟨v, H1, I1.tok _, rw_, q⟩
inductive ClsV (X : Cx) (x : Str) : V → Value → Prop
  | own {P : Addr} : X.mg x = some (.ref P) → ClsV X x (.ref P) (.ref P)
  | blt {t : String} : X.mg x = none → bootBuiltins x = some (.type t) → ClsV X x (.ty t) (.type t)
theorem ClsV.pe {x : Str} {v : V} {cv : Value} {p : Pos} (h : ClsV X x v cv) (hg : Gl X x) (hd : (x == ("__debug__" : Str)) = false) (hn : x ≠ "__name__") : PE X (.Name x p) (tC v) := by
  cases h with
  | own m => exact pe_glob hg m rfl hd
  | blt m b => exact pe_bltn (v := .ty _) hg m b rfl hn hd
theorem ClsV.rel {x : Str} {v : V} {cv : Value} (h : ClsV X x v cv) : ∀ u, RelV v u → u = cv := by
  cases h with
  | own m => exact fun u r => r
  | blt m b => exact fun u r => r
theorem ClsV.names {x : Str} {v : V} {cv : Value} (h : ClsV X x v cv) (hg : Gl X x) (hd : (x == ("__debug__" : Str)) = false) (hn : x ≠ "__name__") : Names X x cv := by
  cases h with
  | own m => exact ⟨hg, hd, .inl m⟩
  | blt m b => exact ⟨hg, hd, .inr ⟨m, b, hn⟩⟩
theorem rep_x {K : Kx} {B : Hp} {ρ : List Addr} {S : Sto} {v : V} {c : Nat} {ns : List Str} {ds : List D} (cc : Cells K B ρ H S) (hc : 1000 ≤ c) (ck : XCk K.K (K.cls c)) (h : Rep K B ρ v (.obj c ns ds)) :
    ∃ a d vs, v = .ref a ∧ XAt K.K H a (K.cls c) d (ns.zip vs) ∧ ns.length = vs.length ∧ RepL K B ρ vs ds := by
  cases h with
  | obj h0 => omega
  | exn h0 h1 h2 h3 t =>
    rename_i a dx vs
    refine ⟨a, dx, vs, rfl, ⟨ck, cc.same _ _ h1, ?_⟩, h3, t⟩
    cases dx with
    | none =>
      have e : ns = [] := h2
      subst e
      rfl
    | some dd => exact cc.same _ _ h2
theorem dr_isx {e : Expr} {t : Str} {p p2 pos : Pos} {fa : Ev D} {l : List (Nat × Bool)} {cv : Value} {v : V} (hg : Gl X "isinstance") (hm : X.mg "isinstance" = none) (ht : ClsV X t v cv) (hgT : Gl X t) (hdT : (t == ("__debug__" : Str)) = false) (hnT : t ≠ "__name__")
    (hl : ∀ c b, l.lookup c = some b → 1000 ≤ c ∧ XCk X.K (M.cls c) ∧ PySem.W.kitOne X.K (.ref (M.cls c)) cv = some b) (ha : DE X M W e fa)
    (hs : starEach [e, .Name t p2] X.env = (false, eval e X.env) :: starEach [.Name t p2] X.env) : DR X M W (.Call (.Name "isinstance" p) [e, .Name t p2] [] pos) (eIsx l fa) :=
  PE.imp (pe_callB call_isx hg hm (by decide +kernel) (pa_cons ha (pa_cons (ht.pe hgT hdT hnT) pa_nil) hs) (he := hs)) fun σ H Q ⟨B, ρ, γ, S, E', Q', at_, h, k⟩ =>
    ⟨B, ρ, γ, S, E', _, at_, h, fun x S1 h1 u H1 B1 ρ1 x1 c1 r1 => by
      unfold kIsx at h1
      split at h1
      · rename_i c ns ds
        obtain ⟨b, q, h2⟩ := optW_ok h1
        obtain ⟨l1, l2, l3⟩ := hl c b q
        obtain ⟨a, d, vs, rfl, xa, _, _⟩ := rep_x (K := kx X M) c1 l1 l2 r1
        exact ⟨a, M.cls c, d, _, v, cv, b, rfl, xa, ht.rel, l3, k _ S1 h2 _ H1 B1 ρ1 x1 c1 (.bl b)⟩
      · exact h1.elim⟩
theorem dr_xfl {e : Expr} {pos : Pos} {n : Str} {fa : Ev D} {l : List Nat} (hl : ∀ c ∈ l, 1000 ≤ c ∧ XCk X.K (M.cls c) ∧ PySem.W.findIn X.K (.ref (M.cls c)) n = some none) (ha : DE X M W e fa) (hb : attributeBase e n X.env (eval e X.env) = eval e X.env) :
    DR X M W (.Attribute e n pos) (eXfl l n fa) := PE.imp (pe_xfl ha hb) fun σ H Q ⟨B, ρ, γ, S, E', Q', at_, h, k⟩ =>
    ⟨B, ρ, γ, S, E', _, at_, h, fun x S1 h1 u H1 B1 ρ1 x1 c1 r1 => by
      unfold kXfl at h1
      split at h1
      · rename_i c ns ds
        obtain ⟨hc, h1⟩ := h1
        obtain ⟨y, q, h2⟩ := optW_ok h1
        obtain ⟨l1, l2, l3⟩ := hl c hc
        obtain ⟨a, d, vs, rfl, xa, hlen, rl⟩ := rep_x (K := kx X M) c1 l1 l2 r1
        obtain ⟨v, e2, rv⟩ := zip_look rl q
        exact ⟨a, M.cls c, d, _, v, rfl, xa, l3, e2, k _ S1 h2 v H1 B1 ρ1 x1 c1 rv⟩
      · exact h1.elim⟩
end
end DL
set_option maxHeartbeats 4000000
namespace DL
open PySem PySem.Spec PyProof.Rows L2
def endsX (i : Nat) (D : Ends) : Ends := { nx := fun σ' H' => D.nx (σ'.set i none) H', rt := D.rt, bk := fun σ' H' => D.bk (σ'.set i none) H', ct := fun σ' H' => D.ct (σ'.set i none) H' }
def wX (K : PySem.W.Frag) (c : Value) (i : Nat) (ts : TS) (Wo : WX) (D : Ends) : WX := fun cls d σ H =>
  ∃ b, PySem.W.exmOne K cls c = some b ∧ (b = true → ∀ a, H a = none → ts (endsX i D) (σ.set i (some (.ref a))) (upd H a (ExC cls d a))) ∧ (b = false → Wo cls d σ H)
section
variable {X : Cx} {pins : List (Addr × Obj)} {σ : L2.St} {H : Hp} {s : Shared} {a : Addr}
theorem Inv_suite (I : Inv X pins σ H s) : Inv (X.suite a (X.pn ++ pins)) [] σ H s :=
  ⟨I.ok.suite _ _, I.os, I.bare, I.base, I.loc, I.cell, I.free, I.freeC, fun p hp => I.pin p (by rw [List.append_nil] at hp; exact hp), I.hok, I.len⟩
theorem Inv_unsuite (I : Inv (X.suite a (X.pn ++ pins)) [] σ H s) (ok : X.Ok) : Inv X pins σ H s :=
  ⟨ok, I.os, I.bare, I.base, I.loc, I.cell, I.free, I.freeC, fun p hp => I.pin p (by rw [List.append_nil]; exact hp), I.hok, I.len⟩
end
section
variable {X : Cx} {x n : Str} {c : Value} {i : Nat} {body suite : List Stmt} {np pos pos' : Pos} {tb : WX → TS} {ts : TS} {Wo : WX}
theorem not_frame {fs : List Env} {B h : Heap} {o : Obj} {vs : Array Value} {a : Addr} (ff : h.FunFrames B fs) (e : h.get? a = some o) (dd : o.data = .fields vs) : a ∉ frs fs := fun hm => by
  obtain ⟨_, u, hu, hn⟩ := ff.mem hm
  rw [e] at hu
  cases hu
  exact hn vs dd
theorem ps_tryX (hs : X.stack = X.env :: X.outer) (hf : X.env.frame = some X.env.locals) (hex : X.ex = []) (hN : X.N.Nodup) (hi : X.N[i]? = some n) (hln : X.env.kindOf n = some .local) (hc : Names X x c) (tk : Takes X Wo)
    (hb : ∀ (W : WX) (pn : List (Addr × Obj)) (xe : Value → Shared → Prop), Takes (X.tr pn xe) W → PassesOwn (model X.prog X.w) X.A X.env xe → PSs (X.tr pn xe) body (tb W))
    (hsu : ∀ (a : Addr) (pn : List (Addr × Obj)), PSs (X.suite a pn) suite ts) (h0 : suite ≠ []) :
    PS X (.Try body [.ExceptHandler (some (.Name x np)) (some n) suite pos'] [] [] pos) (fun D σ H => tb (wX X.K c i ts Wo D) D σ H) := by
  refine ⟨fun pins s σ H D I h => ?_⟩
  obtain ⟨b0, rest, rfl⟩ : ∃ b0 rest, suite = b0 :: rest := by
    cases suite with
    | nil => exact absurd rfl h0
    | cons b r => exact ⟨b, r, rfl⟩
  have ok := I.ok
  have fr : X.A.frames = some (X.env :: X.outer) := by rw [ok.frames, hs]
  have hloc : L2.Loc X.env.scope n := .inl hln
  refine wpAny_Try_except (wpAny_mono ((hb (wX X.K c i ts Wo D) (X.pn ++ pins) (fun e s1 => wpAny (model X.prog X.w) X.A (noteFrame e X.env) (fun _ s2 => wpAny (model X.prog X.w) X.A (setFlight e none) (fun _ s3 =>
    wpAny (model X.prog X.w) X.A (handleBy e X.env [.ExceptHandler (some (.Name x np)) (some n) (b0 :: rest) pos']) (SP X pins D) X.xe s3) X.xe s2) X.xe s1) (fun u s' xx => ?_) PassesOwn.looking).run [] s σ H D (I.toTry _) h) (fun f s1 q => ?_) fun _ _ z => z)
  · obtain ⟨a, B, sI, pj, σ1, H1, cls, d, rfl, J0, nb, up, sky, na, os, ag, b, ex1, yes, no⟩ := xx
    have J : Inv X pins σ1 H1 sI := J0.ofTry ok
    have sk : Sky B (X.env :: X.outer) a (Zc cls d) X.env.locals s'.heap := by rw [← hs]; exact sky
    show wpAny (model X.prog X.w) X.A (noteFrame (.ref a) X.env) _ _ _
    refine Sky.land Zc.steady fr hf sk fun h3 fl3 up3 => ?_
    have J3 : Inv X pins σ1 H1 { s' with heap := h3 } := J.landed nb fl3.1 (up.trans up3) os ag
    obtain ⟨o3, v3, g3, z3, d3⟩ := fl3.there
    have nfr := not_frame fl3.2.2.1 g3 d3
    have nB : B.get? a = none := fl3.2.1
    have fresh : sI.heap.get? a = none := by
      cases e : sI.heap.get? a with
      | none => rfl
      | some u =>
        have := nb a u e (by rw [hs]; exact nfr)
        rw [nB] at this
        cases this
    have T3 := J3.suite g3 d3 na (fun z => nfr (List.mem_filterMap.mpr ⟨X.env, List.mem_cons_self, by rw [hf, z]⟩)) fun hm => by
      obtain ⟨e, he, q⟩ := List.mem_filterMap.mp hm
      exact nfr (List.mem_filterMap.mpr ⟨e, List.mem_cons_of_mem _ he, q⟩)
    refine wpAny_handleBy_cons (codeAny_handlers_test ?_) (by intro q; cases q)
    have lt : PySem.W.Looks (model X.prog X.w) h3 (typeOf (.ref a)) cls := fun A Q E s k q => wpAny_typeOf_ref (k _ _ g3) (by rw [z3.1]; exact q)
    have lm := PySem.W.exm_one (M := model X.prog X.w) J3.kIn lt ex1
    have named : ∀ {Q : Value → Shared → Prop} {E : Value → Shared → Prop}, Q c { s' with heap := h3 } → wpAny (model X.prog X.w) (X.A.mark (some (.ref a))) (eval (.Name x np) X.env) Q E { s' with heap := h3 } := fun {Q E} q => by
      rcases hc with ⟨g1, g2, m1 | ⟨m1, m2, m3⟩⟩
      · exact ld_glob (X := X.suite a ((a, o3) :: (X.pn ++ pins))) T3 g1 m1 q g2
      · exact ld_blt (X := X.suite a ((a, o3) :: (X.pn ++ pins))) T3 g1 m1 m2 q m3 g2
    refine named (lm.here ?_)
    cases b with
    | true =>
      refine codeAny_handlers_suite_as (HandSPX.lands_againZ fl3 fun h4 fl4 up4 => ?_)
      have J4 : Inv X pins σ1 H1 { s' with heap := h4 } := J.landed nb fl4.1 ((up.trans up3).trans up4) os ag
      obtain ⟨o4, v4, g4, z4, d4⟩ := fl4.there
      have kn : ObjOk X.prog X.w (upd H1 a (ExC cls d a)) h4 a (ExC cls d a) := by
        obtain ⟨e1, e2⟩ := z4
        subst e1; subst e2
        exact exc_ok g4 d4
      have S4 := Inv_suite (a := a) (Inv_track J J4 fresh na kn hex)
      refine store_ok (X := X.suite a (X.pn ++ pins)) (v := .ref a) S4 hN hi hloc rfl (fun s5 S5 => ?_) (.inr hln)
      refine wpAny_mono ((hsu a (X.pn ++ pins)).run [] s5 _ _ _ S5 (yes rfl a na)) (fun f s6 q => ?_) fun _ _ z => z.elim
      have fin : ∀ {σ6 : L2.St} {H6 : Hp} {Q : Shared → Prop}, Inv (X.suite a (X.pn ++ pins)) [] σ6 H6 s6 → (∀ s7, Inv X pins (σ6.set i none) H6 s7 → Q s7) →
          wpAny (model X.prog X.w) X.A (do bindName X.env n .none; unbindBehindTheSuite X.env n pos') (fun _ s7 => Q s7) X.xe s6 := fun {σ6 H6 Q} S6 k => gone_ok (Inv_unsuite S6 ok) hN hi hln k
      cases f with
      | next =>
        obtain ⟨_, _, S6, q6⟩ := q
        exact fin S6 fun s7 J7 => ⟨_, _, J7, q6⟩
      | brk =>
        obtain ⟨_, _, S6, q6⟩ := q
        exact fin S6 fun s7 J7 => ⟨_, _, J7, q6⟩
      | cont =>
        obtain ⟨_, _, S6, q6⟩ := q
        exact fin S6 fun s7 J7 => ⟨_, _, J7, q6⟩
      | ret u =>
        obtain ⟨_, _, _, S6, r6, q6⟩ := q
        exact fin S6 fun s7 J7 => ⟨_, _, _, J7, r6, q6⟩
    | false =>
      show wpAny _ X.A (handleBy (.ref a) X.env []) _ _ _
      refine wpAny_handleBy_nil ?_
      obtain ⟨_, _, _, oe, vs, T, oT, ts2, he, _, hd, h1, _⟩ := id fl3
      unfold PySem.passOn
      refine wpAny_bind (wpAny_field he hd h1 ?_)
      rw [if_neg (by simp : ¬ (Value.ref T == Value.none) = true)]
      have last : wpAny (model X.prog X.w) X.A (setFlight (.ref a) X.env.frame) (fun _ s4 => wpAny (model X.prog X.w) X.A (throw (.ref a) : Sem Flow) (SP X pins D) X.xe s4) X.xe { s' with heap := h3 } := by
        rw [hf]
        exact HandSPX.setFlight_upZ fl3 fun h4 hh4 up4 => wpAny_throw (tk _ _ ⟨a, B, sI, pins, σ1, H1, cls, d, rfl, J, nb, (up.trans up3).trans up4, .inr (.inr (by rw [hs]; exact hh4)), na, os, ag, no rfl⟩)
      first
        | exact wpAny_bind (wpAny_pure (wpAny_bind last))
        | exact wpAny_bind last
  · cases f with
    | next =>
      obtain ⟨_, _, J, q⟩ := q
      exact wpAny_execs_nil ⟨_, _, J.ofTry ok, q⟩
    | brk =>
      obtain ⟨_, _, J, q⟩ := q
      exact ⟨_, _, J.ofTry ok, q⟩
    | cont =>
      obtain ⟨_, _, J, q⟩ := q
      exact ⟨_, _, J.ofTry ok, q⟩
    | ret u =>
      obtain ⟨_, _, _, J, r, q⟩ := q
      exact ⟨_, _, _, J.ofTry ok, r, q⟩
end
abbrev XC2 := Exn → List Slot → Sto → Prop
abbrev Tb := List Slot → Sto → XC2 → Kt → Prop
def tBad : Tb := fun _ _ _ _ => False
def tTB (K : Kx) (W : WX) (E : Ent) (f : Tb) : TS := fun Dd σ H => ∃ γ S E2 κ, StOk K E γ S σ H ∧ f γ S E2 κ ∧ (∀ x γ' S', E2 x γ' S' → ∀ σ' H' B' ρ' cls d, StIn K E γ' S' σ' H' B' ρ' → RepX K B' ρ' cls d x → W cls d σ' H') ∧ KPost K E Dd κ
def onE (E2 : XC2) (γ : List Slot) : XC := fun x S => E2 x γ S
def bEx (f : Ev D) (g : Tb) : Tb := fun γ S E2 κ => f γ S (onE E2 γ) fun _ S => g γ S E2 κ
def bRet (f : Ev Rv) : Tb := fun γ S E2 κ => f γ S (onE E2 γ) κ.rt
def bSet (i : Nat) (f : Ev D) (g : Tb) : Tb := fun γ S E2 κ => f γ S (onE E2 γ) fun d S => g (γ.set i (.val d)) S E2 κ
def kBi (f g : Tb) (γ : List Slot) (E2 : XC2) (κ : Kt) (b : Bool) (S : Sto) : Prop := match b with | true => f γ S E2 κ | false => g γ S E2 κ
def thenT (g : Tb) (E2 : XC2) (κ : Kt) : Kt := ⟨fun γ S => g γ S E2 κ, κ.rt, κ.bk, κ.ct⟩
def bIf (c : Ev Bool) (f g h : Tb) : Tb := fun γ S E2 κ => c γ S (onE E2 γ) (kBi f g γ E2 (thenT h E2 κ))
def bNx : Tb := fun γ S _ κ => κ.nx γ S
section
variable {X : Cx} {M : Mp} {W : WX} {E : Ent} {e c : Expr} {es sa sb : List Stmt} {pos : Pos} {fa : Ev D} {fr : Ev Rv} {fc : Ev Bool} {f g h : Tb} {i : Nat} {st : Stmt}
theorem b_nx : PSs X [] (tTB (kx X M) W E bNx) := ⟨fun pins s σ H D I ⟨γ, S, E2, κ, st, h, x, kk⟩ => pss_nil.run pins s σ H D I (kk.nx γ S h σ H st)⟩
theorem StIn.atE {K : Kx} {W : WX} {γ : List Slot} {S : Sto} {σ : L2.St} {H : Hp} {B : Hp} {ρ : List Addr} {E2 : XC2} (si : StIn K E γ S σ H B ρ)
    (x : ∀ x γ' S', E2 x γ' S' → ∀ σ' H' B' ρ' cls d, StIn K E γ' S' σ' H' B' ρ' → RepX K B' ρ' cls d x → W cls d σ' H') : At K W σ B ρ H γ S (onE E2 γ) :=
  ⟨si.rel, fun y S' h cls d H' B' ρ' ex cc r => x y γ S' h σ H' B' ρ' cls d (si.step ex cc) r⟩
theorem pss_then {t u v : TS} (h1 : PS X st t) (h2 : PSs X es u) (i : ∀ D σ H, v D σ H → t { D with nx := u D } σ H) : PSs X (st :: es) v := PSs.imp (pss_cons h1 h2) i
theorem b_ex (he : DE X M W e fa) (hs : swapsWith e none pos.line X.env = pure false) (hg : PSs X es (tTB (kx X M) W E g)) : PSs X (.Expr e pos :: es) (tTB (kx X M) W E (bEx fa g)) :=
  pss_then (ps_expr he hs) hg fun Dd σ H ⟨γ, S, E2, κ, ⟨B, ρ, si⟩, h, x, kk⟩ =>
    ⟨B, ρ, γ, S, _, _, si.atE x, h, fun d S1 h1 v H1 B1 ρ1 x1 c1 r1 => ⟨γ, S1, E2, κ, ⟨B1, ρ1, si.step x1 c1⟩, h1, x, kk⟩⟩
theorem b_ret (he : DR X M W e fr) : PSs X [.Return (some e) pos] (tTB (kx X M) W E (bRet fr)) :=
  PSs.imp (pss_one (ps_ret he)) fun Dd σ H ⟨γ, S, E2, κ, ⟨B, ρ, si⟩, h, x, kk⟩ => ⟨B, ρ, γ, S, _, _, si.atE x, h, fun r S1 h1 => (kk.rt r S1 h1).from si.ext⟩
theorem b_set (hst : PS X st (tAsg (tD (kx X M) W fa) (gName i))) (hg : PSs X es (tTB (kx X M) W E g)) : PSs X (st :: es) (tTB (kx X M) W E (bSet i fa g)) :=
  pss_then hst hg fun Dd σ H ⟨γ, S, E2, κ, ⟨B, ρ, si⟩, h, x, kk⟩ =>
    ⟨B, ρ, γ, S, _, _, si.atE x, h, fun d S1 h1 v H1 B1 ρ1 x1 c1 r1 => ⟨_, S1, E2, κ, ⟨B1, ρ1, (si.step x1 c1).set r1⟩, h1, x, kk⟩⟩
theorem b_if (hc : DT X M W c fc) (ha : PSs X sa (tTB (kx X M) W E f)) (hb : PSs X sb (tTB (kx X M) W E g)) (hh : PSs X es (tTB (kx X M) W E h)) : PSs X (.If c sa sb pos :: es) (tTB (kx X M) W E (bIf fc f g h)) :=
  pss_then (ps_if hc ha hb) hh fun Dd σ H ⟨γ, S, E2, κ, ⟨B, ρ, si⟩, h0, x, kk⟩ =>
    ⟨B, ρ, γ, S, _, _, si.atE x, h0, fun b S1 h1 H1 B1 ρ1 x1 c1 => by
      have kp : KPost (kx X M) E { Dd with nx := tTB (kx X M) W E h Dd } (thenT h E2 κ) := ⟨fun γ' S' q σ' H' st => ⟨γ', S', E2, κ, st, q, x, kk⟩, kk.rt, kk.bk, kk.ct⟩
      cases b with
      | true => exact iteT ⟨γ, S1, E2, _, ⟨B1, ρ1, si.step x1 c1⟩, h1, x, kp⟩
      | false => exact iteF ⟨γ, S1, E2, _, ⟨B1, ρ1, si.step x1 c1⟩, h1, x, kp⟩⟩
end
def offK (i : Nat) (κ : Kt) : Kt := ⟨fun γ S => κ.nx (γ.set i .no) S, κ.rt, fun γ S => κ.bk (γ.set i .no) S, fun γ S => κ.ct (γ.set i .no) S⟩
def kTry (l : List (Nat × Bool)) (i : Nat) (g : Ex) (E' : XC) (κ : Kt) : XC2 := fun x γ S => match l.lookup x.c with
  | some true => g (γ.set i (.val (.obj x.c x.ns x.xs))) S EF (offK i κ)
  | some false => E' x S
  | none => False
def xTry (l : List (Nat × Bool)) (i : Nat) (f : Tb) (g : Ex) : Ex := fun γ S E' κ => f γ S (kTry l i g E' κ) κ
theorem s_try {X : Cx} {M : Mp} {W : WX} {E : Ent} {x n : Str} {c : Value} {i : Nat} {body suite : List Stmt} {np pos pos' : Pos} {l : List (Nat × Bool)} {f : Tb} {g : Ex} (hs : X.stack = X.env :: X.outer) (hf : X.env.frame = some X.env.locals) (hex : X.ex = []) (hN : X.N.Nodup)
    (hi : X.N[i]? = some n) (hln : X.env.kindOf n = some .local) (hc : Names X x c) (tk : Takes X W) (hl : ∀ m b, l.lookup m = some b → 1000 ≤ m ∧ PySem.W.exmOne X.K (.ref (M.cls m)) c = some b)
    (hb : ∀ (W : WX) (pn : List (Addr × Obj)) (xe : Value → Shared → Prop), Takes (X.tr pn xe) W → PassesOwn (model X.prog X.w) X.A X.env xe → PSs (X.tr pn xe) body (tTB (kx X M) W E f))
    (hsu : ∀ (a : Addr) (pn : List (Addr × Obj)), PSs (X.suite a pn) suite (tDS (kx X M) WF E g)) (h0 : suite ≠ []) :
    DS X M W E (.Try body [.ExceptHandler (some (.Name x np)) (some n) suite pos'] [] [] pos) (xTry l i f g) :=
  PS.imp (ps_tryX (tb := fun W => tTB (kx X M) W E f) hs hf hex hN hi hln hc tk hb hsu h0) fun Dd σ H ⟨γ, S, E', κ, st, h, xx, kk⟩ => by
    refine ⟨γ, S, _, κ, st, h, fun y γ1 S1 h1 σ1 H1 B1 ρ1 cls d si r => ?_, kk⟩
    unfold kTry at h1
    split at h1
    · rename_i q
      obtain ⟨l1, l2⟩ := hl _ _ q
      obtain ⟨rfl, rd⟩ := r
      refine ⟨true, l2, fun _ a na => ?_, fun z => nomatch z⟩
      obtain ⟨c2, x2⟩ := si.rel.cells.lay (o := ExC (.ref ((kx X M).cls y.c)) d a) na
      have st2 := si.step x2 c2
      have rx : Rep (kx X M) (upd B1 a (ExC (.ref ((kx X M).cls y.c)) d a)) ρ1 (.ref a) (.obj y.c y.ns y.xs) := by
        cases d with
        | none =>
          obtain ⟨e1, e2⟩ := rd
          rw [e1, e2]
          exact .exn (vs := []) l1 upd_same rfl rfl .nil
        | some dd =>
          obtain ⟨vs, b1, b2, b3⟩ := rd
          exact .exn (dx := some dd) l1 upd_same (x2.base _ _ b1) b2 (b3.ext x2)
      refine ⟨_, S1, EF, offK i κ, ⟨_, ρ1, st2.set rx⟩, h1, fun _ _ z => z.elim, ⟨fun γ' S' q' σ' H' so => ?_, kk.rt, fun γ' S' q' σ' H' so => ?_, fun γ' S' q' σ' H' so => ?_⟩⟩
      · obtain ⟨B', ρ', s'⟩ := so
        exact kk.nx _ S' q' _ _ ⟨B', ρ', s'.put (.inl rfl)⟩
      · obtain ⟨B', ρ', s'⟩ := so
        exact kk.bk _ S' q' _ _ ⟨B', ρ', s'.put (.inl rfl)⟩
      · obtain ⟨B', ρ', s'⟩ := so
        exact kk.ct _ S' q' _ _ ⟨B', ρ', s'.put (.inl rfl)⟩
    · rename_i q
      obtain ⟨l1, l2⟩ := hl _ _ q
      have r' := r
      obtain ⟨rfl, rd⟩ := r
      exact ⟨false, l2, (fun z => nomatch z), fun _ => xx y S1 h1 σ1 _ d H1 B1 ρ1 si.ext si.rel.cells r'⟩
    · exact h1.elim
end DL
set_option maxHeartbeats 4000000
namespace DL
open PySem PySem.Spec PyProof.Rows L2
def xckB (K : PySem.W.Frag) (C : Addr) : Bool := decide (PySem.W.findIn K (.ref C) "__getattribute__" = some (some (.builtin "BaseException.__getattribute__"))) && (decide (PySem.W.findIn K (.ref C) "__getattr__" = some none) && (decide (PySem.W.subIn K (.ref C) (.type "BaseException") = some true) &&
  (PySem.W.hasDictIn K C && (decide (PySem.W.findIn K (.ref C) "__class__" = some (some (.builtin "object.__class__"))) && (decide (PySem.W.specialIn K (.builtin "object.__class__") "__get__" = some (some (.builtin "getset_descriptor.__get__"))) &&
    (decide (PySem.W.takesIn K (.builtin "object.__class__") = some true) && decide (PySem.W.mroIn K C (.type "object") = some true)))))))
theorem xckB_ok {K : PySem.W.Frag} {C : Addr} (h : xckB K C = true) : XCk K C := by
  simp only [xckB, Bool.and_eq_true, decide_eq_true_eq] at h
  obtain ⟨h1, h2, h3, h4, h5, h6, h7, h8⟩ := h
  exact ⟨h1, h2, h3, h4, h5, h6, h7, h8⟩
def xclB (K : PySem.W.Frag) (newId : String) (bmB : List Value) (C : Addr) : Bool := PySem.W.excInitIn K C bmB newId && (PySem.W.hasDictIn K C && (PySem.W.excOver K C bmB && (decide (PySem.W.findIn K (.ref C) "__setattr__" = some (some (.builtin "object.__setattr__"))) &&
  (decide (PySem.W.subIn K (.ref C) (.type "BaseException") = some true) && (decide (PySem.W.typeIn K (.ref C) = some (.type "type")) && PySem.W.keepIn K (.ref C))))))
theorem xclB_ok {K : PySem.W.Frag} {newId : String} {bmB : List Value} {C : Addr} (h : xclB K newId bmB C = true) : XCl K newId bmB C := by
  simp only [xclB, Bool.and_eq_true, decide_eq_true_eq] at h
  obtain ⟨h1, h2, h3, h4, h5, h6, h7⟩ := h
  exact ⟨h1, h2, h3, h4, h5, h6, h7⟩
def xsupB (K : PySem.W.Frag) (initId : String) (P : Addr) : Bool := decide (PySem.W.specialIn K (.ref P) "__getattribute__" = some (some (.builtin "type.__getattribute__"))) && (PySem.W.readsIn K P (.type "type") && (match PySem.W.findCls K (.ref P) (.type "type") "__init__" with
  | some (.val v) => decide (v = .builtin initId)
  | _ => false))
theorem xsupB_ok {K : PySem.W.Frag} {initId : String} {P : Addr} (h : xsupB K initId P = true) : XSup K initId P := by
  simp only [xsupB, Bool.and_eq_true, decide_eq_true_eq] at h
  obtain ⟨h1, h2, h3⟩ := h
  refine ⟨h1, h2, ?_⟩
  split at h3
  · rename_i v q
    rw [q, of_decide_eq_true h3]
  · cases h3
def xi1 (P self f p1 : Str) : List Stmt → Bool
  | [s0, s1] => xcB P self s0 && xsB self f p1 s1
  | _ => false
def plainN (x : Str) : Bool := !(x == ("__debug__" : Str)) && !(x == ("__classdict__" : Str))
def scB (P : Str) (ps : List Str) (sc : Scope) : Bool := decide (sc.names.lookup P = some .globalImplicit) && !(P == ("__debug__" : Str)) && ps.all fun x => decide (sc.names.lookup x = some .local) && plainN x
section
variable {Pg : Program} {w : World} {K : PySem.W.Frag} {mg : Str → Option Value} {base : Heap} {f0 : Addr} {name qual : Str} {params : Arguments} {body : List Stmt} {sc : Scope} {dV kV doc pm cdv ct oc : Value} {an od : Option Addr} {osl : Array (Option Value)}
  {B newId initId : String} {bmB : List Value} {P : Str} {PA : Addr} {CX : CXT}
theorem fn_xi1 {f p1 self : Str} (XB : XBase B newId initId bmB) (lk : K.lookup f0 = some ⟨oc, od, .func (PySem.W.fnOf name qual params body sc dV kV doc pm an cdv ct), osl⟩) (hcd : PySem.W.codeIn K cdv qual = true) (FS : FnScope [self, p1] [self, p1] sc)
    (hb : xi1 P self f p1 body = true) (hs : scB P [self, p1] sc = true) (S : XSup K initId PA) (hm : mg P = some (.ref PA)) :
    FnOk Pg w K mg base CX 1 f0 (PySem.W.fnOf name qual params body sc dV kV doc pm an cdv ct) [self, p1] (spX K newId bmB [f]) := by
  unfold xi1 at hb
  split at hb
  · simp only [Bool.and_eq_true] at hb
    simp only [scB, plainN, List.all_cons, List.all_nil, Bool.and_true, Bool.and_eq_true, decide_eq_true_eq, Bool.not_eq_true'] at hs
    obtain ⟨⟨a1, a2⟩, ⟨a3, a4, a5⟩, a6, a7, a8⟩ := hs
    exact fn_x1 XB lk hcd FS hb.1 hb.2 S a1 hm a2 a3 a6 a4 a5 a7 a8
  · cases hb
theorem binds2 {K : PySem.W.Frag} {fd : FuncData} {a b : Str} (h : ∀ u v : Value, bindArgs fd ⟨[u, v], []⟩ = pure [(a, u), (b, v)]) : Binds K fd [a, b] [] := .all fun us hl => by
  match us, hl with
  | [u, v], _ => exact h u v
end
theorem look_all {α β : Type} [BEq α] [LawfulBEq α] {P : α → β → Prop} : ∀ {l : List (α × β)} {c : α} {b : β}, (∀ p ∈ l, P p.1 p.2) → l.lookup c = some b → P c b
  | [], _, _, _, h => by simp at h
  | (k, v) :: l, c, b, hp, h => by
    rw [List.lookup_cons] at h
    cases e : (c == k) with
    | true =>
      rw [e] at h
      cases h
      rw [eq_of_beq e]
      exact hp (k, v) List.mem_cons_self
    | false =>
      rw [e] at h
      exact look_all (fun p hp2 => hp p (List.mem_cons_of_mem _ hp2)) h
end DL
namespace DL
open PySem PySem.Spec L2 SeqAt
structure Sh where
  n : Nat
  ks : List Str
  is : List Nat
  dd : List D
structure Fi where
  name : Str
  F : FD
  k : Nat
  ps : List Str
  shapes : List Sh
structure Mi where
  c : Nat
  cn : Str
  name : Str
  F : FD
  k : Nat
  ps : List Str
  shapes : List Sh
structure Tab where
  fns : List Fi
  cons : List (Str × D)
  blt : List Str
  cls : List (Nat × List Str) := []
  mts : List Mi := []
  mks : List Mi := []
  dcts : List (Str × List (List Nat × D)) := []
  held : List (Nat × Fi) := []
  xrs : List (Nat × Str) := []
  xrn : List (Nat × Str × List Str) := []
  xis : List (Str × List (Nat × Bool)) := []
  xex : List (Str × List (Nat × Bool)) := []
  xfs : List (Str × List Nat) := []
inductive C where
  | var (i : Nat) | peek (i : Nat) | con (d : D) | gl (x : Str)
  | tup (a : C) | lst (a : C) | dct0 | dct (a : C) | cell (a : C)
  | op (o : Nat) (a b : C) | cmp (o : Nat) (a b : C) | chain (o o' : Nat) (a b c : C) | and (a b : C) | or (a b : C) | not (a : C) | neg (a : C) | ifx (c a b : C)
  | ix (a b : C) | sl (a lo hi : C) | isi (t : Nat) (a : C) | bi (b : Nat) (a : C) | join (a b : C) | split (a b : C) | upper (a : C) | rev (a : C) | revL (a : C) | call (i s : Nat) (a k : C)
  | comp (t : Tg) (own : List (Str × Nat)) (i c e : C)
  | nil | cons (a b : C) | pair (a b r : C) | yes
  | itv (a : C) | itr1 (a : C) | itr2 (a : C) | ite (a : C) | itz (a : C) | itzs (a : C)
  | set (i : Nat) (a : C) | setO (i : Nat) (a : C) | setC (i : Nat) (a : C) | unp (is : List Nat) (a : C) | par (is : List Nat) (a : C) | expr (a : C) | ret (a : C) | retO (i : Nat) | retN | cond (c a b : C) | loop (t : Tg) (ws : List Nat) (i b : C) | while (ws : List Nat) (c b : C)
  | lset (a : C) | mR (k : Nat) (o a : C) | mO (k i : Nat) (a : C) | st (a lo hi s : C) | fld (c : Nat) (f : Str) (a : C) | putF (c : Nat) (f : Str) (o v : C) | meth (i s : Nat) (o a : C) | new (i s : Nat) (a k : C)
  | lix (a b : C) | calv (i s : Nat) (a : C)
  | rse (c : Nat) (x : Str) | rsi (c : Nat) (x : Str) (ns : List Str) (a : C) | isx (x : Str) (a : C) | xfl (f : Str) (a : C) | tryx (x : Str) (i : Nat) (b s : C)
  | tex (a r : C) | trt (a : C) | tst (i : Nat) (a r : C) | tif (c a b r : C) | tnx
  | win (n : Bool) (x : Str) (a : C) | wix (x : Str) (a : C) | orv (a b : C)
  | app (i : Nat) (a : C) | putO (i : Nat) (j v : C) | putD (i : Nat) (j v : C) | put (o j v : C) | putR (o j v : C) | pass | brk | cnt | never | fz (i : Nat) (a : C) | seq (a b : C) | done
def opG : Nat → D → D → Option Rv
  | 0 => dAdd | 1 => dSub | 2 => dMul | 3 => dDiv | 4 => dMod | 5 => dPow | _ => fun _ _ => none
def opIs : Nat → Operator → Bool
  | 0, .Add => true | 1, .Sub => true | 2, .Mult => true | 3, .FloorDiv => true | 4, .Mod => true | 5, .Pow => true | _, _ => false
def cmG : Nat → D → D → Option D
  | 0 => dEq | 1 => dNe | 2 => dLt | 3 => dLe | 4 => dGt | 5 => dGe | 6 => dIn | 7 => dNotIn | 8 => dIs | 9 => dIsNot | _ => fun _ _ => none
def cmIs : Nat → CmpOp → Bool
  | 0, .Eq => true | 1, .NotEq => true | 2, .Lt => true | 3, .LtE => true | 4, .Gt => true | 5, .GtE => true | 6, .In => true | 7, .NotIn => true | 8, .Is => true | 9, .IsNot => true | _, _ => false
def tyC : Nat → Str × String
  | 0 => ("int", "int") | 1 => ("bool", "bool") | 2 => ("str", "str") | 3 => ("tuple", "tuple") | 4 => ("list", "list") | 5 => ("dict", "dict") | _ => ("", "")
def biG : Nat → List D → Option Rv
  | 0 => v1 gLen | 1 => v1 gAll | 2 => v1 gAny | 3 => v1 gMax | 4 => v1 gMin | 5 => v1 gInt | 6 => v1 gStr | 7 => v1 gTuple | 8 => v1 gRepr | 9 => gList | 10 => vl gSorted | 11 => v1 gSum | 12 => gDict | 13 => vl gSortedD | 14 => vl gListD | 15 => v1 gIntS | 16 => v1 gStrP | 17 => vl gSortX | 18 => gDictT | _ => fun _ => none
def biN : Nat → Option Str
  | 0 => some "len" | 1 => some "all" | 2 => some "any" | 3 => some "max" | 4 => some "min" | 5 => some "int" | 6 => some "str" | 7 => some "tuple" | 8 => some "repr" | 9 => some "list" | 10 => some "sorted" | 11 => some "sum" | 12 => some "dict" | 13 => some "sorted" | 14 => some "list" | 15 => some "int" | 16 => some "str" | 17 => some "sorted" | 18 => some "dict" | _ => none
structure Sm where
  r : Ev Rv
  d : Ev D
  o : Ev D
  b : Ev Bool
  p : Ev (Option Int)
  l : Ev (List D)
  ol : Ev (List D)
  ps : List (Ev D × Ev D)
  x : Ex
  t : Tb
def eBad {α : Type} : Ev α := fun _ _ _ _ => False
def xBad : Ex := fun _ _ _ _ => False
def mkR (r : Ev Rv) : Sm := ⟨r, eVal r, eVal r, eBl (eVal r), pSome (eVal r), eBad, eBad, [], xBad, tBad⟩
def mkD (d : Ev D) : Sm := ⟨eRv d, d, d, eBl d, pSome d, eBad, eBad, [], xBad, tBad⟩
def mkB (b : Ev Bool) : Sm := ⟨eRv (eOfB b), eOfB b, eOfB b, b, eBad, eBad, eBad, [], xBad, tBad⟩
def mkO (o : Ev D) : Sm := ⟨eBad, eBad, o, eBad, eBad, eBad, eBad, [], xBad, tBad⟩
def mkX (x : Ex) : Sm := ⟨eBad, eBad, eBad, eBad, eBad, eBad, eBad, [], x, tBad⟩
def mkT (t : Tb) : Sm := ⟨eBad, eBad, eBad, eBad, eBad, eBad, eBad, [], xBad, t⟩
def mkI (l : Ev (List D)) : Sm := ⟨eBad, eBad, eBad, eBad, eBad, l, eBad, [], xBad, tBad⟩
def fnE (T : Tab) (i s : Nat) (fa fk : Ev (List D)) : Ev Rv := match T.fns[i]? with
  | some fi => (match fi.shapes[s]? with | some sh => eFn fi.F sh.n sh.ks.length sh.is sh.dd fa fk | none => eBad)
  | none => eBad
def hdW (T : Tab) (s : Nat) (fa : Ev (List D)) (γ : List Slot) (S : Sto) (E : XC) (Q : Rv → Sto → Prop) : Option Slot → Prop
  | some (.val (.fn m)) => (match T.held.lookup m with
    | some fi => (match fi.shapes[s]? with | some sh => eFn fi.F sh.n 0 sh.is sh.dd fa eNil γ S E Q | none => False)
    | none => False)
  | _ => False
def eCalV (T : Tab) (i s : Nat) (fa : Ev (List D)) : Ev Rv := fun γ S E Q => hdW T s fa γ S E Q γ[i]?
def mtE (T : Tab) (i s : Nat) (fo : Ev D) (fs : Ev (List D)) : Ev Rv := match T.mts[i]? with
  | some mi => (match mi.shapes[s]? with | some sh => eMeth mi.c mi.name mi.F sh.n 0 sh.is sh.dd fo fs eNil | none => eBad)
  | none => eBad
def nwE (T : Tab) (i s : Nat) (fa fk : Ev (List D)) : Ev Rv := match T.mks[i]? with
  | some mi => (match mi.shapes[s]? with | some sh => eNew mi.c mi.F sh.n sh.ks.length sh.is sh.dd fa fk | none => eBad)
  | none => eBad
def wdE (o : Option (List (List Nat × D))) (f : List (List Nat × D) → Ev Rv) : Ev Rv := match o with | some l => f l | none => eBad
def conE (o : Option D) : Ev D := match o with | some d => eCon d | none => eBad
def eDct15 (l : List (Ev D × Ev D)) : Ev Rv := fun γ S E Q => ePairs l γ S E fun ps S => ps.length ≤ 15 ∧ kDct ps S Q
def xlD {α : Type} (l : List (Str × List α)) (x : Str) : List α := (l.lookup x).getD []
def ev (T : Tab) : C → Sm
  | .var i => mkD (eVar i)
  | .peek i => mkO (ePeek i)
  | .con d => mkD (eCon d)
  | .gl x => mkD (conE (T.cons.lookup x))
  | .tup a => mkR (eTup (ev T a).l)
  | .lst a => mkR (eLst (ev T a).l)
  | .dct0 => mkR fun _ S _ Q => Q (.o (.dct [] [])) S
  | .dct a => mkR (eDct15 (ev T a).ps)
  | .cell a => mkD (eCell (ev T a).r)
  | .op o a b => mkR (eOp (opG o) (ev T a).o (ev T b).o)
  | .cmp o a b => mkR (eOp (vv (cmG o)) (ev T a).o (ev T b).o)
  | .chain o o' a b c => mkD (eChain (cmG o) (cmG o') (ev T a).o (ev T b).o (ev T c).o)
  | .and a b => mkB (eAnd (ev T a).b (ev T b).b)
  | .or a b => mkB (eOr (ev T a).b (ev T b).b)
  | .not a => mkB (eNot (ev T a).b)
  | .neg a => mkR (eUn (vu dNeg) (ev T a).o)
  | .ifx c a b => mkD (eIf (ev T c).b (ev T a).d (ev T b).d)
  | .ix a b => mkR (eOp (vv dIx) (ev T a).o (ev T b).o)
  | .sl a lo hi => mkR (eSl (ev T a).o (ev T lo).p (ev T hi).p)
  | .isi t a => mkR (eUn (vu (dIsi (tyC t).2)) (ev T a).o)
  | .bi b a => mkR (eCall (biG b) (ev T a).ol)
  | .join a b => mkR (eJoin (ev T a).o (ev T b).o)
  | .split a b => mkR (eSplit (ev T a).o (ev T b).o)
  | .upper a => mkR (eTxt gUpper (ev T a).o)
  | .rev a => mkR (eUn dRev (ev T a).o)
  | .revL a => mkR (eUn dRevL (ev T a).o)
  | .call i s a k => mkR (fnE T i s (ev T a).l (ev T k).l)
  | .comp t _ i c e => mkR (eComp (ev T i).l t (ev T c).b (ev T e).d)
  | .nil => ⟨eBad, eBad, eBad, eBad, pNone, eNil, eNil, [], xBad, tBad⟩
  | .cons a b => ⟨eBad, eBad, eBad, eBad, eBad, eCons (ev T a).d (ev T b).l, eCons (ev T a).o (ev T b).ol, [], xBad, tBad⟩
  | .pair a b r => ⟨eBad, eBad, eBad, eBad, eBad, eBad, eBad, ((ev T a).d, (ev T b).d) :: (ev T r).ps, xBad, tBad⟩
  | .yes => mkB eTrue
  | .itv a => mkI (eIt (ev T a).d)
  | .itr1 a => mkI (eCI gRange1 (ev T a).l)
  | .itr2 a => mkI (eCI gRange2 (ev T a).l)
  | .ite a => mkI (eCI gEnum (ev T a).l)
  | .itz a => mkI (eCI gZip (ev T a).l)
  | .itzs a => mkI (eCI gZipX (ev T a).l)
  | .set i a => mkX (xSet i (ev T a).d)
  | .setO i a => mkX (xSetO i (ev T a).r)
  | .setC i a => mkX (xSet i (eCell (ev T a).r))
  | .unp is a => mkX (xUnp is (ev T a).d)
  | .par is a => mkX (xPar is (ev T a).l)
  | .expr a => mkX (xExpr (ev T a).d)
  | .ret a => mkX (xRet (ev T a).r)
  | .retO i => mkX (xRetO i)
  | .retN => mkX xRetN
  | .cond c a b => mkX (xIf (ev T c).b (ev T a).x (ev T b).x)
  | .loop t ws i b => mkX (xFor (ev T i).l t ws (ev T b).x)
  | .while ws c b => mkX (whileW (ev T c).b ws (ev T b).x)
  | .lset a => mkR (eUn (vu gLset) (ev T a).o)
  | .mR k o a => mkR (eMR k (ev T o).d (ev T a).l)
  | .mO k i a => mkX (xMO k i (ev T a).l)
  | .st a lo hi s => mkR (eSt (ev T a).o (ev T lo).p (ev T hi).p (ev T s).p)
  | .fld c f a => mkR (eFld c f (ev T a).o)
  | .putF c f o v => mkX (xPutF c f (ev T o).d (ev T v).d)
  | .meth i s o a => mkR (mtE T i s (ev T o).d (ev T a).l)
  | .new i s a k => mkR (nwE T i s (ev T a).l (ev T k).l)
  | .lix a b => mkR (eLix (ev T a).d (ev T b).d)
  | .calv i s a => mkR (eCalV T i s (ev T a).l)
  | .win n x a => mkR (wdE (T.dcts.lookup x) fun l => eUn (vu (gWin l n)) (ev T a).o)
  | .wix x a => mkR (wdE (T.dcts.lookup x) fun l => eUn (vu (gWix l)) (ev T a).o)
  | .orv a b => mkD (eOrv (ev T a).d (ev T b).d)
  | .app i a => mkX (xApp i (ev T a).d)
  | .putO i j v => mkX (xPutO i (ev T j).d (ev T v).d)
  | .putD i j v => mkX (xPutD i (ev T j).d (ev T v).d)
  | .put o j v => mkX (xPut (ev T o).d (ev T j).d (ev T v).d)
  | .putR o j v => mkX (xPutR (ev T o).d (ev T j).d (ev T v).d)
  | .rse c _ => mkX (xRse c)
  | .rsi c _ ns a => mkX (xRsi c ns (ev T a).l)
  | .isx x a => mkR (eIsx (xlD T.xis x) (ev T a).d)
  | .xfl f a => mkR (eXfl (xlD T.xfs f) f (ev T a).d)
  | .tryx x i b g => mkX (xTry (xlD T.xex x) i (ev T b).t (ev T g).x)
  | .tex a g => mkT (bEx (ev T a).d (ev T g).t)
  | .trt a => mkT (bRet (ev T a).r)
  | .tst i a g => mkT (bSet i (ev T a).d (ev T g).t)
  | .tif c a b g => mkT (bIf (ev T c).b (ev T a).t (ev T b).t (ev T g).t)
  | .tnx => mkT bNx
  | .pass => mkX xPass
  | .brk => mkX xBreak
  | .cnt => mkX xCont
  | .never => mkX xNever
  | .fz i a => mkX (xFrz i (ev T a).x)
  | .seq a b => mkX (xSeq (ev T a).x (ev T b).x)
  | .done => mkX xNext
def kEnd (Q : Rv → Sto → Prop) : Kt := ⟨fun _ S => Q (.v .non) S, Q, fun _ _ => False, fun _ _ => False⟩
def runF (T : Tab) (n : Nat) (c : C) : FD := fun ds S E Q => (ev T c).x (ds.map .val ++ List.replicate (n - ds.length) .no) S E (kEnd Q)
inductive Md where
  | d | o | t
  deriving DecidableEq
structure Ck where
  N : List Str
  sc : Scope
  top : Bool
  su : Bool
def visB : Option NameKind → Bool
  | some .local => true | some .cell => true | some .free => true | _ => false
def Ck.nm (cx : Ck) (i : Nat) (x : Str) : Bool := decide (cx.N[i]? = some x) && visB (cx.sc.names.lookup x) && !(x == ("__debug__" : Str)) && !(x == ("__classdict__" : Str))
def Ck.loc (cx : Ck) (i : Nat) (x : Str) : Bool := decide (cx.N[i]? = some x) && (decide (cx.sc.names.lookup x = some .local) || (cx.top && decide (cx.sc.names.lookup x = some .cell)))
def Ck.glb (cx : Ck) (x : Str) : Bool := decide (cx.sc.names.lookup x = some .globalImplicit) && !(x == ("__debug__" : Str)) && !(x == ("__name__" : Str))
def noStar : Expr → Bool
  | .Starred _ _ => false | _ => true
def noSet : Expr → Bool
  | .Set _ _ _ => false | _ => true
def noSlice : Expr → Bool
  | .Slice _ _ _ _ => false | _ => true
def noCall : Expr → Bool
  | .Call _ _ _ _ => false | _ => true
def noComp : Expr → Bool
  | .ListComp _ _ _ _ => false | .SetComp _ _ _ _ => false | .DictComp _ _ _ _ _ => false | _ => true
def noTuple : Expr → Bool
  | .Tuple _ _ _ => false | _ => true
def isPlain : Expr → Bool
  | .UnaryOp _ _ _ => false | .BoolOp _ _ _ => false | .IfExp _ _ _ _ => false | .Compare _ _ _ _ => false | _ => true
def litB : Const → D → Bool
  | .none, .non => true
  | .bool b, .bl c => b == c
  | .int i, .int j => decide (i = j)
  | .str x, .str y => decide (x = sOf y)
  | _, _ => false
def tgB (cx : Ck) : Tg → Expr → Bool
  | .one i, .Name x _ => cx.loc i x
  | .tup is, .Tuple es _ _ => go is es
  | .pr a b, .Tuple [e1, e2] _ _ => tgB cx a e1 && tgB cx b e2
  | _, _ => false
where
  go : List Nat → List Expr → Bool
    | [], [] => true
    | i :: is, .Name x _ :: es => cx.loc i x && go is es
    | _, _ => false
def kwOk : List Keyword → List Str → Bool
  | [], [] => true
  | ⟨some x, _, _⟩ :: r, y :: s => decide (x = y) && kwOk r s
  | _, _ => false
def shB (fi : Fi) (sh : Sh) : Bool := decide (sh.is.length = fi.ps.length) && sh.is.all (fun i => decide (i < sh.n + sh.ks.length + sh.dd.length))
def fnB (T : Tab) (cx : Ck) (j i s : Nat) (f : Str) (args : List Expr) (kws : List Keyword) : Bool := match T.fns[i]? with
  | some fi => (match fi.shapes[s]? with
    | some sh => decide (f = fi.name) && cx.glb f && decide (fi.k ≤ j) && shB fi sh && decide (sh.n = args.length) && kwOk kws sh.ks && args.all noStar
    | none => false)
  | none => false
def noSup : Expr → Bool
  | .Call (.Name _ _) [] [] _ => false
  | _ => true
def hdB (T : Tab) (j s : Nat) (args : List Expr) : Bool := T.held.all fun p => decide (p.2.k ≤ j) && (match p.2.shapes[s]? with
  | some sh => shB p.2 sh && decide (sh.n = args.length) && decide (sh.ks = [])
  | none => false)
def bltB (T : Tab) (cx : Ck) (f : Str) : Bool := cx.glb f && T.blt.contains f
def swB (cx : Ck) (y : Str) (py : Pos) (e : Expr) : Bool := match e with
  | .ListComp _ _ scope pos => decide (cx.sc.kind = .function) && decide (cx.sc.names.lookup y = some .local) && (py.line == pos.line) && !(scope.names.any fun (n, k) => n == y && (k == .local || k == .cell))
  | _ => false
def swN (cx : Ck) (y : Str) (e : Expr) : Bool := noComp e || (match e with | .ListComp _ _ _ _ => decide (cx.sc.names.lookup y = some .cell) | _ => false)
def fldB (T : Tab) (c : Nat) (f : Str) : Bool := decide (c < 1000) && T.cls.any fun p => p.1 == c && p.2.contains f
def shM (mi : Mi) (sh : Sh) : Bool := decide (sh.is.length = mi.ps.length) && sh.is.all (fun i => decide (i < sh.n + 1 + sh.ks.length + sh.dd.length))
def mtB (T : Tab) (j i s : Nat) (m : Str) (args : List Expr) : Bool := match T.mts[i]? with
  | some mi => (match mi.shapes[s]? with
    | some sh => decide (m = mi.name) && decide (mi.k ≤ j) && shM mi sh && decide (sh.n = args.length) && sh.ks.isEmpty && args.all noStar && decide (args.length < 29) && decide (mi.c < 1000)
    | none => false)
  | none => false
def nwB (T : Tab) (cx : Ck) (j i s : Nat) (f : Str) (args : List Expr) (kws : List Keyword) : Bool := match T.mks[i]? with
  | some mi => (match mi.shapes[s]? with
    | some sh => decide (f = mi.cn) && cx.glb f && decide (mi.k + 1 ≤ j) && shM mi sh && decide (sh.n = args.length) && kwOk kws sh.ks && args.all noStar && decide (args.length + kws.length ≠ 0) && decide (mi.c < 1000)
    | none => false)
  | none => false
structure Cs where
  e : Md → Ck → Expr → Bool
  n : Bool
  a : Ck → List Expr → Bool
  o : Ck → List Expr → Bool
  k : Ck → List Keyword → Bool
  q : Ck → List (Option Expr) → List Expr → Bool
  y : Bool
  i : Ck → Expr → Expr → Bool
  s : Ck → Stmt → Bool
  b : Ck → List Stmt → Bool
  w : Ck → List Stmt → Bool
def no0 : Cs := ⟨fun _ _ _ => false, false, fun _ _ => false, fun _ _ => false, fun _ _ => false, fun _ _ _ => false, false, fun _ _ _ => false, fun _ _ => false, fun _ _ => false, fun _ _ => false⟩
def csE (e : Md → Ck → Expr → Bool) : Cs := { no0 with e := e }
def csI (i : Ck → Expr → Expr → Bool) : Cs := { no0 with i := i }
def csS (s : Ck → Stmt → Bool) : Cs := { no0 with s := s }
def csB (b : Ck → List Stmt → Bool) : Cs := { no0 with b := b }
def csQ (e : Md → Ck → Expr → Bool) : Cs := csE fun m cx x => e m cx x && !cx.su
def csSQ (g : Ck → Stmt → Bool) : Cs := csS fun cx st => g cx st && !cx.su
def csW (w : Ck → List Stmt → Bool) : Cs := { no0 with w := w }
def Cs.p (c : Cs) (cx : Ck) : Option Expr → Bool
  | none => c.n
  | some x => c.e .d cx x
def md (m : Md) : Md := if m = .t then .t else .d
def setB (cx : Ck) (i : Nat) (x : Str) (px : Pos) (e : Expr) : Bool := cx.loc i x && (swN cx x e || swB cx x px e)
def parN (cx : Ck) (ts : List Expr) : Expr → Bool
  | .Tuple vs _ _ => decide (parK cx.sc ts vs = some none)
  | _ => false
def parB (cx : Ck) : List Nat → List Expr → List Expr → Bool
  | [i, j], [.Name x px, .Name y py], [a, b] => cx.loc i x && cx.loc j y && decide (cx.sc.names.lookup x = some .local) && decide (cx.sc.names.lookup y = some .local) && decide (i ≠ j) && decide (parK cx.sc [.Name x px, .Name y py] [a, b] = some (some [x, y]))
  | [i, j, l], [.Name x px, .Name y py, .Name z pz], [a, b, c] => cx.loc i x && cx.loc j y && cx.loc l z && decide (cx.sc.names.lookup x = some .local) && decide (cx.sc.names.lookup y = some .local) && decide (cx.sc.names.lookup z = some .local) && decide (i ≠ j) && decide (i ≠ l) && decide (j ≠ l) && decide (parK cx.sc [.Name x px, .Name y py, .Name z pz] [a, b, c] = some (some [x, y, z]))
  | _, _, _ => false
def ck (T : Tab) (j : Nat) : C → Cs
  | .var i => csE fun _ cx e => match e with | .Name x _ => cx.nm i x | _ => false
  | .peek i => csE fun m cx e => match e with | .Name x _ => cx.nm i x && decide (m = .o) | _ => false
  | .con d => csE fun _ cx e => match e with | .Constant k _ _ => litB k d | _ => false
  | .gl y => csE fun _ cx e => match e with | .Name x _ => decide (x = y) && cx.glb x && (T.cons.lookup y).isSome | _ => false
  | .tup a => csE fun _ cx e => match e with | .Tuple es _ _ => (ck T j a).a cx es | _ => false
  | .lst a => csE fun _ cx e => match e with | .List es _ => (ck T j a).a cx es | _ => false
  | .dct0 => csE fun _ _ e => match e with | .Dict [] [] _ => true | _ => false
  | .dct a => csE fun _ cx e => match e with | .Dict (k :: ks) vs _ => decide ((k :: ks).length ≤ 15) && (ck T j a).q cx (k :: ks) vs | _ => false
  | .cell a => csE fun m cx e => isPlain e && (ck T j a).e .d cx e
  | .op o a b => csE fun _ cx e => match e with | .BinOp x p y _ => opIs o p && (ck T j a).e .o cx x && (ck T j b).e .o cx y | _ => false
  | .cmp o a b => csE fun _ cx e => match e with | .Compare x [p] [y] _ => cmIs o p && noSet y && (ck T j a).e .o cx x && (ck T j b).e .o cx y | _ => false
  | .chain o o' a b c => csE fun _ cx e => match e with | .Compare x [p, p'] [y, z] _ => cmIs o p && cmIs o' p' && noSet z && (ck T j a).e .o cx x && (ck T j b).e .o cx y && (ck T j c).e .o cx z | _ => false
  | .and a b => csE fun m cx e => match e with
    | .BoolOp .And [x, y] _ => (ck T j a).e (md m) cx x && (ck T j b).e (md m) cx y
    | .BoolOp .And (x :: y :: z :: r) p => (ck T j a).e (md m) cx x && (ck T j b).e (md m) cx (.BoolOp .And (y :: z :: r) p)
    | _ => false
  | .or a b => csE fun m cx e => match e with
    | .BoolOp .Or [x, y] _ => (ck T j a).e (md m) cx x && (ck T j b).e (md m) cx y
    | .BoolOp .Or (x :: y :: z :: r) p => (ck T j a).e (md m) cx x && (ck T j b).e (md m) cx (.BoolOp .Or (y :: z :: r) p)
    | _ => false
  | .not a => csE fun m cx e => match e with | .UnaryOp .Not x _ => (ck T j a).e (md m) cx x | _ => false
  | .neg a => csE fun m cx e => match e with | .UnaryOp .USub x _ => (ck T j a).e .o cx x && !decide (m = .t) | _ => false
  | .ifx c a b => csE fun m cx e => match e with | .IfExp x y z _ => (ck T j c).e .t cx x && (ck T j a).e .d cx y && (ck T j b).e .d cx z && !decide (m = .t) | _ => false
  | .ix a b => csE fun _ cx e => match e with | .Subscript x y _ => noSlice y && (ck T j a).e .o cx x && (ck T j b).e .o cx y | _ => false
  | .sl a lo hi => csE fun _ cx e => match e with | .Subscript x (.Slice l h none _) _ => (ck T j a).e .o cx x && (ck T j lo).p cx l && (ck T j hi).p cx h | _ => false
  | .isi t a => csE fun _ cx e => match e with | .Call (.Name f _) [x, .Name y _] [] _ => decide (f = "isinstance") && bltB T cx f && decide (y = (tyC t).1) && decide (t < 6) && bltB T cx y && noStar x && (ck T j a).e .o cx x | _ => false
  | .bi b a => csE fun _ cx e => match e with | .Call (.Name f _) (x :: xs) [] _ => decide (biN b = some f) && bltB T cx f && (x :: xs).all noStar && (ck T j a).o cx (x :: xs) && (decide (b = 8) || !cx.su) | _ => false
  | .join a b => csE fun _ cx e => match e with | .Call (.Attribute x at_ ap) [y] [] p => decide (at_ = "join") && noCall x && noStar y && (ap.endLine == p.line) && (ck T j a).e .o cx x && (ck T j b).e .o cx y | _ => false
  | .split a b => csE fun _ cx e => match e with | .Call (.Attribute x at_ ap) [y] [] p => decide (at_ = "split") && noCall x && noStar y && (ap.endLine == p.line) && (ck T j a).e .o cx x && (ck T j b).e .o cx y | _ => false
  | .upper a => csE fun _ cx e => match e with | .Call (.Attribute x at_ ap) [] [] p => decide (at_ = "upper") && noCall x && (ap.endLine == p.line) && (ck T j a).e .o cx x | _ => false
  | .rev a => csE fun _ cx e => match e with | .Subscript x (.Slice none none (some (.UnaryOp .USub (.Constant (.int 1) _ _) _)) _) _ => (ck T j a).e .o cx x | _ => false
  | .revL a => csE fun _ cx e => match e with | .Subscript x (.Slice none none (some (.UnaryOp .USub (.Constant (.int 1) _ _) _)) _) _ => (ck T j a).e .o cx x | _ => false
  | .call i s a k => csQ fun _ cx e => match e with | .Call (.Name f _) args kws _ => fnB T cx j i s f args kws && (ck T j a).a cx args && (ck T j k).k cx kws | _ => false
  | .comp t own i c el => csQ fun _ cx e => match e with
    | .ListComp elt [⟨tg, it, ifs, 0⟩] scope _ => noSet it && blkC cx.N cx.sc scope own && decide (own.map (·.2) = t.slots) && tgB ⟨cx.N, relS scope cx.sc, false, cx.su⟩ t tg && (ck T j i).i cx tg it &&
      (ck T j el).e .d ⟨cx.N, relS scope cx.sc, false, cx.su⟩ elt && (match ifs with
        | [] => (ck T j c).y
        | [x] => (ck T j c).e .t ⟨cx.N, relS scope cx.sc, false, cx.su⟩ x
        | _ => false)
    | _ => false
  | .nil => { no0 with n := true, a := fun _ es => es.isEmpty, o := fun _ es => es.isEmpty, k := fun _ es => es.isEmpty, q := fun _ ks vs => ks.isEmpty && vs.isEmpty }
  | .cons a b => { no0 with
      a := fun cx es => match es with | x :: xs => noStar x && (ck T j a).e .d cx x && (ck T j b).a cx xs | _ => false
      o := fun cx es => match es with | x :: xs => noStar x && (ck T j a).e .o cx x && (ck T j b).o cx xs | _ => false
      k := fun cx es => match es with | ⟨_, x, _⟩ :: xs => (ck T j a).e .d cx x && (ck T j b).k cx xs | _ => false }
  | .pair a b r => { no0 with q := fun cx ks vs => match ks, vs with | some x :: ks, y :: vs => (ck T j a).e .d cx x && (ck T j b).e .d cx y && (ck T j r).q cx ks vs | _, _ => false }
  | .yes => { no0 with y := true }
  | .itv a => csI fun cx _ e => (ck T j a).e .d cx e
  | .itr1 a => csI fun cx _ e => match e with | .Call (.Name f _) [x] [] _ => decide (f = "range") && bltB T cx f && noStar x && (ck T j a).a cx [x] | _ => false
  | .itr2 a => csI fun cx _ e => match e with | .Call (.Name f _) [x, y] [] _ => decide (f = "range") && bltB T cx f && noStar x && noStar y && (ck T j a).a cx [x, y] | _ => false
  | .ite a => csI fun cx tg e => match tg, e with | .Tuple _ _ _, .Call (.Name f _) [x] [] _ => decide (f = "enumerate") && bltB T cx f && noStar x && (ck T j a).a cx [x] | _, _ => false
  | .itz a => csI fun cx tg e => match tg, e with | .Tuple _ _ _, .Call (.Name f _) [x, y] [] _ => decide (f = "zip") && bltB T cx f && noStar x && noStar y && (ck T j a).a cx [x, y] | _, _ => false
  | .itzs a => csI fun cx tg e => match tg, e with | .Tuple _ _ _, .Call (.Name f _) [x, y] [] _ => decide (f = "zip") && bltB T cx f && noStar x && noStar y && (ck T j a).a cx [x, y] | _, _ => false
  | .set i a => csS fun cx s => match s with | .Assign [.Name x px] e _ => setB cx i x px e && (ck T j a).e .d cx e | _ => false
  | .setO i a => csS fun cx s => match s with | .Assign [.Name x px] e _ => setB cx i x px e && (ck T j a).e .d cx e | _ => false
  | .setC i a => csS fun cx s => match s with | .Assign [.Name x px] e _ => setB cx i x px e && (ck T j a).e .d cx e | _ => false
  | .unp is a => csSQ fun cx s => match s with | .Assign [.Tuple es k p] e _ => tgB cx (.tup is) (.Tuple es k p) && (noTuple e || parN cx es e) && noComp e && (ck T j a).e .d cx e | _ => false
  | .par is a => csSQ fun cx s => match s with | .Assign [.Tuple ts _ _] (.Tuple vs _ _) _ => parB cx is ts vs && (ck T j a).a cx vs | _ => false
  | .expr a => csS fun cx s => match s with | .Expr e _ => noComp e && (ck T j a).e .d cx e | _ => false
  | .ret a => csS fun cx s => match s with | .Return (some e) _ => (ck T j a).e .d cx e | _ => false
  | .retO i => csS fun cx s => match s with | .Return (some (.Name x _)) _ => cx.nm i x | _ => false
  | .retN => csS fun _ s => match s with | .Return none _ => true | _ => false
  | .cond c a b => csS fun cx s => match s with | .If e sa sb _ => (ck T j c).e .t cx e && (ck T j a).b cx sa && (ck T j b).b cx sb | _ => false
  | .loop t _ i b => csSQ fun cx s => match s with | .For tg it sb [] _ => noSet it && tgB cx t tg && (ck T j i).i cx tg it && (ck T j b).b cx sb | _ => false
  | .while _ c b => csS fun cx s => match s with | .While e sb [] _ => (ck T j c).e .t cx e && (ck T j b).b cx sb | _ => false
  | .lset a => csQ fun _ cx e => match e with | .Call (.Name f _) [.Call (.Name g _) [x] [] _] [] _ => decide (f = "len") && decide (g = "set") && bltB T cx f && bltB T cx g && noStar x && (ck T j a).e .o cx x | _ => false
  | .mR k o a => csE fun _ cx e => match e with | .Call (.Attribute x m ap) args [] p => decide (m = mtN k) && decide (k < 7) && noCall x && (ap.endLine == p.line) && args.all noStar && decide (args.length < 29) && (ck T j o).e .d cx x && (ck T j a).a cx args | _ => false
  | .mO k i a => csS fun cx s => match s with | .Expr (.Call (.Attribute (.Name x _) m ap) args [] p) _ => decide (m = mtN k) && decide (k < 7) && cx.nm i x && (ap.endLine == p.line) && args.all noStar && decide (args.length < 29) && (ck T j a).a cx args | _ => false
  | .st a lo hi z => csE fun _ cx e => match e with | .Subscript x (.Slice l h (some y) _) _ => (ck T j a).e .o cx x && (ck T j lo).p cx l && (ck T j hi).p cx h && (ck T j z).p cx (some y) | _ => false
  | .fld c f a => csE fun _ cx e => match e with | .Attribute x g _ => decide (g = f) && noCall x && fldB T c f && (ck T j a).e .o cx x | _ => false
  | .putF c f o v => csS fun cx s => match s with | .Assign [.Attribute x g _] e _ => decide (g = f) && fldB T c f && noComp e && (ck T j o).e .d cx x && (ck T j v).e .d cx e | _ => false
  | .meth i s o a => csQ fun _ cx e => match e with | .Call (.Attribute x m ap) args [] p => mtB T j i s m args && noCall x && (ap.endLine == p.line) && (ck T j o).e .d cx x && (ck T j a).a cx args | _ => false
  | .new i s a k => csQ fun _ cx e => match e with | .Call (.Name f _) args kws _ => nwB T cx j i s f args kws && (ck T j a).a cx args && (ck T j k).k cx kws | _ => false
  | .lix a b => csE fun _ cx e => match e with | .Call (.Attribute x m ap) [y] [] p => decide (m = "index") && noSup x && (ap.endLine == p.line) && noStar y && (ck T j a).e .d cx x && (ck T j b).e .d cx y | _ => false
  | .calv i s a => csQ fun _ cx e => match e with | .Call (.Name x _) (y :: ys) [] _ => cx.nm i x && hdB T j s (y :: ys) && (y :: ys).all noStar && (ck T j a).a cx (y :: ys) | _ => false
  | .win n x a => csE fun _ cx e => match e with | .Compare e1 [op] [.Name y _] _ => decide (y = x) && cx.glb y && (match n, op with | false, .In => true | true, .NotIn => true | _, _ => false) && (T.dcts.lookup x).isSome && (ck T j a).e .o cx e1 | _ => false
  | .wix x a => csE fun _ cx e => match e with | .Subscript (.Name y _) i _ => decide (y = x) && cx.glb y && noSlice i && (T.dcts.lookup x).isSome && (ck T j a).e .o cx i | _ => false
  | .orv a b => csE fun m cx e => match e with | .BoolOp .Or [x, y] _ => (ck T j a).e .d cx x && (ck T j b).e .d cx y && !decide (m = .t) | _ => false
  | .app i a => csS fun cx s => match s with | .Expr (.Call (.Attribute (.Name x _) at_ ap) [e] [] cp) _ => decide (at_ = "append") && cx.nm i x && noStar e && (ap.endLine == cp.line) && (ck T j a).e .d cx e | _ => false
  | .putO i jx v => csS fun cx s => match s with | .Assign [.Subscript (.Name x _) y _] e _ => noSlice y && noComp e && cx.nm i x && (ck T j jx).e .d cx y && (ck T j v).e .d cx e | _ => false
  | .putD i jx v => csS fun cx s => match s with | .Assign [.Subscript (.Name x _) y _] e _ => noSlice y && noComp e && cx.nm i x && (ck T j jx).e .d cx y && (ck T j v).e .d cx e | _ => false
  | .put o jx v => csS fun cx s => match s with | .Assign [.Subscript x y _] e _ => noSlice y && noComp e && (ck T j o).e .d cx x && (ck T j jx).e .d cx y && (ck T j v).e .d cx e | _ => false
  | .putR o jx v => csS fun cx s => match s with | .Assign [.Subscript x y _] e _ => noSlice y && noComp e && (ck T j o).e .d cx x && (ck T j jx).e .d cx y && (ck T j v).e .d cx e | _ => false
  | .rse c x => csSQ fun cx s => match s with | .Raise (some (.Call (.Name y _) [.Constant (.str _) _ _] [] _)) none _ => decide (y = x) && cx.glb y && cx.top && T.xrs.contains (c, x) | _ => false
  | .rsi c x ns a => csSQ fun cx s => match s with | .Raise (some (.Call (.Name y _) (e :: es) [] _)) none _ => decide (y = x) && cx.glb y && cx.top && T.xrn.contains (c, x, ns) && decide (2 ≤ j) && (e :: es).all noStar && (ck T j a).a cx (e :: es) | _ => false
  | .isx x a => csE fun _ cx e => match e with | .Call (.Name f _) [e, .Name y _] [] _ => decide (f = "isinstance") && bltB T cx f && decide (y = x) && cx.glb y && (T.xis.lookup x).isSome && noStar e && (ck T j a).e .d cx e | _ => false
  | .xfl f a => csE fun _ cx e => match e with | .Attribute x g _ => decide (g = f) && noCall x && (T.xfs.lookup f).isSome && (ck T j a).e .d cx x | _ => false
  | .tryx x i b g => csSQ fun cx s => match s with
    | .Try body [.ExceptHandler (some (.Name y _)) (some n) suite _] [] [] _ => decide (y = x) && cx.glb y && cx.top && decide (cx.N[i]? = some n) && decide (cx.sc.names.lookup n = some .local) && (T.xex.lookup x).isSome && !suite.isEmpty && (ck T j b).w cx body && (ck T j g).b ⟨cx.N, cx.sc, cx.top, true⟩ suite
    | _ => false
  | .tex a g => csW fun cx ss => match ss with | .Expr e _ :: rest => noComp e && (ck T j a).e .d cx e && (ck T j g).w cx rest | _ => false
  | .trt a => csW fun cx ss => match ss with | [.Return (some e) _] => (ck T j a).e .d cx e | _ => false
  | .tst i a g => csW fun cx ss => match ss with | .Assign [.Name x px] e _ :: rest => setB cx i x px e && (ck T j a).e .d cx e && (ck T j g).w cx rest | _ => false
  | .tif c a b g => csW fun cx ss => match ss with | .If e sa sb _ :: rest => (ck T j c).e .t cx e && (ck T j a).w cx sa && (ck T j b).w cx sb && (ck T j g).w cx rest | _ => false
  | .tnx => csW fun _ ss => ss.isEmpty
  | .pass => csS fun _ s => match s with | .Pass _ => true | _ => false
  | .brk => csS fun _ s => match s with | .Break _ => true | _ => false
  | .cnt => csS fun _ s => match s with | .Continue _ => true | _ => false
  | .never => csS fun _ _ => true
  | .fz i a => csB fun cx ss => (ck T j a).b cx ss
  | .seq a b => csB fun cx ss => match ss with | s :: r => (ck T j a).s cx s && (ck T j b).b cx r | _ => false
  | .done => csB fun _ ss => ss.isEmpty
end DL
namespace DL
open PySem PySem.Spec L2 SeqAt
structure FiOk (X : Cx) (M : Mp) (fi : Fi) : Prop where
  ex : ∃ (f : Addr) (fd : FuncData), X.mg fi.name = some (.ref f) ∧ PySem.W.keepIn X.K (.ref f) = true ∧ FnG X.prog X.w X.K X.mg X.base (CX X.prog X.w) fi.k f fd fi.ps (spD (kx X M) fi.ps.length fi.F) ∧ ∀ sh ∈ fi.shapes, Bound (kx X M) fd fi.ps sh.n sh.ks sh.is sh.dd
structure MtOk (X : Cx) (M : Mp) (mi : Mi) : Prop where
  ex : ∃ (f : Addr) (fd : FuncData), Cls X.K (M.cls mi.c) ∧ Meth X.K (M.cls mi.c) mi.name f ∧ FnG X.prog X.w X.K X.mg X.base (CX X.prog X.w) mi.k f fd mi.ps (spD (kx X M) mi.ps.length mi.F) ∧ ∀ sh ∈ mi.shapes, Bound (kx X M) fd mi.ps (sh.n + 1) sh.ks sh.is sh.dd
structure NwOk (X : Cx) (M : Mp) (mi : Mi) : Prop where
  ex : ∃ (f : Addr) (fd : FuncData), X.mg mi.cn = some (.ref (M.cls mi.c)) ∧ Mk X.K (M.cls mi.c) f ∧ FnG X.prog X.w X.K X.mg X.base (CX X.prog X.w) mi.k f fd mi.ps (spD (kx X M) mi.ps.length mi.F) ∧ ∀ sh ∈ mi.shapes, Bound (kx X M) fd mi.ps (sh.n + 1) sh.ks sh.is sh.dd
structure HdOk (X : Cx) (M : Mp) (m : Nat) (fi : Fi) : Prop where
  ex : ∃ fd : FuncData, PySem.W.keepIn X.K (.ref (M.fns m)) = true ∧ FnG X.prog X.w X.K X.mg X.base (CX X.prog X.w) fi.k (M.fns m) fd fi.ps (spD (kx X M) fi.ps.length fi.F) ∧ ∀ sh ∈ fi.shapes, Bound (kx X M) fd fi.ps sh.n sh.ks sh.is sh.dd
structure XrOk (X : Cx) (M : Mp) (c : Nat) (x : Str) : Prop where
  ex : ∃ (B newId initId : String) (bmB : List Value), XBase B newId initId bmB ∧ PySem.W.excIn X.K (M.cls c) bmB newId = true ∧ X.mg x = some (.ref (M.cls c)) ∧ PySem.W.keepIn X.K (.ref (M.cls c)) = true ∧ PySem.W.subIn X.K (.ref (M.cls c)) (.type "BaseException") = some true ∧ PySem.W.typeIn X.K (.ref (M.cls c)) = some (.type "type")
structure XnOk (X : Cx) (M : Mp) (c : Nat) (x : Str) (ns : List Str) : Prop where
  ex : ∃ (B newId initId : String) (bmB : List Value) (fI : Addr) (fd : FuncData) (ps : List Str), XBase B newId initId bmB ∧ XCl X.K newId bmB (M.cls c) ∧ PySem.W.findIn X.K (.ref (M.cls c)) "__init__" = some (some (.ref fI)) ∧ PySem.W.typeIn X.K (.ref fI) = some (.type "function") ∧
    FnOk X.prog X.w X.K X.mg X.base (CX X.prog X.w) 1 fI fd ps (spX X.K newId bmB ns) ∧ (∀ f ∈ ns, PySem.W.findIn X.K (.ref (M.cls c)) f = some none) ∧ Binds X.K fd ps [] ∧ X.mg x = some (.ref (M.cls c)) ∧ ns.length ≤ 10
structure XiOk (X : Cx) (M : Mp) (x : Str) (l : List (Nat × Bool)) : Prop where
  ex : ∃ (v : V) (cv : Value), ClsV X x v cv ∧ ∀ c b, l.lookup c = some b → 1000 ≤ c ∧ XCk X.K (M.cls c) ∧ PySem.W.kitOne X.K (.ref (M.cls c)) cv = some b
structure XeOk (X : Cx) (M : Mp) (x : Str) (l : List (Nat × Bool)) : Prop where
  ex : ∃ (v : V) (cv : Value), ClsV X x v cv ∧ ∀ c b, l.lookup c = some b → 1000 ≤ c ∧ PySem.W.exmOne X.K (.ref (M.cls c)) cv = some b
structure XfOk (X : Cx) (M : Mp) (f : Str) (l : List Nat) : Prop where
  ex : ∀ c ∈ l, 1000 ≤ c ∧ XCk X.K (M.cls c) ∧ PySem.W.findIn X.K (.ref (M.cls c)) f = some none
structure TabOk (X : Cx) (M : Mp) (T : Tab) : Prop where
  fns : ∀ fi ∈ T.fns, FiOk X M fi
  cons : ∀ x d, T.cons.lookup x = some d → ∃ v u, X.mg x = some u ∧ RelV v u ∧ Rep (kx X M) (fun _ => none) [] v d
  blt : ∀ x ∈ T.blt, X.mg x = none
  cls : ∀ p ∈ T.cls, Cls X.K (M.cls p.1) ∧ ∀ f ∈ p.2, NoAttr X.K (M.cls p.1) f
  mts : ∀ mi ∈ T.mts, MtOk X M mi
  mks : ∀ mi ∈ T.mks, NwOk X M mi
  dcts : ∀ x l, T.dcts.lookup x = some l → WdOk X M x l
  held : ∀ p ∈ T.held, HdOk X M p.1 p.2
  xrs : ∀ p ∈ T.xrs, XrOk X M p.1 p.2
  xrn : ∀ p ∈ T.xrn, XnOk X M p.1 p.2.1 p.2.2
  xis : ∀ x l, T.xis.lookup x = some l → XiOk X M x l
  xex : ∀ x l, T.xex.lookup x = some l → XeOk X M x l
  xfs : ∀ f l, T.xfs.lookup f = some l → XfOk X M f l
structure Fits (X : Cx) (M : Mp) (W : WX) (T : Tab) (j : Nat) (cx : Ck) : Prop where
  hN : X.N = cx.N
  nd : X.N.Nodup
  sc : X.env.scope = cx.sc
  calm : cx.su = false → X.calm = true
  gd : X.A.guards = some []
  room : cx.su = false → Room j X.A
  un : X.A.units + 64 < cLine
  tk : Takes X W
  own : PassesOwn (model X.prog X.w) X.A X.env X.xe
  fn : cx.top = true → ∀ x, X.fn x = true
  tab : TabOk X M T
  ex : cx.top = true → X.ex = []
  st : cx.top = true → X.stack = X.env :: X.outer ∧ X.env.frame = some X.env.locals
theorem ClsV.on {X Y : Cx} {x : Str} {v : V} {cv : Value} (h : ClsV X x v cv) (e : Y.mg = X.mg) : ClsV Y x v cv := by
  cases h with
  | own m => exact .own (by rw [e]; exact m)
  | blt m b => exact .blt (by rw [e]; exact m) b
theorem TabOk.on {X Y : Cx} {M : Mp} {T : Tab} (t : TabOk X M T) (h1 : Y.prog = X.prog) (h2 : Y.w = X.w) (h3 : Y.K = X.K) (h4 : Y.mg = X.mg) (h5 : Y.base = X.base) : TabOk Y M T := by
  obtain ⟨a1, a2, a3, a4, a5, a6, a7, a8, a9, a10, a11, a12, a13⟩ := t
  refine ⟨fun fi h => ⟨?_⟩, ?_, ?_, ?_, fun mi h => ⟨?_⟩, fun mi h => ⟨?_⟩, fun x l h => ⟨?_⟩, fun p h => ⟨?_⟩, fun p h => ⟨?_⟩, fun p h => ⟨?_⟩, fun x l h => ⟨?_⟩, fun x l h => ⟨?_⟩, fun f l h => ⟨?_⟩⟩
  · have := (a1 fi h).ex
    unfold kx at this ⊢
    rw [h1, h2, h3, h4, h5]; exact this
  · unfold kx at a2 ⊢
    rw [h3, h4]; exact a2
  · rw [h4]; exact a3
  · rw [h3]; exact a4
  · have := (a5 mi h).ex
    unfold kx at this ⊢
    rw [h1, h2, h3, h4, h5]; exact this
  · have := (a6 mi h).ex
    unfold kx at this ⊢
    rw [h1, h2, h3, h4, h5]; exact this
  · have := (a7 x l h).ex
    unfold kx at this ⊢
    rw [h2, h3, h4]; exact this
  · have := (a8 p h).ex
    unfold kx at this ⊢
    rw [h1, h2, h3, h4, h5]; exact this
  · have := (a9 p h).ex
    rw [h3, h4]; exact this
  · have := (a10 p h).ex
    rw [h1, h2, h3, h4, h5]; exact this
  · obtain ⟨v, cv, q, k⟩ := (a11 x l h).ex
    exact ⟨v, cv, q.on h4, by rw [h3]; exact k⟩
  · obtain ⟨v, cv, q, k⟩ := (a12 x l h).ex
    exact ⟨v, cv, q.on h4, by rw [h3]; exact k⟩
  · have := (a13 f l h).ex
    rw [h3]; exact this
theorem Fits.blk {X : Cx} {M : Mp} {W : WX} {T : Tab} {j : Nat} {cx : Ck} (F : Fits X M W T j cx) (s : Shared) (H : Hp) (scope : Scope) (C : Addr) (cl : List (Str × Addr)) (fp : List Addr) :
    Fits (X.blk s H scope (compEnvC scope cl C X.env) fp) M WF T j ⟨cx.N, relS scope cx.sc, false, cx.su⟩ :=
  ⟨F.hN, F.nd, by rw [← F.sc]; rfl, F.calm, F.gd, F.room, F.un, fun u s' ⟨_, _, _, _, _, _, _, _, _, _, _, _, _, _, _, _, w⟩ => w.elim, PassesOwn.never, fun h => (by cases h), F.tab.on rfl rfl rfl rfl rfl, fun h => (by cases h), fun h => (by cases h)⟩
theorem Fits.tr {X : Cx} {M : Mp} {W W' : WX} {T : Tab} {j : Nat} {cx : Ck} (F : Fits X M W T j cx) {pn : List (Addr × Obj)} {xe : Value → Shared → Prop} (tk : Takes (X.tr pn xe) W') (po : PassesOwn (model X.prog X.w) X.A X.env xe) : Fits (X.tr pn xe) M W' T j cx :=
  ⟨F.hN, F.nd, F.sc, F.calm, F.gd, F.room, F.un, tk, po, F.fn, F.tab.on rfl rfl rfl rfl rfl, F.ex, F.st⟩
theorem Fits.suite {X : Cx} {M : Mp} {W : WX} {T : Tab} {j : Nat} {cx : Ck} (F : Fits X M W T j cx) (a : Addr) (pn : List (Addr × Obj)) : Fits (X.suite a pn) M WF T j ⟨cx.N, cx.sc, cx.top, true⟩ :=
  ⟨F.hN, F.nd, F.sc, fun h => (by cases h), F.gd, fun h => (by cases h), F.un, fun u s' ⟨_, _, _, _, _, _, _, _, _, _, _, _, _, _, _, _, w⟩ => w.elim, PassesOwn.never, F.fn, F.tab.on rfl rfl rfl rfl rfl, F.ex, F.st⟩
section
variable {X : Cx} {M : Mp} {W : WX} {T : Tab} {j : Nat} {cx : Ck}
theorem and_ {a b : Bool} (h : (a && b) = true) : a = true ∧ b = true := by simpa using h
theorem Fits.vis (F : Fits X M W T j cx) {i : Nat} {x : Str} {pos : Pos} (h : cx.nm i x = true) : PE X (.Name x pos) (tVar i) := by
  simp only [Ck.nm, Bool.and_eq_true, decide_eq_true_eq, Bool.not_eq_true'] at h
  obtain ⟨⟨⟨h1, h2⟩, h3⟩, h4⟩ := h
  refine pe_var (by rw [F.hN]; exact h1) ?_ h3 h4
  unfold Vis
  rw [F.sc]
  unfold visB at h2
  split at h2
  · rename_i q; exact .inl q
  · rename_i q; exact .inr (.inl q)
  · rename_i q; exact .inr (.inr q)
  · cases h2
theorem Fits.gl (F : Fits X M W T j cx) {x : Str} (h : cx.glb x = true) : Gl X x ∧ (x == ("__debug__" : Str)) = false ∧ x ≠ "__name__" := by
  simp only [Ck.glb, Bool.and_eq_true, decide_eq_true_eq, Bool.not_eq_true'] at h
  obtain ⟨⟨h1, h2⟩, h3⟩ := h
  refine ⟨?_, h2, fun z => ?_⟩
  · show X.env.scope.names.lookup x = _
    rw [F.sc]; exact h1
  · subst z; simp at h3
theorem Fits.loc (F : Fits X M W T j cx) {i : Nat} {x : Str} (h : cx.loc i x = true) : X.N[i]? = some x ∧ L2.Loc X.env.scope x ∧ (X.fn x = true ∨ X.env.scope.names.lookup x = some .local) := by
  simp only [Ck.loc, Bool.and_eq_true, decide_eq_true_eq, Bool.or_eq_true] at h
  obtain ⟨h1, h2⟩ := h
  refine ⟨by rw [F.hN]; exact h1, ?_, ?_⟩
  · unfold L2.Loc; rw [F.sc]
    rcases h2 with h2 | h2
    · exact .inl h2
    · exact .inr h2.2
  · rcases h2 with h2 | h2
    · exact .inr (by rw [F.sc]; exact h2)
    · exact .inl (F.fn h2.1 x)
theorem star1 {e : Expr} (h : noStar e = true) (es : List Expr) (env : Env) : starEach (e :: es) env = (false, eval e env) :: starEach es env := by
  cases e <;> first | rfl | (cases h)
theorem starN : ∀ {es : List Expr} (h : es.all noStar = true) (pos : Pos) (env : Env), (backTo pos (starEach es env)).any (·.1) = false
  | [], _, _, _ => rfl
  | e :: es, h, pos, env => by
    simp only [List.all_cons, Bool.and_eq_true] at h
    rw [star1 h.1]
    show (false || (backTo pos (starEach es env)).any (·.1)) = false
    rw [starN h.2]; rfl
theorem plain_true {e : Expr} (h : isPlain e = true) (env : Env) (whole : Sem Value) : isTrue e env whole = (do let v ← whole; standAt e.pos; holding [v] (truthy v)) := by
  cases e <;> first | rfl | (cases h)
theorem plain_ix {e : Expr} (h : noSlice e = true) : PlainIx e := by
  intro o i
  cases e <;> first | rfl | (cases h)
theorem no_mark {e : Expr} {op : CmpOp} (h : noSet e = true) : behindInMarks op e = false := by
  cases e <;> first | rfl | (cases h)
theorem no_fold {e : Expr} (h : noSet e = true) (env : Env) : ∀ x, foldedSetIterable e env x = pure x := by
  intro x
  cases e <;> first | rfl | (cases h)
theorem no_super {e : Expr} (h : noCall e = true) (a : Str) (env : Env) (w : Sem Value) : attributeBase e a env w = w := by
  cases e <;> first | rfl | (cases h)
theorem no_swap {e : Expr} (h : noComp e = true) (t : Option Expr) (l : Nat) (env : Env) : swapsWith e t l env = pure false := by
  cases e <;> first | rfl | (cases h)
theorem lit_ok {k : Const} {d : D} {n : Nat} {pos : Pos} (h : litB k d = true) : DE X M W (.Constant k n pos) (eCon d) := by
  unfold litB at h
  split at h
  · exact de_con pe_non .non
  · have e := eq_of_beq h; subst e; exact de_con pe_bl (.bl _)
  · have e := of_decide_eq_true h; subst e; exact de_con pe_int (.int _)
  · have e := of_decide_eq_true h; subst e; exact de_con pe_str (.str _)
  · cases h
theorem op_all {o : Nat} {p : Operator} (h : opIs o p = true) : OpR X (binaryOp p) (rOp (kx X M) (opG o)) := by
  unfold opIs at h
  split at h
  · exact opd_add
  · exact opd_sub
  · exact opd_mul
  · exact opd_div
  · exact opd_mod
  · exact opd_pow
  · cases h
theorem cm_all (hu : X.A.units + 64 < cLine) {o : Nat} {p : CmpOp} (h : cmIs o p = true) : OpR X (compareOp p) (rOp (kx X M) (vv (cmG o))) := by
  unfold cmIs at h
  split at h
  · exact opd_eq hu
  · exact opd_ne hu
  · exact opd_lt hu
  · exact opd_le
  · exact opd_gt
  · exact opd_ge
  · exact opd_in hu
  · exact opd_notIn hu
  · exact opd_is
  · exact opd_isNot
  · cases h
theorem bi_all (F : Fits X M W T j cx) {b : Nat} {f : Str} (hs : b = 8 ∨ cx.su = false) (h : biN b = some f) : ∃ u, bootBuiltins f = some u ∧ CallR X u (rCall (kx X M) (biG b)) ∧ ((∃ id, u = .builtin id) ∨ ∃ t, u = .type t) := by
  have hu := F.un
  unfold biN at h
  split at h <;> cases h
  · exact ⟨_, (by decide +kernel : bootBuiltins "len" = some (.builtin "len")), cd_len, .inl ⟨_, rfl⟩⟩
  · exact ⟨_, (by decide +kernel : bootBuiltins "all" = some (.builtin "all")), cd_all (F.calm (hs.resolve_left (by decide))), .inl ⟨_, rfl⟩⟩
  · exact ⟨_, (by decide +kernel : bootBuiltins "any" = some (.builtin "any")), cd_any (F.calm (hs.resolve_left (by decide))), .inl ⟨_, rfl⟩⟩
  · exact ⟨_, (by decide +kernel : bootBuiltins "max" = some (.builtin "max")), cd_max (F.calm (hs.resolve_left (by decide))), .inl ⟨_, rfl⟩⟩
  · exact ⟨_, (by decide +kernel : bootBuiltins "min" = some (.builtin "min")), cd_min (F.calm (hs.resolve_left (by decide))), .inl ⟨_, rfl⟩⟩
  · exact ⟨_, (by decide +kernel : bootBuiltins "int" = some (.type "int")), cd_int, .inr ⟨_, rfl⟩⟩
  · exact ⟨_, (by decide +kernel : bootBuiltins "str" = some (.type "str")), cd_str, .inr ⟨_, rfl⟩⟩
  · exact ⟨_, (by decide +kernel : bootBuiltins "tuple" = some (.type "tuple")), cd_tuple, .inr ⟨_, rfl⟩⟩
  · exact ⟨_, (by decide +kernel : bootBuiltins "repr" = some (.builtin "repr")), cd_repr F.gd hu, .inl ⟨_, rfl⟩⟩
  · exact ⟨_, (by decide +kernel : bootBuiltins "list" = some (.type "list")), cd_list, .inr ⟨_, rfl⟩⟩
  · exact ⟨_, (by decide +kernel : bootBuiltins "sorted" = some (.builtin "sorted")), cd_sorted, .inl ⟨_, rfl⟩⟩
  · exact ⟨_, (by decide +kernel : bootBuiltins "sum" = some (.builtin "sum")), cd_sum (F.calm (hs.resolve_left (by decide))), .inl ⟨_, rfl⟩⟩
  · exact ⟨_, (by decide +kernel : bootBuiltins "dict" = some (.type "dict")), cd_dict (F.calm (hs.resolve_left (by decide))), .inr ⟨_, rfl⟩⟩
  · exact ⟨_, (by decide +kernel : bootBuiltins "sorted" = some (.builtin "sorted")), cd_sortedD (F.calm (hs.resolve_left (by decide))), .inl ⟨_, rfl⟩⟩
  · exact ⟨_, (by decide +kernel : bootBuiltins "list" = some (.type "list")), cd_listD (F.calm (hs.resolve_left (by decide))), .inr ⟨_, rfl⟩⟩
  · exact ⟨_, (by decide +kernel : bootBuiltins "int" = some (.type "int")), cd_intS, .inr ⟨_, rfl⟩⟩
  · exact ⟨_, (by decide +kernel : bootBuiltins "str" = some (.type "str")), cd_strP, .inr ⟨_, rfl⟩⟩
  · exact ⟨_, (by decide +kernel : bootBuiltins "sorted" = some (.builtin "sorted")), cd_sortX, .inl ⟨_, rfl⟩⟩
  · exact ⟨_, (by decide +kernel : bootBuiltins "dict" = some (.type "dict")), cd_dictT (F.calm (hs.resolve_left (by decide))), .inr ⟨_, rfl⟩⟩
theorem ty_boot {t : Nat} (h : t < 6) : bootBuiltins (tyC t).1 = some (.type (tyC t).2) := by
  match t, h with
  | 0, _ => exact (by decide +kernel : bootBuiltins "int" = some (.type "int"))
  | 1, _ => exact (by decide +kernel : bootBuiltins "bool" = some (.type "bool"))
  | 2, _ => exact (by decide +kernel : bootBuiltins "str" = some (.type "str"))
  | 3, _ => exact (by decide +kernel : bootBuiltins "tuple" = some (.type "tuple"))
  | 4, _ => exact (by decide +kernel : bootBuiltins "list" = some (.type "list"))
  | 5, _ => exact (by decide +kernel : bootBuiltins "dict" = some (.type "dict"))
theorem blt_of (F : Fits X M W T j cx) {x : Str} (h : T.blt.contains x = true) : X.mg x = none := F.tab.blt x (by simpa using h)
theorem Fits.bl (F : Fits X M W T j cx) {x : Str} (h : bltB T cx x = true) : Gl X x ∧ (x == ("__debug__" : Str)) = false ∧ x ≠ "__name__" ∧ X.mg x = none := by
  obtain ⟨h1, h2⟩ := and_ h
  obtain ⟨g1, g2, g3⟩ := F.gl h1
  exact ⟨g1, g2, g3, blt_of F h2⟩
theorem call_b (F : Fits X M W T j cx) {u : Value} {f : Str} {p pos : Pos} {e : Expr} {es : List Expr} {r : List V → Hp → VK → Prop} {t : TA} (hv : bootBuiltins f = some u) (hc : CallR X u r) (hk : (∃ id, u = .builtin id) ∨ ∃ t, u = .type t) (hgb : bltB T cx f = true)
    (hs : (e :: es).all noStar = true) (ha : PA X (e :: es) t) : PE X (.Call (.Name f p) (e :: es) [] pos) (tCB r t) := by
  obtain ⟨g1, g2, g3, hb⟩ := F.bl hgb
  simp only [List.all_cons, Bool.and_eq_true] at hs
  rcases hk with ⟨id, rfl⟩ | ⟨id, rfl⟩
  · exact pe_callB hc g1 hb hv ha g3 g2 (star1 hs.1 _ _) (starN hs.2 _ _)
  · exact pe_callTy hc g1 hb hv ha g3 g2 (star1 hs.1 _ _) (starN hs.2 _ _)
theorem tg_names (F : Fits X M W T j cx) : ∀ {is : List Nat} {es : List Expr}, tgB.go cx is es = true → PGs X es (gNames is) ∧ es.length = is.length ∧ (assignEach es X.env).length = is.length ∧ (assignEach es X.env).findIdx? (·.1) = none
  | [], [], _ => ⟨pgs_nil, rfl, rfl, rfl⟩
  | [], _ :: _, h => by simp [tgB.go] at h
  | _ :: _, [], h => by simp [tgB.go] at h
  | i :: is, e :: es, h => by
    unfold tgB.go at h
    split at h
    · rename_i h0 h1; cases h0
    · rename_i i' is' x p es' h0 h1
      cases h0; cases h1
      simp only [Bool.and_eq_true] at h
      obtain ⟨h1, h2⟩ := h
      obtain ⟨g1, g2, g3, g4⟩ := tg_names F h2
      obtain ⟨l1, l2, l3⟩ := F.loc h1
      refine ⟨pgs_cons (pg_name F.nd l1 l2 l3) g1 rfl, by simp [g2], by show (assignEach es X.env).length + 1 = is.length + 1; rw [g3], ?_⟩
      show (((false, _) :: assignEach es X.env).findIdx? (·.1)) = none
      rw [List.findIdx?_cons]
      simp [g4]
    · cases h
theorem tg_each {t : Tg} {e : Expr} (h : tgB cx t e = true) (es : List Expr) (env : Env) : assignEach (e :: es) env = (false, assign e env) :: assignEach es env := by
  unfold tgB at h
  split at h
  · rfl
  · rfl
  · rfl
  · cases h
theorem tgB_pr {a b : Tg} {e : Expr} (h : tgB cx (.pr a b) e = true) : ∃ e1 e2 k p, e = .Tuple [e1, e2] k p ∧ tgB cx a e1 = true ∧ tgB cx b e2 = true := by
  cases e with
  | Tuple es k p =>
    match es, h with
    | [e1, e2], h =>
      simp only [tgB, Bool.and_eq_true] at h
      exact ⟨e1, e2, k, p, rfl, h.1, h.2⟩
    | [], h => simp [tgB] at h
    | [_], h => simp [tgB] at h
    | _ :: _ :: _ :: _, h => simp [tgB] at h
  | _ => simp [tgB] at h
theorem tg_one {t : Tg} {e : Expr} (h : tgB cx t e = true) : ∀ i, t = .one i → isT e = false := fun i z => by
  subst z
  cases e <;> first | rfl | (simp [tgB] at h)
theorem tg_of (F : Fits X M W T j cx) (h0 : cx.su = false) {t : Tg} {e : Expr} (h : tgB cx t e = true) : PG X e (tTg (kx X M) t) := by
  induction t generalizing e with
  | one i =>
    cases e <;> simp only [tgB] at h <;> try cases h
    obtain ⟨l1, l2, l3⟩ := F.loc h
    exact pg_name F.nd l1 l2 l3
  | tup is =>
    cases e <;> simp only [tgB] at h <;> try cases h
    obtain ⟨g1, g2, g3, g4⟩ := tg_names F h
    exact pg_tup (F.calm h0) g1 g3 g4
  | pr a b iha ihb =>
    obtain ⟨e1, e2, k, p, rfl, h1, h2⟩ := tgB_pr h
    have q1 := tg_each h1 [e2] X.env
    have q2 := tg_each h2 [] X.env
    exact pg_tup (F.calm h0) (pgs_cons (iha h1) (pgs_cons (ihb h2) pgs_nil (by rw [q2]; rfl)) (by rw [q1]; rfl)) (by rw [q1, q2]; rfl) (by rw [q1, q2]; rfl)
theorem kw_ok : ∀ {kws : List Keyword} {ks : List Str} (h : kwOk kws ks = true) (pos : Pos) (env : Env), (backToKw pos (keywordEach kws env)).all (·.1.isSome) = true ∧ (backToKw pos (keywordEach kws env)).filterMap (·.1) = ks ∧ (backToKw pos (keywordEach kws env)).any (·.1.isNone) = false
  | [], [], _, _, _ => ⟨rfl, rfl, rfl⟩
  | [], _ :: _, h, _, _ => by simp [kwOk] at h
  | ⟨none, _, _⟩ :: _, [], h, _, _ => by simp [kwOk] at h
  | ⟨some _, _, _⟩ :: _, [], h, _, _ => by simp [kwOk] at h
  | ⟨none, _, _⟩ :: _, _ :: _, h, _, _ => by simp [kwOk] at h
  | ⟨some x, e, p⟩ :: r, y :: s, h, pos, env => by
    simp only [kwOk, Bool.and_eq_true, decide_eq_true_eq] at h
    obtain ⟨rfl, h⟩ := h
    obtain ⟨q1, q2, q3⟩ := kw_ok h pos env
    refine ⟨?_, ?_, ?_⟩
    · show (true && (backToKw pos (keywordEach r env)).all (·.1.isSome)) = true; rw [q1]; rfl
    · show x :: (backToKw pos (keywordEach r env)).filterMap (·.1) = _; rw [q2]
    · show (false || (backToKw pos (keywordEach r env)).any (·.1.isNone)) = false; rw [q3]; rfl
theorem pick_len {fi : Fi} {sh : Sh} (h : shB fi sh = true) (xs ys : List D) (h1 : xs.length = sh.n) (h2 : ys.length = sh.ks.length) : (pickD sh.is sh.dd xs ys).length = fi.ps.length := by
  simp only [shB, Bool.and_eq_true, decide_eq_true_eq, List.all_eq_true] at h
  obtain ⟨h3, h4⟩ := h
  rw [← h3]
  unfold pickD
  generalize sh.is = is at h4
  induction is with
  | nil => rfl
  | cons i is ih =>
    have hi : i < (xs ++ ys ++ sh.dd).length := by
      have := h4 i List.mem_cons_self
      simp only [List.length_append, h1, h2]; exact this
    rw [List.filterMap_cons, List.getElem?_eq_getElem hi]
    show _ + 1 = _ + 1
    rw [ih fun k hk => h4 k (List.mem_cons_of_mem _ hk)]
theorem fn_all (F : Fits X M W T j cx) (h00 : cx.su = false) {i s : Nat} {f : Str} {p pos : Pos} {args : List Expr} {kws : List Keyword} {fa fk : Ev (List D)} (h : fnB T cx j i s f args kws = true) (ha : DA X M W args fa) (hk : DK X M W kws fk) (h0 : args = [] → fa = eNil) (hk0 : kws = [] → fk = eNil) :
    DR X M W (.Call (.Name f p) args kws pos) (fnE T i s fa fk) := by
  unfold fnB at h
  split at h
  · rename_i fi hfi
    split at h
    · rename_i sh hsh
      simp only [Bool.and_eq_true, decide_eq_true_eq] at h
      obtain ⟨⟨⟨⟨⟨⟨h1, h2⟩, h3⟩, h4⟩, h5⟩, h6⟩, h7⟩ := h
      subst h1
      obtain ⟨f, fd, m1, m2, G, bs⟩ := (F.tab.fns fi (List.mem_of_getElem? hfi)).ex
      have bd := bs sh (List.mem_of_getElem? hsh)
      obtain ⟨g1, g2, g3⟩ := F.gl h2
      have hr := (F.room h00).mono h3
      unfold fnE
      simp only [hfi, hsh]
      obtain ⟨q1, q2, q3⟩ := kw_ok h6 pos X.env
      cases args with
      | nil =>
        have e0 := h0 rfl
        subst e0
        have hn : sh.n = 0 := by simpa using h5
        rw [hn] at bd ⊢
        exact fn_callK0 G F.gd hr g1 m1 m2 bd (fun xs ys l1 l2 => pick_len h4 xs ys (by rw [hn]; exact l1) l2) F.tk hk g2 q1 q2 (by show (false || _) = false; rw [q3]; rfl)
      | cons e es =>
        simp only [List.all_cons, Bool.and_eq_true] at h7
        cases kws with
        | nil =>
          have e0 := hk0 rfl
          subst e0
          have hks : sh.ks = [] := by cases q : sh.ks with | nil => rfl | cons a b => rw [q] at h6; simp [kwOk] at h6
          rw [hks] at bd ⊢
          exact fn_call G F.gd hr g1 m1 m2 bd (fun xs l1 => pick_len h4 xs [] l1 (by rw [hks]; rfl)) F.tk ha g2 (star1 h7.1 _ _) (starN h7.2 _ _)
        | cons k ks =>
          refine fn_callK G F.gd hr g1 m1 m2 bd (fun xs ys l1 l2 => pick_len h4 xs ys l1 l2) F.tk ha hk g2 q1 q2 (star1 h7.1 _ _) ?_
          rw [starN (es := e :: es) (by simp [h7.1]; simpa using h7.2), q3]; rfl
    · cases h
  · cases h
theorem look_mem {α : Type} {m : Nat} {x : α} : ∀ {l : List (Nat × α)}, l.lookup m = some x → (m, x) ∈ l
  | [], h => by simp at h
  | (k, y) :: l, h => by
    rw [List.lookup_cons] at h
    cases e : m == k
    · rw [e] at h
      exact List.mem_cons_of_mem _ (look_mem h)
    · rw [e] at h
      cases h
      rw [eq_of_beq e]
      exact List.mem_cons_self
theorem no_sup {e : Expr} (h : noSup e = true) (a : Str) (env : Env) (w : Sem Value) : attributeBase e a env w = w := by
  unfold attributeBase
  split
  · simp [noSup] at h
  · rfl
theorem fn_calV (F : Fits X M W T j cx) (h00 : cx.su = false) {i s : Nat} {x : Str} {p pos : Pos} {e : Expr} {es : List Expr} {fa : Ev (List D)} (hn : cx.nm i x = true) (hh : hdB T j s (e :: es) = true) (hs : (e :: es).all noStar = true) (ha : DA X M W (e :: es) fa) :
    DR X M W (.Call (.Name x p) (e :: es) [] pos) (eCalV T i s fa) := by
  refine ⟨fun pins s0 σ H Q I ⟨B, ρ, γ, S, E', Q', at_, h, k⟩ => ?_⟩
  unfold eCalV hdW at h
  split at h
  · rename_i m hm
    split at h
    · rename_i fi hfi
      split at h
      · rename_i sh hsh
        have mem := look_mem hfi
        obtain ⟨fd, m2, G, bs⟩ := (F.tab.held _ mem).ex
        have hb := List.all_eq_true.mp hh _ mem
        simp only [hsh, Bool.and_eq_true, decide_eq_true_eq] at hb
        obtain ⟨h3, ⟨h4, h5⟩, h6⟩ := hb
        have bd := bs sh (List.mem_of_getElem? hsh)
        rw [h6] at bd
        have hr := (F.room h00).mono h3
        obtain ⟨v, hσ, rv⟩ := at_.rel.slots.val i _ hm
        cases rv
        simp only [List.all_cons, Bool.and_eq_true] at hs
        refine wpAny_Call_Name_kw (thn ((F.vis (pos := p) hn).run pins s0 σ H (fun v H1 => v = .ref (M.fns m) ∧ H1 = H) I ⟨_, hσ, rfl, rfl⟩) fun u s1 ⟨v, H1, I1, r1, q1⟩ => ?_)
        obtain ⟨rfl, rfl⟩ := q1
        cases r1
        apply PySem.W.callWith_K (h₀ := X.base) I1.ok.mod.kin m2 (he := star1 hs.1 _ _) (hplain := starN hs.2 _ _)
        refine thn (PA.run ha pos pins s1 σ H1 (fun vs H2 => ∃ B1 ρ1 S1 xs, Ext B ρ H1 B1 ρ1 H2 ∧ Cells (kx X M) B1 ρ1 H2 S1 ∧ RepL (kx X M) B1 ρ1 vs xs ∧ goF fi.F sh.n 0 sh.is sh.dd xs [] S1 E' Q') I1 ⟨B, ρ, γ, S, E', _, at_, h, fun xs S1 h1 vs H2 B1 ρ1 x1 c1 r1 => ⟨B1, ρ1, S1, xs, x1, c1, r1, h1⟩⟩) ?_
        rintro us s2 ⟨vs, H2, I2, rr, B1, ρ1, S1, xs, x1, c1, r1, hl, hF⟩
        refine ⟨I2.kIn, ?_⟩
        exact bound_run (ks := []) (ws := []) (zs := []) (ys := []) G F.gd hr bd F.tk I2 (at_.ext x1 c1) rr .nil r1 .nil hl.1 rfl hF (pick_len h4 xs [] hl.1 (by rw [h6]; rfl)) fun r S' h => (k r S' h).from x1
      · exact h.elim
    · exact h.elim
  · exact h.elim
theorem all_star : ∀ {es : List Expr} (h : es.all noStar = true) (pos : Pos) (env : Env), (backTo pos (starEach es env)).all (fun x => !x.1) = true
  | [], _, _, _ => rfl
  | e :: es, h, pos, env => by
    simp only [List.all_cons, Bool.and_eq_true] at h
    rw [star1 h.1]
    show (true && (backTo pos (starEach es env)).all (fun x => !x.1)) = true
    rw [all_star h.2]; rfl
theorem few_of {es : List Expr} (h : es.all noStar = true) (hl : es.length < 29) (pos : Pos) (env : Env) : ((backTo pos (starEach es env)).all (fun x => !x.1) && (backToKw pos (keywordEach [] env)).all (fun x => x.1.isSome) && decide (es.length + ([] : List Keyword).length + (if ([] : List Keyword).isEmpty then 0 else 1) < 30)) = true := by
  rw [all_star h]
  show (true && true && decide (es.length + 0 + 0 < 30)) = true
  rw [decide_eq_true (by omega)]; rfl
theorem fld_ok (F : Fits X M W T j cx) {c : Nat} {f : Str} (h : fldB T c f = true) : c < 1000 ∧ Cls X.K (M.cls c) ∧ NoAttr X.K (M.cls c) f := by
  unfold fldB at h
  rw [Bool.and_eq_true, List.any_eq_true, decide_eq_true_eq] at h
  obtain ⟨h9, h⟩ := h
  obtain ⟨p, hp, h⟩ := h
  simp only [Bool.and_eq_true, beq_iff_eq] at h
  obtain ⟨rfl, h2⟩ := h
  obtain ⟨q1, q2⟩ := F.tab.cls p hp
  exact ⟨h9, q1, q2 f (by simpa using h2)⟩
theorem pickM_len {mi : Mi} {sh : Sh} (h : shM mi sh = true) (xs ys : List D) (h1 : xs.length = sh.n + 1) (h2 : ys.length = sh.ks.length) : (pickD sh.is sh.dd xs ys).length = mi.ps.length := by
  refine pick_len (fi := ⟨mi.name, mi.F, mi.k, mi.ps, []⟩) (sh := ⟨sh.n + 1, sh.ks, sh.is, sh.dd⟩) ?_ xs ys h1 h2
  simpa [shB, shM] using h
theorem mt_call (F : Fits X M W T j cx) (h00 : cx.su = false) {i s : Nat} {m : Str} {o : Expr} {apos pos : Pos} {args : List Expr} {fo : Ev D} {fa : Ev (List D)} (h : mtB T j i s m args = true) (ho : DE X M W o fo) (ha : DA X M W args fa) (h0 : args = [] → fa = eNil) (hn : noCall o = true) (hl : (apos.endLine == pos.line) = true) :
    DR X M W (.Call (.Attribute o m apos) args [] pos) (mtE T i s fo fa) := by
  unfold mtB at h
  split at h
  · rename_i mi hmi
    split at h
    · rename_i sh hsh
      simp only [Bool.and_eq_true, decide_eq_true_eq] at h
      obtain ⟨⟨⟨⟨⟨⟨⟨h1, h2⟩, h3⟩, h4⟩, h5⟩, h6⟩, h7⟩, h9⟩ := h
      subst h1
      obtain ⟨f, fd, m1, m2, G, bs⟩ := (F.tab.mts mi (List.mem_of_getElem? hmi)).ex
      have bd := bs sh (List.mem_of_getElem? hsh)
      have hks : sh.ks = [] := by simpa using h5
      rw [hks] at bd
      have hr := (F.room h00).mono h2
      unfold mtE
      simp only [hmi, hsh]
      have hp : ∀ xs : List D, xs.length = sh.n + 1 → (pickD sh.is sh.dd xs []).length = mi.ps.length := fun xs hx => pickM_len h3 xs [] hx (by rw [hks]; rfl)
      cases args with
      | nil =>
        have e0 := h0 rfl
        subst e0
        exact dr_meth0 h9 G F.gd hr m1 m2 bd hp F.tk ho (no_super hn _ _ _) hl
      | cons e es =>
        have h6' := h6
        simp only [List.all_cons, Bool.and_eq_true] at h6
        exact dr_meth h9 G F.gd hr m1 m2 bd hp F.tk ho ha (no_super hn _ _ _) (few_of h6' h7 _ _) hl (star1 h6.1 _ _) (starN h6.2 _ _)
    · cases h
  · cases h
theorem nw_call (F : Fits X M W T j cx) (h00 : cx.su = false) {i s : Nat} {f : Str} {p pos : Pos} {args : List Expr} {kws : List Keyword} {fa fk : Ev (List D)} (h : nwB T cx j i s f args kws = true) (ha : DA X M W args fa) (hk : DK X M W kws fk) (h0 : args = [] → fa = eNil) (hk0 : kws = [] → fk = eNil) :
    DR X M W (.Call (.Name f p) args kws pos) (nwE T i s fa fk) := by
  unfold nwB at h
  split at h
  · rename_i mi hmi
    split at h
    · rename_i sh hsh
      simp only [Bool.and_eq_true, decide_eq_true_eq] at h
      obtain ⟨⟨⟨⟨⟨⟨⟨⟨h1, h2⟩, h3⟩, h4⟩, h5⟩, h6⟩, h7⟩, h8⟩, h9⟩ := h
      subst h1
      obtain ⟨f, fd, m1, m2, G, bs⟩ := (F.tab.mks mi (List.mem_of_getElem? hmi)).ex
      have bd := bs sh (List.mem_of_getElem? hsh)
      obtain ⟨g1, g2, g3⟩ := F.gl h2
      have hr := (F.room h00).mono h3
      unfold nwE
      simp only [hmi, hsh]
      obtain ⟨q1, q2, q3⟩ := kw_ok h6 pos X.env
      cases args with
      | nil =>
        have e0 := h0 rfl
        subst e0
        exact dr_newK0 h9 m2 G F.gd hr g1 m1 bd (fun xs ys l1 l2 => pickM_len h4 xs ys l1 l2) F.tk hk g2 q1 q2 (by show (false || _) = false; rw [q3]; rfl)
      | cons e es =>
        simp only [List.all_cons, Bool.and_eq_true] at h7
        cases kws with
        | nil =>
          have e0 := hk0 rfl
          subst e0
          have hks : sh.ks = [] := by cases q : sh.ks with | nil => rfl | cons a b => rw [q] at h6; simp [kwOk] at h6
          rw [hks] at bd
          rw [hks]
          exact dr_new h9 m2 G F.gd hr g1 m1 bd (fun xs ys l1 l2 => pickM_len h4 xs ys l1 (by rw [hks]; exact l2)) F.tk ha g2 (star1 h7.1 _ _) (starN h7.2 _ _)
        | cons k ks =>
          refine dr_newK h9 m2 G F.gd hr g1 m1 bd (fun xs ys l1 l2 => pickM_len h4 xs ys l1 l2) F.tk ha hk g2 q1 q2 (star1 h7.1 _ _) ?_
          rw [starN (es := e :: es) (by simp [h7.1]; simpa using h7.2), q3]; rfl
    · cases h
  · cases h
end
end DL
namespace DL
open PySem PySem.Spec L2 SeqAt
def SE (m : Md) (X : Cx) (M : Mp) (W : WX) (e : Expr) (s : Sm) : Prop := match m with
  | .d => DR X M W e s.r ∧ DE X M W e s.d ∧ DB X M W e s.b ∧ (s.p = pSome s.d ∨ s.p = eBad) ∧ s.d = eVal s.r
  | .o => DO X M W e s.o
  | .t => DT X M W e s.b ∧ ∀ op vs p, e = .BoolOp op vs p → DW X M W e s.b
section
variable {m : Md} {X : Cx} {M : Mp} {W : WX} {e : Expr} {f : Ev D} {r : Ev Rv} {b : Ev Bool}
theorem se_d (h : DE X M W e f) (hp : isPlain e = true) : SE m X M W e (mkD f) := by
  cases m with
  | d => exact ⟨h.dr, h, h.db, .inl rfl, rfl⟩
  | o => exact h.do
  | t => exact ⟨dt_val h fun w => plain_true hp X.env w, fun op vs p q => by subst q; cases hp⟩
theorem se_r (h : DR X M W e r) (hp : isPlain e = true) : SE m X M W e (mkR r) := by
  cases m with
  | d => exact ⟨h, h.de, h.de.db, .inl rfl, rfl⟩
  | o => exact h.de.do
  | t => exact ⟨dt_val h.de fun w => plain_true hp X.env w, fun op vs p q => by subst q; cases hp⟩
theorem se_rt (h : DR X M W e r) (ht : m = .t → DT X M W e (eBl (eVal r))) (hb : ∀ op vs p, e ≠ .BoolOp op vs p) : SE m X M W e (mkR r) := by
  cases m with
  | d => exact ⟨h, h.de, h.de.db, .inl rfl, rfl⟩
  | o => exact h.de.do
  | t => exact ⟨ht rfl, fun op vs p q => absurd q (hb op vs p)⟩
theorem se_dt (h : DE X M W e f) (ht : m = .t → DT X M W e (eBl f)) (hb : ∀ op vs p, e ≠ .BoolOp op vs p) : SE m X M W e (mkD f) := by
  cases m with
  | d => exact ⟨h.dr, h, h.db, .inl rfl, rfl⟩
  | o => exact h.do
  | t => exact ⟨ht rfl, fun op vs p q => absurd q (hb op vs p)⟩
theorem se_b (h : m ≠ .t → DB X M W e b) (ht : m = .t → DT X M W e b ∧ ∀ op vs p, e = .BoolOp op vs p → DW X M W e b) : SE m X M W e (mkB b) := by
  cases m with
  | d => exact ⟨(h (by simp)).de.dr, (h (by simp)).de, h (by simp), .inr rfl, rfl⟩
  | o => exact (h (by simp)).de.do
  | t => exact ht rfl
theorem se_db {s : Sm} (hm : m ≠ .t) (h : SE (md m) X M W e s) : DB X M W e s.b := by
  have : md m = .d := if_neg hm
  rw [this] at h
  exact h.2.2.1
theorem se_tt {s : Sm} (hm : m = .t) (h : SE (md m) X M W e s) : DT X M W e s.b ∧ ∀ op vs p, e = .BoolOp op vs p → DW X M W e s.b := by
  have : md m = .t := if_pos hm
  rw [this] at h
  exact h
theorem dp_bad {o : Option Expr} {f : Ev (Option Int)} (h : DP X M W o f) : DP X M W o eBad := PO.imp h fun σ H Q ⟨B, ρ, γ, S, E', Q', at_, h, k⟩ => h.elim
theorem se_p {s : Sm} (h : SE .d X M W e s) : DP X M W (some e) s.p := by
  rcases h.2.2.2.1 with q | q
  · rw [q]; exact dp_some h.2.1
  · rw [q]; exact dp_bad (dp_some h.2.1)
end
structure SndC (T : Tab) (j : Nat) (c : C) : Prop where
  e : ∀ {m : Md} {X : Cx} {M : Mp} {W : WX} {cx : Ck} {e : Expr}, Fits X M W T j cx → (ck T j c).e m cx e = true → SE m X M W e (ev T c)
  lc : ∀ {X : Cx} {M : Mp} {W : WX} {cx : Ck} {e : Expr} {x : Str} {px pos : Pos} {i : Nat}, Fits X M W T j cx → cx.loc i x = true → swB cx x px e = true → (ck T j c).e .d cx e = true → PS X (.Assign [.Name x px] e pos) (tAsg (tR (kx X M) W (ev T c).r) (gName i))
  n : (ck T j c).n = true → (ev T c).p = pNone
  a : ∀ {X : Cx} {M : Mp} {W : WX} {cx : Ck} {es : List Expr}, Fits X M W T j cx → (ck T j c).a cx es = true → DA X M W es (ev T c).l ∧ (es = [] → (ev T c).l = eNil)
  o : ∀ {X : Cx} {M : Mp} {W : WX} {cx : Ck} {es : List Expr}, Fits X M W T j cx → (ck T j c).o cx es = true → DOA X M W es (ev T c).ol
  k : ∀ {X : Cx} {M : Mp} {W : WX} {cx : Ck} {es : List Keyword}, Fits X M W T j cx → (ck T j c).k cx es = true → DK X M W es (ev T c).l ∧ (es = [] → (ev T c).l = eNil)
  q : ∀ {X : Cx} {M : Mp} {W : WX} {cx : Ck} {pos : Pos} {ks : List (Option Expr)} {vs : List Expr}, Fits X M W T j cx → (ck T j c).q cx ks vs = true → PPs X pos ks vs ((ev T c).ps.map fun p => (tD (kx X M) W p.1, tD (kx X M) W p.2)) ∧ ks.all (·.isSome) = true ∧ ks.length = vs.length ∧ (ev T c).ps.length = ks.length
  y : (ck T j c).y = true → (ev T c).b = eTrue
  i : ∀ {X : Cx} {M : Mp} {W : WX} {cx : Ck} {tg e : Expr}, Fits X M W T j cx → (ck T j c).i cx tg e = true → DI X M W tg e (ev T c).l
  s : ∀ {X : Cx} {M : Mp} {W : WX} {cx : Ck} {s : Stmt}, Fits X M W T j cx → (ck T j c).s cx s = true → ∀ E, DS X M W E s (ev T c).x
  b : ∀ {X : Cx} {M : Mp} {W : WX} {cx : Ck} {ss : List Stmt}, Fits X M W T j cx → (ck T j c).b cx ss = true → ∀ E, DSs X M W E ss (ev T c).x
  w : ∀ {X : Cx} {M : Mp} {W : WX} {cx : Ck} {ss : List Stmt}, Fits X M W T j cx → (ck T j c).w cx ss = true → ∀ E, PSs X ss (tTB (kx X M) W E (ev T c).t)
section
variable {T : Tab} {j : Nat} {c : C}
theorem ff {p : Prop} {b : Bool} (h : b = true) (e : b = false) : p := by rw [e] at h; cases h
theorem lcN {X : Cx} {M : Mp} {W : WX} {cx : Ck} {e : Expr} {x : Str} {px pos : Pos} {i : Nat} (hlc : ∀ m cx elt gs sc p, (ck T j c).e m cx (.ListComp elt gs sc p) = false) (hs : swB cx x px e = true) (h : (ck T j c).e .d cx e = true) : PS X (.Assign [.Name x px] e pos) (tAsg (tR (kx X M) W (ev T c).r) (gName i)) := by
  unfold swB at hs
  split at hs
  · exact ff h (hlc _ _ _ _ _ _)
  · cases hs
theorem mkE (he : ∀ {m : Md} {X : Cx} {M : Mp} {W : WX} {cx : Ck} {e : Expr}, Fits X M W T j cx → (ck T j c).e m cx e = true → SE m X M W e (ev T c))
    (hlc : ∀ m cx elt gs sc p, (ck T j c).e m cx (.ListComp elt gs sc p) = false := by intros; rfl) (hn : (ck T j c).n = false := by rfl) (ha : ∀ cx es, (ck T j c).a cx es = false := by intros; rfl) (ho : ∀ cx es, (ck T j c).o cx es = false := by intros; rfl)
    (hk : ∀ cx es, (ck T j c).k cx es = false := by intros; rfl) (hq : ∀ cx ks vs, (ck T j c).q cx ks vs = false := by intros; rfl) (hy : (ck T j c).y = false := by rfl) (hi : ∀ cx tg e, (ck T j c).i cx tg e = false := by intros; rfl) (hs : ∀ cx s, (ck T j c).s cx s = false := by intros; rfl)
    (hb : ∀ cx ss, (ck T j c).b cx ss = false := by intros; rfl) (hw : ∀ cx ss, (ck T j c).w cx ss = false := by intros; rfl) : SndC T j c :=
  ⟨he, fun F _ h1 h2 => lcN hlc h1 h2, fun h => ff h hn, fun _ h => ff h (ha _ _), fun _ h => ff h (ho _ _), fun _ h => ff h (hk _ _), fun _ h => ff h (hq _ _ _), fun h => ff h hy, fun _ h => ff h (hi _ _ _), fun _ h => ff h (hs _ _), fun _ h => ff h (hb _ _), fun _ h => ff h (hw _ _)⟩
theorem mkSI (hi : ∀ {X : Cx} {M : Mp} {W : WX} {cx : Ck} {tg e : Expr}, Fits X M W T j cx → (ck T j c).i cx tg e = true → DI X M W tg e (ev T c).l) (hs : ∀ {X : Cx} {M : Mp} {W : WX} {cx : Ck} {s : Stmt}, Fits X M W T j cx → (ck T j c).s cx s = true → ∀ E, DS X M W E s (ev T c).x)
    (hb : ∀ {X : Cx} {M : Mp} {W : WX} {cx : Ck} {ss : List Stmt}, Fits X M W T j cx → (ck T j c).b cx ss = true → ∀ E, DSs X M W E ss (ev T c).x)
    (he : ∀ m cx e, (ck T j c).e m cx e = false := by intros; rfl) (hn : (ck T j c).n = false := by rfl) (ha : ∀ cx es, (ck T j c).a cx es = false := by intros; rfl) (ho : ∀ cx es, (ck T j c).o cx es = false := by intros; rfl)
    (hk : ∀ cx es, (ck T j c).k cx es = false := by intros; rfl) (hq : ∀ cx ks vs, (ck T j c).q cx ks vs = false := by intros; rfl) (hy : (ck T j c).y = false := by rfl) (hw : ∀ cx ss, (ck T j c).w cx ss = false := by intros; rfl) : SndC T j c :=
  ⟨fun _ h => ff h (he _ _ _), fun F _ h1 h2 => ff h2 (he _ _ _), fun h => ff h hn, fun _ h => ff h (ha _ _), fun _ h => ff h (ho _ _), fun _ h => ff h (hk _ _), fun _ h => ff h (hq _ _ _), fun h => ff h hy, hi, hs, hb, fun _ h => ff h (hw _ _)⟩
theorem mkIt (hi : ∀ {X : Cx} {M : Mp} {W : WX} {cx : Ck} {tg e : Expr}, Fits X M W T j cx → (ck T j c).i cx tg e = true → DI X M W tg e (ev T c).l)
    (hs : ∀ cx s, (ck T j c).s cx s = false := by intros; rfl) (hb : ∀ cx ss, (ck T j c).b cx ss = false := by intros; rfl) (he : ∀ m cx e, (ck T j c).e m cx e = false := by intros; rfl) (hn : (ck T j c).n = false := by rfl) (ha : ∀ cx es, (ck T j c).a cx es = false := by intros; rfl)
    (ho : ∀ cx es, (ck T j c).o cx es = false := by intros; rfl) (hk : ∀ cx es, (ck T j c).k cx es = false := by intros; rfl) (hq : ∀ cx ks vs, (ck T j c).q cx ks vs = false := by intros; rfl) (hy : (ck T j c).y = false := by rfl) (hw : ∀ cx ss, (ck T j c).w cx ss = false := by intros; rfl) : SndC T j c :=
  mkSI hi (fun _ h => ff h (hs _ _)) (fun _ h => ff h (hb _ _)) he hn ha ho hk hq hy hw
theorem mkSt (hs : ∀ {X : Cx} {M : Mp} {W : WX} {cx : Ck} {s : Stmt}, Fits X M W T j cx → (ck T j c).s cx s = true → ∀ E, DS X M W E s (ev T c).x)
    (hi : ∀ cx tg e, (ck T j c).i cx tg e = false := by intros; rfl) (hb : ∀ cx ss, (ck T j c).b cx ss = false := by intros; rfl) (he : ∀ m cx e, (ck T j c).e m cx e = false := by intros; rfl) (hn : (ck T j c).n = false := by rfl) (ha : ∀ cx es, (ck T j c).a cx es = false := by intros; rfl)
    (ho : ∀ cx es, (ck T j c).o cx es = false := by intros; rfl) (hk : ∀ cx es, (ck T j c).k cx es = false := by intros; rfl) (hq : ∀ cx ks vs, (ck T j c).q cx ks vs = false := by intros; rfl) (hy : (ck T j c).y = false := by rfl) (hw : ∀ cx ss, (ck T j c).w cx ss = false := by intros; rfl) : SndC T j c :=
  mkSI (fun _ h => ff h (hi _ _ _)) hs (fun _ h => ff h (hb _ _)) he hn ha ho hk hq hy hw
theorem mkBl (hb : ∀ {X : Cx} {M : Mp} {W : WX} {cx : Ck} {ss : List Stmt}, Fits X M W T j cx → (ck T j c).b cx ss = true → ∀ E, DSs X M W E ss (ev T c).x)
    (hi : ∀ cx tg e, (ck T j c).i cx tg e = false := by intros; rfl) (hs : ∀ cx s, (ck T j c).s cx s = false := by intros; rfl) (he : ∀ m cx e, (ck T j c).e m cx e = false := by intros; rfl) (hn : (ck T j c).n = false := by rfl) (ha : ∀ cx es, (ck T j c).a cx es = false := by intros; rfl)
    (ho : ∀ cx es, (ck T j c).o cx es = false := by intros; rfl) (hk : ∀ cx es, (ck T j c).k cx es = false := by intros; rfl) (hq : ∀ cx ks vs, (ck T j c).q cx ks vs = false := by intros; rfl) (hy : (ck T j c).y = false := by rfl) (hw : ∀ cx ss, (ck T j c).w cx ss = false := by intros; rfl) : SndC T j c :=
  mkSI (fun _ h => ff h (hi _ _ _)) (fun _ h => ff h (hs _ _)) hb he hn ha ho hk hq hy hw
theorem mkTb (hw : ∀ {X : Cx} {M : Mp} {W : WX} {cx : Ck} {ss : List Stmt}, Fits X M W T j cx → (ck T j c).w cx ss = true → ∀ E, PSs X ss (tTB (kx X M) W E (ev T c).t))
    (hi : ∀ cx tg e, (ck T j c).i cx tg e = false := by intros; rfl) (hs : ∀ cx s, (ck T j c).s cx s = false := by intros; rfl) (hb : ∀ cx ss, (ck T j c).b cx ss = false := by intros; rfl) (he : ∀ m cx e, (ck T j c).e m cx e = false := by intros; rfl) (hn : (ck T j c).n = false := by rfl)
    (ha : ∀ cx es, (ck T j c).a cx es = false := by intros; rfl) (ho : ∀ cx es, (ck T j c).o cx es = false := by intros; rfl) (hk : ∀ cx es, (ck T j c).k cx es = false := by intros; rfl) (hq : ∀ cx ks vs, (ck T j c).q cx ks vs = false := by intros; rfl) (hy : (ck T j c).y = false := by rfl) : SndC T j c :=
  ⟨fun _ h => ff h (he _ _ _), fun F _ h1 h2 => ff h2 (he _ _ _), fun h => ff h hn, fun _ h => ff h (ha _ _), fun _ h => ff h (ho _ _), fun _ h => ff h (hk _ _), fun _ h => ff h (hq _ _ _), fun h => ff h hy, fun _ h => ff h (hi _ _ _), fun _ h => ff h (hs _ _), fun _ h => ff h (hb _ _), hw⟩
theorem SndC.d {X : Cx} {M : Mp} {W : WX} {cx : Ck} {e : Expr} (s : SndC T j c) (F : Fits X M W T j cx) (h : (ck T j c).e .d cx e = true) : DE X M W e (ev T c).d := (s.e (m := .d) F h).2.1
theorem SndC.r {X : Cx} {M : Mp} {W : WX} {cx : Ck} {e : Expr} (s : SndC T j c) (F : Fits X M W T j cx) (h : (ck T j c).e .d cx e = true) : DR X M W e (ev T c).r := (s.e (m := .d) F h).1
theorem SndC.o' {X : Cx} {M : Mp} {W : WX} {cx : Ck} {e : Expr} (s : SndC T j c) (F : Fits X M W T j cx) (h : (ck T j c).e .o cx e = true) : DO X M W e (ev T c).o := s.e (m := .o) F h
theorem SndC.t {X : Cx} {M : Mp} {W : WX} {cx : Ck} {e : Expr} (s : SndC T j c) (F : Fits X M W T j cx) (h : (ck T j c).e .t cx e = true) : DT X M W e (ev T c).b := (s.e (m := .t) F h).1
theorem SndC.p {X : Cx} {M : Mp} {W : WX} {cx : Ck} {o : Option Expr} (s : SndC T j c) (F : Fits X M W T j cx) (h : (ck T j c).p cx o = true) : DP X M W o (ev T c).p := by
  cases o with
  | none => rw [s.n h]; exact dp_none
  | some x => exact se_p (s.e (m := .d) F h)
theorem SndC.asg {X : Cx} {M : Mp} {W : WX} {cx : Ck} {e : Expr} {x : Str} {px pos : Pos} {i : Nat} (s : SndC T j c) (F : Fits X M W T j cx) (hx : setB cx i x px e = true) (h : (ck T j c).e .d cx e = true) : PS X (.Assign [.Name x px] e pos) (tAsg (tR (kx X M) W (ev T c).r) (gName i)) := by
  obtain ⟨hl, hs⟩ := and_ hx
  rw [Bool.or_eq_true] at hs
  rcases hs with hs | hs
  · obtain ⟨l1, l2, l3⟩ := F.loc hl
    refine ps_set F.nd l1 l2 (s.r F h) ?_ l3
    unfold swN at hs
    rw [Bool.or_eq_true] at hs
    rcases hs with hs | hs
    · exact no_swap hs _ _ _
    · split at hs
      · have hc := of_decide_eq_true hs
        have ky : X.env.kindOf x = some .cell := by show X.env.scope.names.lookup x = _; rw [F.sc]; exact hc
        unfold swapsWith
        simp only [ky]
        show pure (X.env.blockKind == .function && false && _ && _) = _
        simp
      · cases hs
  · exact s.lc F hl hs h
theorem no_par {es : List Expr} {k : Nat} {p : Pos} {e : Expr} {env : Env} (h : noTuple e = true) : swappedStores [.Tuple es k p] e env = pure none := by
  cases e <;> first | rfl | (cases h)
theorem sS_put {X : Cx} {M : Mp} {W : WX} {x y e : Expr} {ps pos : Pos} {to_ : TE} {fi fv : Ev D} (h1 : noSlice y = true) (h2 : noComp e = true) (ho : PE X x to_) (hi : DE X M W y fi) (hv : DE X M W e fv) :
    PS X (.Assign [.Subscript x y ps] e pos) (tAsg (tD (kx X M) W fv) (gSub to_ (tD (kx X M) W fi) rSetL)) :=
  ps_asg hv (pg_sub ho hi set_list (by intro v; cases y <;> first | rfl | (cases h1))) (by unfold swapsWithSole; exact no_swap h2 _ _ _) rfl rfl
end
theorem rv_imp {K : Kx} {W : WX} {f : Ev D} : ∀ σ H Q, tR K W (eRv f) σ H Q → tD K W f σ H Q := fun σ H Q ⟨B, ρ, γ, S, E', Q', at_, h, k⟩ => ⟨B, ρ, γ, S, E', _, at_, h, fun d S' h1 => k (.v d) S' h1⟩
theorem d_imp {X : Cx} {M : Mp} {W : WX} {e : Expr} {s : Sm} (h : SE .d X M W e s) : ∀ σ H Q, tD (kx X M) W s.d σ H Q → tR (kx X M) W s.r σ H Q := by
  rw [h.2.2.2.2]
  exact val_imp
theorem snd (T : Tab) (j : Nat) (c : C) : SndC T j c := by
  induction c with
  | var i =>
    exact mkE fun F h => by
      simp only [ck, csE] at h
      split at h
      · exact se_d (de_of_v (F.vis h)) rfl
      · cases h
  | peek i =>
    exact mkE fun F h => by
      simp only [ck, csE] at h
      split at h
      · obtain ⟨h1, h2⟩ := and_ h
        have := of_decide_eq_true h2
        subst this
        exact do_of_v (F.vis h1)
      · cases h
  | con d =>
    exact mkE fun F h => by
      simp only [ck, csE] at h
      split at h
      · exact se_d (lit_ok h) rfl
      · cases h
  | gl y =>
    exact mkE fun F h => by
      simp only [ck, csE] at h
      split at h
      · simp only [Bool.and_eq_true, decide_eq_true_eq] at h
        obtain ⟨⟨h1, h2⟩, h3⟩ := h
        subst h1
        obtain ⟨g1, g2, g3⟩ := F.gl h2
        simp only [ev]
        cases q : T.cons.lookup _ with
        | none => rw [q] at h3; cases h3
        | some d =>
          obtain ⟨v, u, m1, r1, rp⟩ := F.tab.cons _ d q
          exact se_d (de_con (pe_glob g1 m1 r1 g2) rp) rfl
      · cases h
  | tup a ih =>
    exact mkE fun F h => by
      simp only [ck, csE] at h
      split at h
      · exact se_r (dr_tup (ih.a F h).1) rfl
      · cases h
  | lst a ih =>
    exact mkE fun F h => by
      simp only [ck, csE] at h
      split at h
      · exact se_r (dr_lst (ih.a F h).1) rfl
      · cases h
  | dct0 =>
    exact mkE fun F h => by
      simp only [ck, csE] at h
      split at h
      · exact se_r dr_dct0 rfl
      · cases h
  | dct a ih =>
    exact mkE fun F h => by
      simp only [ck, csE] at h
      split at h
      · simp only [Bool.and_eq_true, decide_eq_true_eq] at h
        obtain ⟨h1, h2⟩ := h
        obtain ⟨q1, q2, q3, q4⟩ := ih.q F h2
        exact se_r (dr_dct q1 q2 q3 (by simp) h1 (by rw [q4]; exact h1)) rfl
      · cases h
  | cell a ih =>
    have he : ∀ {m : Md} {X : Cx} {M : Mp} {W : WX} {cx : Ck} {e : Expr}, Fits X M W T j cx → (ck T j (.cell a)).e m cx e = true → SE m X M W e (ev T (.cell a)) := fun F h => by
      simp only [ck, csE] at h
      obtain ⟨h1, h2⟩ := and_ h
      exact se_d (ih.r F h2).cell h1
    refine ⟨he, fun F h0 h1 h2 => ?_, fun h => ff h rfl, fun _ h => ff h rfl, fun _ h => ff h rfl, fun _ h => ff h rfl, fun _ h => ff h rfl, fun h => ff h rfl, fun _ h => ff h rfl, fun _ h => ff h rfl, fun _ h => ff h rfl, fun _ h => ff h rfl⟩
    simp only [ck, csE] at h2
    exact PS.imp (ih.lc F h0 h1 (and_ h2).2) fun Dd σ H q => cell_imp σ H _ (rv_imp σ H _ q)
  | op o a b iha ihb =>
    exact mkE fun F h => by
      simp only [ck, csE] at h
      split at h
      · simp only [Bool.and_eq_true] at h
        obtain ⟨⟨h1, h2⟩, h3⟩ := h
        exact se_r (dr_op (op_all h1) (iha.o' F h2) (ihb.o' F h3)) rfl
      · cases h
  | cmp o a b iha ihb =>
    exact mkE fun F h => by
      simp only [ck, csE] at h
      split at h
      · simp only [Bool.and_eq_true] at h
        obtain ⟨⟨⟨h1, h2⟩, h3⟩, h4⟩ := h
        exact se_rt (dr_cmp (cm_all F.un h1) (iha.o' F h3) (ihb.o' F h4) (no_mark h2)) (fun _ => dt_cmp (cm_all F.un h1) (iha.o' F h3) (ihb.o' F h4) (no_mark h2)) (by intros; simp)
      · cases h
  | chain o o' a b c iha ihb ihc =>
    exact mkE fun F h => by
      simp only [ck, csE] at h
      split at h
      · simp only [Bool.and_eq_true] at h
        obtain ⟨⟨⟨⟨⟨h1, h1'⟩, h2⟩, h3⟩, h4⟩, h5⟩ := h
        exact se_dt (de_chain (cm_all F.un h1) (cm_all F.un h1') (iha.o' F h3) (ihb.o' F h4) (ihc.o' F h5) (no_mark h2)) (fun _ => dt_chain (cm_all F.un h1) (cm_all F.un h1') (iha.o' F h3) (ihb.o' F h4) (ihc.o' F h5) (no_mark h2)) (by intros; simp)
      · cases h
  | and a b iha ihb =>
    exact mkE fun F h => by
      simp only [ck, csE] at h
      split at h
      · obtain ⟨h1, h2⟩ := and_ h
        have ha := iha.e F h1
        have hb := ihb.e F h2
        exact se_b (fun hm => db_and (se_db hm ha) (db_one (se_db hm hb))) fun hm => (fun w => ⟨PW.pt w, fun _ _ _ _ => w⟩) (dw_and (se_tt hm ha).1 (dw_and1 (se_tt hm hb).1))
      · obtain ⟨h1, h2⟩ := and_ h
        have ha := iha.e F h1
        have hb := ihb.e F h2
        exact se_b (fun hm => db_and (se_db hm ha) (se_db hm hb)) fun hm => (fun w => ⟨PW.pt w, fun _ _ _ _ => w⟩) (dw_and (se_tt hm ha).1 ((se_tt hm hb).2 _ _ _ rfl))
      · cases h
  | or a b iha ihb =>
    exact mkE fun F h => by
      simp only [ck, csE] at h
      split at h
      · obtain ⟨h1, h2⟩ := and_ h
        have ha := iha.e F h1
        have hb := ihb.e F h2
        exact se_b (fun hm => db_or (se_db hm ha) (db_one (se_db hm hb))) fun hm => (fun w => ⟨PW.pt w, fun _ _ _ _ => w⟩) (dw_or (se_tt hm ha).1 (dw_or1 (se_tt hm hb).1))
      · obtain ⟨h1, h2⟩ := and_ h
        have ha := iha.e F h1
        have hb := ihb.e F h2
        exact se_b (fun hm => db_or (se_db hm ha) (se_db hm hb)) fun hm => (fun w => ⟨PW.pt w, fun _ _ _ _ => w⟩) (dw_or (se_tt hm ha).1 ((se_tt hm hb).2 _ _ _ rfl))
      · cases h
  | not a ih =>
    exact mkE fun F h => by
      simp only [ck, csE] at h
      split at h
      · have ha := ih.e F h
        exact se_b (fun hm => db_not (se_db hm ha)) fun hm => ⟨dt_not (se_tt hm ha).1, fun _ _ _ q => by cases q⟩
      · cases h
  | neg a ih =>
    exact mkE fun F h => by
      simp only [ck, csE] at h
      split at h
      · simp only [Bool.and_eq_true, Bool.not_eq_true', decide_eq_false_iff_not] at h
        obtain ⟨h1, h2⟩ := h
        exact se_rt (dr_neg (ih.o' F h1)) (fun z => absurd z h2) (by intros; simp)
      · cases h
  | ifx c a b ihc iha ihb =>
    exact mkE fun F h => by
      simp only [ck, csE] at h
      split at h
      · simp only [Bool.and_eq_true, Bool.not_eq_true', decide_eq_false_iff_not] at h
        obtain ⟨⟨⟨h1, h2⟩, h3⟩, h4⟩ := h
        exact se_dt (de_ifx (ihc.t F h1) (iha.d F h2) (ihb.d F h3)) (fun z => absurd z h4) (by intros; simp)
      · cases h
  | ix a b iha ihb =>
    exact mkE fun F h => by
      simp only [ck, csE] at h
      split at h
      · simp only [Bool.and_eq_true] at h
        obtain ⟨⟨h1, h2⟩, h3⟩ := h
        exact se_r (dr_ix F.un (iha.o' F h2) (ihb.o' F h3) (plain_ix h1)) rfl
      · cases h
  | sl a lo hi iha ihl ihh =>
    exact mkE fun F h => by
      simp only [ck, csE] at h
      split at h
      · simp only [Bool.and_eq_true] at h
        obtain ⟨⟨h1, h2⟩, h3⟩ := h
        exact se_r (dr_sl (iha.o' F h1) (ihl.p F h2) (ihh.p F h3)) rfl
      · cases h
  | isi t a ih =>
    exact mkE fun F h => by
      simp only [ck, csE] at h
      split at h
      · simp only [Bool.and_eq_true, decide_eq_true_eq] at h
        obtain ⟨⟨⟨⟨⟨⟨h1, h2⟩, h3⟩, h4⟩, h5⟩, h6⟩, h7⟩ := h
        subst h1; subst h3
        obtain ⟨g1, g2, g3, g4⟩ := F.bl h2
        obtain ⟨k1, k2, k3, k4⟩ := F.bl h5
        exact se_r (dr_isi g1 g4 k1 k4 (ty_boot h4) k3 k2 (ih.o' F h7) (star1 h6 _ _)) rfl
      · cases h
  | bi b a ih =>
    exact mkE fun F h => by
      simp only [ck, csE] at h
      split at h
      · simp only [Bool.and_eq_true, decide_eq_true_eq] at h
        obtain ⟨⟨⟨⟨h1, h2⟩, h3⟩, h4⟩, h5⟩ := h
        rw [Bool.or_eq_true, decide_eq_true_eq] at h5
        obtain ⟨u, b1, b2, b3⟩ := bi_all F (h5.imp id fun z => (Bool.not_eq_true' _).mp z) h1
        exact se_r (PE.imp (call_b F b1 b2 b3 h2 h3 (ih.o F h4)) call_imp) rfl
      · cases h
  | join a b iha ihb =>
    exact mkE fun F h => by
      simp only [ck, csE] at h
      split at h
      · simp only [Bool.and_eq_true, decide_eq_true_eq] at h
        obtain ⟨⟨⟨⟨⟨h1, h2⟩, h3⟩, h4⟩, h5⟩, h6⟩ := h
        subst h1
        exact se_r (dr_join (iha.o' F h5) (ihb.o' F h6) (star1 h3 _ _) (no_super h2 _ _ _) h4) rfl
      · cases h
  | split a b iha ihb =>
    exact mkE fun F h => by
      simp only [ck, csE] at h
      split at h
      · simp only [Bool.and_eq_true, decide_eq_true_eq] at h
        obtain ⟨⟨⟨⟨⟨h1, h2⟩, h3⟩, h4⟩, h5⟩, h6⟩ := h
        subst h1
        exact se_r (dr_split (iha.o' F h5) (ihb.o' F h6) (star1 h3 _ _) (no_super h2 _ _ _) h4) rfl
      · cases h
  | upper a ih =>
    exact mkE fun F h => by
      simp only [ck, csE] at h
      split at h
      · simp only [Bool.and_eq_true, decide_eq_true_eq] at h
        obtain ⟨⟨⟨h1, h2⟩, h3⟩, h4⟩ := h
        subst h1
        exact se_r (dr_upper (ih.o' F h4) (no_super h2 _ _ _) h3) rfl
      · cases h
  | rev a ih =>
    exact mkE fun F h => by
      simp only [ck, csE] at h
      split at h
      · exact se_r (dr_rev (ih.o' F h)) rfl
      · cases h
  | revL a ih =>
    exact mkE fun F h => by
      simp only [ck, csE] at h
      split at h
      · exact se_r (dr_revL (ih.o' F h)) rfl
      · cases h
  | call i s a k iha ihk =>
    exact mkE fun F h => by
      simp only [ck, csQ, csE] at h
      obtain ⟨h, h0⟩ := and_ h
      have h00 : _ = false := Bool.not_eq_true' _ |>.mp h0
      split at h
      · simp only [Bool.and_eq_true] at h
        obtain ⟨⟨h1, h2⟩, h3⟩ := h
        obtain ⟨a1, a2⟩ := iha.a F h2
        obtain ⟨k1, k2⟩ := ihk.k F h3
        exact se_r (fn_all F h00 h1 a1 k1 a2 k2) rfl
      · cases h
  | comp t own i c el ihi ihc ihe =>
    have tests : ∀ {X : Cx} {M : Mp} {W : WX} {cx : Ck} {ifs : List Expr}, Fits X M W T j cx → (match ifs with | [] => (ck T j c).y | [x] => (ck T j c).e .t cx x | _ => false) = true → DTs X M W ifs (ev T c).b := fun F h => by
      split at h
      · rw [ihc.y h]; exact dts_nil
      · exact dts_one (ihc.t F h)
      · cases h
    refine ⟨fun F h => ?_, fun {X M W cx e x px pos ix} F h0 hs h => ?_, fun h => ff h rfl, fun _ h => ff h rfl, fun _ h => ff h rfl, fun _ h => ff h rfl, fun _ h => ff h rfl, fun h => ff h rfl, fun _ h => ff h rfl, fun _ h => ff h rfl, fun _ h => ff h rfl, fun _ h => ff h rfl⟩
    · simp only [ck, csQ, csE] at h
      obtain ⟨h, h01⟩ := and_ h
      have h00 : _ = false := Bool.not_eq_true' _ |>.mp h01
      split at h
      · simp only [Bool.and_eq_true, decide_eq_true_eq] at h
        obtain ⟨⟨⟨⟨⟨⟨h1, h2⟩, h3⟩, h4⟩, h5⟩, h6⟩, h7⟩ := h
        exact se_r (dr_comp (F.calm h00) F.nd (ihi.i F h5) (blkOk_by (by rw [F.hN, F.sc]; exact h2)) h3 (fun s H C cl fp => tg_of (F.blk s H _ C cl fp) h00 h4) (fun s H C cl fp => tests (F.blk s H _ C cl fp) h7) (fun s H C cl fp => ihe.d (F.blk s H _ C cl fp) h6) (no_fold h1 _) (tg_one h4)) rfl
      · cases h
    · obtain ⟨l1, l2, l3⟩ := F.loc h0
      simp only [ck, csQ, csE] at h
      obtain ⟨h, h01⟩ := and_ h
      have h00 : _ = false := Bool.not_eq_true' _ |>.mp h01
      split at h
      · unfold swB at hs
        simp only [Bool.and_eq_true, decide_eq_true_eq, Bool.not_eq_true'] at hs h
        obtain ⟨⟨⟨s1, s2⟩, s3⟩, s4⟩ := hs
        obtain ⟨⟨⟨⟨⟨⟨g1, g2⟩, g3⟩, g4⟩, g5⟩, g6⟩, g7⟩ := h
        refine PS.imp (ps_setLc (F.calm h00) F.nd l1 (by rw [F.sc]; exact s2) (sw_true (by rw [F.sc]; exact s1) (by rw [F.sc]; exact s2) s3 s4) (ihi.i F g5) (blkOk_by (by rw [F.hN, F.sc]; exact g2)) (fun s H C cl fp => tg_of (F.blk s H _ C cl fp) h00 g4) (tt := tDT (kx X M) WF (ev T c).b) (fun s H C cl fp => tests (F.blk s H _ C cl fp) g7)
          (te := tD (kx X M) WF (ev T el).d) (fun s H C cl fp => ihe.d (F.blk s H _ C cl fp) g6) (no_fold g1 _)) fun Dd σ H q => lc_imp (tg_one g4) g3 σ H _ q
      · cases h
  | nil =>
    refine ⟨fun _ h => ff h rfl, fun _ _ _ h => ff h rfl, fun _ => rfl, fun {X M W cx es} _ h => ?_, fun {X M W cx es} _ h => ?_, fun {X M W cx es} _ h => ?_, fun {X M W cx pos ks vs} _ h => ?_, fun h => ff h rfl, fun _ h => ff h rfl, fun _ h => ff h rfl, fun _ h => ff h rfl, fun _ h => ff h rfl⟩
    · have : es = [] := by simpa [ck] using h
      subst this
      exact ⟨da_nil, fun _ => rfl⟩
    · have : es = [] := by simpa [ck] using h
      subst this
      exact doa_nil
    · have : es = [] := by simpa [ck] using h
      subst this
      exact ⟨dk_nil, fun _ => rfl⟩
    · have : ks = [] ∧ vs = [] := by simpa [ck] using h
      obtain ⟨rfl, rfl⟩ := this
      exact ⟨pps_nil, rfl, rfl, rfl⟩
  | cons a b iha ihb =>
    refine ⟨fun _ h => ff h rfl, fun _ _ _ h => ff h rfl, fun h => ff h rfl, fun {X M W cx es} F h => ?_, fun {X M W cx es} F h => ?_, fun {X M W cx es} F h => ?_, fun _ h => ff h rfl, fun h => ff h rfl, fun _ h => ff h rfl, fun _ h => ff h rfl, fun _ h => ff h rfl, fun _ h => ff h rfl⟩
    · simp only [ck] at h
      split at h
      · simp only [Bool.and_eq_true] at h
        obtain ⟨⟨h1, h2⟩, h3⟩ := h
        exact ⟨da_cons (iha.d F h2) (ihb.a F h3).1 (star1 h1 _ _), fun q => by cases q⟩
      · cases h
    · simp only [ck] at h
      split at h
      · simp only [Bool.and_eq_true] at h
        obtain ⟨⟨h1, h2⟩, h3⟩ := h
        exact doa_cons (iha.o' F h2) (ihb.o F h3) (star1 h1 _ _)
      · cases h
    · simp only [ck] at h
      split at h
      · simp only [Bool.and_eq_true] at h
        obtain ⟨h2, h3⟩ := h
        exact ⟨dk_cons (iha.d F h2) (ihb.k F h3).1, fun q => by cases q⟩
      · cases h
  | pair a b r iha ihb ihr =>
    refine ⟨fun _ h => ff h rfl, fun _ _ _ h => ff h rfl, fun h => ff h rfl, fun _ h => ff h rfl, fun _ h => ff h rfl, fun _ h => ff h rfl, fun {X M W cx pos ks vs} F h => ?_, fun h => ff h rfl, fun _ h => ff h rfl, fun _ h => ff h rfl, fun _ h => ff h rfl, fun _ h => ff h rfl⟩
    simp only [ck] at h
    split at h
    · simp only [Bool.and_eq_true] at h
      obtain ⟨⟨h1, h2⟩, h3⟩ := h
      obtain ⟨q1, q2, q3, q4⟩ := ihr.q (pos := pos) F h3
      exact ⟨pps_cons (iha.d F h1) (ihb.d F h2) q1, by simpa using q2, by simp [q3], by simp [ev, q4]⟩
    · cases h
  | yes => exact ⟨fun _ h => ff h rfl, fun _ _ _ h => ff h rfl, fun h => ff h rfl, fun _ h => ff h rfl, fun _ h => ff h rfl, fun _ h => ff h rfl, fun _ h => ff h rfl, fun _ => rfl, fun _ h => ff h rfl, fun _ h => ff h rfl, fun _ h => ff h rfl, fun _ h => ff h rfl⟩
  | itv a ih => exact mkIt fun F h => di_val (ih.d F h)
  | itr1 a ih =>
    exact mkIt fun F h => by
      simp only [ck, csI] at h
      split at h
      · simp only [Bool.and_eq_true, decide_eq_true_eq] at h
        obtain ⟨⟨⟨h1, h2⟩, h3⟩, h4⟩ := h
        subst h1
        obtain ⟨g1, g2, g3, g4⟩ := F.bl h2
        exact di_range1 g1 g4 (ih.a F h4).1 (star1 h3 _ _)
      · cases h
  | itr2 a ih =>
    exact mkIt fun F h => by
      simp only [ck, csI] at h
      split at h
      · simp only [Bool.and_eq_true, decide_eq_true_eq] at h
        obtain ⟨⟨⟨⟨h1, h2⟩, h3⟩, h3'⟩, h4⟩ := h
        subst h1
        obtain ⟨g1, g2, g3, g4⟩ := F.bl h2
        exact di_range2 g1 g4 (ih.a F h4).1 (by rw [star1 h3, star1 h3']; rfl) (star1 h3' _ _)
      · cases h
  | ite a ih =>
    exact mkIt fun F h => by
      simp only [ck, csI] at h
      split at h
      · simp only [Bool.and_eq_true, decide_eq_true_eq] at h
        obtain ⟨⟨⟨h1, h2⟩, h3⟩, h4⟩ := h
        subst h1
        obtain ⟨g1, g2, g3, g4⟩ := F.bl h2
        exact di_enum g1 g4 (ih.a F h4).1 (star1 h3 _ _)
      · cases h
  | itz a ih =>
    exact mkIt fun F h => by
      simp only [ck, csI] at h
      split at h
      · simp only [Bool.and_eq_true, decide_eq_true_eq] at h
        obtain ⟨⟨⟨⟨h1, h2⟩, h3⟩, h3'⟩, h4⟩ := h
        subst h1
        obtain ⟨g1, g2, g3, g4⟩ := F.bl h2
        exact di_zip g1 g4 (ih.a F h4).1 (star1 h3 _ _) (starN (by simpa using h3') _ _)
      · cases h
  | itzs a ih =>
    exact mkIt fun F h => by
      simp only [ck, csI] at h
      split at h
      · simp only [Bool.and_eq_true, decide_eq_true_eq] at h
        obtain ⟨⟨⟨⟨h1, h2⟩, h3⟩, h3'⟩, h4⟩ := h
        subst h1
        obtain ⟨g1, g2, g3, g4⟩ := F.bl h2
        exact di_zipX g1 g4 (ih.a F h4).1 (star1 h3 _ _) (starN (by simpa using h3') _ _)
      · cases h
  | set i a ih =>
    exact mkSt fun F h E => by
      simp only [ck, csS] at h
      split at h
      · obtain ⟨h1, h2⟩ := and_ h
        exact s_set' (PS.imp (ih.asg F h1 h2) fun Dd σ H q => d_imp (ih.e (m := .d) F h2) σ H _ q)
      · cases h
  | setO i a ih =>
    exact mkSt fun F h E => by
      simp only [ck, csS] at h
      split at h
      · obtain ⟨h1, h2⟩ := and_ h
        exact s_setO' (ih.asg F h1 h2)
      · cases h
  | setC i a ih =>
    exact mkSt fun F h E => by
      simp only [ck, csS] at h
      split at h
      · obtain ⟨h1, h2⟩ := and_ h
        exact s_set' (asg_cell (ih.asg F h1 h2))
      · cases h
  | unp is a ih =>
    exact mkSt fun F h E => by
      simp only [ck, csSQ, csS] at h
      obtain ⟨h, h0⟩ := and_ h
      have h00 : _ = false := Bool.not_eq_true' _ |>.mp h0
      split at h
      · simp only [Bool.and_eq_true] at h
        obtain ⟨⟨⟨h1, h2⟩, h3⟩, h4⟩ := h
        refine s_unp' (ps_asg (ih.d F h4) (tg_of F h00 h1) (by unfold swapsWithSole; exact no_swap h3 _ _ _) ?_ rfl)
        rcases Bool.or_eq_true _ _ ▸ h2 with h2 | h2
        · exact no_par h2
        · unfold parN at h2
          split at h2
          · exact parK_ok F.sc (of_decide_eq_true h2)
          · cases h2
      · cases h
  | par is a ih =>
    exact mkSt fun F h E => by
      simp only [ck, csSQ, csS] at h
      obtain ⟨h, h0⟩ := and_ h
      have h00 : _ = false := Bool.not_eq_true' _ |>.mp h0
      split at h
      · obtain ⟨h1, h2⟩ := and_ h
        unfold parB at h1
        split at h1
        · simp only [Bool.and_eq_true, decide_eq_true_eq] at h1
          obtain ⟨⟨⟨⟨⟨a1, a2⟩, a3⟩, a4⟩, a5⟩, a6⟩ := h1
          exact s_par2 (ps_par (F.calm h00) F.nd (F.loc a1).1 (F.loc a2).1 a5 (by rw [F.sc]; exact a3) (by rw [F.sc]; exact a4) (ih.a F h2).1 (parK_ok F.sc a6))
        · simp only [Bool.and_eq_true, decide_eq_true_eq] at h1
          obtain ⟨⟨⟨⟨⟨⟨⟨⟨⟨a1, a2⟩, a2'⟩, a3⟩, a4⟩, a4'⟩, a5⟩, a7⟩, a8⟩, a6⟩ := h1
          exact s_par3 (ps_par3 (F.calm h00) F.nd (F.loc a1).1 (F.loc a2).1 (F.loc a2').1 a5 a7 a8 (by rw [F.sc]; exact a3) (by rw [F.sc]; exact a4) (by rw [F.sc]; exact a4') (ih.a F h2).1 (parK_ok F.sc a6))
        · cases h1
      · cases h
  | expr a ih =>
    exact mkSt fun F h E => by
      simp only [ck, csS] at h
      split at h
      · obtain ⟨h1, h2⟩ := and_ h
        exact s_expr (ih.d F h2) (no_swap h1 _ _ _)
      · cases h
  | ret a ih =>
    exact mkSt fun F h E => by
      simp only [ck, csS] at h
      split at h
      · exact s_ret (ih.r F h)
      · cases h
  | retO i =>
    exact mkSt fun F h E => by
      simp only [ck, csS] at h
      split at h
      · exact s_retO (F.vis h)
      · cases h
  | retN =>
    exact mkSt fun F h E => by
      simp only [ck, csS] at h
      split at h
      · exact s_retN
      · cases h
  | cond c a b ihc iha ihb =>
    exact mkSt fun F h E => by
      simp only [ck, csS] at h
      split at h
      · simp only [Bool.and_eq_true] at h
        obtain ⟨⟨h1, h2⟩, h3⟩ := h
        exact s_if (ihc.t F h1) (iha.b F h2 E) (ihb.b F h3 E)
      · cases h
  | loop t ws i b ihi ihb =>
    exact mkSt fun F h E => by
      simp only [ck, csSQ, csS] at h
      obtain ⟨h, h0⟩ := and_ h
      have h00 : _ = false := Bool.not_eq_true' _ |>.mp h0
      split at h
      · simp only [Bool.and_eq_true] at h
        obtain ⟨⟨⟨h1, h2⟩, h3⟩, h4⟩ := h
        exact s_for F.own (F.calm h00) (ihi.i F h3) (tg_of F h00 h2) (fun fB fρ => ihb.b F h4 _) (no_fold h1 _) (tg_one h2)
      · cases h
  | «while» ws c b ihc ihb =>
    exact mkSt fun F h E => by
      simp only [ck, csS] at h
      split at h
      · obtain ⟨h1, h2⟩ := and_ h
        exact s_while F.own (ihc.t F h1) (ihb.b F h2 E)
      · cases h
  | lset a ih =>
    exact mkE fun F h => by
      simp only [ck, csQ, csE] at h
      obtain ⟨h, h0⟩ := and_ h
      have h00 : _ = false := Bool.not_eq_true' _ |>.mp h0
      split at h
      · simp only [Bool.and_eq_true, decide_eq_true_eq] at h
        obtain ⟨⟨⟨⟨⟨h1, h2⟩, h3⟩, h4⟩, h5⟩, h6⟩ := h
        subst h1; subst h2
        obtain ⟨g1, _, _, g4⟩ := F.bl h3
        obtain ⟨k1, _, _, k4⟩ := F.bl h4
        exact se_r (dr_lset (F.calm h00) g1 g4 k1 k4 (ih.o' F h6) (star1 h5 _ _)) rfl
      · cases h
  | mR k o a iho iha =>
    exact mkE fun F h => by
      simp only [ck, csE] at h
      split at h
      · rename_i x m ap args p
        simp only [Bool.and_eq_true, decide_eq_true_eq] at h
        obtain ⟨⟨⟨⟨⟨⟨⟨h1, h2⟩, h3⟩, h4⟩, h5⟩, h6⟩, h7⟩, h8⟩ := h
        subst h1
        obtain ⟨a1, a2⟩ := iha.a F h8
        refine se_r ?_ rfl
        cases args with
        | nil => show DR _ _ _ _ (eMR k (ev T o).d (ev T a).l); rw [a2 rfl]; exact dr_mR0 h2 (iho.d F h7) (no_super h3 _ _ _) h4
        | cons e es =>
          have h5' := h5
          simp only [List.all_cons, Bool.and_eq_true] at h5
          exact dr_mR h2 (iho.d F h7) a1 (no_super h3 _ _ _) (few_of h5' h6 _ _) h4 (star1 h5.1 _ _) (starN h5.2 _ _)
      · cases h
  | mO k i a iha =>
    exact mkSt fun F h E => by
      simp only [ck, csS] at h
      split at h
      · rename_i x xp m ap args p pos
        simp only [Bool.and_eq_true, decide_eq_true_eq] at h
        obtain ⟨⟨⟨⟨⟨⟨h1, h2⟩, h3⟩, h4⟩, h5⟩, h6⟩, h8⟩ := h
        subst h1
        obtain ⟨a1, a2⟩ := iha.a F h8
        cases args with
        | nil => show DS _ _ _ _ _ (xMO k i (ev T a).l); rw [a2 rfl]; exact s_mO0 h2 (F.vis h3) rfl h4
        | cons e es =>
          have h5' := h5
          simp only [List.all_cons, Bool.and_eq_true] at h5
          exact s_mO h2 (F.vis h3) a1 rfl (few_of h5' h6 _ _) h4 (star1 h5.1 _ _) (starN h5.2 _ _)
      · cases h
  | st a lo hi z iha ihl ihh ihz =>
    exact mkE fun F h => by
      simp only [ck, csE] at h
      split at h
      · simp only [Bool.and_eq_true] at h
        obtain ⟨⟨⟨h1, h2⟩, h3⟩, h4⟩ := h
        exact se_r (dr_st (iha.o' F h1) (ihl.p F h2) (ihh.p F h3) (ihz.p F h4)) rfl
      · cases h
  | fld c f a ih =>
    exact mkE fun F h => by
      simp only [ck, csE] at h
      split at h
      · simp only [Bool.and_eq_true, decide_eq_true_eq] at h
        obtain ⟨⟨⟨h1, h2⟩, h3⟩, h4⟩ := h
        subst h1
        obtain ⟨q0, q1, q2⟩ := fld_ok F h3
        exact se_r (dr_fld q0 q1 q2 (ih.o' F h4) (no_super h2 _ _ _)) rfl
      · cases h
  | putF c f o v iho ihv =>
    exact mkSt fun F h E => by
      simp only [ck, csS] at h
      split at h
      · simp only [Bool.and_eq_true, decide_eq_true_eq] at h
        obtain ⟨⟨⟨⟨h1, h2⟩, h3⟩, h4⟩, h5⟩ := h
        subst h1
        obtain ⟨_, q1, q2⟩ := fld_ok F h2
        exact s_putF q1 q2 (iho.d F h4) (ihv.d F h5) (no_swap h3 _ _ _)
      · cases h
  | meth i s o a iho iha =>
    exact mkE fun F h => by
      simp only [ck, csQ, csE] at h
      obtain ⟨h, h0⟩ := and_ h
      have h00 : _ = false := Bool.not_eq_true' _ |>.mp h0
      split at h
      · simp only [Bool.and_eq_true] at h
        obtain ⟨⟨⟨⟨h1, h2⟩, h3⟩, h4⟩, h5⟩ := h
        obtain ⟨a1, a2⟩ := iha.a F h5
        exact se_r (mt_call F h00 h1 (iho.d F h4) a1 a2 h2 h3) rfl
      · cases h
  | new i s a k iha ihk =>
    exact mkE fun F h => by
      simp only [ck, csQ, csE] at h
      obtain ⟨h, h0⟩ := and_ h
      have h00 : _ = false := Bool.not_eq_true' _ |>.mp h0
      split at h
      · simp only [Bool.and_eq_true] at h
        obtain ⟨⟨h1, h2⟩, h3⟩ := h
        obtain ⟨a1, a2⟩ := iha.a F h2
        obtain ⟨k1, k2⟩ := ihk.k F h3
        exact se_r (nw_call F h00 h1 a1 k1 a2 k2) rfl
      · cases h
  | lix a b iha ihb =>
    exact mkE fun F h => by
      simp only [ck, csE] at h
      split at h
      · simp only [Bool.and_eq_true, decide_eq_true_eq] at h
        obtain ⟨⟨⟨⟨⟨h1, h2⟩, h3⟩, h4⟩, h5⟩, h6⟩ := h
        subst h1
        exact se_r (dr_lix (iha.d F h5) (ihb.d F h6) (no_sup h2 _ _ _) (by rw [star1 h4 [] _]; rfl) h3 (star1 h4 [] _)) rfl
      · cases h
  | calv i s a iha =>
    exact mkE fun F h => by
      simp only [ck, csQ, csE] at h
      obtain ⟨h, h0⟩ := and_ h
      have h00 : _ = false := Bool.not_eq_true' _ |>.mp h0
      split at h
      · simp only [Bool.and_eq_true] at h
        obtain ⟨⟨⟨h1, h2⟩, h3⟩, h4⟩ := h
        exact se_r (fn_calV F h00 h1 h2 h3 (iha.a F h4).1) rfl
      · cases h
  | win n x a ih =>
    exact mkE fun F h => by
      simp only [ck, csE] at h
      split at h
      · simp only [Bool.and_eq_true, decide_eq_true_eq] at h
        obtain ⟨⟨⟨⟨h1, h2⟩, h3⟩, h4⟩, h5⟩ := h
        subst h1
        obtain ⟨g1, g2, g3⟩ := F.gl h2
        simp only [ev]
        cases q : T.dcts.lookup _ with
        | none => rw [q] at h4; cases h4
        | some l =>
          have wd := F.tab.dcts _ l q
          split at h3
          · exact se_rt (dr_win wd g1 g2 (ih.o' F h5)) (fun z => dt_win wd g1 g2 (ih.o' F h5)) (by intros; simp)
          · exact se_rt (dr_wnin wd g1 g2 (ih.o' F h5)) (fun z => dt_wnin wd g1 g2 (ih.o' F h5)) (by intros; simp)
          · cases h3
      · cases h
  | wix x a ih =>
    exact mkE fun F h => by
      simp only [ck, csE] at h
      split at h
      · simp only [Bool.and_eq_true, decide_eq_true_eq] at h
        obtain ⟨⟨⟨⟨h1, h2⟩, h3⟩, h4⟩, h5⟩ := h
        subst h1
        obtain ⟨g1, g2, g3⟩ := F.gl h2
        simp only [ev]
        cases q : T.dcts.lookup _ with
        | none => rw [q] at h4; cases h4
        | some l => exact se_r (dr_wix (F.tab.dcts _ l q) g1 g2 (ih.o' F h5) (plain_ix h3)) rfl
      · cases h
  | orv a b iha ihb =>
    exact mkE fun {m X M W cx e} F h => by
      simp only [ck, csE] at h
      split at h
      · simp only [Bool.and_eq_true, Bool.not_eq_true', decide_eq_false_iff_not] at h
        obtain ⟨⟨h1, h2⟩, h3⟩ := h
        cases m with
        | d => exact ⟨(de_orv (iha.d F h1) (ihb.d F h2)).dr, de_orv (iha.d F h1) (ihb.d F h2), (de_orv (iha.d F h1) (ihb.d F h2)).db, .inl rfl, rfl⟩
        | o => exact (de_orv (iha.d F h1) (ihb.d F h2)).do
        | t => exact absurd rfl h3
      · cases h
  | app i a ih =>
    exact mkSt fun F h E => by
      simp only [ck, csS] at h
      split at h
      · simp only [Bool.and_eq_true, decide_eq_true_eq] at h
        obtain ⟨⟨⟨⟨h1, h2⟩, h3⟩, h4⟩, h5⟩ := h
        subst h1
        refine s_app (F.vis h2) (ih.d F h5) rfl ?_ h4 (star1 h3 _ _)
        rw [star1 h3]
        rfl
      · cases h
  | putO i jx v ihj ihv =>
    exact mkSt fun F h E => by
      simp only [ck, csS] at h
      split at h
      · simp only [Bool.and_eq_true] at h
        obtain ⟨⟨⟨⟨h1, h2⟩, h3⟩, h4⟩, h5⟩ := h
        exact s_putO (sS_put h1 h2 (F.vis h3) (ihj.d F h4) (ihv.d F h5))
      · cases h
  | putD i jx v ihj ihv =>
    exact mkSt fun F h E => by
      simp only [ck, csS] at h
      split at h
      · simp only [Bool.and_eq_true] at h
        obtain ⟨⟨⟨⟨h1, h2⟩, h3⟩, h4⟩, h5⟩ := h
        exact s_putD (ps_dput (Nat.lt_of_le_of_lt (Nat.add_le_add_left (by decide) _) F.un) (F.vis h3) (ihj.d F h4) (ihv.d F h5) (no_swap h2 _ _ _))
      · cases h
  | put o jx v iho ihj ihv =>
    exact mkSt fun F h E => by
      simp only [ck, csS] at h
      split at h
      · simp only [Bool.and_eq_true] at h
        obtain ⟨⟨⟨⟨h1, h2⟩, h3⟩, h4⟩, h5⟩ := h
        exact s_put (sS_put h1 h2 (iho.d F h3) (ihj.d F h4) (ihv.d F h5))
      · cases h
  | putR o jx v iho ihj ihv =>
    exact mkSt fun F h E => by
      simp only [ck, csS] at h
      split at h
      · simp only [Bool.and_eq_true] at h
        obtain ⟨⟨⟨⟨h1, h2⟩, h3⟩, h4⟩, h5⟩ := h
        exact s_putR (ps_dput (Nat.lt_of_le_of_lt (Nat.add_le_add_left (by decide) _) F.un) (iho.d F h3) (ihj.d F h4) (ihv.d F h5) (no_swap h2 _ _ _))
      · cases h
  | pass =>
    exact mkSt fun F h E => by
      simp only [ck, csS] at h
      split at h
      · exact s_pass
      · cases h
  | brk =>
    exact mkSt fun F h E => by
      simp only [ck, csS] at h
      split at h
      · exact s_break
      · cases h
  | cnt =>
    exact mkSt fun F h E => by
      simp only [ck, csS] at h
      split at h
      · exact s_cont
      · cases h
  | rse c x =>
    exact mkSt fun {X M W cx st} F h E => by
      simp only [ck, csSQ, csS] at h
      obtain ⟨h, h0⟩ := and_ h
      have h00 : _ = false := Bool.not_eq_true' _ |>.mp h0
      split at h
      · simp only [Bool.and_eq_true, decide_eq_true_eq] at h
        obtain ⟨⟨⟨rfl, h2⟩, h3⟩, h4⟩ := h
        obtain ⟨B, newId, initId, bmB, b1, b2, b3, b4, b5, b6⟩ := (F.tab.xrs _ (List.contains_iff_mem.mp h4)).ex
        obtain ⟨g1, g2, _⟩ := F.gl h2
        exact s_rse (F.calm h00) F.tk (pmk_own b1.F b2 b3 b4 (raises_own b5 b6) g1 g2)
      · cases h
  | rsi c x ns a ih =>
    exact mkSt fun {X M W cx st} F h E => by
      simp only [ck, csSQ, csS] at h
      obtain ⟨h, h0⟩ := and_ h
      have h00 : _ = false := Bool.not_eq_true' _ |>.mp h0
      split at h
      · simp only [Bool.and_eq_true, decide_eq_true_eq] at h
        obtain ⟨⟨⟨⟨⟨⟨rfl, h2⟩, h3⟩, h4⟩, h5⟩, h6⟩, h7⟩ := h
        obtain ⟨B, newId, initId, bmB, fI, fd, ps, b1, b2, b3, b4, b5, b6, b7, b8, b9⟩ := (F.tab.xrn _ (List.contains_iff_mem.mp h4)).ex
        obtain ⟨g1, g2, _⟩ := F.gl h2
        have h6' := h6
        simp only [List.all_cons, Bool.and_eq_true] at h6
        exact s_rsi (F.calm h00) F.tk b9 (pmk_x b1 b2 b3 b4 b5 b6 ((F.room h00).mono h5) b7 (fun pins σ H s e s' I k => F.tk e s' (XE.of_call I (fun _ _ _ z => z.elim) k)) g1 b8 g2 (ih.a F h7).1 (star1 h6.1 _ _) (starN h6.2 _ _))
      · cases h
  | isx x a ih =>
    exact mkE fun {m X M W cx e} F h => by
      simp only [ck, csE] at h
      split at h
      · simp only [Bool.and_eq_true, decide_eq_true_eq] at h
        obtain ⟨⟨⟨⟨⟨⟨rfl, h2⟩, rfl⟩, h4⟩, h5⟩, h6⟩, h7⟩ := h
        obtain ⟨g1, _, _, g4⟩ := F.bl h2
        obtain ⟨k1, k2, k3⟩ := F.gl h4
        simp only [ev]
        cases q : T.xis.lookup _ with
        | none => rw [q] at h5; cases h5
        | some l =>
          obtain ⟨v, cv, c1, c2⟩ := (F.tab.xis _ l q).ex
          simp only [xlD, q, Option.getD_some]
          exact se_r (dr_isx g1 g4 c1 k1 k2 k3 c2 (ih.d F h7) (star1 h6 _ _)) rfl
      · cases h
  | xfl f a ih =>
    exact mkE fun {m X M W cx e} F h => by
      simp only [ck, csE] at h
      split at h
      · simp only [Bool.and_eq_true, decide_eq_true_eq] at h
        obtain ⟨⟨⟨rfl, h2⟩, h3⟩, h4⟩ := h
        simp only [ev]
        cases q : T.xfs.lookup _ with
        | none => rw [q] at h3; cases h3
        | some l =>
          simp only [xlD, q, Option.getD_some]
          exact se_r (dr_xfl (F.tab.xfs _ l q).ex (ih.d F h4) (no_super h2 _ _ _)) rfl
      · cases h
  | tryx x i b g ihb ihg =>
    exact mkSt fun {X M W cx st} F h E => by
      simp only [ck, csSQ, csS] at h
      obtain ⟨h, h0⟩ := and_ h
      split at h
      · simp only [Bool.and_eq_true, decide_eq_true_eq] at h
        obtain ⟨⟨⟨⟨⟨⟨⟨⟨rfl, h2⟩, h3⟩, h4⟩, h5⟩, h6⟩, h7⟩, h8⟩, h9⟩ := h
        obtain ⟨k1, k2, k3⟩ := F.gl h2
        obtain ⟨t1, t2⟩ := F.st h3
        simp only [ev]
        cases q : T.xex.lookup _ with
        | none => rw [q] at h6; cases h6
        | some l =>
          obtain ⟨v, cv, c1, c2⟩ := (F.tab.xex _ l q).ex
          simp only [xlD, q, Option.getD_some]
          exact s_try t1 t2 (F.ex h3) F.nd (by rw [F.hN]; exact h4) (by show X.env.scope.names.lookup _ = _; rw [F.sc]; exact h5) (c1.names k1 k2 k3) F.tk c2
            (fun W' pn xe tk po => ihb.w (F.tr tk po) h8 E) (fun a pn => ihg.b (F.suite a pn) h9 E) (fun z => by subst z; simp at h7)
      · cases h
  | tex a g iha ihg =>
    exact mkTb fun F h E => by
      simp only [ck, csW] at h
      split at h
      · simp only [Bool.and_eq_true] at h
        obtain ⟨⟨h1, h2⟩, h3⟩ := h
        exact b_ex (iha.d F h2) (no_swap h1 _ _ _) (ihg.w F h3 E)
      · cases h
  | trt a iha =>
    exact mkTb fun F h E => by
      simp only [ck, csW] at h
      split at h
      · exact b_ret (iha.r F h)
      · cases h
  | tst i a g iha ihg =>
    exact mkTb fun F h E => by
      simp only [ck, csW] at h
      split at h
      · simp only [Bool.and_eq_true] at h
        obtain ⟨⟨h1, h2⟩, h3⟩ := h
        exact b_set (PS.imp (iha.asg F h1 h2) fun Dd σ H q => d_imp (iha.e (m := .d) F h2) σ H _ q) (ihg.w F h3 E)
      · cases h
  | tif c a b g ihc iha ihb ihg =>
    exact mkTb fun F h E => by
      simp only [ck, csW] at h
      split at h
      · simp only [Bool.and_eq_true] at h
        obtain ⟨⟨⟨h1, h2⟩, h3⟩, h4⟩ := h
        exact b_if (ihc.t F h1) (iha.w F h2 E) (ihb.w F h3 E) (ihg.w F h4 E)
      · cases h
  | tnx =>
    exact mkTb fun {X M W cx ss} F h E => by
      have : ss = [] := by simpa [ck, csW] using h
      subst this
      exact b_nx
  | never => exact mkSt fun F h E => s_never
  | fz i a ih => exact mkBl fun F h E => ss_frz (ih.b F h E)
  | seq a b iha ihb =>
    exact mkBl fun F h E => by
      simp only [ck, csB] at h
      split at h
      · obtain ⟨h1, h2⟩ := and_ h
        exact (ss_cons (iha.s F h1 E) (ihb.b F h2 E) : DSs _ _ _ E _ (xSeq (ev T a).x (ev T b).x))
      · cases h
  | done =>
    exact mkBl fun {X M W cx ss} F h E => by
      have : ss = [] := by simpa [ck, csB] using h
      subst this
      exact ss_nil
end DL
namespace DL
open PySem PySem.Spec PyProof.Rows L2 SeqAt
variable {T : Tab} {j : Nat}
theorem fn_ok {P : Program} {w : World} {K : PySem.W.Frag} {M : Mp} {mg : Str → Option Value} {base : Heap} {f : Addr} {name qual : Str} {params : Arguments} {body : List Stmt} {sc : Scope} {dV kV doc pm cdv ct oc : Value} {an od : Option Addr} {osl : Array (Option Value)} {N ps : List Str} {c : C}
    (lk : K.lookup f = some ⟨oc, od, .func (PySem.W.fnOf name qual params body sc dV kV doc pm an cdv ct), osl⟩) (hcd : PySem.W.codeIn K cdv qual = true) (FS : FnScope N ps sc) (hc : (ck T j c).b ⟨N, sc, true, false⟩ body = true)
    (tab : ∀ X : Cx, X.prog = P → X.w = w → X.K = K → X.mg = mg → X.base = base → TabOk X M T) :
    FnG P w K mg base (CX P w) (j + 1) f (PySem.W.fnOf name qual params body sc dV kV doc pm an cdv ct) ps (spD ⟨K, M.cls, M.fns⟩ ps.length (runF T N.length c)) := by
  refine fnG_of lk hcd FS spD_len fun A out s H vs Q E hg hr hsp => ?_
  obtain ⟨B, ρ, S, ds, E', Q', hl, c1, r1, hF, hE, hQ⟩ := hsp
  have Fit : Fits (cxOf (CX P w) P w K mg base N qual sc f cdv A out s H E) M (fun cls d _ H => E cls d H) T j ⟨N, sc, true, false⟩ :=
    ⟨rfl, FS.nd, rfl, fun _ => rfl, hg, fun _ => hr, hr.units, takes_of rfl rfl rfl rfl, passes_of rfl, fun _ _ => rfl, tab _ rfl rfl rfl rfl rfl, fun _ => rfl, fun _ => ⟨rfl, rfl⟩⟩
  refine ⟨_, (snd T j c).b Fit hc ⟨B, ρ, H, B, ρ⟩, ?_⟩
  refine ⟨_, S, E', kEnd Q', ⟨B, ρ, .refl _ _ _, ⟨c1, ?_⟩, ?_, .refl _, fun _ _ z => z⟩, hF, fun x S' h σ' => hE x S' h, ?_⟩
  · have hv : vs.length = ds.length := r1.length
    have get : ∀ (i : Nat) (z : Slot), (ds.map Slot.val ++ List.replicate (N.length - ds.length) Slot.no)[i]? = some z → z = .no ∨ ∃ d, z = .val d ∧ ds[i]? = some d := fun i z h => by
      by_cases hi : i < ds.length
      · rw [List.getElem?_append_left (by simpa using hi), List.getElem?_map, List.getElem?_eq_getElem hi] at h
        exact .inr ⟨ds[i], by simpa using h.symm, List.getElem?_eq_getElem hi⟩
      · rw [List.getElem?_append_right (by simpa using hi)] at h
        rw [List.getElem?_replicate] at h
        split at h
        · exact .inl (Option.some.inj h).symm
        · cases h
    refine ⟨by simp [L2.start, hv], fun i d h => ?_, fun i c h => ?_, fun i k c e a h1 => ?_⟩
    · rcases get i _ h with q | ⟨d', q, hd⟩
      · cases q
      · cases q
        obtain ⟨v, h1, h2⟩ := r1.get hd
        refine ⟨v, ?_, h2⟩
        show (vs.map some ++ List.replicate (N.length - vs.length) none)[i]? = _
        have hi : i < vs.length := (List.getElem?_eq_some_iff.mp h1).1
        rw [List.getElem?_append_left (by simpa using hi), List.getElem?_map, h1]
        rfl
    · rcases get i _ h with q | ⟨d', q, hd⟩ <;> cases q
    · rcases get i _ h1 with q | ⟨d', q, hd⟩ <;> cases q
  · intro i c a h
    exfalso
    by_cases hi : i < ds.length
    · rw [List.getElem?_append_left (by simpa using hi), List.getElem?_map, List.getElem?_eq_getElem hi] at h
      simp at h
    · rw [List.getElem?_append_right (by simpa using hi), List.getElem?_replicate] at h
      split at h
      · cases h
      · cases h
  · exact ⟨fun γ' S' h σ' H' ⟨B', ρ', st⟩ => hQ (.v .non) S' h .non H' B' ρ' st.ext st.rel.cells .non, fun r S' h => hQ r S' h, fun _ _ h => h.elim, fun _ _ h => h.elim⟩
theorem law_run {P : Program} {w : World} {K : PySem.W.Frag} {mg mb : Str → Option Value} {k : Nat} {fa a : Addr} {fd : FuncData} {x : Str} {F : FD} {t : Shared} {vs : List Value} {ns : List Int}
    (KX : K.In t.heap) (hns : t.heap.Ns mainGlobals mg) (hb : t.heap.Ns builtinsNs mb) (hbb : ∀ x : Str, x ≠ "__name__" → mb x = bootBuiltins x) (hlim : t.heap.NoLimit) (hg : t.gens = #[])
    (ha : t.heap.get? a = some { cls := .type "list", data := .seq vs.toArray }) (hi : IntsAre vs ns) (hl : ns.length ≤ sizeLine) (hr : Room k callerA)
    (M : Mp) (G : ∀ base : Heap, K.In base → base.Ns mainGlobals mg → FnG P w K mg base (CX P w) k fa fd [x] (spD ⟨K, M.cls, M.fns⟩ 1 F)) (hbind : ∀ (s : Shared) (u : Value), BindsTo s fd ⟨[u], []⟩ [(x, u)])
    (hF : F [.scr ns] ⟨[], 0⟩ (fun _ _ => False) fun r _ => r = .v (.bl true)) :
    codeAny (model P w) callerA (.call (.ref fa) ⟨[.ref a], []⟩) (fun r s' => r = .ok (.ret (.bool true)) ∧ OldK t.heap s'.heap ∧ s'.os = t.os ∧ AllBare s'.gens) t := by
  have rv := vals_ints hi
  have lenV := hi.length
  -- what is tracked: nothing, or the script as it stands
  have go : ∀ (H : Hp), (∀ b, H b = none ∨ ∃ o xs, H b = some (.frz o (.lst xs))) → SqL K H a (ns.map V.int) → HOk P w H t.heap → (∀ b, H b ≠ none → b = a ∧ K.lookup a = none) →
      codeAny (model P w) callerA (.call (.ref fa) ⟨[.ref a], []⟩) (fun r s' => r = .ok (.ret (.bool true)) ∧ OldK t.heap s'.heap ∧ s'.os = t.os ∧ AllBare s'.gens) t := by
    intro H only sq hok hA
    have keepIt : ∀ {b : Addr} {o : Obj}, t.heap.get? b = some o → H b = none → (hidT t.heap H).get? b = some o := hidT_get
    have noD : ∀ {b : Addr} {o : Obj} {es : Array DictEntry} {ep : Nat}, t.heap.get? b = some o → o.data = .dict es ep → H b = none := by
      intro b o es ep e d
      by_cases q : H b = none
      · exact q
      · have e2 := (hA b q).1
        rw [e2, ha] at e
        cases e
        cases d
    have nsIt : ∀ {b : Addr} {m : Str → Option Value}, t.heap.Ns b m → (hidT t.heap H).Ns b m := by
      rintro b m ⟨o, es, ep, e, d, r⟩
      exact ⟨o, es, ep, keepIt e (noD e d), d, r⟩
    have inIt : K.In (hidT t.heap H) := by
      intro b o e
      refine keepIt (KX b o e) ?_
      by_cases q : H b = none
      · exact q
      · obtain ⟨e1, e2⟩ := hA b q
        rw [e1, e2] at e
        cases e
    obtain ⟨mc, l1, l2⟩ := hlim
    have modIt : Mod K mg (hidT t.heap H) := ⟨inIt, nsIt hns, ⟨mb, nsIt hb, hbb⟩, ⟨mc, nsIt l1, l2⟩⟩
    have none_in : ∀ b, b ∉ frs ([] : List Env) := fun b z => absurd (show b ∈ ([] : List Addr) from z) (by simp)
    have env : Env0 P w K mg (hidT t.heap H) callerA [] t H := ⟨rfl, modIt, fun b o e => of_hidT e, Nat.le_of_eq (hidT_size _ _), trivial, fun b z => absurd z (none_in b), hok, .of_eq hg⟩
    have cells : Cells ⟨K, M.cls, M.fns⟩ H [] H ⟨[], 0⟩ := ⟨.refl _, rfl, .nil, fun _ z => (nomatch z), fun n a xs z => (by simp at z)⟩
    have promise : spD ⟨K, M.cls, M.fns⟩ 1 F [.ref a] H (fun v _ => v = .bl true) (fun _ _ _ => False) := ⟨H, [], ⟨[], 0⟩, [.scr ns], _, _, rfl, cells, .cons (.scr sq) .nil, hF, fun _ _ z => z.elim, fun r S' e => by subst e; exact fun v H' B' ρ' _ _ r => by cases r; rfl⟩
    refine codeAny_mono ((G _ inIt (nsIt hns)).run callerA [] t H ⟨[.ref a], []⟩ [.ref a] [.ref a] _ _ rfl hr env (hbind t (.ref a)) (.cons rfl .nil) promise) ?_
    intro r s' h
    match r, h with
    | .error _, h =>
      obtain ⟨_, _, _, _, _, _, _, _, _, _, _, _, hE⟩ := h
      exact hE.elim
    | .ok .next, h => exact h.elim
    | .ok .brk, h => exact h.elim
    | .ok .cont, h => exact h.elim
    | .ok (.ret u), ⟨v, H', os, bare, un, hok', r', q⟩ =>
      subst q
      cases (show u = Value.bool true from r')
      refine ⟨rfl, OldK.of_keep ?_, os, bare⟩
      intro b o e
      rcases only b with z | ⟨ob, xs, z⟩
      · exact un.keep b o e z (none_in b) (by simp)
      · obtain ⟨e1, _⟩ := hok b _ z
        obtain ⟨e2, _⟩ := hok' b _ (un.frzs b ob _ z)
        rw [e] at e1
        cases e1
        exact e2
  cases hk : K.lookup a with
  | some o =>
    have e := KX a o hk
    rw [ha] at e
    cases e
    exact go (fun _ => none) (fun _ => .inl rfl) (.inr ⟨_, vs.toArray, _, hk, rfl, rfl, rfl, by rw [List.size_toArray, lenV]; exact hl, by simpa using rv⟩) (fun b u z => nomatch z) fun b z => absurd rfl z
  | none =>
    refine go (fun b => if b = a then some (.frz { cls := .type "list", data := .seq vs.toArray } (.lst (ns.map V.int))) else none) ?_ ?_ ?_ ?_
    · intro b
      by_cases q : b = a
      · exact .inr ⟨_, _, if_pos q⟩
      · exact .inl (if_neg q)
    · exact .inl (.inr ⟨_, if_pos rfl⟩)
    · intro b u z
      by_cases q : b = a
      · have z2 := (if_pos q).symm.trans z
        cases z2
        rw [q]
        exact ⟨ha, by rw [List.length_map]; exact hl, vs, _, rv, ha⟩
      · have z2 := (if_neg q).symm.trans z
        cases z2
    · intro b z
      by_cases q : b = a
      · exact ⟨q, hk⟩
      · exact absurd (if_neg q) z
end DL
namespace DL
open PySem PySem.Spec L2 SeqAt
section
variable {T : Tab} {γ : List Slot} {S : Sto} {E : XC}
theorem optW_s {α : Type} {a : α} {Q : α → Sto → Prop} : optW (some a) S Q = Q a S := rfl
def kRv (Q : Rv → Sto → Prop) (d : D) (S : Sto) : Prop := Q (.v d) S
theorem kRv_k {Q : Rv → Sto → Prop} {d : D} : kRv Q d S = Q (.v d) S := rfl
theorem kVal_v {Q : D → Sto → Prop} {d : D} : kVal Q (.v d) S = Q d S := rfl
theorem kVal_l {Q : D → Sto → Prop} {xs : List D} : kVal Q (.o (.lst xs)) S = Q (.lst xs) S := rfl
theorem kVal_d {Q : D → Sto → Prop} {ks : List Key} {xs : List D} : kVal Q (.o (.dct ks xs)) S = Q (.dct ks xs) S := rfl
theorem kCell_o {Q : D → Sto → Prop} {c : Cell} : kCell Q (.o c) S = Q (.ref S.cs.length) ⟨S.cs ++ [c], S.n⟩ := rfl
theorem kBl_k {Q : Bool → Sto → Prop} {b : Bool} : kBl Q (.bl b) S = Q b S := rfl
theorem kInt_k {Q : Option Int → Sto → Prop} {i : Int} : kInt Q (.int i) S = Q (some i) S := rfl
def kOB (Q : D → Sto → Prop) (b : Bool) (S : Sto) : Prop := Q (.bl b) S
theorem kOB_k {Q : D → Sto → Prop} {b : Bool} : kOB Q b S = Q (.bl b) S := rfl
theorem drv_bl {b : Bool} : dr S (.bl b) = .bl b := rfl
theorem drv_int {i : Int} : dr S (.int i) = .int i := rfl
theorem drv_str {x : List Nat} : dr S (.str x) = .str x := rfl
theorem drv_tup {xs : List D} : dr S (.tup xs) = .tup xs := rfl
theorem drv_lst {xs : List D} : dr S (.lst xs) = .lst xs := rfl
theorem drv_scr {ns : List Int} : dr S (.scr ns) = .scr ns := rfl
theorem drv_ref {n : Nat} {c : Cell} {d : D} (h : S.cs[n]? = some c) (h2 : frzC c = some d) : dr S (.ref n) = d := by simp only [dr, h, h2, Option.getD_some]
theorem slD_k {d : D} {Q : D → Sto → Prop} : slD (some (.val d)) S Q = Q d S := rfl
theorem slP_l {xs : List D} {Q : D → Sto → Prop} : slP (some (.own (.lst xs))) S Q = Q (.lst xs) S := rfl
theorem d_var {i : Nat} {Q : D → Sto → Prop} : (ev T (.var i)).d γ S E Q = slD γ[i]? S Q := rfl
theorem r_var {i : Nat} {Q : Rv → Sto → Prop} : (ev T (.var i)).r γ S E Q = (ev T (.var i)).d γ S E (kRv Q) := rfl
theorem o_var {i : Nat} {Q : D → Sto → Prop} : (ev T (.var i)).o γ S E Q = (ev T (.var i)).d γ S E Q := rfl
theorem p_var {i : Nat} {Q : Option Int → Sto → Prop} : (ev T (.var i)).p γ S E Q = (ev T (.var i)).d γ S E (kInt Q) := rfl
theorem o_peek {i : Nat} {Q : D → Sto → Prop} : (ev T (.peek i)).o γ S E Q = slP γ[i]? S Q := rfl
theorem d_con {d : D} {Q : D → Sto → Prop} : (ev T (.con d)).d γ S E Q = Q d S := rfl
theorem r_con {d : D} {Q : Rv → Sto → Prop} : (ev T (.con d)).r γ S E Q = (ev T (.con d)).d γ S E (kRv Q) := rfl
theorem o_con {d : D} {Q : D → Sto → Prop} : (ev T (.con d)).o γ S E Q = (ev T (.con d)).d γ S E Q := rfl
def kTupF (Q : Rv → Sto → Prop) (xs : List D) (S : Sto) : Prop := kTup xs S Q
def kLstF (Q : Rv → Sto → Prop) (xs : List D) (S : Sto) : Prop := kLst xs S Q
theorem kTupF_k {Q : Rv → Sto → Prop} {xs : List D} : kTupF Q xs S = kTup xs S Q := rfl
theorem kLstF_k {Q : Rv → Sto → Prop} {xs : List D} : kLstF Q xs S = kLst xs S Q := rfl
theorem kTup_k {Q : Rv → Sto → Prop} {xs : List D} (h : xs.length ≤ 1000000) : kTup xs S Q = Q (.v (.tup xs)) S := if_pos (Nat.le_trans h (by decide))
theorem kLst_k {Q : Rv → Sto → Prop} {xs : List D} (h : xs.length ≤ 1000000) : kLst xs S Q = Q (.o (.lst xs)) S := if_pos (Nat.le_trans h (by decide))
theorem kl0 {Q : Rv → Sto → Prop} : kLst [] S Q = Q (.o (.lst [])) S := kLst_k (by simp)
theorem kt1 {a : D} {Q : Rv → Sto → Prop} : kTup [a] S Q = Q (.v (.tup [a])) S := kTup_k (by simp)
theorem kl1 {a : D} {Q : Rv → Sto → Prop} : kLst [a] S Q = Q (.o (.lst [a])) S := kLst_k (by simp)
theorem kt2 {a b : D} {Q : Rv → Sto → Prop} : kTup [a, b] S Q = Q (.v (.tup [a, b])) S := kTup_k (by simp)
theorem kl2 {a b : D} {Q : Rv → Sto → Prop} : kLst [a, b] S Q = Q (.o (.lst [a, b])) S := kLst_k (by simp)
theorem kt3 {a b c : D} {Q : Rv → Sto → Prop} : kTup [a, b, c] S Q = Q (.v (.tup [a, b, c])) S := kTup_k (by simp)
theorem kl3 {a b c : D} {Q : Rv → Sto → Prop} : kLst [a, b, c] S Q = Q (.o (.lst [a, b, c])) S := kLst_k (by simp)
theorem kt4 {a b c d : D} {Q : Rv → Sto → Prop} : kTup [a, b, c, d] S Q = Q (.v (.tup [a, b, c, d])) S := kTup_k (by simp)
theorem kl4 {a b c d : D} {Q : Rv → Sto → Prop} : kLst [a, b, c, d] S Q = Q (.o (.lst [a, b, c, d])) S := kLst_k (by simp)
theorem kl14 {a b c d f g h i j k l m n o : D} {Q : Rv → Sto → Prop} : kLst [a, b, c, d, f, g, h, i, j, k, l, m, n, o] S Q = Q (.o (.lst [a, b, c, d, f, g, h, i, j, k, l, m, n, o])) S := kLst_k (by simp)
theorem r_tup {a : C} {Q : Rv → Sto → Prop} : (ev T (.tup a)).r γ S E Q = (ev T a).l γ S E (kTupF Q) := rfl
theorem d_tup {a : C} {Q : D → Sto → Prop} : (ev T (.tup a)).d γ S E Q = (ev T (.tup a)).r γ S E (kVal Q) := rfl
theorem o_tup {a : C} {Q : D → Sto → Prop} : (ev T (.tup a)).o γ S E Q = (ev T (.tup a)).r γ S E (kVal Q) := rfl
theorem r_lst {a : C} {Q : Rv → Sto → Prop} : (ev T (.lst a)).r γ S E Q = (ev T a).l γ S E (kLstF Q) := rfl
theorem d_lst {a : C} {Q : D → Sto → Prop} : (ev T (.lst a)).d γ S E Q = (ev T (.lst a)).r γ S E (kVal Q) := rfl
theorem o_lst {a : C} {Q : D → Sto → Prop} : (ev T (.lst a)).o γ S E Q = (ev T (.lst a)).r γ S E (kVal Q) := rfl
theorem r_dct0  {Q : Rv → Sto → Prop} : (ev T (.dct0)).r γ S E Q = Q (.o (.dct [] [])) S := rfl
theorem d_dct0  {Q : D → Sto → Prop} : (ev T (.dct0)).d γ S E Q = (ev T (.dct0)).r γ S E (kVal Q) := rfl
def kO2 (g : D → D → Option Rv) (Q : Rv → Sto → Prop) (x y : D) (S : Sto) : Prop := optW (g (dr S x) (dr S y)) S Q
def kO1 (g : D → D → Option Rv) (fb : Ev D) (γ : List Slot) (E : XC) (Q : Rv → Sto → Prop) (x : D) (S : Sto) : Prop := fb γ S E (kO2 g Q x)
theorem r_op {o : Nat} {a b : C} {Q : Rv → Sto → Prop} : (ev T (.op o a b)).r γ S E Q = (ev T a).o γ S E (kO1 (opG o) (ev T b).o γ E Q) := rfl
theorem d_op {o : Nat} {a b : C} {Q : D → Sto → Prop} : (ev T (.op o a b)).d γ S E Q = (ev T (.op o a b)).r γ S E (kVal Q) := rfl
theorem o_op {o : Nat} {a b : C} {Q : D → Sto → Prop} : (ev T (.op o a b)).o γ S E Q = (ev T (.op o a b)).r γ S E (kVal Q) := rfl
theorem p_op {o : Nat} {a b : C} {Q : Option Int → Sto → Prop} : (ev T (.op o a b)).p γ S E Q = (ev T (.op o a b)).r γ S E (kVal (kInt Q)) := rfl
theorem r_cmp {o : Nat} {a b : C} {Q : Rv → Sto → Prop} : (ev T (.cmp o a b)).r γ S E Q = (ev T a).o γ S E (kO1 (vv (cmG o)) (ev T b).o γ E Q) := rfl
theorem d_cmp {o : Nat} {a b : C} {Q : D → Sto → Prop} : (ev T (.cmp o a b)).d γ S E Q = (ev T (.cmp o a b)).r γ S E (kVal Q) := rfl
theorem b_cmp {o : Nat} {a b : C} {Q : Bool → Sto → Prop} : (ev T (.cmp o a b)).b γ S E Q = (ev T (.cmp o a b)).r γ S E (kVal (kBl Q)) := rfl
theorem r_ix {a b : C} {Q : Rv → Sto → Prop} : (ev T (.ix a b)).r γ S E Q = (ev T a).o γ S E (kO1 (vv dIx) (ev T b).o γ E Q) := rfl
theorem d_ix {a b : C} {Q : D → Sto → Prop} : (ev T (.ix a b)).d γ S E Q = (ev T (.ix a b)).r γ S E (kVal Q) := rfl
theorem o_ix {a b : C} {Q : D → Sto → Prop} : (ev T (.ix a b)).o γ S E Q = (ev T (.ix a b)).r γ S E (kVal Q) := rfl
theorem kO1_k {g : D → D → Option Rv} {fb : Ev D} {Q : Rv → Sto → Prop} {x : D} : kO1 g fb γ E Q x S = fb γ S E (kO2 g Q x) := rfl
theorem kO2_vv {g : D → D → Option D} {Q : Rv → Sto → Prop} {x y : D} : kO2 (vv g) Q x y S = optW (g (dr S x) (dr S y)) S (kRv Q) := by unfold kO2 vv; cases g (dr S x) (dr S y) <;> rfl
theorem kO2_o0 {Q : Rv → Sto → Prop} {x y : D} : kO2 (opG 0) Q x y S = optW (dAdd (dr S x) (dr S y)) S Q := rfl
theorem kO2_o1 {Q : Rv → Sto → Prop} {x y : D} : kO2 (opG 1) Q x y S = optW (dSub (dr S x) (dr S y)) S Q := rfl
theorem kO2_o2 {Q : Rv → Sto → Prop} {x y : D} : kO2 (opG 2) Q x y S = optW (dMul (dr S x) (dr S y)) S Q := rfl
theorem kO2_o3 {Q : Rv → Sto → Prop} {x y : D} : kO2 (opG 3) Q x y S = optW (dDiv (dr S x) (dr S y)) S Q := rfl
theorem kO2_o4 {Q : Rv → Sto → Prop} {x y : D} : kO2 (opG 4) Q x y S = optW (dMod (dr S x) (dr S y)) S Q := rfl
theorem kO2_o5 {Q : Rv → Sto → Prop} {x y : D} : kO2 (opG 5) Q x y S = optW (dPow (dr S x) (dr S y)) S Q := rfl
theorem cmG0 {x y : D} : cmG 0 x y = dEq x y := rfl
theorem cmG2 {x y : D} : cmG 2 x y = dLt x y := rfl
theorem cmG4 {x y : D} : cmG 4 x y = dGt x y := rfl
theorem cmG7 {x y : D} : cmG 7 x y = dNotIn x y := rfl
theorem b_and {a b : C} {Q : Bool → Sto → Prop} : (ev T (.and a b)).b γ S E Q = (ev T a).b γ S E (kAnd (ev T b).b γ E Q) := rfl
theorem r_and {a b : C} {Q : Rv → Sto → Prop} : (ev T (.and a b)).r γ S E Q = (ev T (.and a b)).b γ S E (kOB (kRv Q)) := rfl
theorem b_or {a b : C} {Q : Bool → Sto → Prop} : (ev T (.or a b)).b γ S E Q = (ev T a).b γ S E (kOr (ev T b).b γ E Q) := rfl
theorem o_or {a b : C} {Q : D → Sto → Prop} : (ev T (.or a b)).o γ S E Q = (ev T (.or a b)).b γ S E (kOB Q) := rfl
theorem kAnd_t {g : Ev Bool} {Q : Bool → Sto → Prop} : kAnd g γ E Q true S = g γ S E Q := rfl
theorem kAnd_f {g : Ev Bool} {Q : Bool → Sto → Prop} : kAnd g γ E Q false S = Q false S := rfl
theorem kOr_t {g : Ev Bool} {Q : Bool → Sto → Prop} : kOr g γ E Q true S = Q true S := rfl
theorem kOr_f {g : Ev Bool} {Q : Bool → Sto → Prop} : kOr g γ E Q false S = g γ S E Q := rfl
def kNot (Q : Bool → Sto → Prop) (b : Bool) (S : Sto) : Prop := Q (!b) S
theorem b_not {a : C} {Q : Bool → Sto → Prop} : (ev T (.not a)).b γ S E Q = (ev T a).b γ S E (kNot Q) := rfl
theorem kNot_k {Q : Bool → Sto → Prop} {b : Bool} : kNot Q b S = Q (!b) S := rfl
theorem b_yes {Q : Bool → Sto → Prop} : (ev T .yes).b γ S E Q = Q true S := rfl
theorem d_ifx {c a b : C} {Q : D → Sto → Prop} : (ev T (.ifx c a b)).d γ S E Q = (ev T c).b γ S E (kIf (ev T a).d (ev T b).d γ E Q) := rfl
theorem r_ifx {c a b : C} {Q : Rv → Sto → Prop} : (ev T (.ifx c a b)).r γ S E Q = (ev T (.ifx c a b)).d γ S E (kRv Q) := rfl
theorem kIf_t {α : Type} {f g : Ev α} {Q : α → Sto → Prop} : kIf f g γ E Q true S = f γ S E Q := rfl
theorem kIf_f {α : Type} {f g : Ev α} {Q : α → Sto → Prop} : kIf f g γ E Q false S = g γ S E Q := rfl
def kUF (g : D → Option Rv) (Q : Rv → Sto → Prop) (x : D) (S : Sto) : Prop := optW (g (dr S x)) S Q
theorem r_neg {a : C} {Q : Rv → Sto → Prop} : (ev T (.neg a)).r γ S E Q = (ev T a).o γ S E (kUF (vu dNeg) Q) := rfl
theorem p_neg {a : C} {Q : Option Int → Sto → Prop} : (ev T (.neg a)).p γ S E Q = (ev T (.neg a)).r γ S E (kVal (kInt Q)) := rfl
theorem kUF_vu {g : D → Option D} {Q : Rv → Sto → Prop} {x : D} : kUF (vu g) Q x S = optW (g (dr S x)) S (kRv Q) := by unfold kUF vu; cases g (dr S x) <;> rfl
def kS3 (Q : Rv → Sto → Prop) (x : D) (l h : Option Int) (S : Sto) : Prop := optW (dSl (dr S x) l h) S Q
def kS2 (fh : Ev (Option Int)) (γ : List Slot) (E : XC) (Q : Rv → Sto → Prop) (x : D) (l : Option Int) (S : Sto) : Prop := fh γ S E (kS3 Q x l)
def kS1 (fl fh : Ev (Option Int)) (γ : List Slot) (E : XC) (Q : Rv → Sto → Prop) (x : D) (S : Sto) : Prop := fl γ S E (kS2 fh γ E Q x)
theorem r_sl {a lo hi : C} {Q : Rv → Sto → Prop} : (ev T (.sl a lo hi)).r γ S E Q = (ev T a).o γ S E (kS1 (ev T lo).p (ev T hi).p γ E Q) := rfl
theorem d_sl {a lo hi : C} {Q : D → Sto → Prop} : (ev T (.sl a lo hi)).d γ S E Q = (ev T (.sl a lo hi)).r γ S E (kVal Q) := rfl
theorem o_sl {a lo hi : C} {Q : D → Sto → Prop} : (ev T (.sl a lo hi)).o γ S E Q = (ev T (.sl a lo hi)).r γ S E (kVal Q) := rfl
theorem kS1_k {fl fh : Ev (Option Int)} {Q : Rv → Sto → Prop} {x : D} : kS1 fl fh γ E Q x S = fl γ S E (kS2 fh γ E Q x) := rfl
theorem kS2_k {fh : Ev (Option Int)} {Q : Rv → Sto → Prop} {x : D} {l : Option Int} : kS2 fh γ E Q x l S = fh γ S E (kS3 Q x l) := rfl
theorem kS3_k {Q : Rv → Sto → Prop} {x : D} {l h : Option Int} : kS3 Q x l h S = optW (dSl (dr S x) l h) S Q := rfl
theorem p_nil {Q : Option Int → Sto → Prop} : (ev T .nil).p γ S E Q = Q none S := rfl
def kCaF (g : List D → Option Rv) (Q : Rv → Sto → Prop) (ds : List D) (S : Sto) : Prop := optW (g (ds.map (dr S))) S Q
theorem r_bi {b : Nat} {a : C} {Q : Rv → Sto → Prop} : (ev T (.bi b a)).r γ S E Q = (ev T a).ol γ S E (kCaF (biG b) Q) := rfl
theorem d_bi {b : Nat} {a : C} {Q : D → Sto → Prop} : (ev T (.bi b a)).d γ S E Q = (ev T (.bi b a)).r γ S E (kVal Q) := rfl
theorem o_bi {b : Nat} {a : C} {Q : D → Sto → Prop} : (ev T (.bi b a)).o γ S E Q = (ev T (.bi b a)).r γ S E (kVal Q) := rfl
theorem kCa_0 {Q : Rv → Sto → Prop} {ds : List D} : kCaF (biG 0) Q ds S = optW (gLen (ds.map (dr S))) S (kRv Q) := by show optW (v1 gLen _) S Q = _; unfold v1; cases gLen (ds.map (dr S)) <;> rfl
theorem kCa_3 {Q : Rv → Sto → Prop} {ds : List D} : kCaF (biG 3) Q ds S = optW (gMax (ds.map (dr S))) S (kRv Q) := by show optW (v1 gMax _) S Q = _; unfold v1; cases gMax (ds.map (dr S)) <;> rfl
theorem kCa_4 {Q : Rv → Sto → Prop} {ds : List D} : kCaF (biG 4) Q ds S = optW (gMin (ds.map (dr S))) S (kRv Q) := by show optW (v1 gMin _) S Q = _; unfold v1; cases gMin (ds.map (dr S)) <;> rfl
theorem kCa_5 {Q : Rv → Sto → Prop} {ds : List D} : kCaF (biG 5) Q ds S = optW (gInt (ds.map (dr S))) S (kRv Q) := by show optW (v1 gInt _) S Q = _; unfold v1; cases gInt (ds.map (dr S)) <;> rfl
theorem kCa_7 {Q : Rv → Sto → Prop} {ds : List D} : kCaF (biG 7) Q ds S = optW (gTuple (ds.map (dr S))) S (kRv Q) := by show optW (v1 gTuple _) S Q = _; unfold v1; cases gTuple (ds.map (dr S)) <;> rfl
theorem kCa_8 {Q : Rv → Sto → Prop} {ds : List D} : kCaF (biG 8) Q ds S = optW (gRepr (ds.map (dr S))) S (kRv Q) := by show optW (v1 gRepr _) S Q = _; unfold v1; cases gRepr (ds.map (dr S)) <;> rfl
def kNew (Q : Rv → Sto → Prop) (xs : List D) (S : Sto) : Prop := Q (.o (.lst xs)) S
theorem kNew_k {Q : Rv → Sto → Prop} {xs : List D} : kNew Q xs S = Q (.o (.lst xs)) S := rfl
theorem kCa_10 {Q : Rv → Sto → Prop} {ds : List D} : kCaF (biG 10) Q ds S = optW (gSorted (ds.map (dr S))) S (kNew Q) := by show optW (vl gSorted _) S Q = _; unfold vl; cases gSorted (ds.map (dr S)) <;> rfl
def kJ2 (Q : Rv → Sto → Prop) (a : List Nat) (y : D) (S : Sto) : Prop := optW (dJoin (.str a) (dr S y)) S (kRv Q)
def kJ1 (fb : Ev D) (γ : List Slot) (E : XC) (Q : Rv → Sto → Prop) (x : D) (S : Sto) : Prop := ∃ a, x = .str a ∧ fb γ S E (kJ2 Q a)
theorem r_join {a b : C} {Q : Rv → Sto → Prop} : (ev T (.join a b)).r γ S E Q = (ev T a).o γ S E (kJ1 (ev T b).o γ E Q) := rfl
theorem d_join {a b : C} {Q : D → Sto → Prop} : (ev T (.join a b)).d γ S E Q = (ev T (.join a b)).r γ S E (kVal Q) := rfl
theorem kJ1_s {fb : Ev D} {Q : Rv → Sto → Prop} {z : List Nat} : kJ1 fb γ E Q (.str z) S = fb γ S E (kJ2 Q z) := propext ⟨fun ⟨a, e, h⟩ => by cases e; exact h, fun h => ⟨z, rfl, h⟩⟩
theorem kJ2_k {Q : Rv → Sto → Prop} {z : List Nat} {y : D} : kJ2 Q z y S = optW (dJoin (.str z) (dr S y)) S (kRv Q) := rfl
def kF2 (F : FD) (n m : Nat) (is : List Nat) (dd : List D) (E : XC) (Q : Rv → Sto → Prop) (xs ys : List D) (S : Sto) : Prop := goF F n m is dd xs ys S E Q
def kF1 (F : FD) (n m : Nat) (is : List Nat) (dd : List D) (fk : Ev (List D)) (γ : List Slot) (E : XC) (Q : Rv → Sto → Prop) (xs : List D) (S : Sto) : Prop := fk γ S E (kF2 F n m is dd E Q xs)
theorem r_call {i s : Nat} {a k : C} {Q : Rv → Sto → Prop} : (ev T (.call i s a k)).r γ S E Q = fnE T i s (ev T a).l (ev T k).l γ S E Q := rfl
theorem d_call {i s : Nat} {a k : C} {Q : D → Sto → Prop} : (ev T (.call i s a k)).d γ S E Q = (ev T (.call i s a k)).r γ S E (kVal Q) := rfl
theorem o_call {i s : Nat} {a k : C} {Q : D → Sto → Prop} : (ev T (.call i s a k)).o γ S E Q = (ev T (.call i s a k)).r γ S E (kVal Q) := rfl
theorem b_call {i s : Nat} {a k : C} {Q : Bool → Sto → Prop} : (ev T (.call i s a k)).b γ S E Q = (ev T (.call i s a k)).r γ S E (kVal (kBl Q)) := rfl
theorem kF1_k {F : FD} {n m : Nat} {is : List Nat} {dd : List D} {fk : Ev (List D)} {Q : Rv → Sto → Prop} {xs : List D} : kF1 F n m is dd fk γ E Q xs S = fk γ S E (kF2 F n m is dd E Q xs) := rfl
theorem kF2_k {F : FD} {n m : Nat} {is : List Nat} {dd : List D} {Q : Rv → Sto → Prop} {xs ys : List D} : kF2 F n m is dd E Q xs ys S = goF F n m is dd xs ys S E Q := rfl
theorem l_nil {Q : List D → Sto → Prop} : (ev T .nil).l γ S E Q = Q [] S := rfl
theorem ol_nil {Q : List D → Sto → Prop} : (ev T .nil).ol γ S E Q = Q [] S := rfl
def kC2 (Q : List D → Sto → Prop) (x : D) (xs : List D) (S : Sto) : Prop := Q (x :: xs) S
def kC1 (fb : Ev (List D)) (γ : List Slot) (E : XC) (Q : List D → Sto → Prop) (x : D) (S : Sto) : Prop := fb γ S E (kC2 Q x)
theorem l_cons {a b : C} {Q : List D → Sto → Prop} : (ev T (.cons a b)).l γ S E Q = (ev T a).d γ S E (kC1 (ev T b).l γ E Q) := rfl
theorem ol_cons {a b : C} {Q : List D → Sto → Prop} : (ev T (.cons a b)).ol γ S E Q = (ev T a).o γ S E (kC1 (ev T b).ol γ E Q) := rfl
theorem kC1_k {fb : Ev (List D)} {Q : List D → Sto → Prop} {x : D} : kC1 fb γ E Q x S = fb γ S E (kC2 Q x) := rfl
theorem kC2_k {Q : List D → Sto → Prop} {x : D} {xs : List D} : kC2 Q x xs S = Q (x :: xs) S := rfl
theorem r_comp {t : Tg} {own : List (Str × Nat)} {i c e : C} {Q : Rv → Sto → Prop} : (ev T (.comp t own i c e)).r γ S E Q = (ev T i).l γ S E (kComp t (ev T c).b (ev T e).d γ Q) := rfl
theorem d_comp {t : Tg} {own : List (Str × Nat)} {i c e : C} {Q : D → Sto → Prop} : (ev T (.comp t own i c e)).d γ S E Q = (ev T (.comp t own i c e)).r γ S E (kVal Q) := rfl
theorem o_comp {t : Tg} {own : List (Str × Nat)} {i c e : C} {Q : D → Sto → Prop} : (ev T (.comp t own i c e)).o γ S E Q = (ev T (.comp t own i c e)).r γ S E (kVal Q) := rfl
theorem l_itv {a : C} {Q : List D → Sto → Prop} : (ev T (.itv a)).l γ S E Q = (ev T a).d γ S E (kIt Q) := rfl
theorem kIt_k {Q : List D → Sto → Prop} {x : D} : kIt Q x S = optW (itemsOf x) S Q := rfl
def kCIF (g : List D → Option (List D)) (Q : List D → Sto → Prop) (ds : List D) (S : Sto) : Prop := optW (g ds) S Q
theorem l_itr1 {a : C} {Q : List D → Sto → Prop} : (ev T (.itr1 a)).l γ S E Q = (ev T a).l γ S E (kCIF gRange1 Q) := rfl
theorem l_ite {a : C} {Q : List D → Sto → Prop} : (ev T (.ite a)).l γ S E Q = (ev T a).l γ S E (kCIF gEnum Q) := rfl
theorem kCIF_k {g : List D → Option (List D)} {Q : List D → Sto → Prop} {ds : List D} : kCIF g Q ds S = optW (g ds) S Q := rfl
theorem x_set {i : Nat} {a : C} {κ : Kt} : (ev T (.set i a)).x γ S E κ = (ev T a).d γ S E (kSet i γ κ) := rfl
theorem x_setO {i : Nat} {a : C} {κ : Kt} : (ev T (.setO i a)).x γ S E κ = (ev T a).r γ S E (kSetO i γ κ) := rfl
theorem x_setC {i : Nat} {a : C} {κ : Kt} : (ev T (.setC i a)).x γ S E κ = (ev T a).r γ S E (kCell (kSet i γ κ)) := rfl
theorem kSet_k {i : Nat} {κ : Kt} {d : D} : kSet i γ κ d S = κ.nx (γ.set i (.val d)) S := rfl
theorem kSetO_k {i : Nat} {κ : Kt} {c : Cell} : kSetO i γ κ (.o c) S = κ.nx (γ.set i (.own c)) S := rfl
theorem x_ret {a : C} {κ : Kt} : (ev T (.ret a)).x γ S E κ = (ev T a).r γ S E κ.rt := rfl
theorem x_retO {i : Nat} {κ : Kt} : (ev T (.retO i)).x γ S E κ = rtO γ[i]? S κ := rfl
theorem rtO_k {κ : Kt} {c : Cell} : rtO (some (.own c)) S κ = κ.rt (.o c) S := rfl
theorem x_cond {c a b : C} {κ : Kt} : (ev T (.cond c a b)).x γ S E κ = (ev T c).b γ S E (kCond (ev T a).x (ev T b).x γ E κ) := rfl
theorem kCond_t {f g : Ex} {κ : Kt} : kCond f g γ E κ true S = f γ S E κ := rfl
theorem kCond_f {f g : Ex} {κ : Kt} : kCond f g γ E κ false S = g γ S E κ := rfl
theorem x_loop {t : Tg} {ws : List Nat} {i b : C} {κ : Kt} : (ev T (.loop t ws i b)).x γ S E κ = (ev T i).l γ S E (kFor t ws (ev T b).x γ E κ) := rfl
theorem x_done  {κ : Kt} : (ev T (.done)).x γ S E κ = κ.nx γ S := rfl
theorem x_seq {a b : C} {κ : Kt} : (ev T (.seq a b)).x γ S E κ = (ev T a).x γ S E (kSq (ev T b).x E κ) := rfl
theorem kSq_n {g : Ex} {κ : Kt} : (kSq g E κ).nx γ S = g γ S E κ := rfl
theorem kSq_r {g : Ex} {κ : Kt} : (kSq g E κ).rt = κ.rt := rfl
theorem kEnd_r {Q : Rv → Sto → Prop} : (kEnd Q).rt = Q := rfl
theorem kTurn_n {ws : List Nat} {I : List Slot → Sto → Prop} {κ : Kt} : (kTurn ws I κ).nx γ S = I (fg γ ws) S := rfl
theorem kTurn_r {ws : List Nat} {I : List Slot → Sto → Prop} {κ : Kt} : (kTurn ws I κ).rt = κ.rt := rfl
theorem fg_n : fg γ [] = γ := rfl
theorem fg_c {i : Nat} {is : List Nat} : fg γ (i :: is) = fg (γ.set i .no) is := rfl
theorem kBind_o {i : Nat} {b : Ex} {κ : Kt} {x : D} : kBind (.one i) b γ E κ x S = b (γ.set i (.val x)) S E κ := rfl
theorem kBind_2 {i k : Nat} {b : Ex} {κ : Kt} {x y : D} : kBind (.tup [i, k]) b γ E κ (.tup [x, y]) S = b ((γ.set i (.val x)).set k (.val y)) S E κ := rfl
def kSome (Q : Option D → Sto → Prop) (y : D) (S : Sto) : Prop := Q (some y) S
theorem kSome_k {Q : Option D → Sto → Prop} {y : D} : kSome Q y S = Q (some y) S := rfl
theorem kKeep_t {e : Ev D} {Q : Option D → Sto → Prop} : kKeep e γ Q true S = e γ S EF (kSome Q) := rfl
theorem kKeep_f {e : Ev D} {Q : Option D → Sto → Prop} : kKeep e γ Q false S = Q none S := rfl
theorem compF_o {i : Nat} {c : Ev Bool} {e : Ev D} {x : D} {Q : Option D → Sto → Prop} : compF (.one i) c e γ x S Q = c ((γ.set i .no).set i (.val x)) S EF (kKeep e ((γ.set i .no).set i (.val x)) Q) := rfl
def kRsi (c : Nat) (ns : List Str) (E : XC) (xs : List D) (S : Sto) : Prop := xs.length = ns.length ∧ E ⟨c, ns.reverse, xs.reverse⟩ S
theorem x_rsi {c : Nat} {x : Str} {ns : List Str} {a : C} {κ : Kt} : (ev T (.rsi c x ns a)).x γ S E κ = (ev T a).l γ S E (kRsi c ns E) := rfl
theorem kRsi_1 {c : Nat} {n : Str} {x : D} : kRsi c [n] E [x] S = E ⟨c, [n], [x]⟩ S := propext ⟨fun h => h.2, fun h => ⟨rfl, h⟩⟩
def kXflF (l : List Nat) (f : Str) (Q : Rv → Sto → Prop) (d : D) (S : Sto) : Prop := kXfl l f S Q d
theorem r_xfl {f : Str} {a : C} {Q : Rv → Sto → Prop} : (ev T (.xfl f a)).r γ S E Q = (ev T a).d γ S E (kXflF (xlD T.xfs f) f Q) := rfl
theorem d_xfl {f : Str} {a : C} {Q : D → Sto → Prop} : (ev T (.xfl f a)).d γ S E Q = (ev T (.xfl f a)).r γ S E (kVal Q) := rfl
theorem kXflF_1 {l : List Nat} {f : Str} {Q : Rv → Sto → Prop} {c : Nat} {x : D} : kXflF l f Q (.obj c [f] [x]) S = (c ∈ l ∧ Q (.v x) S) := by simp only [kXflF, kXfl, List.zip_cons_cons, List.lookup_cons, beq_self_eq_true, optW]
theorem x_tryx {x : Str} {i : Nat} {b g : C} {κ : Kt} : (ev T (.tryx x i b g)).x γ S E κ = (ev T b).t γ S (kTry (xlD T.xex x) i (ev T g).x E κ) κ := rfl
theorem t_trt {a : C} {E2 : XC2} {κ : Kt} : (ev T (.trt a)).t γ S E2 κ = (ev T a).r γ S (onE E2 γ) κ.rt := rfl
theorem t_tif {c a b g : C} {E2 : XC2} {κ : Kt} : (ev T (.tif c a b g)).t γ S E2 κ = (ev T c).b γ S (onE E2 γ) (kBi (ev T a).t (ev T b).t γ E2 (thenT (ev T g).t E2 κ)) := rfl
theorem kBi_t {f g : Tb} {E2 : XC2} {κ : Kt} : kBi f g γ E2 κ true S = f γ S E2 κ := rfl
theorem kBi_f {f g : Tb} {E2 : XC2} {κ : Kt} : kBi f g γ E2 κ false S = g γ S E2 κ := rfl
theorem t_tnx  {E2 : XC2} {κ : Kt} : (ev T (.tnx)).t γ S E2 κ = κ.nx γ S := rfl
theorem thenT_n {g : Tb} {E2 : XC2} {κ : Kt} : (thenT g E2 κ).nx γ S = g γ S E2 κ := rfl
theorem thenT_r {g : Tb} {E2 : XC2} {κ : Kt} : (thenT g E2 κ).rt = κ.rt := rfl
theorem onE_k {E2 : XC2} {x : Exn} : onE E2 γ x S = E2 x γ S := rfl
def kTrM (o : Option Bool) (i : Nat) (g : Ex) (E' : XC) (κ : Kt) (x : Exn) (γ : List Slot) (S : Sto) : Prop := match o with
  | some true => g (γ.set i (.val (.obj x.c x.ns x.xs))) S EF (offK i κ)
  | some false => E' x S
  | none => False
theorem kTry_k {l : List (Nat × Bool)} {i : Nat} {g : Ex} {κ : Kt} {c : Nat} {ns : List Str} {xs : List D} : kTry l i g E κ ⟨c, ns, xs⟩ γ S = kTrM (l.lookup c) i g E κ ⟨c, ns, xs⟩ γ S := rfl
theorem kTrM_t {i : Nat} {g : Ex} {κ : Kt} {c : Nat} {ns : List Str} {xs : List D} : kTrM (some true) i g E κ ⟨c, ns, xs⟩ γ S = g (γ.set i (.val (.obj c ns xs))) S EF (offK i κ) := rfl
theorem offK_r {i : Nat} {κ : Kt} : (offK i κ).rt = κ.rt := rfl
theorem x_app {i : Nat} {a : C} {κ : Kt} : (ev T (.app i a)).x γ S E κ = ((∃ xs, γ[i]? = some (.own (.lst xs))) ∧ (ev T a).d γ S E (kApp i γ κ)) := rfl
theorem kApp_k {i : Nat} {κ : Kt} {d : D} : kApp i γ κ d S = apO i γ[i]? γ κ d S := rfl
theorem apO_k {i : Nat} {κ : Kt} {xs : List D} {d : D} : apO i (some (.own (.lst xs))) γ κ d S = (xs.length < sizeLine ∧ κ.nx (γ.set i (.own (.lst (xs ++ [d])))) S) := rfl
def kT3 (γ : List Slot) (κ : Kt) (v o j : D) (S : Sto) : Prop := ptR γ κ v o j S
def kT2 (fi : Ev D) (γ : List Slot) (E : XC) (κ : Kt) (v o : D) (S : Sto) : Prop := fi γ S E (kT3 γ κ v o)
def kT1 (fo fi : Ev D) (γ : List Slot) (E : XC) (κ : Kt) (v : D) (S : Sto) : Prop := fo γ S E (kT2 fi γ E κ v)
theorem x_put {o j v : C} {κ : Kt} : (ev T (.put o j v)).x γ S E κ = (ev T v).d γ S E (kT1 (ev T o).d (ev T j).d γ E κ) := rfl
theorem kT1_k {fo fi : Ev D} {κ : Kt} {v : D} : kT1 fo fi γ E κ v S = fo γ S E (kT2 fi γ E κ v) := rfl
theorem kT2_k {fi : Ev D} {κ : Kt} {v o : D} : kT2 fi γ E κ v o S = fi γ S E (kT3 γ κ v o) := rfl
theorem kT3_k {κ : Kt} {v o j : D} : kT3 γ κ v o j S = ptR γ κ v o j S := rfl
theorem ptR_k {κ : Kt} {v : D} {n : Nat} {i : Int} {xs : List D} (h : S.cs[n]? = some (.lst xs)) : ptR γ κ v (.ref n) (.int i) S = optW (ixN xs.length i) S fun j S => κ.nx γ ⟨S.cs.set n (.lst (xs.set j v)), S.n⟩ := by unfold ptR; simp only [h]
theorem runF_eq {n : Nat} {c : C} {ds : List D} {Q : Rv → Sto → Prop} : runF T n c ds S E Q = (ev T c).x (ds.map .val ++ List.replicate (n - ds.length) .no) S E (kEnd Q) := rfl
end
theorem dAdd_i {i j : Int} : dAdd (.int i) (.int j) = some (.v (.int (i + j))) := rfl
theorem dSub_i {i j : Int} : dSub (.int i) (.int j) = some (.v (.int (i - j))) := rfl
theorem dNeg_i {i : Int} : dNeg (.int i) = some (.int (-i)) := rfl
theorem dLt_i {i j : Int} : dLt (.int i) (.int j) = some (.bl (decide (i < j))) := rfl
theorem dGt_i {i j : Int} : dGt (.int i) (.int j) = some (.bl (decide (j < i))) := rfl
theorem dEq_i {i j : Int} : dEq (.int i) (.int j) = some (.bl (i == j)) := rfl
theorem dEq_s {i j : List Nat} : dEq (.str i) (.str j) = some (.bl (i == j)) := rfl
theorem gMax_i {i j : Int} : gMax [.int i, .int j] = some (.int (if j > i then j else i)) := rfl
theorem gMin_i {i j : Int} : gMin [.int i, .int j] = some (.int (if j < i then j else i)) := rfl
theorem gLen_l {i : List D} : gLen [.lst i] = some (.int i.length) := rfl
theorem gLen_t {i : List D} : gLen [.tup i] = some (.int i.length) := rfl
theorem gLen_r {i : List Int} : gLen [.scr i] = some (.int i.length) := rfl
theorem gTuple_l {i : List D} : gTuple [.lst i] = some (.tup i) := rfl
theorem gInt_b {b : Bool} : gInt [.bl b] = some (.int (if b then 1 else 0)) := rfl
theorem dIx_l {xs : List D} {i : Int} : dIx (.lst xs) (.int i) = atI xs i := rfl
theorem dIx_t {xs : List D} {i : Int} : dIx (.tup xs) (.int i) = atI xs i := rfl
theorem it_l {xs : List D} : itemsOf (.lst xs) = some xs := rfl
theorem it_t {xs : List D} : itemsOf (.tup xs) = some xs := rfl
theorem gEnum_l {xs : List D} : gEnum [.lst xs] = some (enumD 0 xs) := rfl
theorem gLen_s {i : List Nat} (h : i.length ≤ 1000000) : gLen [.str i] = some (.int i.length) := if_pos (Nat.le_trans h (by decide))
theorem dMul_i {i j : Int} (h : small64 i = true ∨ small64 j = true) : dMul (.int i) (.int j) = some (.v (.int (i * j))) := by
  have h' : (small64 i || small64 j) = true := by simpa using h
  exact if_pos h'
theorem dDiv_i {i j : Int} (h : 0 < j) (h2 : j < 18446744073709551616) : dDiv (.int i) (.int j) = some (.v (.int (i / j))) := by
  unfold dDiv
  refine if_pos ⟨h, Int.lt_trans h2 ?_⟩
  decide +kernel
theorem dMod_i {i j : Int} (h : 0 < j) : dMod (.int i) (.int j) = some (.v (.int (i % j))) := if_pos h
theorem dPow_i {i j : Int} (h : small64 i = true) (h1 : 0 ≤ j) (h2 : j ≤ 1000) : dPow (.int i) (.int j) = some (.v (.int (i ^ j.toNat))) := by
  unfold dPow
  exact if_pos (by simp [h, h1, h2])
theorem dPow_n {i j r : Int} (h : small64 i = true) (h1 : 0 ≤ j) (h2 : j ≤ 1000) (h3 : i ^ j.toNat = r) : dPow (.int i) (.int j) = some (.v (.int r)) := by rw [dPow_i h h1 h2, h3]
theorem small_of {i : Int} (h1 : -18446744073709551616 < i) (h2 : i < 18446744073709551616) : small64 i = true := by
  unfold small64
  exact decide_eq_true ⟨by simpa using h1, by simpa using h2⟩
theorem le_line {n : Nat} (h : n ≤ 1000000) : n ≤ sizeLine := Nat.le_trans h (by decide)
theorem lt_line {n : Nat} (h : n ≤ 1000000) : n < sizeLine := Nat.lt_of_le_of_lt h (by decide)
theorem dAdd_s {a b : List Nat} (h : a.length + b.length ≤ 1000000) : dAdd (.str a) (.str b) = some (.v (.str (a ++ b))) := if_pos (le_line h)
theorem dAdd_l {a b : List D} (h : a.length + b.length ≤ 1000000) : dAdd (.lst a) (.lst b) = some (.o (.lst (a ++ b))) := if_pos (le_line h)
theorem dSl_s {z : List Nat} {l h : Option Int} (hz : z.length ≤ 1000000) : dSl (.str z) l h = some (.v (.str (cutL z l h))) := if_pos (le_line hz)
theorem for_inv {t : Tg} {ws : List Nat} {body : Ex} {xs : List D} {γ : List Slot} {S : Sto} {E : XC} {κ : Kt} (I : Nat → List Slot → Sto → Prop) (h0 : I 0 (fg γ ws) S)
    (step : ∀ i x γ S, xs[i]? = some x → I i γ S → kBind t body γ E (kTurn ws (I (i + 1)) κ) x S) (hend : ∀ γ S, I xs.length γ S → κ.nx γ S) : kFor t ws body γ E κ xs S := by
  unfold kFor
  cases xs with
  | nil => exact hend _ _ h0
  | cons x xs => exact .inl ⟨I, h0, step, hend⟩
theorem comp_inv {t : Tg} {c : Ev Bool} {e : Ev D} {xs : List D} {γ : List Slot} {S : Sto} {Q : Rv → Sto → Prop} (I : Nat → List D → Sto → Prop) (hl : xs.length ≤ 1000000) (h0 : I 0 [] S)
    (step : ∀ i x ys S, xs[i]? = some x → I i ys S → compF t c e γ x S fun o S => I (i + 1) (ys ++ o.toList) S) (hend : ∀ ys S, I xs.length ys S → Q (.o (.lst ys)) S) : kComp t c e γ Q xs S :=
  ⟨le_line hl, I, h0, step, hend⟩
theorem comp_pure {t : Tg} {c : Ev Bool} {e : Ev D} {xs : List D} {γ : List Slot} {S : Sto} {Q : Rv → Sto → Prop} (g : D → Option D) (hl : xs.length ≤ 1000000)
    (step : ∀ x, x ∈ xs → ∀ Q : Option D → Sto → Prop, Q (g x) S → compF t c e γ x S Q) (hend : Q (.o (.lst (xs.filterMap g))) S) : kComp t c e γ Q xs S := by
  refine comp_inv (fun i ys S' => ys = (xs.take i).filterMap g ∧ S' = S) hl ⟨rfl, rfl⟩ ?_ ?_
  · rintro i x ys S' hx ⟨rfl, rfl⟩
    refine step x (List.mem_of_getElem? hx) _ ⟨?_, rfl⟩
    rw [List.take_succ, List.filterMap_append, hx]
    congr 1
  · rintro ys S' ⟨rfl, rfl⟩
    rw [List.take_length]
    exact hend
theorem comp_map {t : Tg} {c : Ev Bool} {e : Ev D} {xs : List D} {γ : List Slot} {S : Sto} {Q : Rv → Sto → Prop} (g : D → D) (hl : xs.length ≤ 1000000)
    (step : ∀ x, x ∈ xs → ∀ Q : Option D → Sto → Prop, Q (some (g x)) S → compF t c e γ x S Q) (hend : Q (.o (.lst (xs.map g))) S) : kComp t c e γ Q xs S := by
  refine comp_pure (fun x => some (g x)) hl step ?_
  have e : xs.filterMap (fun x => some (g x)) = xs.map g := by rw [← List.filterMap_eq_map]; rfl
  rw [e]
  exact hend
theorem comp_filter {t : Tg} {c : Ev Bool} {e : Ev D} {xs : List D} {γ : List Slot} {S : Sto} {Q : Rv → Sto → Prop} (p : D → Bool) (hl : xs.length ≤ 1000000)
    (step : ∀ x, x ∈ xs → ∀ Q : Option D → Sto → Prop, (p x = true → Q (some x) S) → (p x = false → Q none S) → compF t c e γ x S Q) (hend : Q (.o (.lst (xs.filter p))) S) : kComp t c e γ Q xs S := by
  refine comp_pure (fun x => if p x then some x else none) hl (fun x hx Q q => step x hx Q (fun h => by simpa [h] using q) (fun h => by simpa [h] using q)) ?_
  have e : ∀ ys : List D, ys.filterMap (fun x => if p x then some x else none) = ys.filter p := fun ys => by
    induction ys with
    | nil => rfl
    | cons y ys ih => simp only [List.filterMap_cons, List.filter_cons, ← ih]; cases p y <;> rfl
  rw [e]
  exact hend
end DL
namespace DL
open PySem PySem.Spec L2 SeqAt
local macro_rules | `(tactic| exists $hs,*) => `(tactic| simp -implicitDefEqProofs only [optW_s, kRv_k, kVal_v, kVal_l, kVal_d, kCell_o, kBl_k, kInt_k, kOB_k, drv_bl, drv_int, drv_str, drv_tup, drv_lst, drv_scr, slD_k, slP_l, d_var, r_var, o_var, p_var, o_peek, d_con, r_con, o_con, kTupF_k, kLstF_k, kl0, kt1, kl1, kt2, kl2, kt3, kl3, kt4, kl4, kl14, r_tup, d_tup, o_tup, r_lst, d_lst, o_lst, r_dct0, d_dct0, r_op, d_op, o_op, p_op, r_cmp, d_cmp, b_cmp, r_ix, d_ix, o_ix, kO1_k, kO2_vv, kO2_o0, kO2_o1, kO2_o2, kO2_o3, kO2_o4, kO2_o5, cmG0, cmG2, cmG4, cmG7, b_and, r_and, b_or, o_or, kAnd_t, kAnd_f, kOr_t, kOr_f, b_not, kNot_k, b_yes, d_ifx, r_ifx, kIf_t, kIf_f, r_neg, p_neg, kUF_vu, r_sl, d_sl, o_sl, kS1_k, kS2_k, kS3_k, p_nil, r_bi, d_bi, o_bi, kCa_0, kCa_3, kCa_4, kCa_5, kCa_7, kCa_8, kNew_k, kCa_10, r_join, d_join, kJ1_s, kJ2_k, r_call, d_call, o_call, b_call, kF1_k, kF2_k, l_nil, ol_nil, l_cons, ol_cons, kC1_k, kC2_k, r_comp, d_comp, o_comp, l_itv, kIt_k, l_itr1, l_ite, kCIF_k, x_set, x_setO, x_setC, kSet_k, kSetO_k, x_ret, x_retO, rtO_k, x_cond, kCond_t, kCond_f, x_loop, x_done, x_seq, kSq_n, kSq_r, kEnd_r, kTurn_n, kTurn_r, fg_n, fg_c, kBind_o, kBind_2, kSome_k, kKeep_t, kKeep_f, compF_o, x_app, kApp_k, apO_k, x_put, kT1_k, kT2_k, kT3_k, dAdd_i, dSub_i, dNeg_i, dLt_i, dGt_i, dEq_i, dEq_s, gMax_i, gMin_i, gLen_l, gLen_t, gLen_r, gTuple_l, gInt_b, dIx_l, dIx_t, it_l, it_t, gEnum_l, List.getElem?_cons_zero, List.getElem?_cons_succ, List.set_cons_zero, List.set_cons_succ, List.map_cons, List.map_nil, List.cons_append, List.nil_append, Option.bind_some, Option.map_some, Option.bind_none, Option.map_none, $[$hs:term],*])
def c_take : C := (.seq (.cond (.cmp 4 (.ix (.var 0) (.con (.int 0))) (.con (.int 0))) (.seq (.set 4 (.op 4 (.ix (.var 0) (.con (.int 0))) (.var 1)))
    (.seq (.put (.var 0) (.con (.int 0)) (.op 3 (.ix (.var 0) (.con (.int 0))) (.var 1)))
    (.seq (.ret (.var 4))
    .done)))
    .done)
    (.seq (.put (.var 0) (.con (.int 2)) (.op 0 (.ix (.var 0) (.con (.int 2))) (.con (.int 1))))
    (.seq (.set 2 (.op 4 (.op 0 (.op 0 (.op 2 (.ix (.var 0) (.con (.int 1))) (.con (.int 48271))) (.op 2 (.con (.int 104729)) (.ix (.var 0) (.con (.int 2))))) (.con (.int 101))) (.con (.int 2147483629))))
    (.seq (.set 2 (.op 4 (.op 5 (.var 2) (.con (.int 5))) (.con (.int 2147483587))))
    (.seq (.set 3 (.op 4 (.op 5 (.op 0 (.op 0 (.var 2) (.op 2 (.op 2 (.con (.int 69621)) (.ix (.var 0) (.con (.int 2)))) (.ix (.var 0) (.con (.int 2))))) (.op 4 (.ix (.var 0) (.con (.int 1))) (.con (.int 65537)))) (.con (.int 3))) (.con (.int 2147483563))))
    (.seq (.ret (.op 4 (.op 3 (.op 4 (.op 2 (.var 3) (.con (.int 40692))) (.con (.int 2147483549))) (.con (.int 64))) (.var 1)))
    .done))))))
def c_pool : C := (.seq (.set 2 (.con (.int 0)))
    (.seq (.cond (.cmp 2 (.var 1) (.bi 0 (.cons (.var 0) .nil))) (.seq (.set 2 (.ix (.var 0) (.var 1)))
    .done)
    .done)
    (.seq (.ret (.lst (.cons (.bi 3 (.cons (.con (.int 0)) (.cons (.op 1 (.var 2) (.op 5 (.con (.int 10)) (.con (.int 18)))) .nil))) (.cons (.op 4 (.var 2) (.con (.int 1000000007))) (.cons (.op 0 (.op 2 (.con (.int 7919)) (.var 1)) (.con (.int 1))) .nil)))))
    .done)))
theorem FnG.imp {P : Program} {w : World} {K : PySem.W.Frag} {mg : Str → Option Value} {base : Heap} {CX : CXT} {k : Nat} {f : Addr} {fd : FuncData} {ps : List Str} {sp sp' : Sp} (F : FnG P w K mg base CX k f fd ps sp) (h : ∀ vs H Q E, sp' vs H Q E → sp vs H Q E) : FnG P w K mg base CX k f fd ps sp' :=
  ⟨fun vs H Q E q => F.len vs H Q E (h vs H Q E q), fun A out s H ar us vs Q E hg hr e b v q => F.run A out s H ar us vs Q E hg hr e b v (h vs H Q E q)⟩
def takeW : FD := fun ds S E Q => ∃ p m, ds = [.ref p, .int m] ∧ S.cs[p]? = some .pool ∧ 0 < m ∧ m < 18446744073709551616 ∧ S.n < 9000000 ∧ ∀ d, 0 ≤ d → d < m → Q (.v (.int d)) ⟨S.cs, S.n + 1⟩
def poolW : FD := fun ds S E Q => ∃ ns k, ds = [.scr ns, .int k] ∧ 0 ≤ k ∧ k ≤ 62 ∧ ns.length ≤ 1000000 ∧ Q (.o .pool) S
theorem at0 {a b c : D} : atI [a, b, c] 0 = some a := rfl
theorem at1 {a b c : D} : atI [a, b, c] 1 = some b := rfl
theorem at2 {a b c : D} : atI [a, b, c] 2 = some c := rfl
theorem ix0l {a b c : D} : ixN [a, b, c].length 0 = some 0 := rfl
theorem ix2l {a b c : D} : ixN [a, b, c].length 2 = some 2 := rfl
theorem mul_lt {a b A B : Int} (h0 : 0 ≤ a) (h1 : a ≤ A) (h2 : 0 ≤ b) (h3 : b ≤ B) : a * b ≤ A * B := Int.mul_le_mul h1 h3 h2 (Int.le_trans h0 h1)
def Ld (x y z : Int) : Cell := .lst [.int x, .int y, .int z]
theorem take_ok {T : Tab} {S : Sto} {E : XC} {Q : Rv → Sto → Prop} {p : Nat} {x y z m : Int} (h1 : S.cs[p]? = some (Ld x y z)) (h2 : 0 ≤ x) (h3 : 0 ≤ y) (h4 : y < 1000000007) (h5 : 0 ≤ z) (h6 : z < 10000000) (hm : 0 < m) (hm2 : m < 18446744073709551616)
    (q : ∀ d x' z' : Int, 0 ≤ d → d < m → 0 ≤ x' → 0 ≤ z' → z' ≤ z + 1 → Q (.v (.int d)) ⟨S.cs.set p (Ld x' y z'), S.n⟩) : runF T 5 c_take [.ref p, .int m] S E Q := by
  have hp : p < S.cs.length := (List.getElem?_eq_some_iff.mp h1).1
  rw [runF_eq]
  unfold c_take
  show (ev T _).x [.val (.ref p), .val (.int m), .no, .no, .no] S E _
  have d1 : dr S (.ref p) = .lst [.int x, .int y, .int z] := drv_ref h1 rfl
  exists d1, at0
  by_cases hx : 0 < x
  · exists decide_eq_true hx, d1, at0, dMod_i hm, dDiv_i hm hm2
    rw [ptR_k h1]
    exists ix0l
    exact q _ _ _ (Int.emod_nonneg _ (by omega)) (Int.emod_lt_of_pos _ hm) (Int.ediv_nonneg h2 (by omega)) h5 (by omega)
  · have hs : ∀ {n : Int}, -18446744073709551616 < n → n < 18446744073709551616 → small64 n = true := small_of
    exists decide_eq_false hx, d1, at2
    rw [ptR_k h1]
    exists ix2l
    have h1' : (S.cs.set p (Ld x y (z + 1)))[p]? = some (Ld x y (z + 1)) := by simp [hp]
    have d2 : dr ⟨S.cs.set p (Ld x y (z + 1)), S.n⟩ (.ref p) = .lst [.int x, .int y, .int (z + 1)] := drv_ref h1' rfl
    have e1 : dMul (.int y) (.int 48271) = some (.v (.int (y * 48271))) := dMul_i (.inr (by decide))
    have e2 : dMul (.int 104729) (.int (z + 1)) = some (.v (.int (104729 * (z + 1)))) := dMul_i (.inl (by decide))
    have e3 : ∀ a : Int, dMod (.int a) (.int 2147483629) = some (.v (.int (a % 2147483629))) := fun a => dMod_i (by decide)
    unfold Ld at d2 q
    exists d2, at2, at1, e1, e2, e3
    generalize ho : (y * 48271 + 104729 * (z + 1) + 101) % 2147483629 = o1
    have o1a : 0 ≤ o1 := by rw [← ho]; exact Int.emod_nonneg _ (by decide)
    have o1b : o1 < 2147483629 := by rw [← ho]; exact Int.emod_lt_of_pos _ (by decide)
    have e4 : dPow (.int o1) (.int 5) = some (.v (.int (o1 ^ 5))) := dPow_i (hs (by omega) (by omega)) (by decide) (by decide)
    have e5 : ∀ a : Int, dMod (.int a) (.int 2147483587) = some (.v (.int (a % 2147483587))) := fun a => dMod_i (by decide)
    have e6 : dMul (.int 69621) (.int (z + 1)) = some (.v (.int (69621 * (z + 1)))) := dMul_i (.inl (by decide))
    have e7 : dMul (.int (69621 * (z + 1))) (.int (z + 1)) = some (.v (.int (69621 * (z + 1) * (z + 1)))) := dMul_i (.inr (hs (by omega) (by omega)))
    have e8 : ∀ a : Int, dMod (.int a) (.int 65537) = some (.v (.int (a % 65537))) := fun a => dMod_i (by decide)
    exists e4, e5, e6, e7, e8, d2, at2, at1
    generalize ho2 : o1 ^ 5 % 2147483587 = o2
    have o2a : 0 ≤ o2 := by rw [← ho2]; exact Int.emod_nonneg _ (by decide)
    have o2b : o2 < 2147483587 := by rw [← ho2]; exact Int.emod_lt_of_pos _ (by decide)
    have o3a : 0 ≤ y % 65537 := Int.emod_nonneg _ (by decide)
    have o3b : y % 65537 < 65537 := Int.emod_lt_of_pos _ (by decide)
    have m1 : 0 ≤ 69621 * (z + 1) * (z + 1) := Int.mul_nonneg (by omega) (by omega)
    have m2 : 69621 * (z + 1) * (z + 1) ≤ 69621 * 10000000 * 10000000 := mul_lt (by omega) (by omega) (by omega) (by omega)
    have e9 : dPow (.int (o2 + 69621 * (z + 1) * (z + 1) + y % 65537)) (.int 3) = some (.v (.int ((o2 + 69621 * (z + 1) * (z + 1) + y % 65537) ^ 3))) := dPow_i (hs (by omega) (by omega)) (by decide) (by decide)
    have e10 : ∀ a : Int, dMod (.int a) (.int 2147483563) = some (.v (.int (a % 2147483563))) := fun a => dMod_i (by decide)
    have e11 : ∀ a : Int, dMul (.int a) (.int 40692) = some (.v (.int (a * 40692))) := fun a => dMul_i (.inr (by decide))
    have e12 : ∀ a : Int, dMod (.int a) (.int 2147483549) = some (.v (.int (a % 2147483549))) := fun a => dMod_i (by decide)
    have e13 : ∀ a : Int, dDiv (.int a) (.int 64) = some (.v (.int (a / 64))) := fun a => dDiv_i (by decide) (by decide)
    exists e9, e10, e11, e12, e13, dMod_i hm
    exact q _ _ _ (Int.emod_nonneg _ (by omega)) (Int.emod_lt_of_pos _ hm) h2 (by omega) (Int.le_refl _)
theorem pool_ok {T : Tab} {S : Sto} {E : XC} {Q : Rv → Sto → Prop} {ns : List Int} {k : Int} (hk0 : 0 ≤ k) (hk : k ≤ 62) (hl : ns.length ≤ 1000000)
    (q : ∀ x y z : Int, 0 ≤ x → 0 ≤ y → y < 1000000007 → 0 ≤ z → z ≤ 1000000 → Q (.o (Ld x y z)) S) : runF T 3 c_pool [.scr ns, .int k] S E Q := by
  rw [runF_eq]
  unfold c_pool
  show (ev T _).x [.val (.scr ns), .val (.int k), .no] S E _
  have e1 : dPow (.int 10) (.int 18) = some (.v (.int 1000000000000000000)) := dPow_n (by decide) (by decide) (by decide) (by decide)
  have e2 : ∀ c : Int, dMod (.int c) (.int 1000000007) = some (.v (.int (c % 1000000007))) := fun c => dMod_i (by decide)
  have e3 : dMul (.int 7919) (.int k) = some (.v (.int (7919 * k))) := dMul_i (.inl (by decide))
  have fin : ∀ c : Int, Q (.o (Ld (if c - 1000000000000000000 > 0 then c - 1000000000000000000 else 0) (c % 1000000007) (7919 * k + 1))) S := by
    intro c
    refine q _ _ _ ?_ (Int.emod_nonneg _ (by decide)) (Int.emod_lt_of_pos _ (by decide)) (by omega) (by omega)
    split <;> omega
  unfold Ld at fin
  by_cases hlt : k < ns.length
  · have hn : k.toNat < ns.length := by omega
    obtain ⟨c, hc⟩ : ∃ c : Int, dIx (.scr ns) (.int k) = some (.int c) := by
      refine ⟨ns[k.toNat], ?_⟩
      have e : ixN ns.length k = some k.toNat := by simp only [ixN, hk0, hlt, if_true]
      show (atI ns k).map D.int = _
      unfold atI
      rw [e]
      simp [hn]
    exists decide_eq_true hlt, hc, e1, e2, e3
    exact fin c
  · exists decide_eq_false hlt, e1, e2, e3
    exact fin 0
section
variable {K : Kx} {B : Hp} {ρ : List Addr} {H : Hp} {S : Sto}
theorem Cells.pool_list (c : Cells K B ρ H S) {p : Nat} (h : S.cs[p]? = some .pool) : ∃ x y z : Int, 0 ≤ x ∧ 0 ≤ y ∧ y < 1000000007 ∧ 0 ≤ z ∧ z ≤ 1000000 + S.n ∧ Cells K B ρ H ⟨S.cs.set p (Ld x y z), S.n⟩ := by
  have hp : p < S.cs.length := (List.getElem?_eq_some_iff.mp h).1
  have hp2 : p < ρ.length := by rw [c.len]; exact hp
  obtain ⟨o, ho, r⟩ := c.cell p ρ[p] .pool (List.getElem?_eq_getElem hp2) h
  cases r with
  | @pool x y z h1 h2 h3 h4 h5 =>
    refine ⟨x, y, z, h1, h2, h3, h4, h5, c.same, by simp [c.len], c.nd, c.apart, fun n a k e1 e2 => ?_⟩
    by_cases e : n = p
    · subst e
      rw [List.getElem?_eq_getElem hp2] at e1
      cases e1
      rw [List.getElem?_set_self hp] at e2
      cases e2
      exact ⟨_, ho, .lst (.cons (.int _) (.cons (.int _) (.cons (.int _) .nil)))⟩
    · rw [List.getElem?_set_ne (Ne.symm e)] at e2
      exact c.cell n a k e1 e2
theorem Cells.list_pool {p N : Nat} {x y z : Int} {cs : List Cell} (c : Cells K B ρ H ⟨cs.set p (Ld x y z), N⟩) (h : cs[p]? = some .pool) (h1 : 0 ≤ x) (h2 : 0 ≤ y) (h3 : y < 1000000007) (h4 : 0 ≤ z) (h5 : z ≤ 1000000 + ((N + 1 : Nat) : Int)) : Cells K B ρ H ⟨cs, N + 1⟩ := by
  have hp : p < cs.length := (List.getElem?_eq_some_iff.mp h).1
  refine ⟨c.same, by rw [c.len]; simp, c.nd, c.apart, fun n a k e1 e2 => ?_⟩
  by_cases e : n = p
  · subst e
    rw [show cs[n]? = some .pool from h] at e2
    cases e2
    obtain ⟨o, ho, r⟩ := c.cell n a (Ld x y z) e1 (List.getElem?_set_self hp)
    cases r with
    | lst r =>
      match r with
      | .cons (.int _) (.cons (.int _) (.cons (.int _) .nil)) => exact ⟨_, ho, .pool h1 h2 h3 h4 h5⟩
  · obtain ⟨o, ho, r⟩ := c.cell n a k e1 ((List.getElem?_set_ne (Ne.symm e)).trans e2)
    exact ⟨o, ho, r.mono (.refl _) (fun _ _ z => z) (Nat.le_succ _)⟩
end
theorem spD_take {K : Kx} {T : Tab} : ∀ vs H Q E, spD K 2 takeW vs H Q E → spD K 2 (runF T 5 c_take) vs H Q E := by
  rintro vs H Q E ⟨B, ρ, S, ds, E', Q', h1, c, h3, ⟨p, m, rfl, hp, hm, hm2, hn, q⟩, h5, h6⟩
  obtain ⟨x, y, z, b1, b2, b3, b4, b5, c2⟩ := c.pool_list hp
  have hp' : p < S.cs.length := (List.getElem?_eq_some_iff.mp hp).1
  refine ⟨B, ρ, _, _, fun _ _ => False, fun r S' => ∃ d x' z' : Int, r = .v (.int d) ∧ 0 ≤ d ∧ d < m ∧ 0 ≤ x' ∧ 0 ≤ z' ∧ z' ≤ z + 1 ∧ S' = ⟨S.cs.set p (Ld x' y z'), S.n⟩, rfl, c2, h3, take_ok (List.getElem?_set_self hp') b1 b2 b3 b4 (by omega) hm hm2 ?_, fun _ _ z => z.elim, ?_⟩
  · intro d x' z' g1 g2 g3 g4 g5
    exact ⟨d, x', z', rfl, g1, g2, g3, g4, g5, by rw [List.set_set]⟩
  · rintro r S' ⟨d, x', z', rfl, g1, g2, g3, g4, g5, rfl⟩ v H' B' ρ' x1 c1 r1
    exact h6 _ _ (q d g1 g2) v H' B' ρ' x1 (c1.list_pool hp g3 b2 b3 g4 (by omega)) r1
theorem spD_pool {K : Kx} {T : Tab} : ∀ vs H Q E, spD K 2 poolW vs H Q E → spD K 2 (runF T 3 c_pool) vs H Q E := by
  rintro vs H Q E ⟨B, ρ, S, ds, E', Q', h1, c, h3, ⟨ns, k, rfl, hk, hk2, hn, q⟩, h5, h6⟩
  refine ⟨B, ρ, S, _, fun _ _ => False, fun r S' => ∃ x y z : Int, r = .o (Ld x y z) ∧ 0 ≤ x ∧ 0 ≤ y ∧ y < 1000000007 ∧ 0 ≤ z ∧ z ≤ 1000000 ∧ S' = S, rfl, c, h3, pool_ok hk hk2 hn ?_, fun _ _ z => z.elim, ?_⟩
  · intro x y z g1 g2 g3 g4 g5
    exact ⟨x, y, z, rfl, g1, g2, g3, g4, g5, rfl⟩
  · rintro r S' ⟨x, y, z, rfl, g1, g2, g3, g4, g5, rfl⟩ a u H' B' ρ' x1 c1 na ha nb nr r1
    refine h6 _ _ q a u H' B' ρ' x1 c1 na ha nb nr ?_
    cases r1 with
    | lst r =>
      match r with
      | .cons (.int _) (.cons (.int _) (.cons (.int _) .nil)) => exact .pool g1 g2 g3 g4 (by omega)
end DL
namespace DL
open PySem L2 SeqAt
theorem pick {α : Type} {xs : List α} {i : Int} (h0 : 0 ≤ i) (h1 : i < xs.length) : ∃ x ∈ xs, atI xs i = some x := by
  have hn : i.toNat < xs.length := by omega
  refine ⟨xs[i.toNat], List.getElem_mem hn, ?_⟩
  have e : ixN xs.length i = some i.toNat := by
    simp only [ixN, h0, h1, if_true]
  unfold atI
  rw [e]
  simp [hn]
theorem dIx_s {z : List Nat} {i : Int} (h0 : 0 ≤ i) (h1 : i < z.length) (hl : z.length ≤ sizeLine) : ∃ c ∈ z, dIx (.str z) (.int i) = some (.str [c]) := by
  obtain ⟨c, hc, e⟩ := pick h0 h1
  refine ⟨c, hc, ?_⟩
  show (if z.length ≤ sizeLine then (atI z i).map (fun c => D.str [c]) else none) = _
  rw [if_pos hl, e]; rfl
theorem gRange1_i {j : Int} (h0 : 0 ≤ j) (h1 : j ≤ 1000000000) : gRange1 [.int j] = some (rangeD 0 j.toNat) := if_pos ⟨Int.le_trans (by decide) h0, Int.lt_of_le_of_lt h1 (by decide)⟩
theorem range_at {n i : Nat} {x : D} (h : (rangeD 0 n)[i]? = some x) : i < n ∧ x = .int i := by
  unfold rangeD at h
  simp only [List.getElem?_map, Option.map_eq_some_iff] at h
  obtain ⟨k, hk, rfl⟩ := h
  obtain ⟨h1, h2⟩ := List.getElem?_eq_some_iff.mp hk
  simp at h1 h2
  subst h2
  exact ⟨h1, by simp⟩
theorem range_len {lo : Int} {n : Nat} : (rangeD lo n).length = n := by simp [rangeD]
theorem strs_map (zs : List (List Nat)) : strsOf (zs.map D.str) = some zs := by
  induction zs with
  | nil => rfl
  | cons z zs ih => simp [strsOf, ih]
theorem dJoin_0 {zs : List (List Nat)} (h : (zs.map (·.length)).sum ≤ 16777216) : dJoin (.str []) (.lst (zs.map D.str)) = some (.str (TL.joinL [] zs)) := by
  simp only [dJoin, strs_map, Option.bind_some]
  exact if_pos (by simpa using h)
def lettL : List Nat := [97, 98, 99, 100, 101, 102, 103, 104, 105, 106, 107, 108, 109, 110, 111, 112, 113, 114, 115, 116, 117, 118, 119, 120, 121, 122]
def keptL : List (List Nat) := [[111, 102, 102], [119, 105, 116, 104], [107, 110, 111, 119, 115]]
structure Nm (w : List Nat) : Prop where
  pos : 1 ≤ w.length
  le : w.length ≤ 8
  let_ : ∀ c ∈ w, c ∈ lettL
  kept : w ∉ keptL
theorem sub_len {α : Type} [DecidableEq α] : ∀ {l m : List α}, l.Nodup → (∀ x ∈ l, x ∈ m) → l.length ≤ m.length
  | [], _, _, _ => Nat.zero_le _
  | x :: l, m, hn, hs => by
    rw [List.nodup_cons] at hn
    have hx := hs x (by simp)
    have ih := sub_len (m := m.erase x) hn.2 fun y hy => (List.mem_erase_of_ne (fun e : y = x => hn.1 (by rw [← e]; exact hy))).mpr (hs y (by simp [hy]))
    rw [List.length_erase_of_mem hx] at ih
    have := List.length_pos_of_mem hx
    simp only [List.length_cons]
    omega
theorem join_chars (cs : List Nat) : TL.joinL [] (cs.map fun c => [c]) = cs := by
  induction cs with
  | nil => rfl
  | cons c cs ih =>
    cases cs with
    | nil => rfl
    | cons d ds => simp only [List.map_cons, TL.joinL] at ih ⊢; rw [ih]; rfl
theorem dJoin_c {cs : List Nat} (h : cs.length ≤ 16777216) : dJoin (.str []) (.lst (cs.map fun c => .str [c])) = some (.str cs) := by
  have e : (cs.map fun c => D.str [c]) = (cs.map fun c => [c]).map D.str := by rw [List.map_map]; rfl
  have hs : ((cs.map fun c => [c]).map (·.length)).sum = cs.length := by
    clear h e
    induction cs with
    | nil => rfl
    | cons c cs ih => simp only [List.map_cons, List.sum_cons, ih, List.length_cons, List.length_nil]; omega
  rw [e, dJoin_0 (by rw [hs]; exact h), join_chars]
theorem sIx_in {n d : Nat} {i : Int} (h0 : 0 ≤ i) (h1 : i ≤ n) : HT.sIx n d (some i) = i.toNat := by
  unfold HT.sIx
  simp only
  split <;> omega
theorem sIx_no {n d : Nat} : HT.sIx n d none = d := rfl
theorem cut_to {α : Type} {w : List α} {i : Int} (h0 : 0 ≤ i) (h1 : i ≤ w.length) : cutL w none (some i) = w.take i.toNat := by
  unfold cutL
  rw [sIx_in h0 h1, sIx_no]
  simp
theorem cut_from {α : Type} {w : List α} {i : Int} (h0 : 0 ≤ i) (h1 : i ≤ w.length) : cutL w (some i) none = w.drop i.toNat := by
  unfold cutL
  rw [sIx_in h0 h1, sIx_no]
  rw [List.take_of_length_le (by simp)]
theorem dEqN_ss {x y : List Nat} : dEqN 60 (.str x) (.str y) = some (x == y) := rfl
theorem in_strs {u : List Nat} {ws : List (List Nat)} : anyO (fun x => dEqN 60 x (.str u)) (ws.map D.str) = some (decide (u ∈ ws)) := by
  induction ws with
  | nil => rfl
  | cons w ws ih =>
    simp only [List.map_cons, anyO, ih, dEqN_ss]
    by_cases h : w = u
    · subst h; simp
    · have h' : ¬ u = w := fun e => h e.symm
      simp [h, h']
theorem dNotIn_l {u : List Nat} {ws : List (List Nat)} : dNotIn (.str u) (.lst (ws.map D.str)) = some (.bl (!decide (u ∈ ws))) := by
  simp only [dNotIn, inB, in_strs, Option.map_some]
theorem dNotIn_t {u : List Nat} {ws : List (List Nat)} : dNotIn (.str u) (.tup (ws.map D.str)) = some (.bl (!decide (u ∈ ws))) := by
  simp only [dNotIn, inB, in_strs, Option.map_some]
def swapAt (w : List Nat) (a : Nat) (c : Nat) : List Nat := w.take a ++ [c] ++ w.drop (a + 1)
theorem swap_len {w : List Nat} {a c : Nat} (h : a < w.length) : (swapAt w a c).length = w.length := by
  simp only [swapAt, List.length_append, List.length_take, List.length_drop, List.length_cons, List.length_nil]; omega
theorem swap_inj {w : List Nat} {a c d : Nat} (h : a < w.length) (e : swapAt w a c = swapAt w a d) : c = d := by
  simp only [swapAt, List.append_assoc] at e
  have e2 := List.append_cancel_left e
  simp at e2
  exact e2
theorem free_one {w : List Nat} {a : Nat} {ws : List (List Nat)} (h : a < w.length) (hl : ws.length ≤ 20) : ∃ c ∈ lettL, swapAt w a c ∉ ws ∧ swapAt w a c ∉ keptL := by
  refine Classical.byContradiction fun hno => ?_
  have hall : ∀ x ∈ lettL.map (swapAt w a), x ∈ ws ++ keptL := fun x hx => by
    obtain ⟨c, hc, rfl⟩ := List.mem_map.mp hx
    refine Classical.byContradiction fun h2 => hno ⟨c, hc, ?_⟩
    simpa using h2
  have hnd : (lettL.map (swapAt w a)).Nodup := by
    rw [List.nodup_iff_pairwise_ne, List.pairwise_map]
    exact (show lettL.Pairwise (· ≠ ·) by decide).imp fun {x y} hne e => hne (swap_inj h e)
  have := sub_len hnd hall
  simp only [List.length_map, List.length_append] at this
  have e1 : lettL.length = 26 := rfl
  have e2 : keptL.length = 3 := rfl
  omega
theorem lt_of_leZ {a b : List Nat} (h : leZ a b = true) (hne : a ≠ b) : a < b := by
  have h1 := leZ_iff.mp h
  rcases List.le_iff_lt_or_eq.mp h1 with h2 | h2
  · exact h2
  · exact absurd h2 hne
theorem rise_of {l : List (List Nat)} (h : l.Pairwise (fun a b => leZ a b = true)) (hn : l.Nodup) : l.Pairwise (· < ·) := by
  rw [List.nodup_iff_pairwise_ne] at hn
  exact (h.and hn).imp fun {a b} h => lt_of_leZ h.1 h.2
theorem strs_some (ws : List (List Nat)) : strsOf (ws.map D.str) = some ws := strs_map ws
theorem sort_names {ws : List (List Nat)} (hl : ws.length < 64) (hn : ws.Nodup) : ∃ pl : List (List Nat), gSorted [.lst (ws.map D.str)] = some (pl.map D.str) ∧ pl.Perm ws ∧ pl.Pairwise (· < ·) := by
  refine ⟨ws.mergeSort leZ, ?_, List.mergeSort_perm ws leZ, rise_of (List.pairwise_mergeSort leZ_trans leZ_total ws) ((List.mergeSort_perm ws leZ).nodup_iff.mpr hn)⟩
  simp only [gSorted, strs_some]
  exact if_pos hl
theorem strs_tup {x : D} {xs : List D} (h : (headOf x).isSome = true) : strsOf (x :: xs) = none := by
  unfold headOf at h
  split at h
  · rfl
  · cases h
theorem sort_heads {xs : List D} (h0 : xs ≠ []) (ha : ∀ x ∈ xs, (headOf x).isSome = true) (hn : (xs.map headD).Nodup) (hl : xs.length ≤ 1000) : ∃ ys : List D, gSorted [.lst xs] = some ys ∧ ys.Perm xs ∧ (ys.map headD).Pairwise (· < ·) := by
  have hp := List.mergeSort_perm xs leH
  refine ⟨xs.mergeSort leH, ?_, hp, rise_of ?_ ((hp.map headD).nodup_iff.mpr hn)⟩
  · cases xs with
    | nil => exact absurd rfl h0
    | cons x r =>
      simp only [gSorted, strs_tup (ha x (by simp))]
      refine if_pos ?_
      simp only [Bool.and_eq_true, List.all_eq_true, decide_eq_true_eq]
      exact ⟨⟨ha, hn⟩, hl⟩
  · rw [List.pairwise_map]
    exact List.pairwise_mergeSort (le := leH) (fun a b c => leZ_trans (headD a) (headD b) (headD c)) (fun a b => leZ_total (headD a) (headD b)) xs
structure DoorD (pl : List (List Nat)) (d : D) : Prop where
  ex : ∃ (n e1 e2 : List Nat) (b : Bool), d = .tup [.str n, .str e1, .str e2, .bl b] ∧ Nm n ∧ (e1 = [111, 102, 102] ∨ e1 ∈ pl) ∧ (e2 = [111, 102, 102] ∨ e2 ∈ pl) ∧ e1 ≠ e2
structure DressD (d : D) : Prop where
  ex : ∃ (n : List Nat) (a b : Int), d = .tup [.str n, .int a, .int b] ∧ Nm n ∧ 0 ≤ a ∧ a ≤ 1000 ∧ 0 ≤ b ∧ b ≤ 1000
structure HouseD (d : D) : Prop where
  ex : ∃ (pl : List (List Nat)) (ds rs : List D), d = .tup [.tup (pl.map D.str), .tup ds, .tup rs] ∧ 1 ≤ pl.length ∧ pl.length ≤ 6 ∧ (∀ w ∈ pl, Nm w) ∧ pl.Pairwise (· < ·) ∧
    1 ≤ ds.length ∧ ds.length ≤ 12 ∧ (∀ d ∈ ds, DoorD pl d) ∧ (ds.map headD).Pairwise (· < ·) ∧ 1 ≤ rs.length ∧ rs.length ≤ 8 ∧ (∀ r ∈ rs, DressD r) ∧ (rs.map headD).Pairwise (· < ·)
theorem three {m x y z : Int} (h0 : 0 ≤ m) : ∃ f : Int, (f = x ∨ f = y ∨ f = z) ∧ atI [D.int x, D.int y, D.int z] (if m < 2 then m else 2) = some (.int f) := by
  obtain ⟨d, hd, e⟩ := pick (xs := [D.int x, D.int y, D.int z]) (i := if m < 2 then m else 2) (by split <;> omega) (by simp only [List.length_cons, List.length_nil]; split <;> omega)
  simp only [List.mem_cons, List.not_mem_nil, or_false] at hd
  rcases hd with rfl | rfl | rfl
  · exact ⟨_, .inl rfl, e⟩
  · exact ⟨_, .inr (.inl rfl), e⟩
  · exact ⟨_, .inr (.inr rfl), e⟩
theorem off_no {w : List Nat} (h : Nm w) : w ≠ [111, 102, 102] := fun e => h.kept (by rw [e]; decide)
theorem enum_at {xs : List D} {k i : Nat} {x : D} (h : (enumD k xs)[i]? = some x) : ∃ y, xs[i]? = some y ∧ x = .tup [.int ((k + i : Nat) : Int), y] := by
  induction xs generalizing k i with
  | nil => simp [enumD] at h
  | cons y ys ih =>
    cases i with
    | zero => simp [enumD] at h; exact ⟨y, rfl, by rw [← h]; simp⟩
    | succ i =>
      simp only [enumD, List.getElem?_cons_succ] at h
      obtain ⟨z, h1, h2⟩ := ih h
      exact ⟨z, h1, by rw [h2]; congr 3; omega⟩
theorem enum_len {xs : List D} {k : Nat} : (enumD k xs).length = xs.length := by
  induction xs generalizing k with
  | nil => rfl
  | cons y ys ih => simp [enumD, ih]
def offL : List Nat := [111, 102, 102]
theorem pick_str {en : List (List Nat)} {i : Int} (h0 : 0 ≤ i) (h1 : i < en.length) : dIx (.lst (en.map D.str)) (.int i) = some (.str (en[i.toNat]'(by omega))) := by
  show atI (en.map D.str) i = _
  have e : ixN (en.map D.str).length i = some i.toNat := by
    rw [List.length_map]
    simp only [ixN, h0, h1, if_true]
  unfold atI
  rw [e]
  simp only [Option.bind_some, List.getElem?_map]
  rw [List.getElem?_eq_getElem (by omega)]
  rfl
theorem take_k {cs : List Cell} {n p : Nat} {m : Int} {E : XC} {Q : Rv → Sto → Prop} (hp : cs[p]? = some .pool) (hn : n < 9000000) (hm : 0 < m) (hm2 : m < 18446744073709551616)
    (k : ∀ d, 0 ≤ d → d < m → Q (.v (.int d)) ⟨cs, n + 1⟩) : takeW [.ref p, .int m] ⟨cs, n⟩ E Q := ⟨p, m, rfl, hp, hm, hm2, hn, k⟩
theorem pool_k {S : Sto} {ns : List Int} {k : Int} {E : XC} {Q : Rv → Sto → Prop} (h0 : 0 ≤ k) (h1 : k ≤ 62) (hl : ns.length ≤ 1000000) (q : Q (.o .pool) S) : poolW [.scr ns, .int k] S E Q := ⟨ns, k, rfl, h0, h1, hl, q⟩
end DL
namespace LB
open PySem L2 DL
def P_Lpool : List Str := ["script", "k"]
def c_Lpool : C := DL.c_pool
def T_Lpool : Tab := { fns := [], cons := [], blt := ["len", "max"] }
def F_Lpool : FD := poolW
def P_Ltake : List Str := ["pool", "many"]
def c_Ltake : C := DL.c_take
def T_Ltake : Tab := { fns := [], cons := [], blt := [] }
def F_Ltake : FD := takeW
def P_Lnames : List Str := ["pool", "many"]
def c_Lnames_l0 : C := (.seq (.set 5 (.join (.con (.str [])) (.comp (.one 9) [("turn", 9)] (.itr1 (.cons (.op 0 (.con (.int 1)) (.call 0 0 (.cons (.var 0) (.cons (.con (.int 8)) .nil)) .nil)) .nil)) .yes (.ix (.var 2) (.call 0 0 (.cons (.var 0) (.cons (.bi 0 (.cons (.var 2) .nil)) .nil)) .nil)))))
    (.seq (.set 6 (.call 0 0 (.cons (.var 0) (.cons (.bi 0 (.cons (.var 5) .nil)) .nil)) .nil))
    (.seq (.set 7 (.op 0 (.lst (.cons (.var 5) .nil)) (.comp (.one 10) [("letter", 10)] (.itv (.con (.str [97, 98, 99, 100, 101, 102, 103, 104, 105, 106, 107, 108, 109, 110, 111, 112, 113, 114, 115, 116, 117, 118, 119, 120, 121, 122]))) .yes (.op 0 (.op 0 (.sl (.var 5) .nil (.var 6)) (.var 10)) (.sl (.var 5) (.op 0 (.var 6) (.con (.int 1))) .nil)))))
    (.seq (.set 7 (.comp (.one 8) [("one", 8)] (.itv (.var 7)) (.and (.cmp 7 (.var 8) (.peek 3)) (.cmp 7 (.var 8) (.tup (.cons (.con (.str [111, 102, 102])) (.cons (.con (.str [119, 105, 116, 104])) (.cons (.con (.str [107, 110, 111, 119, 115])) .nil)))))) (.var 8)))
    (.seq (.app 3 (.ix (.var 7) (.con (.int 0))))
    .done)))))
def c_Lnames : C := (.seq (.set 2 (.ix (.lst (.cons (.con (.str [97, 98, 99, 100, 101, 102, 103, 104, 105, 106, 107, 108, 109, 110, 111, 112, 113, 114, 115, 116, 117, 118, 119, 120, 121, 122])) (.cons (.con (.str [97, 98])) .nil))) (.call 0 0 (.cons (.var 0) (.cons (.con (.int 2)) .nil)) .nil)))
    (.seq (.setO 3 (.lst .nil))
    (.seq (.loop (.one 4) [4, 5, 6, 7, 9] (.itr1 (.cons (.var 1) .nil)) c_Lnames_l0)
    (.seq (.retO 3)
    .done))))
def T_Lnames : Tab := { fns := [⟨"_law_take", F_Ltake, 1, P_Ltake, [⟨2, [], [0, 1], []⟩]⟩], cons := [], blt := ["len", "range"] }
def F_Lnames : FD := runF T_Lnames 11 c_Lnames
theorem go_Lnames_0 {fa fk : Ev (List D)} {γ : List Slot} {S : Sto} {E : XC} {Q : Rv → Sto → Prop} : fnE T_Lnames 0 0 fa fk γ S E Q = fa γ S E (kF1 F_Ltake 2 0 [0, 1] [] fk γ E Q) := rfl
theorem gf_Lnames_0 {a0 a1 : D} {S : Sto} {E : XC} {Q : Rv → Sto → Prop} : goF F_Ltake 2 0 [0, 1] [] [a0, a1] [] S E Q = F_Ltake [a0, a1] S E Q := propext ⟨fun h => h.2, fun h => ⟨⟨rfl, rfl⟩, h⟩⟩
def P_Lhouse : List Str := ["pool", "most"]
def c_Lhouse_l0 : C := (.seq (.set 9 (.op 2 (.call 1 0 (.cons (.var 0) (.cons (.bi 0 (.cons (.var 4) .nil)) .nil)) .nil) (.bi 5 (.cons (.or (.cmp 4 (.var 6) (.con (.int 0))) (.cmp 0 (.call 1 0 (.cons (.var 0) (.cons (.con (.int 8)) .nil)) .nil) (.con (.int 7)))) .nil))))
    (.seq (.set 10 (.op 4 (.op 0 (.op 0 (.var 9) (.con (.int 1))) (.call 1 0 (.cons (.var 0) (.cons (.op 1 (.bi 0 (.cons (.var 4) .nil)) (.con (.int 1))) .nil)) .nil)) (.bi 0 (.cons (.var 4) .nil))))
    (.seq (.app 5 (.tup (.cons (.var 7) (.cons (.ix (.var 4) (.var 9)) (.cons (.ix (.var 4) (.var 10)) (.cons (.cmp 4 (.call 1 0 (.cons (.var 0) (.cons (.con (.int 8)) .nil)) .nil) (.con (.int 0))) .nil))))))
    .done)))
def c_Lhouse : C := (.seq (.set 2 (.ix (.lst (.cons (.con (.int 2)) (.cons (.con (.int 3)) (.cons (.con (.int 6)) .nil)))) (.bi 4 (.cons (.con (.int 2)) (.cons (.var 1) .nil)))))
    (.seq (.set 3 (.bi 10 (.cons (.call 0 0 (.cons (.var 0) (.cons (.op 0 (.con (.int 1)) (.call 1 0 (.cons (.var 0) (.cons (.var 2) .nil)) .nil)) .nil)) .nil) .nil)))
    (.seq (.set 4 (.op 0 (.lst (.cons (.con (.str [111, 102, 102])) .nil)) (.var 3)))
    (.seq (.setO 5 (.lst .nil))
    (.seq (.loop (.tup [6, 7]) [6, 9, 10] (.ite (.cons (.call 0 0 (.cons (.var 0) (.cons (.op 0 (.con (.int 1)) (.call 1 0 (.cons (.var 0) (.cons (.ix (.lst (.cons (.con (.int 2)) (.cons (.con (.int 4)) (.cons (.con (.int 12)) .nil)))) (.bi 4 (.cons (.con (.int 2)) (.cons (.var 1) .nil)))) .nil)) .nil)) .nil)) .nil) .nil)) c_Lhouse_l0)
    (.seq (.set 8 (.comp (.one 7) [("name", 7)] (.itv (.call 0 0 (.cons (.var 0) (.cons (.op 0 (.con (.int 1)) (.call 1 0 (.cons (.var 0) (.cons (.ix (.lst (.cons (.con (.int 2)) (.cons (.con (.int 3)) (.cons (.con (.int 8)) .nil)))) (.bi 4 (.cons (.con (.int 2)) (.cons (.var 1) .nil)))) .nil)) .nil)) .nil)) .nil)) .yes (.tup (.cons (.var 7) (.cons (.call 1 0 (.cons (.var 0) (.cons (.con (.int 9)) .nil)) .nil) (.cons (.ix (.lst (.cons (.call 1 0 (.cons (.var 0) (.cons (.con (.int 9)) .nil)) .nil) (.cons (.con (.int 1000)) .nil))) (.op 3 (.call 1 0 (.cons (.var 0) (.cons (.con (.int 9)) .nil)) .nil) (.con (.int 8)))) .nil))))))
    (.seq (.ret (.tup (.cons (.bi 7 (.cons (.var 3) .nil)) (.cons (.bi 7 (.cons (.bi 10 (.cons (.peek 5) .nil)) .nil)) (.cons (.bi 7 (.cons (.bi 10 (.cons (.var 8) .nil)) .nil)) .nil)))))
    .done)))))))
def T_Lhouse : Tab := { fns := [⟨"_law_names", F_Lnames, 2, P_Lnames, [⟨2, [], [0, 1], []⟩]⟩, ⟨"_law_take", F_Ltake, 1, P_Ltake, [⟨2, [], [0, 1], []⟩]⟩], cons := [], blt := ["enumerate", "int", "len", "min", "sorted", "tuple"] }
def F_Lhouse : FD := runF T_Lhouse 11 c_Lhouse
theorem go_Lhouse_0 {fa fk : Ev (List D)} {γ : List Slot} {S : Sto} {E : XC} {Q : Rv → Sto → Prop} : fnE T_Lhouse 0 0 fa fk γ S E Q = fa γ S E (kF1 F_Lnames 2 0 [0, 1] [] fk γ E Q) := rfl
theorem gf_Lhouse_0 {a0 a1 : D} {S : Sto} {E : XC} {Q : Rv → Sto → Prop} : goF F_Lnames 2 0 [0, 1] [] [a0, a1] [] S E Q = F_Lnames [a0, a1] S E Q := propext ⟨fun h => h.2, fun h => ⟨⟨rfl, rfl⟩, h⟩⟩
theorem go_Lhouse_1 {fa fk : Ev (List D)} {γ : List Slot} {S : Sto} {E : XC} {Q : Rv → Sto → Prop} : fnE T_Lhouse 1 0 fa fk γ S E Q = fa γ S E (kF1 F_Ltake 2 0 [0, 1] [] fk γ E Q) := rfl
theorem gf_Lhouse_1 {a0 a1 : D} {S : Sto} {E : XC} {Q : Rv → Sto → Prop} : goF F_Ltake 2 0 [0, 1] [] [a0, a1] [] S E Q = F_Ltake [a0, a1] S E Q := propext ⟨fun h => h.2, fun h => ⟨⟨rfl, rfl⟩, h⟩⟩
def c_Lbeats : C := (.seq (.ret (.and (.isi 0 (.var 0)) (.and (.not (.isi 1 (.var 0))) (.chain 3 3 (.con (.int 0)) (.var 0) (.con (.int 1000))))))
    .done)
def c_Lright : C := (.seq (.set 1 (.bi 8 (.cons (.var 0) .nil)))
    (.seq (.set 2 (.lst (.cons (.call 0 0 (.cons (.var 0) .nil) .nil) (.cons (.call 0 0 (.cons (.var 0) .nil) .nil) .nil))))
    (.seq (.ret (.and (.cmp 0 (.bi 8 (.cons (.var 2) .nil)) (.bi 8 (.cons (.op 2 (.lst (.cons (.call 1 0 (.cons (.var 0) .nil) .nil) .nil)) (.con (.int 2))) .nil))) (.cmp 0 (.bi 8 (.cons (.var 0) .nil)) (.var 1))))
    .done)))
end LB
namespace LB
open PySem L2 DL SeqAt
local macro_rules | `(tactic| exists $hs,*) => `(tactic| simp -implicitDefEqProofs only [optW_s, kRv_k, kVal_v, kVal_l, kVal_d, kCell_o, kBl_k, kInt_k, kOB_k, drv_bl, drv_int, drv_str, drv_tup, drv_lst, drv_scr, slD_k, slP_l, d_var, r_var, o_var, p_var, o_peek, d_con, r_con, o_con, kTupF_k, kLstF_k, kl0, kt1, kl1, kt2, kl2, kt3, kl3, kt4, kl4, kl14, r_tup, d_tup, o_tup, r_lst, d_lst, o_lst, r_dct0, d_dct0, r_op, d_op, o_op, p_op, r_cmp, d_cmp, b_cmp, r_ix, d_ix, o_ix, kO1_k, kO2_vv, kO2_o0, kO2_o1, kO2_o2, kO2_o3, kO2_o4, kO2_o5, cmG0, cmG2, cmG4, cmG7, b_and, r_and, b_or, o_or, kAnd_t, kAnd_f, kOr_t, kOr_f, b_not, kNot_k, b_yes, d_ifx, r_ifx, kIf_t, kIf_f, r_neg, p_neg, kUF_vu, r_sl, d_sl, o_sl, kS1_k, kS2_k, kS3_k, p_nil, r_bi, d_bi, o_bi, kCa_0, kCa_3, kCa_4, kCa_5, kCa_7, kCa_8, kNew_k, kCa_10, r_join, d_join, kJ1_s, kJ2_k, r_call, d_call, o_call, b_call, kF1_k, kF2_k, l_nil, ol_nil, l_cons, ol_cons, kC1_k, kC2_k, r_comp, d_comp, o_comp, l_itv, kIt_k, l_itr1, l_ite, kCIF_k, x_set, x_setO, x_setC, kSet_k, kSetO_k, x_ret, x_retO, rtO_k, x_cond, kCond_t, kCond_f, x_loop, x_done, x_seq, kSq_n, kSq_r, kEnd_r, kTurn_n, kTurn_r, fg_n, fg_c, kBind_o, kBind_2, kSome_k, kKeep_t, kKeep_f, compF_o, x_app, kApp_k, apO_k, x_put, kT1_k, kT2_k, kT3_k, dAdd_i, dSub_i, dNeg_i, dLt_i, dGt_i, dEq_i, dEq_s, gMax_i, gMin_i, gLen_l, gLen_t, gLen_r, gTuple_l, gInt_b, dIx_l, dIx_t, it_l, it_t, gEnum_l, List.getElem?_cons_zero, List.getElem?_cons_succ, List.set_cons_zero, List.set_cons_succ, List.map_cons, List.map_nil, List.cons_append, List.nil_append, Option.bind_some, Option.map_some, Option.bind_none, Option.map_none, LB.go_Lnames_0, LB.gf_Lnames_0, $[$hs:term],*])
theorem word_ok {cs : List Cell} {n p : Nat} {d : Int} {z : List Nat} {a1 a2 a3 a4 a5 a6 a7 a8 a9 : Slot} {Q : Rv → Sto → Prop} (hp : cs[p]? = some .pool) (hn : n < 8900000) (z0 : 0 < z.length) (z1 : z.length ≤ 26) (d0 : 0 ≤ d) (d1 : d ≤ 8)
    (k : ∀ (w : List Nat) (n' : Nat), w.length = d.toNat → (∀ c ∈ w, c ∈ z) → n' ≤ n + 8 → Q (.o (.lst (w.map fun c => .str [c]))) ⟨cs, n'⟩) :
    kComp (.one 9) (ev T_Lnames .yes).b (ev T_Lnames (.ix (.var 2) (.call 0 0 (.cons (.var 0) (.cons (.bi 0 (.cons (.var 2) .nil)) .nil)) .nil))).d [.val (.ref p), a1, .val (.str z), a2, a3, a4, a5, a6, a7, a8, a9] Q (rangeD 0 d.toNat) ⟨cs, n⟩ := by
  refine comp_inv (fun i ys S' => ∃ (w : List Nat) (n' : Nat), ys = (w.map fun c => D.str [c]) ∧ w.length = i ∧ (∀ c ∈ w, c ∈ z) ∧ n' ≤ n + i ∧ S' = ⟨cs, n'⟩) (by rw [range_len]; omega) ⟨[], n, rfl, rfl, by simp, by omega, rfl⟩ ?_ ?_
  · rintro i x ys S5 hx ⟨w, n', rfl, hl, h1, hn', rfl⟩
    obtain ⟨hi, rfl⟩ := range_at hx
    exists gLen_s (Nat.le_trans z1 (by decide : 26 ≤ 1000000))
    refine take_k hp (by omega) (by omega) (by omega) fun d6 a6 b6 => ?_
    obtain ⟨c, hc, ec⟩ := dIx_s a6 b6 (le_line (by omega))
    exists ec
    refine ⟨w ++ [c], n' + 1, by simp, by simp [hl], ?_, by omega, rfl⟩
    intro y hy
    simp only [List.mem_append, List.mem_singleton] at hy
    rcases hy with hy | rfl
    · exact h1 y hy
    · exact hc
  · rintro ys S5 ⟨w, n', rfl, hl, h1, hn', rfl⟩
    rw [range_len] at hl hn'
    exact k w n' hl h1 (by omega)
def okW (ws : List (List Nat)) (u : List Nat) : Bool := !decide (u ∈ ws) && !decide (u ∈ keptL)
def gOk (ws : List (List Nat)) (d : D) : Option D := match d with | .str u => if okW ws u then some (.str u) else none | _ => none
theorem gOk_map (ws us : List (List Nat)) : (us.map D.str).filterMap (gOk ws) = (us.filter (okW ws)).map D.str := by
  induction us with
  | nil => rfl
  | cons u us ih =>
    simp only [List.map_cons, List.filterMap_cons, gOk, List.filter_cons]
    by_cases h : okW ws u = true
    · simp only [h, if_true, List.map_cons, ih]
    · have h' : okW ws u = false := by simpa using h
      simp only [h', Bool.false_eq_true, if_false]; exact ih
def gSw (w : List Nat) (a : Nat) (d : D) : D := match d with | .str [c] => .str (swapAt w a c) | _ => .non
theorem gSw_map (w : List Nat) (a : Nat) (z : List Nat) : (chars z).map (gSw w a) = (z.map (swapAt w a)).map D.str := by
  induction z with
  | nil => rfl
  | cons c z ih =>
    simp only [chars, List.map_cons, gSw] at ih ⊢
    rw [ih]
theorem names_turn {cs : List Cell} {n p : Nat} {many x : D} {z : List Nat} {ws : List (List Nat)} {E : XC} {κ : Kt} (hp : cs[p]? = some .pool) (hn : n < 8000000) (z0 : 0 < z.length) (z1 : z.length ≤ 26) (hz : ∀ c ∈ z, c ∈ lettL) (hw : ws.length ≤ 20)
    (k : ∀ (u : List Nat) (n' : Nat) (a b c : Slot), Nm u → u ∉ ws → n' ≤ n + 10 → κ.nx [.val (.ref p), .val many, .val (.str z), .own (.lst ((ws ++ [u]).map D.str)), .val x, a, b, c, .no, .no, .no] ⟨cs, n'⟩) :
    (ev T_Lnames c_Lnames_l0).x [.val (.ref p), .val many, .val (.str z), .own (.lst (ws.map D.str)), .val x, .no, .no, .no, .no, .no, .no] ⟨cs, n⟩ E κ := by
  unfold c_Lnames_l0
  exists x_seq
  refine take_k hp (by omega) (by decide) (by decide) fun d1 a1 b1 => ?_
  exists gRange1_i (j := 1 + d1) (by omega) (by omega)
  refine word_ok hp (by omega) z0 z1 (by omega) (by omega) fun w n2 hl hm hn2 => ?_
  have w1 : 1 ≤ w.length := by omega
  have w8 : w.length ≤ 8 := by omega
  exists dJoin_c (cs := w) (by omega), gLen_s (i := w) (by omega)
  refine take_k hp (by omega) (by omega) (by omega) fun d3 a3 b3 => ?_
  have at0 : d3.toNat < w.length := by omega
  have sl : ∀ l h, dSl (.str w) l h = some (.v (.str (cutL w l h))) := fun l h => dSl_s (by omega)
  have ic : itemsOf (.str [97, 98, 99, 100, 101, 102, 103, 104, 105, 106, 107, 108, 109, 110, 111, 112, 113, 114, 115, 116, 117, 118, 119, 120, 121, 122]) = some (chars lettL) := rfl
  exists ic
  refine comp_map (gSw w d3.toNat) (by decide) (fun x hx Q q => ?_) ?_
  · simp only [chars, List.mem_map] at hx
    obtain ⟨c, _, rfl⟩ := hx
    have c1 : cutL w none (some d3) = w.take d3.toNat := cut_to a3 (by omega)
    have c2 : cutL w (some (d3 + 1)) none = w.drop (d3.toNat + 1) := by rw [cut_from (by omega) (by omega)]; congr 1; omega
    exists sl, c1
    rw [dAdd_s (by simp; omega)]
    exists sl, c2
    rw [dAdd_s (by simp; omega)]
    exact q
  · exists gSw_map
    rw [dAdd_l (by simp [lettL])]
    have e2 : (D.str w :: (lettL.map (swapAt w d3.toNat)).map D.str).filterMap (gOk ws) = ((w :: lettL.map (swapAt w d3.toNat)).filter (okW ws)).map D.str := gOk_map ws (w :: lettL.map (swapAt w d3.toNat))
    exists List.singleton_append
    refine comp_pure (gOk ws) (by simp [lettL]) (fun x hx Q q => ?_) ?_
    · obtain ⟨u, _, rfl⟩ := List.mem_map.mp (show x ∈ (w :: lettL.map (swapAt w d3.toNat)).map D.str from hx)
      have ek : dNotIn (.str u) (.tup [D.str [111, 102, 102], D.str [119, 105, 116, 104], D.str [107, 110, 111, 119, 115]]) = some (.bl (!decide (u ∈ keptL))) := dNotIn_t (ws := keptL)
      exists dNotIn_l
      cases h1 : decide (u ∈ ws)
      · exists Bool.not_false, ek
        cases h2 : decide (u ∈ keptL)
        · exists Bool.not_false
          simpa [gOk, okW, h1, h2] using q
        · exists Bool.not_true
          simpa [gOk, okW, h1, h2] using q
      · exists Bool.not_true
        simpa [gOk, okW, h1] using q
    · exists e2
      obtain ⟨c0, hc0, f1, f2⟩ := free_one (ws := ws) at0 (by omega)
      have hne : ((w :: lettL.map (swapAt w d3.toNat)).filter (okW ws)) ≠ [] := by
        intro h0
        have : swapAt w d3.toNat c0 ∈ (w :: lettL.map (swapAt w d3.toNat)).filter (okW ws) := by
          rw [List.mem_filter]
          exact ⟨List.mem_cons_of_mem _ (List.mem_map_of_mem hc0), by simp [okW, f1, f2]⟩
        rw [h0] at this
        simp at this
      have hsub : ∀ u ∈ (w :: lettL.map (swapAt w d3.toNat)).filter (okW ws), Nm u ∧ u ∉ ws := by
        intro u hu
        rw [List.mem_filter] at hu
        obtain ⟨h1, h2⟩ := hu
        simp only [okW, Bool.and_eq_true, Bool.not_eq_true', decide_eq_false_iff_not] at h2
        have hwl : ∀ c ∈ w, c ∈ lettL := fun c hc => hz c (hm c hc)
        rcases List.mem_cons.mp h1 with rfl | h1
        · exact ⟨⟨w1, w8, hwl, h2.2⟩, h2.1⟩
        · obtain ⟨c, hc, rfl⟩ := List.mem_map.mp h1
          refine ⟨⟨by rw [swap_len at0]; exact w1, by rw [swap_len at0]; exact w8, fun y hy => ?_, h2.2⟩, h2.1⟩
          simp only [swapAt, List.mem_append, List.mem_singleton] at hy
          rcases hy with (hy | rfl) | hy
          · exact hwl y (List.mem_of_mem_take hy)
          · exact hc
          · exact hwl y (List.mem_of_mem_drop hy)
      generalize (w :: lettL.map (swapAt w d3.toNat)).filter (okW ws) = us at hne hsub ⊢
      cases us with
      | nil => exact absurd rfl hne
      | cons u us =>
        have ei : atI (D.str u :: us.map D.str) 0 = some (.str u) := by simp [atI, ixN]
        exists ei
        refine ⟨⟨_, rfl⟩, lt_line (by simp; omega), ?_⟩
        obtain ⟨n1, n2'⟩ := hsub u (by simp)
        have em : ws.map D.str ++ [D.str u] = (ws ++ [u]).map D.str := by simp
        rw [em]
        exact k u _ _ _ _ n1 n2' (by omega)
theorem lnames_ok {cs : List Cell} {n p : Nat} {m : Int} {E : XC} {Q : Rv → Sto → Prop} (hp : cs[p]? = some .pool) (hn : n < 7000000) (m0 : 0 ≤ m) (m1 : m ≤ 20)
    (k : ∀ (ws : List (List Nat)) (n' : Nat), ws.length = m.toNat → ws.Nodup → (∀ w ∈ ws, Nm w) → n' ≤ n + 201 → Q (.o (.lst (ws.map D.str))) ⟨cs, n'⟩) : F_Lnames [.ref p, .int m] ⟨cs, n⟩ E Q := by
  unfold F_Lnames
  rw [runF_eq]
  unfold c_Lnames
  show (ev T_Lnames _).x [.val (.ref p), .val (.int m), .no, .no, .no, .no, .no, .no, .no, .no, .no] _ E _
  exists x_seq
  refine take_k hp (by omega) (by decide) (by decide) fun d1 a1 b1 => ?_
  have hz : ∃ z : List Nat, 0 < z.length ∧ z.length ≤ 26 ∧ (∀ c ∈ z, c ∈ lettL) ∧ atI [D.str [97, 98, 99, 100, 101, 102, 103, 104, 105, 106, 107, 108, 109, 110, 111, 112, 113, 114, 115, 116, 117, 118, 119, 120, 121, 122], D.str [97, 98]] d1 = some (.str z) := by
    obtain ⟨x, hx, e⟩ := pick (xs := [D.str [97, 98, 99, 100, 101, 102, 103, 104, 105, 106, 107, 108, 109, 110, 111, 112, 113, 114, 115, 116, 117, 118, 119, 120, 121, 122], D.str [97, 98]]) a1 (by simpa using b1)
    simp only [List.mem_cons, List.not_mem_nil, or_false] at hx
    rcases hx with rfl | rfl
    · exact ⟨lettL, by decide, by decide, fun c h => h, e⟩
    · exact ⟨[97, 98], by decide, by decide, by decide, e⟩
  obtain ⟨z, z0, z1, hz, ez⟩ := hz
  exists ez, gRange1_i m0 (by omega)
  refine for_inv (fun i γ S' => ∃ (ws : List (List Nat)) (n' : Nat), γ = [.val (.ref p), .val (.int m), .val (.str z), .own (.lst (ws.map D.str)), .no, .no, .no, .no, .no, .no, .no] ∧ S' = ⟨cs, n'⟩ ∧ ws.length = i ∧ ws.Nodup ∧ (∀ w ∈ ws, Nm w) ∧ n' ≤ n + 1 + 10 * i) ⟨[], n + 1, rfl, rfl, rfl, .nil, by simp, by omega⟩ ?_ ?_
  · rintro i x γ S2 hx ⟨ws, n', rfl, rfl, hl, hnd, hN, hn'⟩
    obtain ⟨hi, rfl⟩ := range_at hx
    exists kBind_o
    refine names_turn hp (by omega) z0 z1 hz (by omega) fun u n3 a b c n1 n2 hn3 => ?_
    exists kTurn_n
    refine ⟨ws ++ [u], n3, rfl, rfl, by simp [hl], ?_, ?_, by omega⟩
    · rw [List.nodup_append]
      refine ⟨hnd, by simp, fun a ha b hb => ?_⟩
      simp only [List.mem_singleton] at hb
      subst hb
      intro e
      subst e
      exact n2 ha
    · intro w hw
      simp only [List.mem_append, List.mem_singleton] at hw
      rcases hw with hw | rfl
      · exact hN w hw
      · exact n1
  · rintro γ S2 ⟨ws, n', rfl, rfl, hl, hnd, hN, hn'⟩
    rw [range_len] at hl hn'
    exists kSq_n
    exact k ws n' hl hnd hN (by omega)
end LB
namespace LB
open PySem L2 DL SeqAt
local macro_rules | `(tactic| exists $hs,*) => `(tactic| simp -implicitDefEqProofs only [optW_s, kRv_k, kVal_v, kVal_l, kVal_d, kCell_o, kBl_k, kInt_k, kOB_k, drv_bl, drv_int, drv_str, drv_tup, drv_lst, drv_scr, slD_k, slP_l, d_var, r_var, o_var, p_var, o_peek, d_con, r_con, o_con, kTupF_k, kLstF_k, kl0, kt1, kl1, kt2, kl2, kt3, kl3, kt4, kl4, kl14, r_tup, d_tup, o_tup, r_lst, d_lst, o_lst, r_dct0, d_dct0, r_op, d_op, o_op, p_op, r_cmp, d_cmp, b_cmp, r_ix, d_ix, o_ix, kO1_k, kO2_vv, kO2_o0, kO2_o1, kO2_o2, kO2_o3, kO2_o4, kO2_o5, cmG0, cmG2, cmG4, cmG7, b_and, r_and, b_or, o_or, kAnd_t, kAnd_f, kOr_t, kOr_f, b_not, kNot_k, b_yes, d_ifx, r_ifx, kIf_t, kIf_f, r_neg, p_neg, kUF_vu, r_sl, d_sl, o_sl, kS1_k, kS2_k, kS3_k, p_nil, r_bi, d_bi, o_bi, kCa_0, kCa_3, kCa_4, kCa_5, kCa_7, kCa_8, kNew_k, kCa_10, r_join, d_join, kJ1_s, kJ2_k, r_call, d_call, o_call, b_call, kF1_k, kF2_k, l_nil, ol_nil, l_cons, ol_cons, kC1_k, kC2_k, r_comp, d_comp, o_comp, l_itv, kIt_k, l_itr1, l_ite, kCIF_k, x_set, x_setO, x_setC, kSet_k, kSetO_k, x_ret, x_retO, rtO_k, x_cond, kCond_t, kCond_f, x_loop, x_done, x_seq, kSq_n, kSq_r, kEnd_r, kTurn_n, kTurn_r, fg_n, fg_c, kBind_o, kBind_2, kSome_k, kKeep_t, kKeep_f, compF_o, x_app, kApp_k, apO_k, x_put, kT1_k, kT2_k, kT3_k, dAdd_i, dSub_i, dNeg_i, dLt_i, dGt_i, dEq_i, dEq_s, gMax_i, gMin_i, gLen_l, gLen_t, gLen_r, gTuple_l, gInt_b, dIx_l, dIx_t, it_l, it_t, gEnum_l, List.getElem?_cons_zero, List.getElem?_cons_succ, List.set_cons_zero, List.set_cons_succ, List.map_cons, List.map_nil, List.cons_append, List.nil_append, Option.bind_some, Option.map_some, Option.bind_none, Option.map_none, LB.go_Lhouse_0, LB.go_Lhouse_1, LB.gf_Lhouse_0, LB.gf_Lhouse_1, $[$hs:term],*])
theorem house_turn {cs : List Cell} {n p k : Nat} {most few pls : D} {en : List (List Nat)} {ds : List D} {w : List Nat} {s8 : Slot} {E : XC} {κ : Kt} (hp : cs[p]? = some .pool) (hn : n < 8000000) (e0 : 2 ≤ en.length) (e1 : en.length ≤ 7) (hnd : en.Nodup) (hd : ds.length ≤ 100)
    (q : ∀ (a b : List Nat) (v : Bool) (n' : Nat) (s9 s10 : Slot), a ∈ en → b ∈ en → a ≠ b → n' ≤ n + 4 → κ.nx [.val (.ref p), .val most, .val few, .val pls, .val (.lst (en.map D.str)), .own (.lst (ds ++ [.tup [.str w, .str a, .str b, .bl v]])), .val (.int k), .val (.str w), s8, s9, s10] ⟨cs, n'⟩) :
    (ev T_Lhouse c_Lhouse_l0).x [.val (.ref p), .val most, .val few, .val pls, .val (.lst (en.map D.str)), .own (.lst ds), .val (.int k), .val (.str w), s8, .no, .no] ⟨cs, n⟩ E κ := by
  unfold c_Lhouse_l0
  generalize hb : (C.seq (.set 10 (.op 4 (.op 0 (.op 0 (.var 9) (.con (.int 1))) (.call 1 0 (.cons (.var 0) (.cons (.op 1 (.bi 0 (.cons (.var 4) .nil)) (.con (.int 1))) .nil)) .nil)) (.bi 0 (.cons (.var 4) .nil))))
    (.seq (.app 5 (.tup (.cons (.var 7) (.cons (.ix (.var 4) (.var 9)) (.cons (.ix (.var 4) (.var 10)) (.cons (.cmp 4 (.call 1 0 (.cons (.var 0) (.cons (.con (.int 8)) .nil)) .nil) (.con (.int 0))) .nil))))))
    .done)) = tw
  have gl : gLen [.lst (en.map D.str)] = some (.int en.length) := by rw [gLen_l, List.length_map]
  have fin : ∀ (one : Int) (n1 : Nat), 0 ≤ one → one < en.length → n1 ≤ n + 2 →
      (ev T_Lhouse tw).x [.val (.ref p), .val most, .val few, .val pls, .val (.lst (en.map D.str)), .own (.lst ds), .val (.int k), .val (.str w), s8, .val (.int one), .no] ⟨cs, n1⟩ E κ := by
    intro one n1 o0 o1 hn1
    rw [← hb]
    exists List.length_map
    refine take_k hp (by omega) (by omega) (by omega) fun d2 a2 b2 => ?_
    exists List.length_map, dMod_i (i := one + 1 + d2) (j := (en.length : Int)) (by omega)
    have m0 : 0 ≤ (one + 1 + d2) % (en.length : Int) := Int.emod_nonneg _ (by omega)
    have m1 : (one + 1 + d2) % (en.length : Int) < en.length := Int.emod_lt_of_pos _ (by omega)
    have mne : (one + 1 + d2) % (en.length : Int) ≠ one := by
      intro h
      by_cases hc : one + 1 + d2 < en.length
      · rw [Int.emod_eq_of_lt (by omega) hc] at h; omega
      · have : (one + 1 + d2) % (en.length : Int) = one + 1 + d2 - en.length := by
          rw [← Int.sub_emod_right (one + 1 + d2) (en.length : Int), Int.emod_eq_of_lt (by omega) (by omega)]
        omega
    generalize (one + 1 + d2) % (en.length : Int) = oth at m0 m1 mne ⊢
    have p1 := pick_str o0 o1
    have p2 := pick_str m0 m1
    rw [dIx_l] at p1 p2
    exists p1, p2
    refine ⟨⟨_, rfl⟩, take_k hp (by omega) (by decide) (by decide) fun d3 a3 b3 => ?_⟩
    exists kRv_k
    refine ⟨lt_line (by omega), q _ _ _ _ _ _ (List.getElem_mem _) (List.getElem_mem _) (fun h => ?_) (by omega)⟩
    have := (List.getElem_inj hnd).mp h
    omega
  exists List.length_map
  refine take_k hp (by omega) (by omega) (by omega) fun d1 a1 b1 => ?_
  exists kRv_k
  by_cases hk : (0 : Int) < k
  · exists decide_eq_true hk, if_true, dMul_i (i := d1) (j := 1) (.inr (by decide)), Int.mul_one
    exact fin d1 _ a1 b1 (by omega)
  · exists decide_eq_false hk
    refine take_k hp (by omega) (by decide) (by decide) fun d2 a2 b2 => ?_
    cases h7 : (d2 == 7)
    · exists h7, if_false, Bool.false_eq_true, dMul_i (i := d1) (j := 0) (.inr (by decide)), Int.mul_zero
      exact fin 0 _ (by omega) (by omega) (by omega)
    · exists h7, if_true, dMul_i (i := d1) (j := 1) (.inr (by decide)), Int.mul_one
      exact fin d1 _ a1 b1 (by omega)
theorem dress_ok {cs : List Cell} {n p : Nat} {ws : List (List Nat)} {s1 s2 s3 s4 s5 s6 s7 s8 s9 s10 : Slot} {Q : Rv → Sto → Prop} (hp : cs[p]? = some .pool) (hn : n < 8000000) (hl : ws.length ≤ 20) (hN : ∀ w ∈ ws, Nm w)
    (k : ∀ (rs : List D) (n' : Nat), rs.map headD = ws → (∀ r ∈ rs, DressD r) → n' ≤ n + 60 → Q (.o (.lst rs)) ⟨cs, n'⟩) :
    kComp (.one 7) (ev T_Lhouse .yes).b (ev T_Lhouse (.tup (.cons (.var 7) (.cons (.call 1 0 (.cons (.var 0) (.cons (.con (.int 9)) .nil)) .nil) (.cons (.ix (.lst (.cons (.call 1 0 (.cons (.var 0) (.cons (.con (.int 9)) .nil)) .nil) (.cons (.con (.int 1000)) .nil))) (.op 3 (.call 1 0 (.cons (.var 0) (.cons (.con (.int 9)) .nil)) .nil) (.con (.int 8)))) .nil))))).d [.val (.ref p), s1, s2, s3, s4, s5, s6, s7, s8, s9, s10] Q (ws.map D.str) ⟨cs, n⟩ := by
  refine comp_inv (fun i ys S' => ∃ n', S' = ⟨cs, n'⟩ ∧ ys.map headD = ws.take i ∧ (∀ r ∈ ys, DressD r) ∧ n' ≤ n + 3 * i) (by rw [List.length_map]; omega) ⟨n, rfl, rfl, by simp, by omega⟩ ?_ ?_
  · rintro i x ys S5 hx ⟨n', rfl, h1, h2, hn'⟩
    rw [List.getElem?_map, Option.map_eq_some_iff] at hx
    obtain ⟨w, hw, rfl⟩ := hx
    have hi : i < ws.length := (List.getElem?_eq_some_iff.mp hw).1
    exists b_yes
    refine take_k hp (by omega) (by decide) (by decide) fun d6 a6 b6 => ?_
    exists kRv_k
    refine take_k hp (by omega) (by decide) (by decide) fun d7 a7 b7 => ?_
    exists kRv_k
    refine take_k hp (by omega) (by decide) (by decide) fun d8 a8 b8 => ?_
    have hv : ∃ v : Int, 0 ≤ v ∧ v ≤ 1000 ∧ atI [D.int d7, D.int 1000] (d8 / 8) = some (.int v) := by
      obtain ⟨x, hx, e⟩ := pick (xs := [D.int d7, D.int 1000]) (i := d8 / 8) (by omega) (by simp; omega)
      simp only [List.mem_cons, List.not_mem_nil, or_false] at hx
      rcases hx with rfl | rfl <;> exact ⟨_, by omega, by omega, e⟩
    obtain ⟨v, v0, v1, ev⟩ := hv
    exists dDiv_i (i := d8) (j := 8) (by decide) (by decide), ev
    refine ⟨_, rfl, ?_, ?_, by omega⟩
    · rw [List.map_append, h1, List.take_add_one, hw]; rfl
    · intro r hr
      simp only [Option.toList, List.mem_append, List.mem_singleton] at hr
      rcases hr with hr | rfl
      · exact h2 r hr
      · exact ⟨_, _, _, rfl, hN w (List.mem_of_getElem? hw), by omega, by omega, v0, v1⟩
  · rintro ys S5 ⟨n', rfl, h1, h2, hn'⟩
    rw [List.length_map] at h1 hn'
    exact k ys n' (by rw [h1, List.take_length]) h2 (by omega)
theorem lhouse_ok {cs : List Cell} {n p : Nat} {m : Int} {E : XC} {Q : Rv → Sto → Prop} (hp : cs[p]? = some .pool) (hn : n < 5000000) (m0 : 0 ≤ m)
    (k : ∀ (d : D) (n' : Nat), HouseD d → n' ≤ n + 1000 → Q (.v d) ⟨cs, n'⟩) : F_Lhouse [.ref p, .int m] ⟨cs, n⟩ E Q := by
  unfold F_Lhouse
  rw [runF_eq]
  unfold c_Lhouse
  show (ev T_Lhouse _).x [.val (.ref p), .val (.int m), .no, .no, .no, .no, .no, .no, .no, .no, .no] _ E _
  obtain ⟨f1, hf1, ef1⟩ := three (m := m) (x := 2) (y := 3) (z := 6) m0
  obtain ⟨f2, hf2, ef2⟩ := three (m := m) (x := 2) (y := 4) (z := 12) m0
  obtain ⟨f3, hf3, ef3⟩ := three (m := m) (x := 2) (y := 3) (z := 8) m0
  exists ef1
  refine take_k hp (by omega) (by omega) (by omega) fun d1 a1 b1 => ?_
  exists kRv_k
  refine lnames_ok hp (by omega) (by omega) (by omega) fun ws n2 hl hnd hN hn2 => ?_
  obtain ⟨pl, epl, ppl, rpl⟩ := sort_names (ws := ws) (by omega) hnd
  have hpl : pl.length = ws.length := ppl.length_eq
  have npl : ∀ w ∈ pl, Nm w := fun w hw => hN w (ppl.mem_iff.mp hw)
  exists epl
  rw [dAdd_l (by simp; omega)]
  exists ef2, List.singleton_append
  refine take_k hp (by omega) (by omega) (by omega) fun d2 a2 b2 => ?_
  exists kRv_k
  refine lnames_ok hp (by omega) (by omega) (by omega) fun dn n4 dl dnd dN hn4 => ?_
  exists kVal_l
  obtain ⟨en, een, en1, en2, hend, enm⟩ : ∃ en : List (List Nat), D.str [111, 102, 102] :: pl.map D.str = en.map D.str ∧ 2 ≤ en.length ∧ en.length ≤ 7 ∧ en.Nodup ∧ ∀ a, a ∈ en → a = [111, 102, 102] ∨ a ∈ pl := by
    refine ⟨offL :: pl, rfl, by simp; omega, by simp; omega, ?_, fun a h => List.mem_cons.mp h⟩
    rw [List.nodup_cons]
    exact ⟨fun h => off_no (npl _ h) rfl, ppl.nodup_iff.mpr hnd⟩
  rw [een]
  refine for_inv (fun i γ S' => ∃ (ds : List D) (n' : Nat) (s7 : Slot), γ = [.val (.ref p), .val (.int m), .val (.int f1), .val (.lst (pl.map D.str)), .val (.lst (en.map D.str)), .own (.lst ds), .no, s7, .no, .no, .no] ∧ S' = ⟨cs, n'⟩ ∧ ds.map headD = dn.take i ∧ (∀ d ∈ ds, DoorD pl d) ∧ n' ≤ n + 404 + 4 * i) ⟨[], n4, _, rfl, rfl, rfl, by simp, by omega⟩ ?_ ?_
  · rintro i x γ S5 hx ⟨ds, n', s7, rfl, rfl, h1, h2, hn'⟩
    obtain ⟨y, hy, rfl⟩ := enum_at hx
    rw [List.getElem?_map, Option.map_eq_some_iff] at hy
    obtain ⟨w, hw', rfl⟩ := hy
    have hi : i < dn.length := (List.getElem?_eq_some_iff.mp hw').1
    have hds : ds.length ≤ 100 := by
      have := congrArg List.length h1
      simp only [List.length_map, List.length_take] at this
      omega
    exists kBind_2
    refine house_turn hp (by omega) en1 en2 hend hds fun a b v n6 s9 s10 ha hb hab hn6 => ?_
    exists kTurn_n
    refine ⟨_, n6, _, rfl, rfl, ?_, ?_, by omega⟩
    · rw [List.map_append, h1, List.take_add_one, hw']; rfl
    · intro d hd
      simp only [List.mem_append, List.mem_singleton] at hd
      rcases hd with hd | rfl
      · exact h2 d hd
      · exact ⟨_, _, _, _, rfl, dN w (List.mem_of_getElem? hw'), enm _ ha, enm _ hb, hab⟩
  · rintro γ S5 ⟨ds, n', s7, rfl, rfl, h1, h2, hn'⟩
    rw [enum_len, List.length_map] at h1 hn'
    rw [List.take_length] at h1
    exists ef3
    refine take_k hp (by omega) (by omega) (by omega) fun d3 a3 b3 => ?_
    exists kRv_k
    refine lnames_ok hp (by omega) (by omega) (by omega) fun rn n7 rl rnd rN hn7 => ?_
    exists kVal_l
    refine dress_ok hp (by omega) (by omega) rN fun rs n8 hr hrs hn8 => ?_
    have dlen : ds.length = dn.length := by have := congrArg List.length h1; simpa using this
    have rlen : rs.length = rn.length := by have := congrArg List.length hr; simpa using this
    have hh1 : ∀ d ∈ ds, (headOf d).isSome = true := fun d hd => by obtain ⟨n, e1, e2, b, rfl, _⟩ := (h2 d hd).ex; rfl
    have hh2 : ∀ d ∈ rs, (headOf d).isSome = true := fun d hd => by obtain ⟨n, e1, e2, rfl, _⟩ := (hrs d hd).ex; rfl
    obtain ⟨ds', eds, pds, rds⟩ := sort_heads (xs := ds) (fun h => by subst h; simp at dlen; omega) hh1 (by rw [h1]; exact dnd) (by omega)
    obtain ⟨rs', ers, prs, rrs⟩ := sort_heads (xs := rs) (fun h => by subst h; simp at rlen; omega) hh2 (by rw [hr]; exact rnd) (by omega)
    exists eds, ers
    refine k _ n8 ⟨pl, ds', rs', rfl, by omega, by omega, npl, rpl, ?_, ?_, fun d hd => h2 d (pds.mem_iff.mp hd), rds, ?_, ?_, fun d hd => hrs d (prs.mem_iff.mp hd), rrs⟩ (by omega)
    · rw [pds.length_eq]; omega
    · rw [pds.length_eq]; omega
    · rw [prs.length_eq]; omega
    · rw [prs.length_eq]; omega
end LB
namespace DL
open PySem L2 SeqAt
def kOk : Key → Bool
  | .inl i => decide (i.natAbs < 10 ^ 110)
  | .inr x => x.cps.toList.all fun c => decide (c < 1114112)
def kWt : Key → Nat
  | .inl _ => 1
  | .inr x => 1 + x.length
mutual
def dt : D → Bool
  | .int i => decide (i.natAbs < 10 ^ 110)
  | .str x => x.all fun c => decide (c < 1114112)
  | .tup xs => dts xs
  | .lst xs => dts xs
  | .dct ks xs => ks.all kOk && dts xs
  | .obj _ _ _ => false
  | .fn _ => false
  | .ref _ => false
  | .scr _ => false
  | _ => true
def dts : List D → Bool
  | [] => true
  | d :: ds => dt d && dts ds
end
mutual
def dp : D → Nat
  | .tup xs => dps xs + 1
  | .lst xs => dps xs + 1
  | .dct _ xs => dps xs + 1
  | _ => 0
def dps : List D → Nat
  | [] => 0
  | d :: ds => max (dp d) (dps ds)
end
mutual
def wt : D → Nat
  | .str x => 1 + x.length
  | .tup xs => wts xs + 1
  | .lst xs => wts xs + 1
  | .dct ks xs => (ks.map kWt).sum + wts xs + 1
  | _ => 1
def wts : List D → Nat
  | [] => 0
  | d :: ds => wt d + wts ds
end
theorem dts_iff {xs : List D} : dts xs = true ↔ ∀ x ∈ xs, dt x = true := by
  induction xs with
  | nil => simp [dts]
  | cons x xs ih => simp [dts, ih]
theorem dps_le {xs : List D} {k : Nat} (h : ∀ x ∈ xs, dp x ≤ k) : dps xs ≤ k := by
  induction xs with
  | nil => simp [dps]
  | cons x xs ih =>
    have := h x (by simp)
    have := ih fun y hy => h y (by simp [hy])
    simp only [dps]; omega
theorem dp_le_dps {xs : List D} {x : D} (h : x ∈ xs) : dp x ≤ dps xs := by
  induction xs with
  | nil => cases h
  | cons y ys ih =>
    simp only [dps]
    rcases List.mem_cons.mp h with rfl | h
    · omega
    · have := ih h; omega
theorem wt_le_wts {xs : List D} {x : D} (h : x ∈ xs) : wt x ≤ wts xs := by
  induction xs with
  | nil => cases h
  | cons y ys ih =>
    simp only [wts]
    rcases List.mem_cons.mp h with rfl | h
    · omega
    · have := ih h; omega
theorem wts_append {xs ys : List D} : wts (xs ++ ys) = wts xs + wts ys := by
  induction xs with
  | nil => simp [wts]
  | cons x xs ih => simp only [List.cons_append, wts, ih]; omega
theorem dps_append {xs ys : List D} : dps (xs ++ ys) = max (dps xs) (dps ys) := by
  induction xs with
  | nil => simp [dps]
  | cons x xs ih => simp only [List.cons_append, dps, ih]; omega
theorem wt_pos (d : D) : 1 ≤ wt d := by cases d <;> simp [wt] <;> omega
theorem len_le_wts {xs : List D} : xs.length ≤ wts xs := by
  induction xs with
  | nil => simp [wts]
  | cons x xs ih => have := wt_pos x; simp only [wts, List.length_cons]; omega
structure Sz (k n : Nat) (d : D) : Prop where
  dt : dt d = true
  dp : dp d ≤ k
  wt : wt d ≤ n
theorem Sz.mono {k n k' n' : Nat} {d : D} (h : Sz k n d) (h1 : k ≤ k') (h2 : n ≤ n') : Sz k' n' d := ⟨h.dt, Nat.le_trans h.dp h1, Nat.le_trans h.wt h2⟩
theorem ten110 : (10 : Nat) ^ 110 < 2 ^ 366 := by decide +kernel
theorem log_of {i : Int} (h : i.natAbs < 10 ^ 110) : i.natAbs.log2 < 1920 := by
  by_cases hz : i.natAbs = 0
  · rw [hz]; decide
  · exact Nat.lt_of_lt_of_le ((Nat.log2_lt hz).mpr (Nat.lt_trans h ten110)) (by decide)
theorem int_len {i : Int} (h : i.natAbs < 10 ^ 110) : (PyData.shown (.int i)).length ≤ 111 := by
  have := int_text_length_le10 (a := i) (k := 110) (by decide) h
  show (Str.ofString (toString i)).length ≤ 111
  rw [ofString_length]; exact this
theorem str_len {x : List Nat} (h : (x.all fun c => decide (c < 1114112)) = true) : (PyData.shown (.str (sOf x))).length ≤ 10 * x.length + 2 := by
  have := StrLaws.reprText_len (sOf x) fun c hc => by
    have := List.all_eq_true.mp h c (by simpa using hc)
    simp at this
    exact Nat.lt_trans this (by decide)
  simpa [PyData.shown, Str.length] using this
theorem key_len {k : Key} (h : kOk k = true) : (keyP k).shown.length + 2 ≤ 130 * kWt k ∧ (keyP k).showable = true ∧ (keyP k).depth = 0 := by
  cases k with
  | inl i =>
    have h : i.natAbs < 10 ^ 110 := by simpa [kOk] using h
    refine ⟨?_, ?_, rfl⟩
    · have := int_len h
      show (PyData.shown (.int i)).length + 2 ≤ 130 * 1
      omega
    · show decide (i.natAbs.log2 < 1920) = true
      exact decide_eq_true (log_of h)
  | inr x =>
    refine ⟨?_, rfl, rfl⟩
    have := StrLaws.reprText_len x fun c hc => by
      have := List.all_eq_true.mp h c hc
      simp at this
      exact Nat.lt_trans this (by decide)
    show (reprText x).length + 2 ≤ 130 * (1 + x.length)
    omega
theorem kv_len : ∀ {ks : List Key} {ps : List PyData} {w : Nat}, ks.all kOk = true → ((PyData.shownAll ps).map (·.length)).sum + 2 * ps.length ≤ w →
    ((PyData.shownKv ((ks.map keyP).zip ps)).map (·.length)).sum + 2 * (PyData.shownKv ((ks.map keyP).zip ps)).length ≤ 130 * (ks.map kWt).sum + w
  | [], ps, w, _, h => by simp [PyData.shownKv]
  | k :: ks, [], w, _, h => by simp [PyData.shownKv]
  | k :: ks, p :: ps, w, hk, h => by
    simp only [List.all_cons, Bool.and_eq_true] at hk
    simp only [PyData.shownAll, List.map_cons, List.sum_cons, List.length_cons] at h
    have ih := kv_len (ks := ks) (ps := ps) (w := w - p.shown.length - 2) hk.2 (by omega)
    have kl := (key_len hk.1).1
    simp only [List.map_cons, List.zip_cons_cons, PyData.shownKv, List.sum_cons, List.length_cons]
    have e2 : ((keyP k).shown ++ ": " ++ p.shown).length = (keyP k).shown.length + 2 + p.shown.length := by
      rw [strLen_append, strLen_append]; rfl
    omega
theorem kv_show : ∀ {ks : List Key} {ps : List PyData}, ks.all kOk = true → PyData.showableAll ps = true → PyData.showableKv ((ks.map keyP).zip ps) = true
  | [], ps, _, h => by simp [PyData.showableKv]
  | k :: ks, [], _, h => by simp [PyData.showableKv]
  | k :: ks, p :: ps, hk, h => by
    simp only [List.all_cons, Bool.and_eq_true] at hk
    simp only [PyData.showableAll, Bool.and_eq_true] at h
    simp only [List.map_cons, List.zip_cons_cons, PyData.showableKv, Bool.and_eq_true]
    exact ⟨⟨(key_len hk.1).2.1, h.1⟩, kv_show hk.2 h.2⟩
theorem kv_depth : ∀ {ks : List Key} {ps : List PyData}, ks.all kOk = true → PyData.depthKv ((ks.map keyP).zip ps) ≤ PyData.depthAll ps
  | [], ps, _ => by simp [PyData.depthKv]
  | k :: ks, [], _ => by simp [PyData.depthKv]
  | k :: ks, p :: ps, hk => by
    simp only [List.all_cons, Bool.and_eq_true] at hk
    have := kv_depth (ks := ks) (ps := ps) hk.2
    have e := (key_len hk.1).2.2
    simp only [List.map_cons, List.zip_cons_cons, PyData.depthKv, PyData.depthAll, e]
    omega
mutual
theorem show_all : ∀ {d : D}, dt d = true → plain d = true ∧ (toP d).showable = true ∧ (toP d).depth ≤ dp d ∧ (toP d).shown.length + 2 ≤ 130 * wt d
  | .non, _ => ⟨rfl, rfl, Nat.le_refl _, by decide⟩
  | .bl b, _ => ⟨rfl, rfl, Nat.le_refl _, by cases b <;> decide⟩
  | .int i, h => by
    have h : i.natAbs < 10 ^ 110 := by simpa [dt] using h
    refine ⟨rfl, ?_, Nat.le_refl _, ?_⟩
    · show decide (i.natAbs.log2 < 1920) = true
      exact decide_eq_true (log_of h)
    · have := int_len h
      show (PyData.shown (.int i)).length + 2 ≤ 130 * 1
      omega
  | .str x, h => by
    have h : (x.all fun c => decide (c < 1114112)) = true := by simpa [dt] using h
    refine ⟨rfl, rfl, Nat.le_refl _, ?_⟩
    have := str_len h
    show (PyData.shown (.str (sOf x))).length + 2 ≤ 130 * (1 + x.length)
    omega
  | .tup xs, h => by
    obtain ⟨h1, h2, h3, h4⟩ := shows_all (ds := xs) (by simpa [dt] using h)
    refine ⟨h1, h2, by simp only [toP, PyData.depth, dp]; omega, ?_⟩
    have e := PySem.tupleText_len_le (PyData.shownAll (toPs xs))
    have e2 := PyData.shownAll_length (toPs xs)
    simp only [toP, PyData.shown, wt]
    omega
  | .lst xs, h => by
    obtain ⟨h1, h2, h3, h4⟩ := shows_all (ds := xs) (by simpa [dt] using h)
    refine ⟨h1, h2, by simp only [toP, PyData.depth, dp]; omega, ?_⟩
    have e := listText_len_le (PyData.shownAll (toPs xs))
    have e2 := PyData.shownAll_length (toPs xs)
    simp only [toP, PyData.shown, wt]
    omega
  | .dct ks xs, h => by
    simp only [dt, Bool.and_eq_true] at h
    obtain ⟨h1, h2, h3, h4⟩ := shows_all (ds := xs) h.2
    refine ⟨h1, kv_show h.1 h2, ?_, ?_⟩
    · have := kv_depth (ks := ks) (ps := toPs xs) h.1
      simp only [toP, PyData.depth, dp]; omega
    · have e := dictText_len_le (PyData.shownKv ((ks.map keyP).zip (toPs xs)))
      have e3 := kv_len (ks := ks) (ps := toPs xs) h.1 h4
      simp only [toP, PyData.shown, wt]
      omega
  | .obj _ _ _, h => by simp [dt] at h
  | .fn _, h => by simp [dt] at h
  | .ref _, h => by simp [dt] at h
  | .scr _, h => by simp [dt] at h
theorem shows_all : ∀ {ds : List D}, dts ds = true → plains ds = true ∧ PyData.showableAll (toPs ds) = true ∧ PyData.depthAll (toPs ds) ≤ dps ds ∧ ((PyData.shownAll (toPs ds)).map (·.length)).sum + 2 * (toPs ds).length ≤ 130 * wts ds
  | [], _ => ⟨rfl, rfl, Nat.le_refl _, by simp [toPs, PyData.shownAll]⟩
  | d :: ds, h => by
    simp only [dts, Bool.and_eq_true] at h
    obtain ⟨a1, a2, a3, a4⟩ := show_all h.1
    obtain ⟨b1, b2, b3, b4⟩ := shows_all h.2
    refine ⟨by simp [plains, a1, b1], by simp [toPs, PyData.showableAll, a2, b2], ?_, ?_⟩
    · simp only [toPs, PyData.depthAll, dps]; omega
    · simp only [toPs, PyData.shownAll, List.map_cons, List.sum_cons, List.length_cons, wts]; omega
end
theorem repr_ok {k n : Nat} {d : D} (h : Sz k n d) (hk : k ≤ 60) (hn : n ≤ 100000) : gRepr [d] = some (.str (reprD d)) := by
  obtain ⟨h1, h2, h3, h4⟩ := show_all h.dt
  refine if_pos ?_
  unfold reprOk
  have a := h.dp
  have b := h.wt
  have e : sizeLine = 16777216 := by decide
  simp only [h1, h2, Bool.true_and, Bool.and_eq_true, decide_eq_true_eq]
  omega
theorem Sz.tup {k n : Nat} {xs : List D} (h1 : ∀ x ∈ xs, DL.dt x = true ∧ DL.dp x ≤ k) (h2 : wts xs + 1 ≤ n) : Sz (k + 1) n (.tup xs) :=
  ⟨by simp only [DL.dt]; exact dts_iff.mpr fun x hx => (h1 x hx).1, by simp only [DL.dp]; exact Nat.succ_le_succ (dps_le fun x hx => (h1 x hx).2), by simp only [DL.wt]; exact h2⟩
theorem Sz.lst {k n : Nat} {xs : List D} (h1 : ∀ x ∈ xs, DL.dt x = true ∧ DL.dp x ≤ k) (h2 : wts xs + 1 ≤ n) : Sz (k + 1) n (.lst xs) :=
  ⟨by simp only [DL.dt]; exact dts_iff.mpr fun x hx => (h1 x hx).1, by simp only [DL.dp]; exact Nat.succ_le_succ (dps_le fun x hx => (h1 x hx).2), by simp only [DL.wt]; exact h2⟩
theorem Sz.tup_mem {k n : Nat} {xs : List D} {x : D} (h : Sz (k + 1) n (.tup xs)) (hx : x ∈ xs) : Sz k n x := by
  obtain ⟨h1, h2, h3⟩ := h
  simp only [DL.dt, DL.dp, DL.wt] at h1 h2 h3
  have := dp_le_dps hx
  have := wt_le_wts hx
  exact ⟨dts_iff.mp h1 x hx, by omega, by omega⟩
theorem Sz.tup_inv {k n : Nat} {xs : List D} (h : Sz k n (.tup xs)) : (∀ x ∈ xs, DL.dt x = true ∧ DL.dp x + 1 ≤ k) ∧ wts xs + 1 ≤ n ∧ 1 ≤ k := by
  obtain ⟨h1, h2, h3⟩ := h
  simp only [DL.dt, DL.dp, DL.wt] at h1 h2 h3
  refine ⟨fun x hx => ⟨dts_iff.mp h1 x hx, ?_⟩, h3, by omega⟩
  have := dp_le_dps hx
  omega
theorem Sz.str {k n : Nat} {x : List Nat} (h : ∀ c ∈ x, c < 1114112) (hn : 1 + x.length ≤ n) : Sz k n (.str x) :=
  ⟨by simpa [DL.dt] using h, Nat.zero_le _, by simpa [DL.wt] using hn⟩
theorem Sz.str_inv {k n : Nat} {x : List Nat} (h : Sz k n (.str x)) : (∀ c ∈ x, c < 1114112) ∧ 1 + x.length ≤ n := by
  obtain ⟨h1, h2, h3⟩ := h
  simp only [DL.dt, DL.wt, List.all_eq_true, decide_eq_true_eq] at h1 h3
  exact ⟨h1, h3⟩
theorem Sz.int {k n : Nat} {i : Int} (h : i.natAbs < 10 ^ 110) (hn : 1 ≤ n) : Sz k n (.int i) := ⟨by simpa [DL.dt] using h, Nat.zero_le _, by simpa [DL.wt] using hn⟩
theorem Sz.bl {k n : Nat} {b : Bool} (hn : 1 ≤ n) : Sz k n (.bl b) := ⟨rfl, Nat.zero_le _, by simpa [DL.wt] using hn⟩
theorem Sz.non {k n : Nat} (hn : 1 ≤ n) : Sz k n .non := ⟨rfl, Nat.zero_le _, by simpa [DL.wt] using hn⟩
theorem lett_lt {c : Nat} (h : c ∈ lettL) : c < 1114112 := by
  have : ∀ c ∈ lettL, c < 1114112 := by decide
  exact this c h
theorem Nm.sz {w : List Nat} (h : Nm w) {k n : Nat} (hn : 9 ≤ n) : Sz k n (.str w) := .str (fun c hc => lett_lt (h.let_ c hc)) (by have := h.le; omega)
end DL
namespace DL
open PySem L2 SeqAt
def Dd (d : D) : Prop := Sz 50 90000 d
theorem Dd.mem {xs : List D} {x : D} (h : Dd (.tup xs)) (hx : x ∈ xs) : Dd x := (Sz.tup_mem (k := 49) h hx).mono (by decide) (by decide)
theorem Dd.str {z : List Nat} (h : Dd (.str z)) : z.length ≤ 1000000 := by have := h.str_inv.2; omega
theorem Dd.len {xs : List D} (h : Dd (.tup xs)) : xs.length ≤ 1000000 := by have := h.tup_inv.2.1; have := len_le_wts (xs := xs); omega
theorem dEq_l0 {xs : List D} : dEq (.lst xs) (.lst []) = some (.bl xs.isEmpty) := by cases xs <;> rfl
end DL
namespace LB
open PySem L2 DL SeqAt
local macro_rules | `(tactic| exists $hs,*) => `(tactic| simp -implicitDefEqProofs only [optW_s, kRv_k, kVal_v, kVal_l, kVal_d, kCell_o, kBl_k, kInt_k, kOB_k, drv_bl, drv_int, drv_str, drv_tup, drv_lst, drv_scr, slD_k, slP_l, d_var, r_var, o_var, p_var, o_peek, d_con, r_con, o_con, kTupF_k, kLstF_k, kl0, kt1, kl1, kt2, kl2, kt3, kl3, kt4, kl4, kl14, r_tup, d_tup, o_tup, r_lst, d_lst, o_lst, r_dct0, d_dct0, r_op, d_op, o_op, p_op, r_cmp, d_cmp, b_cmp, r_ix, d_ix, o_ix, kO1_k, kO2_vv, kO2_o0, kO2_o1, kO2_o2, kO2_o3, kO2_o4, kO2_o5, cmG0, cmG2, cmG4, cmG7, b_and, r_and, b_or, o_or, kAnd_t, kAnd_f, kOr_t, kOr_f, b_not, kNot_k, b_yes, d_ifx, r_ifx, kIf_t, kIf_f, r_neg, p_neg, kUF_vu, r_sl, d_sl, o_sl, kS1_k, kS2_k, kS3_k, p_nil, r_bi, d_bi, o_bi, kCa_0, kCa_3, kCa_4, kCa_5, kCa_7, kCa_8, kNew_k, kCa_10, r_join, d_join, kJ1_s, kJ2_k, r_call, d_call, o_call, b_call, kF1_k, kF2_k, l_nil, ol_nil, l_cons, ol_cons, kC1_k, kC2_k, r_comp, d_comp, o_comp, l_itv, kIt_k, l_itr1, l_ite, kCIF_k, x_set, x_setO, x_setC, kSet_k, kSetO_k, x_ret, x_retO, rtO_k, x_cond, kCond_t, kCond_f, x_loop, x_done, x_seq, kSq_n, kSq_r, kEnd_r, kTurn_n, kTurn_r, fg_n, fg_c, kBind_o, kBind_2, kSome_k, kKeep_t, kKeep_f, compF_o, x_app, kApp_k, apO_k, x_put, kT1_k, kT2_k, kT3_k, dAdd_i, dSub_i, dNeg_i, dLt_i, dGt_i, dEq_i, dEq_s, gMax_i, gMin_i, gLen_l, gLen_t, gLen_r, gTuple_l, gInt_b, dIx_l, dIx_t, it_l, it_t, gEnum_l, List.getElem?_cons_zero, List.getElem?_cons_succ, List.set_cons_zero, List.set_cons_succ, List.map_cons, List.map_nil, List.cons_append, List.nil_append, Option.bind_some, Option.map_some, Option.bind_none, Option.map_none, Bool.not_true, Bool.not_false, DL.dEq_l0, $[$hs:term],*])
section
variable {S : Sto} {E : XC} {Q : Rv → Sto → Prop}
theorem dr_dd {d : D} (h : Dd d) : dr S d = d := by
  cases d with
  | ref => exact absurd h.dt (by simp [dt])
  | _ => rfl
end
end LB
namespace DL
open PySem L2 SeqAt
def kB (B : Nat) : Key → Bool
  | .inl i => decide (i.natAbs ≤ B)
  | .inr x => x.cps.toList.all fun c => decide (c < 1114112)
mutual
def di (B : Nat) : D → Bool
  | .int i => decide (i.natAbs ≤ B)
  | .str x => x.all fun c => decide (c < 1114112)
  | .tup xs => dis B xs
  | .lst xs => dis B xs
  | .dct ks xs => ks.all (kB B) && dis B xs
  | .obj _ _ _ => false
  | .fn _ => false
  | .ref _ => false
  | .scr _ => false
  | _ => true
def dis (B : Nat) : List D → Bool
  | [] => true
  | d :: ds => di B d && dis B ds
end
theorem dis_iff {B : Nat} {xs : List D} : dis B xs = true ↔ ∀ x ∈ xs, di B x = true := by
  induction xs with
  | nil => simp [dis]
  | cons x xs ih => simp [dis, ih]
theorem kB_ok {B : Nat} (h : B < 10 ^ 110) {k : Key} (q : kB B k = true) : kOk k = true := by
  cases k with
  | inl i => simp only [kB, kOk, decide_eq_true_eq] at q ⊢; omega
  | inr x => exact q
mutual
theorem di_dt {B : Nat} (h : B < 10 ^ 110) : ∀ {d : D}, di B d = true → dt d = true
  | .non, _ => rfl
  | .bl _, _ => rfl
  | .int i, q => by simp only [di, dt, decide_eq_true_eq] at q ⊢; omega
  | .str _, q => q
  | .tup xs, q => by simp only [di] at q; simp only [dt]; exact dis_dts h q
  | .lst xs, q => by simp only [di] at q; simp only [dt]; exact dis_dts h q
  | .dct ks xs, q => by
    simp only [di, Bool.and_eq_true] at q
    simp only [dt, Bool.and_eq_true]
    exact ⟨List.all_eq_true.mpr fun k hk => kB_ok h (List.all_eq_true.mp q.1 k hk), dis_dts h q.2⟩
  | .obj _ _ _, q => by simp [di] at q
  | .fn _, q => by simp [di] at q
  | .ref _, q => by simp [di] at q
  | .scr _, q => by simp [di] at q
theorem dis_dts {B : Nat} (h : B < 10 ^ 110) : ∀ {ds : List D}, dis B ds = true → dts ds = true
  | [], _ => rfl
  | d :: ds, q => by
    simp only [dis, Bool.and_eq_true] at q
    simp only [dts, Bool.and_eq_true]
    exact ⟨di_dt h q.1, dis_dts h q.2⟩
end
mutual
theorem di_mono {B C : Nat} (h : B ≤ C) : ∀ {d : D}, di B d = true → di C d = true
  | .non, _ => rfl
  | .bl _, _ => rfl
  | .int i, q => by simp only [di, decide_eq_true_eq] at q ⊢; omega
  | .str _, q => q
  | .tup xs, q => by simp only [di] at q ⊢; exact dis_mono h q
  | .lst xs, q => by simp only [di] at q ⊢; exact dis_mono h q
  | .dct ks xs, q => by
    simp only [di, Bool.and_eq_true] at q ⊢
    refine ⟨List.all_eq_true.mpr fun k hk => ?_, dis_mono h q.2⟩
    have := List.all_eq_true.mp q.1 k hk
    cases k with
    | inl i => simp only [kB, decide_eq_true_eq] at this ⊢; omega
    | inr x => exact this
  | .obj _ _ _, q => by simp [di] at q
  | .fn _, q => by simp [di] at q
  | .ref _, q => by simp [di] at q
  | .scr _, q => by simp [di] at q
theorem dis_mono {B C : Nat} (h : B ≤ C) : ∀ {ds : List D}, dis B ds = true → dis C ds = true
  | [], _ => rfl
  | d :: ds, q => by
    simp only [dis, Bool.and_eq_true] at q ⊢
    exact ⟨di_mono h q.1, dis_mono h q.2⟩
end
structure Az (B k m : Nat) (d : D) : Prop where
  di : di B d = true
  dp : dp d ≤ k
  wt : wt d ≤ m
structure Zs (B k m : Nat) (ys : List D) : Prop where
  di : dis B ys = true
  dp : dps ys ≤ k
  wt : wts ys ≤ m
structure Ss (m : Nat) (x : List Nat) : Prop where
  lt : ∀ c ∈ x, c < 1114112
  le : x.length ≤ m
section
variable {B C k l m n : Nat} {d : D} {xs ys : List D} {x y : List Nat}
theorem Az.mono (h : Az B k m d) (h1 : B ≤ C) (h2 : k ≤ l) (h3 : m ≤ n) : Az C l n d := ⟨di_mono h1 h.di, Nat.le_trans h.dp h2, Nat.le_trans h.wt h3⟩
theorem Zs.mono (h : Zs B k m xs) (h1 : B ≤ C) (h2 : k ≤ l) (h3 : m ≤ n) : Zs C l n xs := ⟨dis_mono h1 h.di, Nat.le_trans h.dp h2, Nat.le_trans h.wt h3⟩
theorem Az.sz (h : Az B k m d) (h1 : B < 10 ^ 110) : Sz k m d := ⟨di_dt h1 h.di, h.dp, h.wt⟩
theorem Zs.len (h : Zs B k m xs) : xs.length ≤ m := Nat.le_trans len_le_wts h.wt
theorem Zs.nil : Zs B k 0 [] := ⟨rfl, Nat.zero_le _, Nat.zero_le _⟩
theorem Zs.cons (h : Az B k m d) (t : Zs B k n xs) : Zs B k (m + n) (d :: xs) := by
  refine ⟨by simp only [dis, Bool.and_eq_true]; exact ⟨h.di, t.di⟩, ?_, ?_⟩
  · have := h.dp; have := t.dp; simp only [dps]; omega
  · have := h.wt; have := t.wt; simp only [wts]; omega
theorem Zs.one (h : Az B k m d) : Zs B k m [d] := by have := Zs.cons h Zs.nil; simpa using this
theorem Zs.app (h : Zs B k m xs) (t : Zs B k n ys) : Zs B k (m + n) (xs ++ ys) := by
  refine ⟨dis_iff.mpr fun x hx => ?_, ?_, ?_⟩
  · rcases List.mem_append.mp hx with q | q
    · exact dis_iff.mp h.di x q
    · exact dis_iff.mp t.di x q
  · have := h.dp; have := t.dp; rw [dps_append]; omega
  · have := h.wt; have := t.wt; rw [wts_append]; omega
theorem wts_subl {xs ys : List D} (h : xs.Sublist ys) : wts xs ≤ wts ys := by
  induction h with
  | slnil => exact Nat.le_refl _
  | cons a _ ih => simp only [wts]; omega
  | cons_cons a _ ih => simp only [wts]; omega
theorem Zs.sub (h : Zs B k m ys) (s : xs.Sublist ys) : Zs B k m xs :=
  ⟨dis_iff.mpr fun x hx => dis_iff.mp h.di x (s.subset hx), Nat.le_trans (dps_le fun x hx => dp_le_dps (s.subset hx)) h.dp, Nat.le_trans (wts_subl s) h.wt⟩
theorem Zs.cut {a b : Option Int} (h : Zs B k m xs) : Zs B k m (cutL xs a b) := h.sub (by unfold cutL; exact (List.take_sublist _ _).trans (List.drop_sublist _ _))
theorem wts_perm' {xs ys : List D} (h : xs.Perm ys) : wts xs = wts ys := by
  induction h with
  | nil => rfl
  | cons x _ ih => simp only [wts, ih]
  | swap x y l => simp only [wts]; omega
  | trans _ _ h1 h2 => exact h1.trans h2
theorem Zs.perm (h : Zs B k m ys) (s : xs.Perm ys) : Zs B k m xs :=
  ⟨dis_iff.mpr fun x hx => dis_iff.mp h.di x (s.mem_iff.mp hx), Nat.le_trans (dps_le fun x hx => dp_le_dps (s.mem_iff.mp hx)) h.dp, by rw [wts_perm' s]; exact h.wt⟩
theorem Zs.rev (h : Zs B k m xs) : Zs B k m xs.reverse := h.perm xs.reverse_perm
theorem Zs.mem (h : Zs B k m xs) (hd : d ∈ xs) : Az B k m d := ⟨dis_iff.mp h.di d hd, Nat.le_trans (dp_le_dps hd) h.dp, Nat.le_trans (wt_le_wts hd) h.wt⟩
theorem Az.tup (h : Zs B k m xs) : Az B (k + 1) (m + 1) (.tup xs) := ⟨by simp only [DL.di]; exact h.di, by have := h.dp; simp only [DL.dp]; omega, by have := h.wt; simp only [DL.wt]; omega⟩
theorem Az.lst (h : Zs B k m xs) : Az B (k + 1) (m + 1) (.lst xs) := ⟨by simp only [DL.di]; exact h.di, by have := h.dp; simp only [DL.dp]; omega, by have := h.wt; simp only [DL.wt]; omega⟩
theorem Az.of_tup (h : Az B k m (.tup xs)) : Zs B k m xs := ⟨by have := h.di; simpa only [DL.di] using this, by have := h.dp; simp only [DL.dp] at this; omega, by have := h.wt; simp only [DL.wt] at this; omega⟩
theorem Az.of_tup1 (h : Az B (k + 1) m (.tup xs)) : Zs B k m xs := ⟨by have := h.di; simpa only [DL.di] using this, by have := h.dp; simp only [DL.dp] at this; omega, by have := h.wt; simp only [DL.wt] at this; omega⟩
theorem Az.int {i : Int} (h : i.natAbs ≤ B) : Az B k 1 (.int i) := ⟨by simpa [DL.di] using h, Nat.zero_le _, Nat.le_refl _⟩
theorem Az.bl {b : Bool} : Az B k 1 (.bl b) := ⟨rfl, Nat.zero_le _, Nat.le_refl _⟩
theorem Az.non : Az B k 1 .non := ⟨rfl, Nat.zero_le _, Nat.le_refl _⟩
theorem Az.str (h : Ss m x) : Az B k (1 + m) (.str x) := ⟨by simpa [DL.di] using h.lt, Nat.zero_le _, by have := h.le; simp only [DL.wt]; omega⟩
theorem Ss.mono (h : Ss m x) (hn : m ≤ n) : Ss n x := ⟨h.lt, Nat.le_trans h.le hn⟩
theorem Ss.app (h : Ss m x) (t : Ss n y) : Ss (m + n) (x ++ y) := ⟨fun c hc => (List.mem_append.mp hc).elim (h.lt c) (t.lt c), by have := h.le; have := t.le; rw [List.length_append]; omega⟩
theorem Ss.cut {a b : Option Int} (h : Ss m x) : Ss m (cutL x a b) := by
  have s : (cutL x a b).Sublist x := by unfold cutL; exact (List.take_sublist _ _).trans (List.drop_sublist _ _)
  exact ⟨fun c hc => h.lt c (s.subset hc), Nat.le_trans s.length_le h.le⟩
theorem Ss.rev (h : Ss m x) : Ss m x.reverse := ⟨fun c hc => h.lt c (List.mem_reverse.mp hc), by rw [List.length_reverse]; exact h.le⟩
theorem Ss.lit (h : (x.all fun c => decide (c < 1114112)) = true) : Ss x.length x := ⟨by simpa using h, Nat.le_refl _⟩
theorem Nm.ss {w : List Nat} (h : Nm w) : Ss 8 w := ⟨fun c hc => lett_lt (h.let_ c hc), h.le⟩
end
section
variable {S : Sto} {a b : List D} {z w : List Nat} {Q : Rv → Sto → Prop} {R : D → Sto → Prop} {l h : Option Int}
theorem optG {α : Type} {p : Prop} [Decidable p] {x : α} {Q : α → Sto → Prop} : optW (if p then some x else none) S Q = (p ∧ Q x S) := by
  by_cases hp : p
  · rw [if_pos hp]; exact propext ⟨fun q => ⟨hp, q⟩, fun q => q.2⟩
  · rw [if_neg hp]; exact propext ⟨fun q => q.elim, fun q => hp q.1⟩
theorem oAdd_l : optW (dAdd (.lst a) (.lst b)) S Q = (a.length + b.length ≤ sizeLine ∧ Q (.o (.lst (a ++ b))) S) := optG
theorem oAdd_s : optW (dAdd (.str z) (.str w)) S Q = (z.length + w.length ≤ sizeLine ∧ Q (.v (.str (z ++ w))) S) := optG
theorem oSl_s : optW (dSl (.str z) l h) S Q = (z.length ≤ sizeLine ∧ Q (.v (.str (cutL z l h))) S) := optG
end
end DL
namespace LB
open PySem L2 DL
def c_Lodd : C := (.seq (.set 1 (.lst (.cons (.con (.non)) (.cons (.con (.bl true)) (.cons (.con (.bl false)) (.cons (.con (.int 0)) (.cons (.con (.int 1)) (.cons (.neg (.con (.int 1))) (.cons (.op 5 (.con (.int 10)) (.con (.int 29))) (.cons (.con (.str [])) (.cons (.con (.str [111, 102, 102])) (.cons (.con (.str [119, 105, 116, 104])) (.cons (.con (.str [107, 110, 111, 119, 115])) (.cons (.con (.str [65, 110, 110])) (.cons (.con (.str [97, 49])) (.cons (.con (.str [97, 98, 99, 100, 101, 102, 103, 104, 105])) (.cons (.con (.str [97, 32, 98])) (.cons (.con (.str [98])) .nil))))))))))))))))))
    (.seq (.set 1 (.op 0 (.var 1) (.lst (.cons (.tup .nil) (.cons (.tup (.cons (.con (.str [97])) .nil)) (.cons (.lst (.cons (.con (.str [97])) .nil)) (.cons (.lst .nil) (.cons .dct0 (.cons (.dct (.pair (.con (.str [97])) (.con (.int 1)) .nil)) (.cons (.tup (.cons (.con (.str [97])) (.cons (.con (.str [98])) .nil))) (.cons (.tup (.cons (.tup (.cons (.con (.str [97])) .nil)) .nil)) .nil)))))))))))
    (.seq (.ret (.ix (.var 1) (.call 0 0 (.cons (.var 0) (.cons (.con (.int 24)) .nil)) .nil)))
    .done)))
end LB
set_option maxHeartbeats 4000000
namespace DL
open PySem L2 SeqAt
theorem Az.all {B k m : Nat} {xs : List D} {r : D} (h : (xs.all fun d => DL.di B d && decide (DL.dp d ≤ k) && decide (DL.wt d ≤ m)) = true) (hr : r ∈ xs) : Az B k m r := by
  have := List.all_eq_true.mp h r hr
  simp only [Bool.and_eq_true, decide_eq_true_eq] at this
  exact ⟨this.1.1, this.1.2, this.2⟩
theorem Az.tupM {B k m n : Nat} {xs : List D} (h : Zs B k m xs) (hm : m + 1 ≤ n) : Az B (k + 1) n (.tup xs) := (Az.tup h).mono (Nat.le_refl _) (Nat.le_refl _) hm
theorem Az.lstM {B k m n : Nat} {xs : List D} (h : Zs B k m xs) (hm : m + 1 ≤ n) : Az B (k + 1) n (.lst xs) := (Az.lst h).mono (Nat.le_refl _) (Nat.le_refl _) hm
theorem Az.strM {B k m n : Nat} {x : List Nat} (h : Ss m x) (hm : m + 1 ≤ n) : Az B k n (.str x) := (Az.str h).mono (Nat.le_refl _) (Nat.le_refl _) (by omega)
theorem Az.up {B C k l m n : Nat} {d : D} (h : Az B k m d) (h1 : B ≤ C) (h2 : k ≤ l) (h3 : m ≤ n) : Az C l n d := h.mono h1 h2 h3
end DL
namespace LB
open PySem L2 DL SeqAt
local macro_rules | `(tactic| exists $hs,*) => `(tactic| simp -implicitDefEqProofs only [optW_s, kRv_k, kVal_v, kVal_l, kVal_d, kCell_o, kBl_k, kInt_k, kOB_k, drv_bl, drv_int, drv_str, drv_tup, drv_lst, drv_scr, slD_k, slP_l, d_var, r_var, o_var, p_var, o_peek, d_con, r_con, o_con, kTupF_k, kLstF_k, kl0, kt1, kl1, kt2, kl2, kt3, kl3, kt4, kl4, kl14, r_tup, d_tup, o_tup, r_lst, d_lst, o_lst, r_dct0, d_dct0, r_op, d_op, o_op, p_op, r_cmp, d_cmp, b_cmp, r_ix, d_ix, o_ix, kO1_k, kO2_vv, kO2_o0, kO2_o1, kO2_o2, kO2_o3, kO2_o4, kO2_o5, cmG0, cmG2, cmG4, cmG7, b_and, r_and, b_or, o_or, kAnd_t, kAnd_f, kOr_t, kOr_f, b_not, kNot_k, b_yes, d_ifx, r_ifx, kIf_t, kIf_f, r_neg, p_neg, kUF_vu, r_sl, d_sl, o_sl, kS1_k, kS2_k, kS3_k, p_nil, r_bi, d_bi, o_bi, kCa_0, kCa_3, kCa_4, kCa_5, kCa_7, kCa_8, kNew_k, kCa_10, r_join, d_join, kJ1_s, kJ2_k, r_call, d_call, o_call, b_call, kF1_k, kF2_k, l_nil, ol_nil, l_cons, ol_cons, kC1_k, kC2_k, r_comp, d_comp, o_comp, l_itv, kIt_k, l_itr1, l_ite, kCIF_k, x_set, x_setO, x_setC, kSet_k, kSetO_k, x_ret, x_retO, rtO_k, x_cond, kCond_t, kCond_f, x_loop, x_done, x_seq, kSq_n, kSq_r, kEnd_r, kTurn_n, kTurn_r, fg_n, fg_c, kBind_o, kBind_2, kSome_k, kKeep_t, kKeep_f, compF_o, x_app, kApp_k, apO_k, x_put, kT1_k, kT2_k, kT3_k, dAdd_i, dSub_i, dNeg_i, dLt_i, dGt_i, dEq_i, dEq_s, gMax_i, gMin_i, gLen_l, gLen_t, gLen_r, gTuple_l, gInt_b, dIx_l, dIx_t, it_l, it_t, gEnum_l, List.getElem?_cons_zero, List.getElem?_cons_succ, List.set_cons_zero, List.set_cons_succ, List.map_cons, List.map_nil, List.cons_append, List.nil_append, Option.bind_some, Option.map_some, Option.bind_none, Option.map_none, Bool.not_true, Bool.not_false, DL.oAdd_l, DL.oAdd_s, DL.oSl_s, $[$hs:term],*])
local macro_rules | `(tactic| decreasing_trivial) => `(tactic| first | assumption | exact Zs.nil | (apply Zs.app <;> decreasing_trivial) | (apply Zs.cut; decreasing_trivial) | (apply Zs.rev; decreasing_trivial) | (apply Zs.cons <;> decreasing_trivial) | (apply Ss.app <;> decreasing_trivial) | (apply Ss.cut; decreasing_trivial) | (apply Ss.rev; decreasing_trivial) | exact Ss.lit (by decide) | (apply Az.tup; decreasing_trivial) | (apply Az.lst; decreasing_trivial) | exact Az.non | exact Az.bl)
local macro_rules | `(tactic| get_elem_tactic_trivial) => `(tactic| first | (apply le_line; simp only [List.length_cons, List.length_nil]; omega) | (apply lt_line; simp only [List.length_cons, List.length_nil]; omega) | (apply zz2; decreasing_trivial; decreasing_trivial; omega) | (apply ss2; decreasing_trivial; decreasing_trivial; (try simp only [List.length_cons, List.length_nil]); omega) | (apply ss1; decreasing_trivial; omega))
end LB
set_option maxHeartbeats 4000000
namespace LB
open PySem L2 DL SeqAt
local macro_rules | `(tactic| exists $hs,*) => `(tactic| simp -implicitDefEqProofs only [optW_s, kRv_k, kVal_v, kVal_l, kVal_d, kCell_o, kBl_k, kInt_k, kOB_k, drv_bl, drv_int, drv_str, drv_tup, drv_lst, drv_scr, slD_k, slP_l, d_var, r_var, o_var, p_var, o_peek, d_con, r_con, o_con, kTupF_k, kLstF_k, kl0, kt1, kl1, kt2, kl2, kt3, kl3, kt4, kl4, kl14, r_tup, d_tup, o_tup, r_lst, d_lst, o_lst, r_dct0, d_dct0, r_op, d_op, o_op, p_op, r_cmp, d_cmp, b_cmp, r_ix, d_ix, o_ix, kO1_k, kO2_vv, kO2_o0, kO2_o1, kO2_o2, kO2_o3, kO2_o4, kO2_o5, cmG0, cmG2, cmG4, cmG7, b_and, r_and, b_or, o_or, kAnd_t, kAnd_f, kOr_t, kOr_f, b_not, kNot_k, b_yes, d_ifx, r_ifx, kIf_t, kIf_f, r_neg, p_neg, kUF_vu, r_sl, d_sl, o_sl, kS1_k, kS2_k, kS3_k, p_nil, r_bi, d_bi, o_bi, kCa_0, kCa_3, kCa_4, kCa_5, kCa_7, kCa_8, kNew_k, kCa_10, r_join, d_join, kJ1_s, kJ2_k, r_call, d_call, o_call, b_call, kF1_k, kF2_k, l_nil, ol_nil, l_cons, ol_cons, kC1_k, kC2_k, r_comp, d_comp, o_comp, l_itv, kIt_k, l_itr1, l_ite, kCIF_k, x_set, x_setO, x_setC, kSet_k, kSetO_k, x_ret, x_retO, rtO_k, x_cond, kCond_t, kCond_f, x_loop, x_done, x_seq, kSq_n, kSq_r, kEnd_r, kTurn_n, kTurn_r, fg_n, fg_c, kBind_o, kBind_2, kSome_k, kKeep_t, kKeep_f, compF_o, x_app, kApp_k, apO_k, x_put, kT1_k, kT2_k, kT3_k, dAdd_i, dSub_i, dNeg_i, dLt_i, dGt_i, dEq_i, dEq_s, gMax_i, gMin_i, gLen_l, gLen_t, gLen_r, gTuple_l, gInt_b, dIx_l, dIx_t, it_l, it_t, gEnum_l, List.getElem?_cons_zero, List.getElem?_cons_succ, List.set_cons_zero, List.set_cons_succ, List.map_cons, List.map_nil, List.cons_append, List.nil_append, Option.bind_some, Option.map_some, Option.bind_none, Option.map_none, Bool.not_true, Bool.not_false, DL.oAdd_l, DL.oAdd_s, DL.oSl_s, $[$hs:term],*])
local macro_rules | `(tactic| decreasing_trivial) => `(tactic| first | assumption | exact Zs.nil | (apply Zs.app <;> decreasing_trivial) | (apply Zs.cut; decreasing_trivial) | (apply Zs.rev; decreasing_trivial) | (apply Zs.cons <;> decreasing_trivial) | (apply Ss.app <;> decreasing_trivial) | (apply Ss.cut; decreasing_trivial) | (apply Ss.rev; decreasing_trivial) | exact Ss.lit (by decide))
local macro_rules | `(tactic| get_elem_tactic_trivial) => `(tactic| first | (apply le_line; simp only [List.length_cons, List.length_nil]; omega) | (apply lt_line; simp only [List.length_cons, List.length_nil]; omega) | (apply zz2; decreasing_trivial; decreasing_trivial; omega) | (apply ss2; decreasing_trivial; decreasing_trivial; (try simp only [List.length_cons, List.length_nil]); omega) | (apply ss1; decreasing_trivial; omega))
end LB
set_option maxHeartbeats 4000000
namespace DL
open PySem L2 SeqAt
structure Role where
  nm : List Nat
  dr : List Nat
  hs : List (List Nat)
  ws : List (List Nat)
def Role.e (r : Role) : D := .tup [.str r.nm, .str r.dr, .tup (r.hs.map D.str), .tup (r.ws.map D.str)]
structure RoleOk (dn : List (List Nat)) (r : Role) : Prop where
  nm : Nm r.nm
  dr : r.dr ∈ dn
  hs : r.hs.Pairwise (· < ·)
  hl : r.hs.length ≤ 2
  hn : ∀ w ∈ r.hs, Nm w
  ws : r.ws.Pairwise (· < ·)
  wl : r.ws.length ≤ 4
  wn : ∀ w ∈ r.ws, Nm w
end DL
namespace LB
open PySem L2 DL SeqAt
local macro_rules | `(tactic| exists $hs,*) => `(tactic| simp -implicitDefEqProofs only [optW_s, kRv_k, kVal_v, kVal_l, kVal_d, kCell_o, kBl_k, kInt_k, kOB_k, drv_bl, drv_int, drv_str, drv_tup, drv_lst, drv_scr, slD_k, slP_l, d_var, r_var, o_var, p_var, o_peek, d_con, r_con, o_con, kTupF_k, kLstF_k, kl0, kt1, kl1, kt2, kl2, kt3, kl3, kt4, kl4, kl14, r_tup, d_tup, o_tup, r_lst, d_lst, o_lst, r_dct0, d_dct0, r_op, d_op, o_op, p_op, r_cmp, d_cmp, b_cmp, r_ix, d_ix, o_ix, kO1_k, kO2_vv, kO2_o0, kO2_o1, kO2_o2, kO2_o3, kO2_o4, kO2_o5, cmG0, cmG2, cmG4, cmG7, b_and, r_and, b_or, o_or, kAnd_t, kAnd_f, kOr_t, kOr_f, b_not, kNot_k, b_yes, d_ifx, r_ifx, kIf_t, kIf_f, r_neg, p_neg, kUF_vu, r_sl, d_sl, o_sl, kS1_k, kS2_k, kS3_k, p_nil, r_bi, d_bi, o_bi, kCa_0, kCa_3, kCa_4, kCa_5, kCa_7, kCa_8, kNew_k, kCa_10, r_join, d_join, kJ1_s, kJ2_k, r_call, d_call, o_call, b_call, kF1_k, kF2_k, l_nil, ol_nil, l_cons, ol_cons, kC1_k, kC2_k, r_comp, d_comp, o_comp, l_itv, kIt_k, l_itr1, l_ite, kCIF_k, x_set, x_setO, x_setC, kSet_k, kSetO_k, x_ret, x_retO, rtO_k, x_cond, kCond_t, kCond_f, x_loop, x_done, x_seq, kSq_n, kSq_r, kEnd_r, kTurn_n, kTurn_r, fg_n, fg_c, kBind_o, kBind_2, kSome_k, kKeep_t, kKeep_f, compF_o, x_app, kApp_k, apO_k, x_put, kT1_k, kT2_k, kT3_k, dAdd_i, dSub_i, dNeg_i, dLt_i, dGt_i, dEq_i, dEq_s, gMax_i, gMin_i, gLen_l, gLen_t, gLen_r, gTuple_l, gInt_b, dIx_l, dIx_t, it_l, it_t, gEnum_l, List.getElem?_cons_zero, List.getElem?_cons_succ, List.set_cons_zero, List.set_cons_succ, List.map_cons, List.map_nil, List.cons_append, List.nil_append, Option.bind_some, Option.map_some, Option.bind_none, Option.map_none, Bool.not_true, Bool.not_false, DL.oAdd_l, DL.oAdd_s, DL.oSl_s, $[$hs:term],*])
local macro_rules | `(tactic| decreasing_trivial) => `(tactic| first | assumption | exact Zs.nil | (apply Zs.app <;> decreasing_trivial) | (apply Zs.cut; decreasing_trivial) | (apply Zs.rev; decreasing_trivial) | (apply Zs.cons <;> decreasing_trivial) | (apply Ss.app <;> decreasing_trivial) | (apply Ss.cut; decreasing_trivial) | (apply Ss.rev; decreasing_trivial) | exact Ss.lit (by decide))
local macro_rules | `(tactic| get_elem_tactic_trivial) => `(tactic| first | (apply le_line; simp only [List.length_cons, List.length_nil]; omega) | (apply lt_line; simp only [List.length_cons, List.length_nil]; omega) | (apply zz2; decreasing_trivial; decreasing_trivial; omega) | (apply ss2; decreasing_trivial; decreasing_trivial; (try simp only [List.length_cons, List.length_nil]); omega) | (apply ss1; decreasing_trivial; omega))
theorem two {d : Int} {a b : Int} (h0 : 0 ≤ d) (h1 : d < 2) : ∃ v : Int, (v = a ∨ v = b) ∧ atI [D.int a, D.int b] d = some (.int v) := by
  obtain ⟨x, hx, e⟩ := pick (xs := [D.int a, D.int b]) h0 h1
  simp only [List.mem_cons, List.not_mem_nil, or_false] at hx
  rcases hx with rfl | rfl
  · exact ⟨_, .inl rfl, e⟩
  · exact ⟨_, .inr rfl, e⟩
end LB
set_option maxHeartbeats 4000000
namespace DL
open PySem L2 SeqAt
theorem Dd.cases {d : D} (h : Dd d) : (∃ c ns xs, d = .obj c ns xs) ∨ (∃ i, d = .fn i) ∨ (∃ n, d = .ref n) ∨ (∃ ns, d = .scr ns) → False := by
  rintro (⟨_, _, _, rfl⟩ | ⟨_, rfl⟩ | ⟨_, rfl⟩ | ⟨_, rfl⟩) <;> (have := h.dt; simp [dt] at this)
def isStr (d : D) (z : List Nat) : Bool := match d with | .str x => x == z | _ => false
theorem len2 {α : Type} {xs : List α} (h : xs.length = 2) : ∃ a b, xs = [a, b] := by
  match xs, h with
  | [a, b], _ => exact ⟨a, b, rfl⟩
end DL
namespace LB
open PySem L2 DL SeqAt
local macro_rules | `(tactic| exists $hs,*) => `(tactic| simp -implicitDefEqProofs only [optW_s, kRv_k, kVal_v, kVal_l, kVal_d, kCell_o, kBl_k, kInt_k, kOB_k, drv_bl, drv_int, drv_str, drv_tup, drv_lst, drv_scr, slD_k, slP_l, d_var, r_var, o_var, p_var, o_peek, d_con, r_con, o_con, kTupF_k, kLstF_k, kl0, kt1, kl1, kt2, kl2, kt3, kl3, kt4, kl4, kl14, r_tup, d_tup, o_tup, r_lst, d_lst, o_lst, r_dct0, d_dct0, r_op, d_op, o_op, p_op, r_cmp, d_cmp, b_cmp, r_ix, d_ix, o_ix, kO1_k, kO2_vv, kO2_o0, kO2_o1, kO2_o2, kO2_o3, kO2_o4, kO2_o5, cmG0, cmG2, cmG4, cmG7, b_and, r_and, b_or, o_or, kAnd_t, kAnd_f, kOr_t, kOr_f, b_not, kNot_k, b_yes, d_ifx, r_ifx, kIf_t, kIf_f, r_neg, p_neg, kUF_vu, r_sl, d_sl, o_sl, kS1_k, kS2_k, kS3_k, p_nil, r_bi, d_bi, o_bi, kCa_0, kCa_3, kCa_4, kCa_5, kCa_7, kCa_8, kNew_k, kCa_10, r_join, d_join, kJ1_s, kJ2_k, r_call, d_call, o_call, b_call, kF1_k, kF2_k, l_nil, ol_nil, l_cons, ol_cons, kC1_k, kC2_k, r_comp, d_comp, o_comp, l_itv, kIt_k, l_itr1, l_ite, kCIF_k, x_set, x_setO, x_setC, kSet_k, kSetO_k, x_ret, x_retO, rtO_k, x_cond, kCond_t, kCond_f, x_loop, x_done, x_seq, kSq_n, kSq_r, kEnd_r, kTurn_n, kTurn_r, fg_n, fg_c, kBind_o, kBind_2, kSome_k, kKeep_t, kKeep_f, compF_o, x_app, kApp_k, apO_k, x_put, kT1_k, kT2_k, kT3_k, dAdd_i, dSub_i, dNeg_i, dLt_i, dGt_i, dEq_i, dEq_s, gMax_i, gMin_i, gLen_l, gLen_t, gLen_r, gTuple_l, gInt_b, dIx_l, dIx_t, it_l, it_t, gEnum_l, List.getElem?_cons_zero, List.getElem?_cons_succ, List.set_cons_zero, List.set_cons_succ, List.map_cons, List.map_nil, List.cons_append, List.nil_append, Option.bind_some, Option.map_some, Option.bind_none, Option.map_none, Bool.not_true, Bool.not_false, DL.oAdd_l, DL.oAdd_s, DL.oSl_s, $[$hs:term],*])
local macro_rules | `(tactic| decreasing_trivial) => `(tactic| first | assumption | exact Zs.nil | (apply Zs.app <;> decreasing_trivial) | (apply Zs.cut; decreasing_trivial) | (apply Zs.rev; decreasing_trivial) | (apply Zs.cons <;> decreasing_trivial) | (apply Ss.app <;> decreasing_trivial) | (apply Ss.cut; decreasing_trivial) | (apply Ss.rev; decreasing_trivial) | exact Ss.lit (by decide))
local macro_rules | `(tactic| get_elem_tactic_trivial) => `(tactic| first | (apply le_line; simp only [List.length_cons, List.length_nil]; omega) | (apply lt_line; simp only [List.length_cons, List.length_nil]; omega) | (apply zz2; decreasing_trivial; decreasing_trivial; omega) | (apply ss2; decreasing_trivial; decreasing_trivial; (try simp only [List.length_cons, List.length_nil]); omega) | (apply ss1; decreasing_trivial; omega))
section
variable {S : Sto} {E : XC} {Q : Rv → Sto → Prop}
end
end LB
set_option maxHeartbeats 4000000
namespace LB
open PySem L2 DL SeqAt
local macro_rules | `(tactic| exists $hs,*) => `(tactic| simp -implicitDefEqProofs only [optW_s, kRv_k, kVal_v, kVal_l, kVal_d, kCell_o, kBl_k, kInt_k, kOB_k, drv_bl, drv_int, drv_str, drv_tup, drv_lst, drv_scr, slD_k, slP_l, d_var, r_var, o_var, p_var, o_peek, d_con, r_con, o_con, kTupF_k, kLstF_k, kl0, kt1, kl1, kt2, kl2, kt3, kl3, kt4, kl4, kl14, r_tup, d_tup, o_tup, r_lst, d_lst, o_lst, r_dct0, d_dct0, r_op, d_op, o_op, p_op, r_cmp, d_cmp, b_cmp, r_ix, d_ix, o_ix, kO1_k, kO2_vv, kO2_o0, kO2_o1, kO2_o2, kO2_o3, kO2_o4, kO2_o5, cmG0, cmG2, cmG4, cmG7, b_and, r_and, b_or, o_or, kAnd_t, kAnd_f, kOr_t, kOr_f, b_not, kNot_k, b_yes, d_ifx, r_ifx, kIf_t, kIf_f, r_neg, p_neg, kUF_vu, r_sl, d_sl, o_sl, kS1_k, kS2_k, kS3_k, p_nil, r_bi, d_bi, o_bi, kCa_0, kCa_3, kCa_4, kCa_5, kCa_7, kCa_8, kNew_k, kCa_10, r_join, d_join, kJ1_s, kJ2_k, r_call, d_call, o_call, b_call, kF1_k, kF2_k, l_nil, ol_nil, l_cons, ol_cons, kC1_k, kC2_k, r_comp, d_comp, o_comp, l_itv, kIt_k, l_itr1, l_ite, kCIF_k, x_set, x_setO, x_setC, kSet_k, kSetO_k, x_ret, x_retO, rtO_k, x_cond, kCond_t, kCond_f, x_loop, x_done, x_seq, kSq_n, kSq_r, kEnd_r, kTurn_n, kTurn_r, fg_n, fg_c, kBind_o, kBind_2, kSome_k, kKeep_t, kKeep_f, compF_o, x_app, kApp_k, apO_k, x_put, kT1_k, kT2_k, kT3_k, dAdd_i, dSub_i, dNeg_i, dLt_i, dGt_i, dEq_i, dEq_s, gMax_i, gMin_i, gLen_l, gLen_t, gLen_r, gTuple_l, gInt_b, dIx_l, dIx_t, it_l, it_t, gEnum_l, List.getElem?_cons_zero, List.getElem?_cons_succ, List.set_cons_zero, List.set_cons_succ, List.map_cons, List.map_nil, List.cons_append, List.nil_append, Option.bind_some, Option.map_some, Option.bind_none, Option.map_none, Bool.not_true, Bool.not_false, DL.oAdd_l, DL.oAdd_s, DL.oSl_s, $[$hs:term],*])
local macro_rules | `(tactic| decreasing_trivial) => `(tactic| first | assumption | exact Zs.nil | (apply Zs.app <;> decreasing_trivial) | (apply Zs.cut; decreasing_trivial) | (apply Zs.rev; decreasing_trivial) | (apply Zs.cons <;> decreasing_trivial) | (apply Ss.app <;> decreasing_trivial) | (apply Ss.cut; decreasing_trivial) | (apply Ss.rev; decreasing_trivial) | exact Ss.lit (by decide))
local macro_rules | `(tactic| get_elem_tactic_trivial) => `(tactic| first | (apply le_line; simp only [List.length_cons, List.length_nil]; omega) | (apply lt_line; simp only [List.length_cons, List.length_nil]; omega) | (apply zz2; decreasing_trivial; decreasing_trivial; omega) | (apply ss2; decreasing_trivial; decreasing_trivial; (try simp only [List.length_cons, List.length_nil]); omega) | (apply ss1; decreasing_trivial; omega))
section
variable {S : Sto} {E : XC} {Q : Rv → Sto → Prop}
end
end LB
set_option maxHeartbeats 4000000
namespace DL
open PySem L2 SeqAt
theorem Zs.all {B k m : Nat} {xs : List D} (h : ∀ x ∈ xs, Az B k m x) : Zs B k (xs.length * m) xs := by
  induction xs with
  | nil => exact Zs.nil.mono (Nat.le_refl _) (Nat.le_refl _) (Nat.zero_le _)
  | cons x xs ih =>
    have := Zs.cons (h x (by simp)) (ih fun y hy => h y (by simp [hy]))
    refine this.mono (Nat.le_refl _) (Nat.le_refl _) ?_
    rw [List.length_cons, Nat.succ_mul]; omega
theorem Zs.up {B k m n : Nat} {xs : List D} (h : Zs B k m xs) (hm : m ≤ n) : Zs B k n xs := h.mono (Nat.le_refl _) (Nat.le_refl _) hm
theorem Zs.allN {B k m n : Nat} {xs : List D} (hl : xs.length ≤ n) (h : ∀ x ∈ xs, Az B k m x) : Zs B k (n * m) xs := (Zs.all h).mono (Nat.le_refl _) (Nat.le_refl _) (Nat.mul_le_mul_right _ hl)
theorem Az.nm {B k : Nat} {w : List Nat} (h : Nm w) : Az B k 9 (.str w) := Az.strM h.ss (by decide)
theorem Zs.nms {B k n : Nat} {ws : List (List Nat)} (hl : ws.length ≤ n) (h : ∀ w ∈ ws, Nm w) : Zs B k (n * 9) (ws.map D.str) := Zs.allN (by rwa [List.length_map]) fun x hx => by obtain ⟨w, hw, rfl⟩ := List.mem_map.mp hx; exact Az.nm (h w hw)
theorem off_ss : Ss 8 offL := ⟨by decide, by decide⟩
theorem Az.end_ {B k : Nat} {pl : List (List Nat)} {e : List Nat} (hN : ∀ w ∈ pl, Nm w) (h : e = offL ∨ e ∈ pl) : Az B k 9 (.str e) := by
  rcases h with rfl | h
  · exact Az.strM off_ss (by decide)
  · exact Az.nm (hN e h)
theorem HouseD.az {d : D} (h : HouseD d) : Az 1000 3 600 d := by
  obtain ⟨pl, ds, rs, rfl, p0, p1, pN, _, d0, d1, dN, _, r0, r1, rN, _⟩ := h.ex
  have hds : ∀ x ∈ ds, Az 1000 1 30 x := fun x hx => by
    obtain ⟨n, e1, e2, b, rfl, hn, h1, h2, _⟩ := (dN x hx).ex
    exact (Az.tup (Zs.cons (Az.nm hn) (Zs.cons (Az.end_ pN h1) (Zs.cons (Az.end_ pN h2) (Zs.cons Az.bl Zs.nil))))).mono (Nat.le_refl _) (Nat.le_refl _) (by decide)
  have hrs : ∀ x ∈ rs, Az 1000 1 13 x := fun x hx => by
    obtain ⟨n, a, b, rfl, hn, h1, h2, h3, h4⟩ := (rN x hx).ex
    exact (Az.tup (Zs.cons (Az.nm hn) (Zs.cons (Az.int (i := a) (by omega)) (Zs.cons (Az.int (i := b) (by omega)) Zs.nil)))).mono (Nat.le_refl _) (Nat.le_refl _) (by decide)
  have z1 : Az 1000 2 55 (.tup (pl.map D.str)) := (Az.tup (Zs.nms (k := 1) p1 pN)).mono (Nat.le_refl _) (Nat.le_refl _) (by decide)
  have z2 : Az 1000 2 361 (.tup ds) := (Az.tup (Zs.allN d1 hds)).mono (Nat.le_refl _) (Nat.le_refl _) (by decide)
  have z3 : Az 1000 2 105 (.tup rs) := (Az.tup (Zs.allN r1 hrs)).mono (Nat.le_refl _) (Nat.le_refl _) (by decide)
  exact (Az.tup (Zs.cons z1 (Zs.cons z2 (Zs.cons z3 Zs.nil)))).mono (Nat.le_refl _) (Nat.le_refl _) (by decide)
theorem RoleOk.az {dn : List (List Nat)} {r : Role} (h : RoleOk dn r) (hd : ∀ w ∈ dn, Nm w) {B : Nat} : Az B 2 80 r.e :=
  (Az.tup (Zs.cons (Az.nm h.nm) (Zs.cons (Az.nm (hd _ h.dr)) (Zs.cons (Az.tup (Zs.nms (k := 0) h.hl h.hn)) (Zs.cons (Az.tup (Zs.nms (k := 0) h.wl h.wn)) Zs.nil))))).mono (Nat.le_refl _) (Nat.le_refl _) (by decide)
theorem Az.dd {B k m : Nat} {d : D} (h : Az B k m d) (h1 : B < 10 ^ 110) (h2 : k ≤ 50) (h3 : m ≤ 90000) : Dd d := (h.sz h1).mono h2 h3
theorem repr_az {B k m : Nat} {d : D} (h : Az B k m d) (h1 : B < 10 ^ 110) (h2 : k ≤ 60) (h3 : m ≤ 100000) : gRepr [d] = some (.str (reprD d)) := repr_ok (h.sz h1) h2 h3
end DL
namespace LB
open PySem L2 DL SeqAt
local macro_rules | `(tactic| exists $hs,*) => `(tactic| simp -implicitDefEqProofs only [optW_s, kRv_k, kVal_v, kVal_l, kVal_d, kCell_o, kBl_k, kInt_k, kOB_k, drv_bl, drv_int, drv_str, drv_tup, drv_lst, drv_scr, slD_k, slP_l, d_var, r_var, o_var, p_var, o_peek, d_con, r_con, o_con, kTupF_k, kLstF_k, kl0, kt1, kl1, kt2, kl2, kt3, kl3, kt4, kl4, kl14, r_tup, d_tup, o_tup, r_lst, d_lst, o_lst, r_dct0, d_dct0, r_op, d_op, o_op, p_op, r_cmp, d_cmp, b_cmp, r_ix, d_ix, o_ix, kO1_k, kO2_vv, kO2_o0, kO2_o1, kO2_o2, kO2_o3, kO2_o4, kO2_o5, cmG0, cmG2, cmG4, cmG7, b_and, r_and, b_or, o_or, kAnd_t, kAnd_f, kOr_t, kOr_f, b_not, kNot_k, b_yes, d_ifx, r_ifx, kIf_t, kIf_f, r_neg, p_neg, kUF_vu, r_sl, d_sl, o_sl, kS1_k, kS2_k, kS3_k, p_nil, r_bi, d_bi, o_bi, kCa_0, kCa_3, kCa_4, kCa_5, kCa_7, kCa_8, kNew_k, kCa_10, r_join, d_join, kJ1_s, kJ2_k, r_call, d_call, o_call, b_call, kF1_k, kF2_k, l_nil, ol_nil, l_cons, ol_cons, kC1_k, kC2_k, r_comp, d_comp, o_comp, l_itv, kIt_k, l_itr1, l_ite, kCIF_k, x_set, x_setO, x_setC, kSet_k, kSetO_k, x_ret, x_retO, rtO_k, x_cond, kCond_t, kCond_f, x_loop, x_done, x_seq, kSq_n, kSq_r, kEnd_r, kTurn_n, kTurn_r, fg_n, fg_c, kBind_o, kBind_2, kSome_k, kKeep_t, kKeep_f, compF_o, x_app, kApp_k, apO_k, x_put, kT1_k, kT2_k, kT3_k, dAdd_i, dSub_i, dNeg_i, dLt_i, dGt_i, dEq_i, dEq_s, gMax_i, gMin_i, gLen_l, gLen_t, gLen_r, gTuple_l, gInt_b, dIx_l, dIx_t, it_l, it_t, gEnum_l, List.getElem?_cons_zero, List.getElem?_cons_succ, List.set_cons_zero, List.set_cons_succ, List.map_cons, List.map_nil, List.cons_append, List.nil_append, Option.bind_some, Option.map_some, Option.bind_none, Option.map_none, Bool.not_true, Bool.not_false, DL.oAdd_l, DL.oAdd_s, DL.oSl_s, $[$hs:term],*])
local macro_rules | `(tactic| decreasing_trivial) => `(tactic| first | assumption | exact Zs.nil | (apply Zs.app <;> decreasing_trivial) | (apply Zs.cut; decreasing_trivial) | (apply Zs.rev; decreasing_trivial) | (apply Zs.cons <;> decreasing_trivial) | (apply Ss.app <;> decreasing_trivial) | (apply Ss.cut; decreasing_trivial) | (apply Ss.rev; decreasing_trivial) | exact Ss.lit (by decide) | (apply Az.tup; decreasing_trivial) | (apply Az.lst; decreasing_trivial) | exact Az.non | exact Az.bl)
local macro_rules | `(tactic| get_elem_tactic_trivial) => `(tactic| first | (apply le_line; simp only [List.length_cons, List.length_nil]; omega) | (apply lt_line; simp only [List.length_cons, List.length_nil]; omega) | (apply zz2; decreasing_trivial; decreasing_trivial; omega) | (apply ss2; decreasing_trivial; decreasing_trivial; (try simp only [List.length_cons, List.length_nil]); omega) | (apply ss1; decreasing_trivial; omega))
section
variable {S : Sto} {E : XC} {Q : Rv → Sto → Prop}
end
end LB
namespace LB
open PySem L2 DL
def P_named : List Str := ["some", "name"]
def c_named_l0 : C := (.seq (.cond (.cmp 0 (.ix (.var 2) (.con (.int 0))) (.var 1)) (.seq (.ret (.var 2))
    .done)
    .done)
    .done)
def c_named : C := (.seq (.loop (.one 2) [2] (.itv (.var 0)) c_named_l0)
    (.seq (.rsi 1019 "NoName" ["name"] (.cons (.var 1) .nil))
    .done))
def T_named : Tab := { fns := [], cons := [], blt := [], xrn := [(1019, "NoName", ["name"])] }
def F_named : FD := runF T_named 3 c_named
def P_change : List Str := ["house", "dress", "other"]
def c_change : C := (.seq (.set 3 (.call 0 0 (.cons (.ix (.var 0) (.con (.int 2))) (.cons (.var 1) .nil)) .nil))
    (.seq (.set 4 (.call 0 0 (.cons (.ix (.var 0) (.con (.int 2))) (.cons (.var 2) .nil)) .nil))
    (.seq (.ret (.ifx (.cmp 0 (.ix (.var 3) (.con (.int 0))) (.ix (.var 4) (.con (.int 0)))) (.con (.int 0)) (.op 0 (.ix (.var 3) (.con (.int 2))) (.ix (.var 4) (.con (.int 1))))))
    .done)))
def T_change : Tab := { fns := [⟨"named", F_named, 3, P_named, [⟨2, [], [0, 1], []⟩]⟩], cons := [], blt := [] }
def F_change : FD := runF T_change 5 c_change
theorem go_change_0 {fa fk : Ev (List D)} {γ : List Slot} {S : Sto} {E : XC} {Q : Rv → Sto → Prop} : fnE T_change 0 0 fa fk γ S E Q = fa γ S E (kF1 F_named 2 0 [0, 1] [] fk γ E Q) := rfl
theorem gf_change_0 {a0 a1 : D} {S : Sto} {E : XC} {Q : Rv → Sto → Prop} : goF F_named 2 0 [0, 1] [] [a0, a1] [] S E Q = F_named [a0, a1] S E Q := propext ⟨fun h => h.2, fun h => ⟨⟨rfl, rfl⟩, h⟩⟩
def P_Lasked : List Str := ["way", "home", "first", "second"]
def c_Lasked : C := (.seq (.tryx "NoName" 4 (.tif (.cmp 0 (.var 0) (.con (.int 0)))
    (.trt (.call 0 0 (.cons (.var 1) (.cons (.var 2) (.cons (.var 3) .nil))) .nil))
    .tnx
    (.trt (.call 1 0 .nil (.cons (.var 3) (.cons (.var 1) (.cons (.var 2) .nil)))))) (.seq (.ret (.tup (.cons (.con (.str [110, 111, 32, 110, 97, 109, 101])) (.cons (.xfl "name" (.var 4)) .nil))))
    .done))
    .done)
def T_Lasked : Tab := { fns := [⟨"change", F_change, 4, P_change, [⟨3, [], [0, 1, 2], []⟩]⟩, ⟨"change", F_change, 4, P_change, [⟨0, ["other", "house", "dress"], [1, 2, 0], []⟩]⟩], cons := [], blt := [], xex := [("NoName", [(1019, true)])], xfs := [("name", [1019])] }
theorem xe_Lasked_NoName_1019 : (xlD T_Lasked.xex ("NoName" : Str)).lookup 1019 = some true := rfl
theorem xm_Lasked_name_1019 : (1019 ∈ xlD T_Lasked.xfs ("name" : Str)) = True := eq_true (show 1019 ∈ ([1019] : List Nat) from by decide)
def F_Lasked : FD := runF T_Lasked 5 c_Lasked
theorem go_Lasked_0 {fa fk : Ev (List D)} {γ : List Slot} {S : Sto} {E : XC} {Q : Rv → Sto → Prop} : fnE T_Lasked 0 0 fa fk γ S E Q = fa γ S E (kF1 F_change 3 0 [0, 1, 2] [] fk γ E Q) := rfl
theorem gf_Lasked_0 {a0 a1 a2 : D} {S : Sto} {E : XC} {Q : Rv → Sto → Prop} : goF F_change 3 0 [0, 1, 2] [] [a0, a1, a2] [] S E Q = F_change [a0, a1, a2] S E Q := propext ⟨fun h => h.2, fun h => ⟨⟨rfl, rfl⟩, h⟩⟩
theorem go_Lasked_1 {fa fk : Ev (List D)} {γ : List Slot} {S : Sto} {E : XC} {Q : Rv → Sto → Prop} : fnE T_Lasked 1 0 fa fk γ S E Q = fa γ S E (kF1 F_change 0 3 [1, 2, 0] [] fk γ E Q) := rfl
theorem gf_Lasked_1 {b0 b1 b2 : D} {S : Sto} {E : XC} {Q : Rv → Sto → Prop} : goF F_change 0 3 [1, 2, 0] [] [] [b0, b1, b2] S E Q = F_change [b1, b2, b0] S E Q := propext ⟨fun h => h.2, fun h => ⟨⟨rfl, rfl⟩, h⟩⟩
def P_Ldue : List Str := ["home", "first", "second"]
def c_Ldue : C := (.seq (.set 3 (.comp (.one 5) [("one", 5)] (.itv (.ix (.var 0) (.con (.int 2)))) (.cmp 0 (.ix (.var 5) (.con (.int 0))) (.var 1)) (.var 5)))
    (.seq (.set 4 (.comp (.one 5) [("one", 5)] (.itv (.ix (.var 0) (.con (.int 2)))) (.cmp 0 (.ix (.var 5) (.con (.int 0))) (.var 2)) (.var 5)))
    (.seq (.cond (.cmp 0 (.var 3) (.lst .nil)) (.seq (.ret (.tup (.cons (.con (.str [110, 111, 32, 110, 97, 109, 101])) (.cons (.var 1) .nil))))
    .done)
    .done)
    (.seq (.cond (.cmp 0 (.var 4) (.lst .nil)) (.seq (.ret (.tup (.cons (.con (.str [110, 111, 32, 110, 97, 109, 101])) (.cons (.var 2) .nil))))
    .done)
    .done)
    (.seq (.ret (.ifx (.cmp 0 (.var 1) (.var 2)) (.con (.int 0)) (.op 0 (.ix (.ix (.var 3) (.con (.int 0))) (.con (.int 2))) (.ix (.ix (.var 4) (.con (.int 0))) (.con (.int 1))))))
    .done)))))
def T_Ldue : Tab := { fns := [], cons := [], blt := [] }
def F_Ldue : FD := runF T_Ldue 6 c_Ldue
def P_Lright_k05 : List Str := ["home", "first", "second"]
def c_Lright_k05 : C := (.seq (.set 3 (.bi 8 (.cons (.lst (.cons (.var 0) (.cons (.var 1) (.cons (.var 2) .nil)))) .nil)))
    (.seq (.set 4 (.comp (.one 5) [("way", 5)] (.itv (.lst (.cons (.con (.int 0)) (.cons (.con (.int 1)) (.cons (.con (.int 0)) .nil))))) .yes (.call 0 0 (.cons (.var 5) (.cons (.var 0) (.cons (.var 1) (.cons (.var 2) .nil)))) .nil)))
    (.seq (.ret (.and (.cmp 0 (.bi 8 (.cons (.var 4) .nil)) (.bi 8 (.cons (.op 2 (.lst (.cons (.call 1 0 (.cons (.var 0) (.cons (.var 1) (.cons (.var 2) .nil))) .nil) .nil)) (.con (.int 3))) .nil))) (.cmp 0 (.bi 8 (.cons (.lst (.cons (.var 0) (.cons (.var 1) (.cons (.var 2) .nil)))) .nil)) (.var 3))))
    .done)))
def T_Lright_k05 : Tab := { fns := [⟨"_law_asked", F_Lasked, 5, P_Lasked, [⟨4, [], [0, 1, 2, 3], []⟩]⟩, ⟨"_law_due", F_Ldue, 1, P_Ldue, [⟨3, [], [0, 1, 2], []⟩]⟩], cons := [], blt := ["repr"] }
def F_Lright_k05 : FD := runF T_Lright_k05 6 c_Lright_k05
theorem go_Lright_k05_0 {fa fk : Ev (List D)} {γ : List Slot} {S : Sto} {E : XC} {Q : Rv → Sto → Prop} : fnE T_Lright_k05 0 0 fa fk γ S E Q = fa γ S E (kF1 F_Lasked 4 0 [0, 1, 2, 3] [] fk γ E Q) := rfl
theorem gf_Lright_k05_0 {a0 a1 a2 a3 : D} {S : Sto} {E : XC} {Q : Rv → Sto → Prop} : goF F_Lasked 4 0 [0, 1, 2, 3] [] [a0, a1, a2, a3] [] S E Q = F_Lasked [a0, a1, a2, a3] S E Q := propext ⟨fun h => h.2, fun h => ⟨⟨rfl, rfl⟩, h⟩⟩
theorem go_Lright_k05_1 {fa fk : Ev (List D)} {γ : List Slot} {S : Sto} {E : XC} {Q : Rv → Sto → Prop} : fnE T_Lright_k05 1 0 fa fk γ S E Q = fa γ S E (kF1 F_Ldue 3 0 [0, 1, 2] [] fk γ E Q) := rfl
theorem gf_Lright_k05_1 {a0 a1 a2 : D} {S : Sto} {E : XC} {Q : Rv → Sto → Prop} : goF F_Ldue 3 0 [0, 1, 2] [] [a0, a1, a2] [] S E Q = F_Ldue [a0, a1, a2] S E Q := propext ⟨fun h => h.2, fun h => ⟨⟨rfl, rfl⟩, h⟩⟩
def P_Lodd_k05 : List Str := ["pool", "home"]
def c_Lodd_k05 : C := (.seq (.set 2 (.ix (.comp (.one 4) [("one", 4)] (.itv (.ix (.var 1) (.con (.int 2)))) .yes (.ix (.var 4) (.con (.int 0)))) (.call 0 0 (.cons (.var 0) (.cons (.bi 0 (.cons (.ix (.var 1) (.con (.int 2))) .nil)) .nil)) .nil)))
    (.seq (.set 3 (.lst (.cons (.op 0 (.var 2) (.con (.str [120]))) (.cons (.sl (.var 2) .nil (.neg (.con (.int 1)))) (.cons (.con (.str [])) (.cons (.con (.str [111, 102, 102])) (.cons (.ix (.ix (.var 1) (.con (.int 0))) (.con (.int 0))) (.cons (.ix (.ix (.ix (.var 1) (.con (.int 1))) (.con (.int 0))) (.con (.int 0))) (.cons (.con (.non)) (.cons (.con (.bl true)) (.cons (.con (.int 0)) (.cons (.con (.int 1)) (.cons (.lst .nil) (.cons .dct0 (.cons (.tup (.cons (.var 2) .nil)) (.cons (.lst (.cons (.var 2) .nil)) .nil))))))))))))))))
    (.seq (.ret (.ix (.op 0 (.var 3) (.lst (.cons (.ix (.ix (.var 1) (.con (.int 2))) (.con (.int 0))) (.cons (.op 0 (.var 2) (.con (.str [32]))) .nil)))) (.call 0 0 (.cons (.var 0) (.cons (.con (.int 16)) .nil)) .nil)))
    .done)))
def T_Lodd_k05 : Tab := { fns := [⟨"_law_take", F_Ltake, 1, P_Ltake, [⟨2, [], [0, 1], []⟩]⟩], cons := [], blt := ["len"] }
def F_Lodd_k05 : FD := runF T_Lodd_k05 5 c_Lodd_k05
theorem go_Lodd_k05_0 {fa fk : Ev (List D)} {γ : List Slot} {S : Sto} {E : XC} {Q : Rv → Sto → Prop} : fnE T_Lodd_k05 0 0 fa fk γ S E Q = fa γ S E (kF1 F_Ltake 2 0 [0, 1] [] fk γ E Q) := rfl
theorem gf_Lodd_k05_0 {a0 a1 : D} {S : Sto} {E : XC} {Q : Rv → Sto → Prop} : goF F_Ltake 2 0 [0, 1] [] [a0, a1] [] S E Q = F_Ltake [a0, a1] S E Q := propext ⟨fun h => h.2, fun h => ⟨⟨rfl, rfl⟩, h⟩⟩
def P_Lbeats_k05 : List Str := ["pool"]
def c_Lbeats_k05 : C := (.seq (.ret (.ix (.lst (.cons (.call 0 0 (.cons (.var 0) (.cons (.con (.int 1001)) .nil)) .nil) (.cons (.call 0 0 (.cons (.var 0) (.cons (.con (.int 9)) .nil)) .nil) (.cons (.con (.int 1000)) (.cons (.con (.int 0)) .nil))))) (.call 0 0 (.cons (.var 0) (.cons (.con (.int 4)) .nil)) .nil)))
    .done)
def T_Lbeats_k05 : Tab := { fns := [⟨"_law_take", F_Ltake, 1, P_Ltake, [⟨2, [], [0, 1], []⟩]⟩], cons := [], blt := [] }
def F_Lbeats_k05 : FD := runF T_Lbeats_k05 1 c_Lbeats_k05
theorem go_Lbeats_k05_0 {fa fk : Ev (List D)} {γ : List Slot} {S : Sto} {E : XC} {Q : Rv → Sto → Prop} : fnE T_Lbeats_k05 0 0 fa fk γ S E Q = fa γ S E (kF1 F_Ltake 2 0 [0, 1] [] fk γ E Q) := rfl
def P_Lworn : List Str := ["pool", "home"]
def c_Lworn : C := (.seq (.set 2 (.comp (.one 3) [("one", 3)] (.itv (.ix (.var 1) (.con (.int 2)))) .yes (.tup (.cons (.ix (.var 3) (.con (.int 0))) (.cons (.call 0 0 (.cons (.var 0) .nil) .nil) (.cons (.call 0 0 (.cons (.var 0) .nil) .nil) .nil))))))
    (.seq (.ret (.tup (.cons (.ix (.var 1) (.con (.int 0))) (.cons (.ix (.var 1) (.con (.int 1))) (.cons (.bi 7 (.cons (.var 2) .nil)) .nil)))))
    .done))
def T_Lworn : Tab := { fns := [⟨"_law_beats", F_Lbeats_k05, 2, P_Lbeats_k05, [⟨1, [], [0], []⟩]⟩], cons := [], blt := ["tuple"] }
def F_Lworn : FD := runF T_Lworn 4 c_Lworn
theorem go_Lworn_0 {fa fk : Ev (List D)} {γ : List Slot} {S : Sto} {E : XC} {Q : Rv → Sto → Prop} : fnE T_Lworn 0 0 fa fk γ S E Q = fa γ S E (kF1 F_Lbeats_k05 1 0 [0] [] fk γ E Q) := rfl
theorem gf_Lworn_0 {a0 : D} {S : Sto} {E : XC} {Q : Rv → Sto → Prop} : goF F_Lbeats_k05 1 0 [0] [] [a0] [] S E Q = F_Lbeats_k05 [a0] S E Q := propext ⟨fun h => h.2, fun h => ⟨⟨rfl, rfl⟩, h⟩⟩
def P_law_k05 : List Str := ["script"]
def c_law_k05_l0 : C := (.seq (.cond (.not (.call 4 0 (.cons (.var 3) (.cons (.var 5) (.cons (.var 7) .nil))) .nil)) (.seq (.ret (.con (.bl false)))
    .done)
    .done)
    .done)
def c_law_k05_l1 : C := (.seq (.loop (.one 7) [7] (.itv (.var 4)) c_law_k05_l0)
    .done)
def c_law_k05_l2 : C := (.seq (.cond (.not (.call 4 0 (.cons (.var 3) (.cons (.ix (.var 10) (.con (.int 0))) (.cons (.ix (.var 10) (.con (.int 1))) .nil))) .nil)) (.seq (.ret (.con (.bl false)))
    .done)
    .done)
    .done)
def c_law_k05_l3 : C := (.seq (.set 8 (.call 5 0 (.cons (.var 2) (.cons (.var 3) .nil)) .nil))
    (.seq (.set 9 (.ix (.var 4) (.call 3 0 (.cons (.var 2) (.cons (.bi 0 (.cons (.var 4) .nil)) .nil)) .nil)))
    (.seq (.loop (.one 10) [10] (.itv (.lst (.cons (.tup (.cons (.var 8) (.cons (.var 9) .nil))) (.cons (.tup (.cons (.var 9) (.cons (.var 8) .nil))) (.cons (.tup (.cons (.var 8) (.cons (.call 5 0 (.cons (.var 2) (.cons (.var 3) .nil)) .nil) .nil))) .nil))))) c_law_k05_l2)
    .done)))
def c_law_k05_l4 : C := (.seq (.setC 2 (.call 0 0 (.cons (.var 0) (.cons (.var 1) .nil)) .nil))
    (.seq (.set 3 (.call 1 0 (.cons (.var 2) (.cons (.call 2 0 (.cons (.var 2) (.cons (.call 3 0 (.cons (.var 2) (.cons (.con (.int 3)) .nil)) .nil) .nil)) .nil) .nil)) .nil))
    (.seq (.set 4 (.comp (.one 11) [("one", 11)] (.itv (.ix (.var 3) (.con (.int 2)))) .yes (.ix (.var 11) (.con (.int 0)))))
    (.seq (.loop (.one 5) [5, 7] (.itv (.var 4)) c_law_k05_l1)
    (.seq (.loop (.one 6) [6, 8, 9, 10] (.itr1 (.cons (.con (.int 3)) .nil)) c_law_k05_l3)
    .done)))))
def c_law_k05 : C := (.seq (.loop (.one 1) [1, 2, 3, 4, 5, 6, 7, 8, 9, 10] (.itr1 (.cons (.bi 3 (.cons (.con (.int 1)) (.cons (.bi 4 (.cons (.con (.int 63)) (.cons (.bi 0 (.cons (.var 0) .nil)) .nil))) .nil))) .nil)) c_law_k05_l4)
    (.seq (.ret (.con (.bl true)))
    .done))
def T_law_k05 : Tab := { fns := [⟨"_law_pool", F_Lpool, 1, P_Lpool, [⟨2, [], [0, 1], []⟩]⟩, ⟨"_law_worn", F_Lworn, 3, P_Lworn, [⟨2, [], [0, 1], []⟩]⟩, ⟨"_law_house", F_Lhouse, 3, P_Lhouse, [⟨2, [], [0, 1], []⟩]⟩, ⟨"_law_take", F_Ltake, 1, P_Ltake, [⟨2, [], [0, 1], []⟩]⟩, ⟨"_law_right", F_Lright_k05, 6, P_Lright_k05, [⟨3, [], [0, 1, 2], []⟩]⟩, ⟨"_law_odd", F_Lodd_k05, 2, P_Lodd_k05, [⟨2, [], [0, 1], []⟩]⟩], cons := [], blt := ["len", "max", "min", "range"] }
def F_law_k05 : FD := runF T_law_k05 12 c_law_k05
theorem go_law_k05_0 {fa fk : Ev (List D)} {γ : List Slot} {S : Sto} {E : XC} {Q : Rv → Sto → Prop} : fnE T_law_k05 0 0 fa fk γ S E Q = fa γ S E (kF1 F_Lpool 2 0 [0, 1] [] fk γ E Q) := rfl
theorem gf_law_k05_0 {a0 a1 : D} {S : Sto} {E : XC} {Q : Rv → Sto → Prop} : goF F_Lpool 2 0 [0, 1] [] [a0, a1] [] S E Q = F_Lpool [a0, a1] S E Q := propext ⟨fun h => h.2, fun h => ⟨⟨rfl, rfl⟩, h⟩⟩
theorem go_law_k05_1 {fa fk : Ev (List D)} {γ : List Slot} {S : Sto} {E : XC} {Q : Rv → Sto → Prop} : fnE T_law_k05 1 0 fa fk γ S E Q = fa γ S E (kF1 F_Lworn 2 0 [0, 1] [] fk γ E Q) := rfl
theorem gf_law_k05_1 {a0 a1 : D} {S : Sto} {E : XC} {Q : Rv → Sto → Prop} : goF F_Lworn 2 0 [0, 1] [] [a0, a1] [] S E Q = F_Lworn [a0, a1] S E Q := propext ⟨fun h => h.2, fun h => ⟨⟨rfl, rfl⟩, h⟩⟩
theorem go_law_k05_2 {fa fk : Ev (List D)} {γ : List Slot} {S : Sto} {E : XC} {Q : Rv → Sto → Prop} : fnE T_law_k05 2 0 fa fk γ S E Q = fa γ S E (kF1 F_Lhouse 2 0 [0, 1] [] fk γ E Q) := rfl
theorem gf_law_k05_2 {a0 a1 : D} {S : Sto} {E : XC} {Q : Rv → Sto → Prop} : goF F_Lhouse 2 0 [0, 1] [] [a0, a1] [] S E Q = F_Lhouse [a0, a1] S E Q := propext ⟨fun h => h.2, fun h => ⟨⟨rfl, rfl⟩, h⟩⟩
theorem go_law_k05_3 {fa fk : Ev (List D)} {γ : List Slot} {S : Sto} {E : XC} {Q : Rv → Sto → Prop} : fnE T_law_k05 3 0 fa fk γ S E Q = fa γ S E (kF1 F_Ltake 2 0 [0, 1] [] fk γ E Q) := rfl
theorem gf_law_k05_3 {a0 a1 : D} {S : Sto} {E : XC} {Q : Rv → Sto → Prop} : goF F_Ltake 2 0 [0, 1] [] [a0, a1] [] S E Q = F_Ltake [a0, a1] S E Q := propext ⟨fun h => h.2, fun h => ⟨⟨rfl, rfl⟩, h⟩⟩
theorem go_law_k05_4 {fa fk : Ev (List D)} {γ : List Slot} {S : Sto} {E : XC} {Q : Rv → Sto → Prop} : fnE T_law_k05 4 0 fa fk γ S E Q = fa γ S E (kF1 F_Lright_k05 3 0 [0, 1, 2] [] fk γ E Q) := rfl
theorem gf_law_k05_4 {a0 a1 a2 : D} {S : Sto} {E : XC} {Q : Rv → Sto → Prop} : goF F_Lright_k05 3 0 [0, 1, 2] [] [a0, a1, a2] [] S E Q = F_Lright_k05 [a0, a1, a2] S E Q := propext ⟨fun h => h.2, fun h => ⟨⟨rfl, rfl⟩, h⟩⟩
theorem go_law_k05_5 {fa fk : Ev (List D)} {γ : List Slot} {S : Sto} {E : XC} {Q : Rv → Sto → Prop} : fnE T_law_k05 5 0 fa fk γ S E Q = fa γ S E (kF1 F_Lodd_k05 2 0 [0, 1] [] fk γ E Q) := rfl
theorem gf_law_k05_5 {a0 a1 : D} {S : Sto} {E : XC} {Q : Rv → Sto → Prop} : goF F_Lodd_k05 2 0 [0, 1] [] [a0, a1] [] S E Q = F_Lodd_k05 [a0, a1] S E Q := propext ⟨fun h => h.2, fun h => ⟨⟨rfl, rfl⟩, h⟩⟩
end LB
namespace K05
open PySem L2 DL LB
def topS (i : Nat) : Stmt := PySem.Challenge.pw_promptbook_k05_change_of_dress.main.body.getD i (.Pass ⟨0, 0, 0, 0⟩)
def clsBody : Stmt → List Stmt
  | .ClassDef _ _ _ body _ _ _ _ _ _ _ => body
  | _ => []
def clsAt (K : PySem.W.Frag) (x : Str) : Addr := match PySem.W.nsIn K mainGlobals x with
  | some (some (.ref a)) => a
  | _ => 0
def mpOf (K : PySem.W.Frag) : Mp := ⟨fun c => clsAt K (if c < 1000 then ([] : List Str).getD c "" else (["PlayError", "NoHouse", "NoCast", "NoLying", "NoActs", "NoFact", "NoQuestion", "NoCut", "TooMany", "NoWay", "NoParts", "Torn", "NoRow", "NoDeed", "NoLine", "NoText", "CantBe", "NotGood", "LackError", "NoName", "NoNumber"] : List Str).getD (c - 1000) ""), fun _ => 0⟩
def metS (i j : Nat) : Stmt := (clsBody (topS i)).getD j (.Pass ⟨0, 0, 0, 0⟩)
def N_named : List Str := ["some", "name", "one"]
theorem sc_named : FnScope N_named P_named (defScope (topS 4)) := ⟨rfl, rfl, rfl, by decide +kernel, rfl, by decide +kernel, by decide +kernel⟩
theorem ck_named : (ck T_named 2 c_named).b ⟨N_named, defScope (topS 4), true, false⟩ (defBody (topS 4)) = true := by decide +kernel
def N_change : List Str := ["house", "dress", "other", "here", "there"]
theorem sc_change : FnScope N_change P_change (defScope (topS 5)) := ⟨rfl, rfl, rfl, by decide +kernel, rfl, by decide +kernel, by decide +kernel⟩
theorem ck_change : (ck T_change 3 c_change).b ⟨N_change, defScope (topS 5), true, false⟩ (defBody (topS 5)) = true := by decide +kernel
def N_Lpool : List Str := ["script", "k", "cell"]
theorem sc_Lpool : FnScope N_Lpool P_Lpool (defScope (topS 7)) := ⟨rfl, rfl, rfl, by decide +kernel, rfl, by decide +kernel, by decide +kernel⟩
theorem ck_Lpool : (ck T_Lpool 0 c_Lpool).b ⟨N_Lpool, defScope (topS 7), true, false⟩ (defBody (topS 7)) = true := by decide +kernel
def N_Ltake : List Str := ["pool", "many", "one", "two", "digit"]
theorem sc_Ltake : FnScope N_Ltake P_Ltake (defScope (topS 8)) := ⟨rfl, rfl, rfl, by decide +kernel, rfl, by decide +kernel, by decide +kernel⟩
theorem ck_Ltake : (ck T_Ltake 0 c_Ltake).b ⟨N_Ltake, defScope (topS 8), true, false⟩ (defBody (topS 8)) = true := by decide +kernel
def N_Lnames : List Str := ["pool", "many", "letters", "found", "k", "word", "at", "some", "one", "turn", "letter"]
theorem sc_Lnames : FnScope N_Lnames P_Lnames (defScope (topS 9)) := ⟨rfl, rfl, rfl, by decide +kernel, rfl, by decide +kernel, by decide +kernel⟩
theorem ck_Lnames : (ck T_Lnames 1 c_Lnames).b ⟨N_Lnames, defScope (topS 9), true, false⟩ (defBody (topS 9)) = true := by decide +kernel
def N_Lhouse : List Str := ["pool", "most", "few", "places", "ends", "doors", "k", "name", "dresses", "one", "second"]
theorem sc_Lhouse : FnScope N_Lhouse P_Lhouse (defScope (topS 10)) := ⟨rfl, rfl, rfl, by decide +kernel, rfl, by decide +kernel, by decide +kernel⟩
theorem ck_Lhouse : (ck T_Lhouse 2 c_Lhouse).b ⟨N_Lhouse, defScope (topS 10), true, false⟩ (defBody (topS 10)) = true := by decide +kernel
def N_Lasked : List Str := ["way", "home", "first", "second", "e"]
theorem sc_Lasked : FnScope N_Lasked P_Lasked (defScope (topS 11)) := ⟨rfl, rfl, rfl, by decide +kernel, rfl, by decide +kernel, by decide +kernel⟩
theorem ck_Lasked : (ck T_Lasked 4 c_Lasked).b ⟨N_Lasked, defScope (topS 11), true, false⟩ (defBody (topS 11)) = true := by decide +kernel
def N_Ldue : List Str := ["home", "first", "second", "here", "there", "one"]
theorem sc_Ldue : FnScope N_Ldue P_Ldue (defScope (topS 12)) := ⟨rfl, rfl, rfl, by decide +kernel, rfl, by decide +kernel, by decide +kernel⟩
theorem ck_Ldue : (ck T_Ldue 0 c_Ldue).b ⟨N_Ldue, defScope (topS 12), true, false⟩ (defBody (topS 12)) = true := by decide +kernel
def N_Lright : List Str := ["home", "first", "second", "kept", "found", "way"]
theorem sc_Lright : FnScope N_Lright P_Lright_k05 (defScope (topS 13)) := ⟨rfl, rfl, rfl, by decide +kernel, rfl, by decide +kernel, by decide +kernel⟩
theorem ck_Lright : (ck T_Lright_k05 5 c_Lright_k05).b ⟨N_Lright, defScope (topS 13), true, false⟩ (defBody (topS 13)) = true := by decide +kernel
def N_Lodd : List Str := ["pool", "home", "name", "some", "one"]
theorem sc_Lodd : FnScope N_Lodd P_Lodd_k05 (defScope (topS 14)) := ⟨rfl, rfl, rfl, by decide +kernel, rfl, by decide +kernel, by decide +kernel⟩
theorem ck_Lodd : (ck T_Lodd_k05 1 c_Lodd_k05).b ⟨N_Lodd, defScope (topS 14), true, false⟩ (defBody (topS 14)) = true := by decide +kernel
def N_Lbeats : List Str := ["pool"]
theorem sc_Lbeats : FnScope N_Lbeats P_Lbeats_k05 (defScope (topS 15)) := ⟨rfl, rfl, rfl, by decide +kernel, rfl, by decide +kernel, by decide +kernel⟩
theorem ck_Lbeats : (ck T_Lbeats_k05 1 c_Lbeats_k05).b ⟨N_Lbeats, defScope (topS 15), true, false⟩ (defBody (topS 15)) = true := by decide +kernel
def N_Lworn : List Str := ["pool", "home", "worn", "one"]
theorem sc_Lworn : FnScope N_Lworn P_Lworn (defScope (topS 16)) := ⟨rfl, rfl, rfl, by decide +kernel, rfl, by decide +kernel, by decide +kernel⟩
theorem ck_Lworn : (ck T_Lworn 2 c_Lworn).b ⟨N_Lworn, defScope (topS 16), true, false⟩ (defBody (topS 16)) = true := by decide +kernel
def N_law : List Str := ["script", "k", "pool", "home", "names", "first", "turn", "second", "odd", "name", "pair", "one"]
theorem sc_law : FnScope N_law P_law_k05 (defScope (topS 17)) := ⟨rfl, rfl, rfl, by decide +kernel, rfl, by decide +kernel, by decide +kernel⟩
theorem ck_law : (ck T_law_k05 6 c_law_k05).b ⟨N_law, defScope (topS 17), true, false⟩ (defBody (topS 17)) = true := by decide +kernel
section
variable {P : Program} {w : World} {K : PySem.W.Frag} {M : Mp} {mg : Str → Option Value} {base : Heap}
structure Gs (K : PySem.W.Frag) (M : Mp) (mg : Str → Option Value) : Prop where
  b_enumerate : mg "enumerate" = none
  b_int : mg "int" = none
  b_len : mg "len" = none
  b_max : mg "max" = none
  b_min : mg "min" = none
  b_range : mg "range" = none
  b_repr : mg "repr" = none
  b_sorted : mg "sorted" = none
  b_tuple : mg "tuple" = none
  q_NoName : ∃ (B newId initId : String) (bmB : List Value) (fI : Addr) (fd : FuncData) (ps : List Str), XBase B newId initId bmB ∧ XCl K newId bmB (M.cls 1019) ∧ PySem.W.findIn K (.ref (M.cls 1019)) "__init__" = some (some (.ref fI)) ∧ PySem.W.typeIn K (.ref fI) = some (.type "function") ∧ (∀ (Pg : Program) (w : World) (base : Heap) (CX : CXT), FnOk Pg w K mg base CX 1 fI fd ps (spX K newId bmB (["name"] : List Str))) ∧ (∀ f ∈ (["name"] : List Str), PySem.W.findIn K (.ref (M.cls 1019)) f = some none) ∧ Binds K fd ps [] ∧ mg "NoName" = some (.ref (M.cls 1019)) ∧ (["name"] : List Str).length ≤ 10
  y_NoName : mg "NoName" = some (.ref (M.cls 1019))
  k_NoName : XCk K (M.cls 1019)
  e_NoName_NoName : PySem.W.exmOne K (.ref (M.cls 1019)) (.ref (M.cls 1019)) = some true
  f_NoName_name : PySem.W.findIn K (.ref (M.cls 1019)) "name" = some none
structure H_named (K : PySem.W.Frag) (M : Mp) (mg : Str → Option Value) (f : Addr) (fd : FuncData) : Prop where
  ex : ∃ (oc : Value) (od : Option Addr) (dV kV doc pm : Value) (an : Option Addr) (cdv ct : Value) (osl : Array (Option Value)), fd = PySem.W.fnOf "named" "named" (defArgs (topS 4)) (defBody (topS 4)) (defScope (topS 4)) dV kV doc pm an cdv ct ∧ K.lookup f = some ⟨oc, od, .func fd, osl⟩ ∧ PySem.W.codeIn K cdv "named" = true
  mg : mg "named" = some (.ref f)
  kp : PySem.W.keepIn K (.ref f) = true
  bd0 : Bound ⟨K, M.cls, M.fns⟩ fd P_named 2 [] [0, 1] []
theorem G_named {f : Addr} {fd : FuncData} (h : H_named K M mg f fd) (gs : Gs K M mg)  : FnG P w K mg base (CX P w) 3 f fd P_named (spD ⟨K, M.cls, M.fns⟩ P_named.length F_named) := by
  obtain ⟨oc, od, dV, kV, doc, pm, an, cdv, ct, osl, rfl, lk, hcd⟩ := h.ex
  refine fn_ok (N := N_named) (T := T_named) (j := 2) lk hcd sc_named ck_named fun X e1 e2 e3 e4 e5 => ⟨fun fi hfi => ?_, ?_, ?_, fun p h => by simp [T_named] at h, fun p h => by simp [T_named] at h, fun p h => by simp [T_named] at h, fun x l h => by simp [T_named] at h, (fun p h => nomatch h), (fun p h => nomatch h), ?_, fun x l h => by simp [T_named] at h, fun x l h => by simp [T_named] at h, fun x l h => by simp [T_named] at h⟩
  · simp [T_named] at hfi
  · subst e3 e4
    intro x d h
    cases h
  · subst e4
    intro x h
    simp only [T_named, List.mem_cons, List.not_mem_nil, or_false] at h
  · subst e1 e2 e3 e4 e5
    intro xp hxp
    simp only [T_named, List.mem_cons, List.not_mem_nil, or_false] at hxp
    rcases hxp with rfl
    · obtain ⟨B, newId, initId, bmB, fI, fdI, psI, b1, b2, b3, b4, b5, b6⟩ := gs.q_NoName
      exact ⟨⟨B, newId, initId, bmB, fI, fdI, psI, b1, b2, b3, b4, b5 _ _ _ _, b6⟩⟩
structure H_change (K : PySem.W.Frag) (M : Mp) (mg : Str → Option Value) (f : Addr) (fd : FuncData) : Prop where
  ex : ∃ (oc : Value) (od : Option Addr) (dV kV doc pm : Value) (an : Option Addr) (cdv ct : Value) (osl : Array (Option Value)), fd = PySem.W.fnOf "change" "change" (defArgs (topS 5)) (defBody (topS 5)) (defScope (topS 5)) dV kV doc pm an cdv ct ∧ K.lookup f = some ⟨oc, od, .func fd, osl⟩ ∧ PySem.W.codeIn K cdv "change" = true
  mg : mg "change" = some (.ref f)
  kp : PySem.W.keepIn K (.ref f) = true
  bd0 : Bound ⟨K, M.cls, M.fns⟩ fd P_change 3 [] [0, 1, 2] []
  bd1 : Bound ⟨K, M.cls, M.fns⟩ fd P_change 0 ["other", "house", "dress"] [1, 2, 0] []
theorem G_change {f : Addr} {fd : FuncData} (h : H_change K M mg f fd) (gs : Gs K M mg) {f0 : Addr} {fd0 : FuncData} (h0 : H_named K M mg f0 fd0) (g0 : FnG P w K mg base (CX P w) 3 f0 fd0 P_named (spD ⟨K, M.cls, M.fns⟩ P_named.length F_named)) : FnG P w K mg base (CX P w) 4 f fd P_change (spD ⟨K, M.cls, M.fns⟩ P_change.length F_change) := by
  obtain ⟨oc, od, dV, kV, doc, pm, an, cdv, ct, osl, rfl, lk, hcd⟩ := h.ex
  refine fn_ok (N := N_change) (T := T_change) (j := 3) lk hcd sc_change ck_change fun X e1 e2 e3 e4 e5 => ⟨fun fi hfi => ?_, ?_, ?_, fun p h => by simp [T_change] at h, fun p h => by simp [T_change] at h, fun p h => by simp [T_change] at h, fun x l h => by simp [T_change] at h, (fun p h => nomatch h), (fun p h => nomatch h), (fun p h => nomatch h), fun x l h => by simp [T_change] at h, fun x l h => by simp [T_change] at h, fun x l h => by simp [T_change] at h⟩
  · subst e1 e2 e3 e4 e5
    simp only [T_change, List.mem_cons, List.not_mem_nil, or_false] at hfi
    rcases hfi with rfl
    · exact ⟨f0, fd0, h0.mg, h0.kp, g0, fun sh hsh => by rw [List.mem_singleton] at hsh; subst hsh; exact h0.bd0⟩
  · subst e3 e4
    intro x d h
    cases h
  · subst e4
    intro x h
    simp only [T_change, List.mem_cons, List.not_mem_nil, or_false] at h
structure H_Lpool (K : PySem.W.Frag) (M : Mp) (mg : Str → Option Value) (f : Addr) (fd : FuncData) : Prop where
  ex : ∃ (oc : Value) (od : Option Addr) (dV kV doc pm : Value) (an : Option Addr) (cdv ct : Value) (osl : Array (Option Value)), fd = PySem.W.fnOf "_law_pool" "_law_pool" (defArgs (topS 7)) (defBody (topS 7)) (defScope (topS 7)) dV kV doc pm an cdv ct ∧ K.lookup f = some ⟨oc, od, .func fd, osl⟩ ∧ PySem.W.codeIn K cdv "_law_pool" = true
  mg : mg "_law_pool" = some (.ref f)
  kp : PySem.W.keepIn K (.ref f) = true
  bd0 : Bound ⟨K, M.cls, M.fns⟩ fd P_Lpool 2 [] [0, 1] []
theorem G_Lpool {f : Addr} {fd : FuncData} (h : H_Lpool K M mg f fd) (gs : Gs K M mg)  : FnG P w K mg base (CX P w) 1 f fd P_Lpool (spD ⟨K, M.cls, M.fns⟩ P_Lpool.length F_Lpool) := by
  obtain ⟨oc, od, dV, kV, doc, pm, an, cdv, ct, osl, rfl, lk, hcd⟩ := h.ex
  refine FnG.imp (sp := spD ⟨K, M.cls, M.fns⟩ P_Lpool.length (runF T_Lpool 3 c_Lpool)) ?_ spD_pool
  refine fn_ok (N := N_Lpool) (T := T_Lpool) (j := 0) lk hcd sc_Lpool ck_Lpool fun X e1 e2 e3 e4 e5 => ⟨fun fi hfi => ?_, ?_, ?_, fun p h => by simp [T_Lpool] at h, fun p h => by simp [T_Lpool] at h, fun p h => by simp [T_Lpool] at h, fun x l h => by simp [T_Lpool] at h, (fun p h => nomatch h), (fun p h => nomatch h), (fun p h => nomatch h), fun x l h => by simp [T_Lpool] at h, fun x l h => by simp [T_Lpool] at h, fun x l h => by simp [T_Lpool] at h⟩
  · simp [T_Lpool] at hfi
  · subst e3 e4
    intro x d h
    cases h
  · subst e4
    intro x h
    simp only [T_Lpool, List.mem_cons, List.not_mem_nil, or_false] at h
    rcases h with rfl | rfl
    · exact gs.b_len
    · exact gs.b_max
structure H_Ltake (K : PySem.W.Frag) (M : Mp) (mg : Str → Option Value) (f : Addr) (fd : FuncData) : Prop where
  ex : ∃ (oc : Value) (od : Option Addr) (dV kV doc pm : Value) (an : Option Addr) (cdv ct : Value) (osl : Array (Option Value)), fd = PySem.W.fnOf "_law_take" "_law_take" (defArgs (topS 8)) (defBody (topS 8)) (defScope (topS 8)) dV kV doc pm an cdv ct ∧ K.lookup f = some ⟨oc, od, .func fd, osl⟩ ∧ PySem.W.codeIn K cdv "_law_take" = true
  mg : mg "_law_take" = some (.ref f)
  kp : PySem.W.keepIn K (.ref f) = true
  bd0 : Bound ⟨K, M.cls, M.fns⟩ fd P_Ltake 2 [] [0, 1] []
theorem G_Ltake {f : Addr} {fd : FuncData} (h : H_Ltake K M mg f fd) (gs : Gs K M mg)  : FnG P w K mg base (CX P w) 1 f fd P_Ltake (spD ⟨K, M.cls, M.fns⟩ P_Ltake.length F_Ltake) := by
  obtain ⟨oc, od, dV, kV, doc, pm, an, cdv, ct, osl, rfl, lk, hcd⟩ := h.ex
  refine FnG.imp (sp := spD ⟨K, M.cls, M.fns⟩ P_Ltake.length (runF T_Ltake 5 c_Ltake)) ?_ spD_take
  refine fn_ok (N := N_Ltake) (T := T_Ltake) (j := 0) lk hcd sc_Ltake ck_Ltake fun X e1 e2 e3 e4 e5 => ⟨fun fi hfi => ?_, ?_, ?_, fun p h => by simp [T_Ltake] at h, fun p h => by simp [T_Ltake] at h, fun p h => by simp [T_Ltake] at h, fun x l h => by simp [T_Ltake] at h, (fun p h => nomatch h), (fun p h => nomatch h), (fun p h => nomatch h), fun x l h => by simp [T_Ltake] at h, fun x l h => by simp [T_Ltake] at h, fun x l h => by simp [T_Ltake] at h⟩
  · simp [T_Ltake] at hfi
  · subst e3 e4
    intro x d h
    cases h
  · subst e4
    intro x h
    simp only [T_Ltake, List.mem_cons, List.not_mem_nil, or_false] at h
structure H_Lnames (K : PySem.W.Frag) (M : Mp) (mg : Str → Option Value) (f : Addr) (fd : FuncData) : Prop where
  ex : ∃ (oc : Value) (od : Option Addr) (dV kV doc pm : Value) (an : Option Addr) (cdv ct : Value) (osl : Array (Option Value)), fd = PySem.W.fnOf "_law_names" "_law_names" (defArgs (topS 9)) (defBody (topS 9)) (defScope (topS 9)) dV kV doc pm an cdv ct ∧ K.lookup f = some ⟨oc, od, .func fd, osl⟩ ∧ PySem.W.codeIn K cdv "_law_names" = true
  mg : mg "_law_names" = some (.ref f)
  kp : PySem.W.keepIn K (.ref f) = true
  bd0 : Bound ⟨K, M.cls, M.fns⟩ fd P_Lnames 2 [] [0, 1] []
theorem G_Lnames {f : Addr} {fd : FuncData} (h : H_Lnames K M mg f fd) (gs : Gs K M mg) {f0 : Addr} {fd0 : FuncData} (h0 : H_Ltake K M mg f0 fd0) (g0 : FnG P w K mg base (CX P w) 1 f0 fd0 P_Ltake (spD ⟨K, M.cls, M.fns⟩ P_Ltake.length F_Ltake)) : FnG P w K mg base (CX P w) 2 f fd P_Lnames (spD ⟨K, M.cls, M.fns⟩ P_Lnames.length F_Lnames) := by
  obtain ⟨oc, od, dV, kV, doc, pm, an, cdv, ct, osl, rfl, lk, hcd⟩ := h.ex
  refine fn_ok (N := N_Lnames) (T := T_Lnames) (j := 1) lk hcd sc_Lnames ck_Lnames fun X e1 e2 e3 e4 e5 => ⟨fun fi hfi => ?_, ?_, ?_, fun p h => by simp [T_Lnames] at h, fun p h => by simp [T_Lnames] at h, fun p h => by simp [T_Lnames] at h, fun x l h => by simp [T_Lnames] at h, (fun p h => nomatch h), (fun p h => nomatch h), (fun p h => nomatch h), fun x l h => by simp [T_Lnames] at h, fun x l h => by simp [T_Lnames] at h, fun x l h => by simp [T_Lnames] at h⟩
  · subst e1 e2 e3 e4 e5
    simp only [T_Lnames, List.mem_cons, List.not_mem_nil, or_false] at hfi
    rcases hfi with rfl
    · exact ⟨f0, fd0, h0.mg, h0.kp, g0, fun sh hsh => by rw [List.mem_singleton] at hsh; subst hsh; exact h0.bd0⟩
  · subst e3 e4
    intro x d h
    cases h
  · subst e4
    intro x h
    simp only [T_Lnames, List.mem_cons, List.not_mem_nil, or_false] at h
    rcases h with rfl | rfl
    · exact gs.b_len
    · exact gs.b_range
structure H_Lhouse (K : PySem.W.Frag) (M : Mp) (mg : Str → Option Value) (f : Addr) (fd : FuncData) : Prop where
  ex : ∃ (oc : Value) (od : Option Addr) (dV kV doc pm : Value) (an : Option Addr) (cdv ct : Value) (osl : Array (Option Value)), fd = PySem.W.fnOf "_law_house" "_law_house" (defArgs (topS 10)) (defBody (topS 10)) (defScope (topS 10)) dV kV doc pm an cdv ct ∧ K.lookup f = some ⟨oc, od, .func fd, osl⟩ ∧ PySem.W.codeIn K cdv "_law_house" = true
  mg : mg "_law_house" = some (.ref f)
  kp : PySem.W.keepIn K (.ref f) = true
  bd0 : Bound ⟨K, M.cls, M.fns⟩ fd P_Lhouse 2 [] [0, 1] []
theorem G_Lhouse {f : Addr} {fd : FuncData} (h : H_Lhouse K M mg f fd) (gs : Gs K M mg) {f0 : Addr} {fd0 : FuncData} (h0 : H_Lnames K M mg f0 fd0) (g0 : FnG P w K mg base (CX P w) 2 f0 fd0 P_Lnames (spD ⟨K, M.cls, M.fns⟩ P_Lnames.length F_Lnames)) {f1 : Addr} {fd1 : FuncData} (h1 : H_Ltake K M mg f1 fd1) (g1 : FnG P w K mg base (CX P w) 1 f1 fd1 P_Ltake (spD ⟨K, M.cls, M.fns⟩ P_Ltake.length F_Ltake)) : FnG P w K mg base (CX P w) 3 f fd P_Lhouse (spD ⟨K, M.cls, M.fns⟩ P_Lhouse.length F_Lhouse) := by
  obtain ⟨oc, od, dV, kV, doc, pm, an, cdv, ct, osl, rfl, lk, hcd⟩ := h.ex
  refine fn_ok (N := N_Lhouse) (T := T_Lhouse) (j := 2) lk hcd sc_Lhouse ck_Lhouse fun X e1 e2 e3 e4 e5 => ⟨fun fi hfi => ?_, ?_, ?_, fun p h => by simp [T_Lhouse] at h, fun p h => by simp [T_Lhouse] at h, fun p h => by simp [T_Lhouse] at h, fun x l h => by simp [T_Lhouse] at h, (fun p h => nomatch h), (fun p h => nomatch h), (fun p h => nomatch h), fun x l h => by simp [T_Lhouse] at h, fun x l h => by simp [T_Lhouse] at h, fun x l h => by simp [T_Lhouse] at h⟩
  · subst e1 e2 e3 e4 e5
    simp only [T_Lhouse, List.mem_cons, List.not_mem_nil, or_false] at hfi
    rcases hfi with rfl | rfl
    · exact ⟨f0, fd0, h0.mg, h0.kp, g0, fun sh hsh => by rw [List.mem_singleton] at hsh; subst hsh; exact h0.bd0⟩
    · exact ⟨f1, fd1, h1.mg, h1.kp, g1, fun sh hsh => by rw [List.mem_singleton] at hsh; subst hsh; exact h1.bd0⟩
  · subst e3 e4
    intro x d h
    cases h
  · subst e4
    intro x h
    simp only [T_Lhouse, List.mem_cons, List.not_mem_nil, or_false] at h
    rcases h with rfl | rfl | rfl | rfl | rfl | rfl
    · exact gs.b_enumerate
    · exact gs.b_int
    · exact gs.b_len
    · exact gs.b_min
    · exact gs.b_sorted
    · exact gs.b_tuple
structure H_Lasked (K : PySem.W.Frag) (M : Mp) (mg : Str → Option Value) (f : Addr) (fd : FuncData) : Prop where
  ex : ∃ (oc : Value) (od : Option Addr) (dV kV doc pm : Value) (an : Option Addr) (cdv ct : Value) (osl : Array (Option Value)), fd = PySem.W.fnOf "_law_asked" "_law_asked" (defArgs (topS 11)) (defBody (topS 11)) (defScope (topS 11)) dV kV doc pm an cdv ct ∧ K.lookup f = some ⟨oc, od, .func fd, osl⟩ ∧ PySem.W.codeIn K cdv "_law_asked" = true
  mg : mg "_law_asked" = some (.ref f)
  kp : PySem.W.keepIn K (.ref f) = true
  bd0 : Bound ⟨K, M.cls, M.fns⟩ fd P_Lasked 4 [] [0, 1, 2, 3] []
theorem G_Lasked {f : Addr} {fd : FuncData} (h : H_Lasked K M mg f fd) (gs : Gs K M mg) {f0 : Addr} {fd0 : FuncData} (h0 : H_change K M mg f0 fd0) (g0 : FnG P w K mg base (CX P w) 4 f0 fd0 P_change (spD ⟨K, M.cls, M.fns⟩ P_change.length F_change)) : FnG P w K mg base (CX P w) 5 f fd P_Lasked (spD ⟨K, M.cls, M.fns⟩ P_Lasked.length F_Lasked) := by
  obtain ⟨oc, od, dV, kV, doc, pm, an, cdv, ct, osl, rfl, lk, hcd⟩ := h.ex
  refine fn_ok (N := N_Lasked) (T := T_Lasked) (j := 4) lk hcd sc_Lasked ck_Lasked fun X e1 e2 e3 e4 e5 => ⟨fun fi hfi => ?_, ?_, ?_, fun p h => by simp [T_Lasked] at h, fun p h => by simp [T_Lasked] at h, fun p h => by simp [T_Lasked] at h, fun x l h => by simp [T_Lasked] at h, (fun p h => nomatch h), (fun p h => nomatch h), (fun p h => nomatch h), fun x l h => by simp [T_Lasked] at h, ?_, ?_⟩
  · subst e1 e2 e3 e4 e5
    simp only [T_Lasked, List.mem_cons, List.not_mem_nil, or_false] at hfi
    rcases hfi with rfl | rfl
    · exact ⟨f0, fd0, h0.mg, h0.kp, g0, fun sh hsh => by rw [List.mem_singleton] at hsh; subst hsh; exact h0.bd0⟩
    · exact ⟨f0, fd0, h0.mg, h0.kp, g0, fun sh hsh => by rw [List.mem_singleton] at hsh; subst hsh; exact h0.bd1⟩
  · subst e3 e4
    intro x d h
    cases h
  · subst e4
    intro x h
    simp only [T_Lasked, List.mem_cons, List.not_mem_nil, or_false] at h
  · subst e3 e4
    intro x l h
    simp only [T_Lasked, List.lookup] at h
    split at h
    · rename_i q; rw [eq_of_beq q]; cases h
      refine ⟨_, _, .own gs.y_NoName, fun c b hc => look_all (P := fun c b => 1000 ≤ c ∧ PySem.W.exmOne _ (.ref (M.cls c)) (.ref (M.cls 1019)) = some b) (fun p hp => ?_) hc⟩
      simp only [List.mem_cons, List.not_mem_nil, or_false] at hp
      rcases hp with rfl
      · exact ⟨by decide, gs.e_NoName_NoName⟩
    ·
      cases h
  · subst e3
    intro x l h
    simp only [T_Lasked, List.lookup] at h
    split at h
    · rename_i q; rw [eq_of_beq q]; cases h
      refine ⟨fun c hc => ?_⟩
      simp only [List.mem_cons, List.not_mem_nil, or_false] at hc
      rcases hc with rfl
      · exact ⟨by decide, gs.k_NoName, gs.f_NoName_name⟩
    ·
      cases h
structure H_Ldue (K : PySem.W.Frag) (M : Mp) (mg : Str → Option Value) (f : Addr) (fd : FuncData) : Prop where
  ex : ∃ (oc : Value) (od : Option Addr) (dV kV doc pm : Value) (an : Option Addr) (cdv ct : Value) (osl : Array (Option Value)), fd = PySem.W.fnOf "_law_due" "_law_due" (defArgs (topS 12)) (defBody (topS 12)) (defScope (topS 12)) dV kV doc pm an cdv ct ∧ K.lookup f = some ⟨oc, od, .func fd, osl⟩ ∧ PySem.W.codeIn K cdv "_law_due" = true
  mg : mg "_law_due" = some (.ref f)
  kp : PySem.W.keepIn K (.ref f) = true
  bd0 : Bound ⟨K, M.cls, M.fns⟩ fd P_Ldue 3 [] [0, 1, 2] []
theorem G_Ldue {f : Addr} {fd : FuncData} (h : H_Ldue K M mg f fd) (gs : Gs K M mg)  : FnG P w K mg base (CX P w) 1 f fd P_Ldue (spD ⟨K, M.cls, M.fns⟩ P_Ldue.length F_Ldue) := by
  obtain ⟨oc, od, dV, kV, doc, pm, an, cdv, ct, osl, rfl, lk, hcd⟩ := h.ex
  refine fn_ok (N := N_Ldue) (T := T_Ldue) (j := 0) lk hcd sc_Ldue ck_Ldue fun X e1 e2 e3 e4 e5 => ⟨fun fi hfi => ?_, ?_, ?_, fun p h => by simp [T_Ldue] at h, fun p h => by simp [T_Ldue] at h, fun p h => by simp [T_Ldue] at h, fun x l h => by simp [T_Ldue] at h, (fun p h => nomatch h), (fun p h => nomatch h), (fun p h => nomatch h), fun x l h => by simp [T_Ldue] at h, fun x l h => by simp [T_Ldue] at h, fun x l h => by simp [T_Ldue] at h⟩
  · simp [T_Ldue] at hfi
  · subst e3 e4
    intro x d h
    cases h
  · subst e4
    intro x h
    simp only [T_Ldue, List.mem_cons, List.not_mem_nil, or_false] at h
structure H_Lright (K : PySem.W.Frag) (M : Mp) (mg : Str → Option Value) (f : Addr) (fd : FuncData) : Prop where
  ex : ∃ (oc : Value) (od : Option Addr) (dV kV doc pm : Value) (an : Option Addr) (cdv ct : Value) (osl : Array (Option Value)), fd = PySem.W.fnOf "_law_right" "_law_right" (defArgs (topS 13)) (defBody (topS 13)) (defScope (topS 13)) dV kV doc pm an cdv ct ∧ K.lookup f = some ⟨oc, od, .func fd, osl⟩ ∧ PySem.W.codeIn K cdv "_law_right" = true
  mg : mg "_law_right" = some (.ref f)
  kp : PySem.W.keepIn K (.ref f) = true
  bd0 : Bound ⟨K, M.cls, M.fns⟩ fd P_Lright_k05 3 [] [0, 1, 2] []
theorem G_Lright {f : Addr} {fd : FuncData} (h : H_Lright K M mg f fd) (gs : Gs K M mg) {f0 : Addr} {fd0 : FuncData} (h0 : H_Lasked K M mg f0 fd0) (g0 : FnG P w K mg base (CX P w) 5 f0 fd0 P_Lasked (spD ⟨K, M.cls, M.fns⟩ P_Lasked.length F_Lasked)) {f1 : Addr} {fd1 : FuncData} (h1 : H_Ldue K M mg f1 fd1) (g1 : FnG P w K mg base (CX P w) 1 f1 fd1 P_Ldue (spD ⟨K, M.cls, M.fns⟩ P_Ldue.length F_Ldue)) : FnG P w K mg base (CX P w) 6 f fd P_Lright_k05 (spD ⟨K, M.cls, M.fns⟩ P_Lright_k05.length F_Lright_k05) := by
  obtain ⟨oc, od, dV, kV, doc, pm, an, cdv, ct, osl, rfl, lk, hcd⟩ := h.ex
  refine fn_ok (N := N_Lright) (T := T_Lright_k05) (j := 5) lk hcd sc_Lright ck_Lright fun X e1 e2 e3 e4 e5 => ⟨fun fi hfi => ?_, ?_, ?_, fun p h => by simp [T_Lright_k05] at h, fun p h => by simp [T_Lright_k05] at h, fun p h => by simp [T_Lright_k05] at h, fun x l h => by simp [T_Lright_k05] at h, (fun p h => nomatch h), (fun p h => nomatch h), (fun p h => nomatch h), fun x l h => by simp [T_Lright_k05] at h, fun x l h => by simp [T_Lright_k05] at h, fun x l h => by simp [T_Lright_k05] at h⟩
  · subst e1 e2 e3 e4 e5
    simp only [T_Lright_k05, List.mem_cons, List.not_mem_nil, or_false] at hfi
    rcases hfi with rfl | rfl
    · exact ⟨f0, fd0, h0.mg, h0.kp, g0, fun sh hsh => by rw [List.mem_singleton] at hsh; subst hsh; exact h0.bd0⟩
    · exact ⟨f1, fd1, h1.mg, h1.kp, g1, fun sh hsh => by rw [List.mem_singleton] at hsh; subst hsh; exact h1.bd0⟩
  · subst e3 e4
    intro x d h
    cases h
  · subst e4
    intro x h
    simp only [T_Lright_k05, List.mem_cons, List.not_mem_nil, or_false] at h
    rcases h with rfl
    · exact gs.b_repr
structure H_Lodd (K : PySem.W.Frag) (M : Mp) (mg : Str → Option Value) (f : Addr) (fd : FuncData) : Prop where
  ex : ∃ (oc : Value) (od : Option Addr) (dV kV doc pm : Value) (an : Option Addr) (cdv ct : Value) (osl : Array (Option Value)), fd = PySem.W.fnOf "_law_odd" "_law_odd" (defArgs (topS 14)) (defBody (topS 14)) (defScope (topS 14)) dV kV doc pm an cdv ct ∧ K.lookup f = some ⟨oc, od, .func fd, osl⟩ ∧ PySem.W.codeIn K cdv "_law_odd" = true
  mg : mg "_law_odd" = some (.ref f)
  kp : PySem.W.keepIn K (.ref f) = true
  bd0 : Bound ⟨K, M.cls, M.fns⟩ fd P_Lodd_k05 2 [] [0, 1] []
theorem G_Lodd {f : Addr} {fd : FuncData} (h : H_Lodd K M mg f fd) (gs : Gs K M mg) {f0 : Addr} {fd0 : FuncData} (h0 : H_Ltake K M mg f0 fd0) (g0 : FnG P w K mg base (CX P w) 1 f0 fd0 P_Ltake (spD ⟨K, M.cls, M.fns⟩ P_Ltake.length F_Ltake)) : FnG P w K mg base (CX P w) 2 f fd P_Lodd_k05 (spD ⟨K, M.cls, M.fns⟩ P_Lodd_k05.length F_Lodd_k05) := by
  obtain ⟨oc, od, dV, kV, doc, pm, an, cdv, ct, osl, rfl, lk, hcd⟩ := h.ex
  refine fn_ok (N := N_Lodd) (T := T_Lodd_k05) (j := 1) lk hcd sc_Lodd ck_Lodd fun X e1 e2 e3 e4 e5 => ⟨fun fi hfi => ?_, ?_, ?_, fun p h => by simp [T_Lodd_k05] at h, fun p h => by simp [T_Lodd_k05] at h, fun p h => by simp [T_Lodd_k05] at h, fun x l h => by simp [T_Lodd_k05] at h, (fun p h => nomatch h), (fun p h => nomatch h), (fun p h => nomatch h), fun x l h => by simp [T_Lodd_k05] at h, fun x l h => by simp [T_Lodd_k05] at h, fun x l h => by simp [T_Lodd_k05] at h⟩
  · subst e1 e2 e3 e4 e5
    simp only [T_Lodd_k05, List.mem_cons, List.not_mem_nil, or_false] at hfi
    rcases hfi with rfl
    · exact ⟨f0, fd0, h0.mg, h0.kp, g0, fun sh hsh => by rw [List.mem_singleton] at hsh; subst hsh; exact h0.bd0⟩
  · subst e3 e4
    intro x d h
    cases h
  · subst e4
    intro x h
    simp only [T_Lodd_k05, List.mem_cons, List.not_mem_nil, or_false] at h
    rcases h with rfl
    · exact gs.b_len
structure H_Lbeats (K : PySem.W.Frag) (M : Mp) (mg : Str → Option Value) (f : Addr) (fd : FuncData) : Prop where
  ex : ∃ (oc : Value) (od : Option Addr) (dV kV doc pm : Value) (an : Option Addr) (cdv ct : Value) (osl : Array (Option Value)), fd = PySem.W.fnOf "_law_beats" "_law_beats" (defArgs (topS 15)) (defBody (topS 15)) (defScope (topS 15)) dV kV doc pm an cdv ct ∧ K.lookup f = some ⟨oc, od, .func fd, osl⟩ ∧ PySem.W.codeIn K cdv "_law_beats" = true
  mg : mg "_law_beats" = some (.ref f)
  kp : PySem.W.keepIn K (.ref f) = true
  bd0 : Bound ⟨K, M.cls, M.fns⟩ fd P_Lbeats_k05 1 [] [0] []
theorem G_Lbeats {f : Addr} {fd : FuncData} (h : H_Lbeats K M mg f fd) (gs : Gs K M mg) {f0 : Addr} {fd0 : FuncData} (h0 : H_Ltake K M mg f0 fd0) (g0 : FnG P w K mg base (CX P w) 1 f0 fd0 P_Ltake (spD ⟨K, M.cls, M.fns⟩ P_Ltake.length F_Ltake)) : FnG P w K mg base (CX P w) 2 f fd P_Lbeats_k05 (spD ⟨K, M.cls, M.fns⟩ P_Lbeats_k05.length F_Lbeats_k05) := by
  obtain ⟨oc, od, dV, kV, doc, pm, an, cdv, ct, osl, rfl, lk, hcd⟩ := h.ex
  refine fn_ok (N := N_Lbeats) (T := T_Lbeats_k05) (j := 1) lk hcd sc_Lbeats ck_Lbeats fun X e1 e2 e3 e4 e5 => ⟨fun fi hfi => ?_, ?_, ?_, fun p h => by simp [T_Lbeats_k05] at h, fun p h => by simp [T_Lbeats_k05] at h, fun p h => by simp [T_Lbeats_k05] at h, fun x l h => by simp [T_Lbeats_k05] at h, (fun p h => nomatch h), (fun p h => nomatch h), (fun p h => nomatch h), fun x l h => by simp [T_Lbeats_k05] at h, fun x l h => by simp [T_Lbeats_k05] at h, fun x l h => by simp [T_Lbeats_k05] at h⟩
  · subst e1 e2 e3 e4 e5
    simp only [T_Lbeats_k05, List.mem_cons, List.not_mem_nil, or_false] at hfi
    rcases hfi with rfl
    · exact ⟨f0, fd0, h0.mg, h0.kp, g0, fun sh hsh => by rw [List.mem_singleton] at hsh; subst hsh; exact h0.bd0⟩
  · subst e3 e4
    intro x d h
    cases h
  · subst e4
    intro x h
    simp only [T_Lbeats_k05, List.mem_cons, List.not_mem_nil, or_false] at h
structure H_Lworn (K : PySem.W.Frag) (M : Mp) (mg : Str → Option Value) (f : Addr) (fd : FuncData) : Prop where
  ex : ∃ (oc : Value) (od : Option Addr) (dV kV doc pm : Value) (an : Option Addr) (cdv ct : Value) (osl : Array (Option Value)), fd = PySem.W.fnOf "_law_worn" "_law_worn" (defArgs (topS 16)) (defBody (topS 16)) (defScope (topS 16)) dV kV doc pm an cdv ct ∧ K.lookup f = some ⟨oc, od, .func fd, osl⟩ ∧ PySem.W.codeIn K cdv "_law_worn" = true
  mg : mg "_law_worn" = some (.ref f)
  kp : PySem.W.keepIn K (.ref f) = true
  bd0 : Bound ⟨K, M.cls, M.fns⟩ fd P_Lworn 2 [] [0, 1] []
theorem G_Lworn {f : Addr} {fd : FuncData} (h : H_Lworn K M mg f fd) (gs : Gs K M mg) {f0 : Addr} {fd0 : FuncData} (h0 : H_Lbeats K M mg f0 fd0) (g0 : FnG P w K mg base (CX P w) 2 f0 fd0 P_Lbeats_k05 (spD ⟨K, M.cls, M.fns⟩ P_Lbeats_k05.length F_Lbeats_k05)) : FnG P w K mg base (CX P w) 3 f fd P_Lworn (spD ⟨K, M.cls, M.fns⟩ P_Lworn.length F_Lworn) := by
  obtain ⟨oc, od, dV, kV, doc, pm, an, cdv, ct, osl, rfl, lk, hcd⟩ := h.ex
  refine fn_ok (N := N_Lworn) (T := T_Lworn) (j := 2) lk hcd sc_Lworn ck_Lworn fun X e1 e2 e3 e4 e5 => ⟨fun fi hfi => ?_, ?_, ?_, fun p h => by simp [T_Lworn] at h, fun p h => by simp [T_Lworn] at h, fun p h => by simp [T_Lworn] at h, fun x l h => by simp [T_Lworn] at h, (fun p h => nomatch h), (fun p h => nomatch h), (fun p h => nomatch h), fun x l h => by simp [T_Lworn] at h, fun x l h => by simp [T_Lworn] at h, fun x l h => by simp [T_Lworn] at h⟩
  · subst e1 e2 e3 e4 e5
    simp only [T_Lworn, List.mem_cons, List.not_mem_nil, or_false] at hfi
    rcases hfi with rfl
    · exact ⟨f0, fd0, h0.mg, h0.kp, g0, fun sh hsh => by rw [List.mem_singleton] at hsh; subst hsh; exact h0.bd0⟩
  · subst e3 e4
    intro x d h
    cases h
  · subst e4
    intro x h
    simp only [T_Lworn, List.mem_cons, List.not_mem_nil, or_false] at h
    rcases h with rfl
    · exact gs.b_tuple
structure H_law (K : PySem.W.Frag) (M : Mp) (mg : Str → Option Value) (f : Addr) (fd : FuncData) : Prop where
  ex : ∃ (oc : Value) (od : Option Addr) (dV kV doc pm : Value) (an : Option Addr) (cdv ct : Value) (osl : Array (Option Value)), fd = PySem.W.fnOf "law" "law" (defArgs (topS 17)) (defBody (topS 17)) (defScope (topS 17)) dV kV doc pm an cdv ct ∧ K.lookup f = some ⟨oc, od, .func fd, osl⟩ ∧ PySem.W.codeIn K cdv "law" = true
  mg : mg "law" = some (.ref f)
  kp : PySem.W.keepIn K (.ref f) = true
theorem G_law {f : Addr} {fd : FuncData} (h : H_law K M mg f fd) (gs : Gs K M mg) {f0 : Addr} {fd0 : FuncData} (h0 : H_Lpool K M mg f0 fd0) (g0 : FnG P w K mg base (CX P w) 1 f0 fd0 P_Lpool (spD ⟨K, M.cls, M.fns⟩ P_Lpool.length F_Lpool)) {f1 : Addr} {fd1 : FuncData} (h1 : H_Lworn K M mg f1 fd1) (g1 : FnG P w K mg base (CX P w) 3 f1 fd1 P_Lworn (spD ⟨K, M.cls, M.fns⟩ P_Lworn.length F_Lworn)) {f2 : Addr} {fd2 : FuncData} (h2 : H_Lhouse K M mg f2 fd2) (g2 : FnG P w K mg base (CX P w) 3 f2 fd2 P_Lhouse (spD ⟨K, M.cls, M.fns⟩ P_Lhouse.length F_Lhouse)) {f3 : Addr} {fd3 : FuncData} (h3 : H_Ltake K M mg f3 fd3) (g3 : FnG P w K mg base (CX P w) 1 f3 fd3 P_Ltake (spD ⟨K, M.cls, M.fns⟩ P_Ltake.length F_Ltake)) {f4 : Addr} {fd4 : FuncData} (h4 : H_Lright K M mg f4 fd4) (g4 : FnG P w K mg base (CX P w) 6 f4 fd4 P_Lright_k05 (spD ⟨K, M.cls, M.fns⟩ P_Lright_k05.length F_Lright_k05)) {f5 : Addr} {fd5 : FuncData} (h5 : H_Lodd K M mg f5 fd5) (g5 : FnG P w K mg base (CX P w) 2 f5 fd5 P_Lodd_k05 (spD ⟨K, M.cls, M.fns⟩ P_Lodd_k05.length F_Lodd_k05)) : FnG P w K mg base (CX P w) 7 f fd P_law_k05 (spD ⟨K, M.cls, M.fns⟩ P_law_k05.length F_law_k05) := by
  obtain ⟨oc, od, dV, kV, doc, pm, an, cdv, ct, osl, rfl, lk, hcd⟩ := h.ex
  refine fn_ok (N := N_law) (T := T_law_k05) (j := 6) lk hcd sc_law ck_law fun X e1 e2 e3 e4 e5 => ⟨fun fi hfi => ?_, ?_, ?_, fun p h => by simp [T_law_k05] at h, fun p h => by simp [T_law_k05] at h, fun p h => by simp [T_law_k05] at h, fun x l h => by simp [T_law_k05] at h, (fun p h => nomatch h), (fun p h => nomatch h), (fun p h => nomatch h), fun x l h => by simp [T_law_k05] at h, fun x l h => by simp [T_law_k05] at h, fun x l h => by simp [T_law_k05] at h⟩
  · subst e1 e2 e3 e4 e5
    simp only [T_law_k05, List.mem_cons, List.not_mem_nil, or_false] at hfi
    rcases hfi with rfl | rfl | rfl | rfl | rfl | rfl
    · exact ⟨f0, fd0, h0.mg, h0.kp, g0, fun sh hsh => by rw [List.mem_singleton] at hsh; subst hsh; exact h0.bd0⟩
    · exact ⟨f1, fd1, h1.mg, h1.kp, g1, fun sh hsh => by rw [List.mem_singleton] at hsh; subst hsh; exact h1.bd0⟩
    · exact ⟨f2, fd2, h2.mg, h2.kp, g2, fun sh hsh => by rw [List.mem_singleton] at hsh; subst hsh; exact h2.bd0⟩
    · exact ⟨f3, fd3, h3.mg, h3.kp, g3, fun sh hsh => by rw [List.mem_singleton] at hsh; subst hsh; exact h3.bd0⟩
    · exact ⟨f4, fd4, h4.mg, h4.kp, g4, fun sh hsh => by rw [List.mem_singleton] at hsh; subst hsh; exact h4.bd0⟩
    · exact ⟨f5, fd5, h5.mg, h5.kp, g5, fun sh hsh => by rw [List.mem_singleton] at hsh; subst hsh; exact h5.bd0⟩
  · subst e3 e4
    intro x d h
    cases h
  · subst e4
    intro x h
    simp only [T_law_k05, List.mem_cons, List.not_mem_nil, or_false] at h
    rcases h with rfl | rfl | rfl | rfl
    · exact gs.b_len
    · exact gs.b_max
    · exact gs.b_min
    · exact gs.b_range
end
theorem sx_NoName : FnScope ["self", "name"] ["self", "name"] (defScope (metS 2 0)) := ⟨rfl, rfl, rfl, by decide +kernel, rfl, by decide +kernel, by decide +kernel⟩
theorem bx_NoName : xi1 "LackError" "self" "name" "name" (defBody (metS 2 0)) = true := by decide +kernel
theorem nx_NoName : scB "LackError" ["self", "name"] (defScope (metS 2 0)) = true := by decide +kernel
theorem bd_named_0 {K : PySem.W.Frag} {M : Mp} {kV doc pm cdv ct : Value} {an : Option Addr} : Bound ⟨K, M.cls, M.fns⟩ (PySem.W.fnOf "named" "named" (defArgs (topS 4)) (defBody (topS 4)) (defScope (topS 4)) .none kV doc pm an cdv ct) P_named 2 [] [0, 1] [] :=
  ⟨[], [], .nil, .nil, fun s us ws _ h1 h2 => match us, ws, h1, h2 with | [a0, a1], [], _, _ => .of_eq rfl⟩
theorem bd_change_0 {K : PySem.W.Frag} {M : Mp} {kV doc pm cdv ct : Value} {an : Option Addr} : Bound ⟨K, M.cls, M.fns⟩ (PySem.W.fnOf "change" "change" (defArgs (topS 5)) (defBody (topS 5)) (defScope (topS 5)) .none kV doc pm an cdv ct) P_change 3 [] [0, 1, 2] [] :=
  ⟨[], [], .nil, .nil, fun s us ws _ h1 h2 => match us, ws, h1, h2 with | [a0, a1, a2], [], _, _ => .of_eq rfl⟩
theorem bd_change_1 {K : PySem.W.Frag} {M : Mp} {kV doc pm cdv ct : Value} {an : Option Addr} : Bound ⟨K, M.cls, M.fns⟩ (PySem.W.fnOf "change" "change" (defArgs (topS 5)) (defBody (topS 5)) (defScope (topS 5)) .none kV doc pm an cdv ct) P_change 0 ["other", "house", "dress"] [1, 2, 0] [] :=
  ⟨[], [], .nil, .nil, fun s us ws _ h1 h2 => match us, ws, h1, h2 with | [], [b0, b1, b2], _, _ => .of_eq rfl⟩
theorem bd_Lpool_0 {K : PySem.W.Frag} {M : Mp} {kV doc pm cdv ct : Value} {an : Option Addr} : Bound ⟨K, M.cls, M.fns⟩ (PySem.W.fnOf "_law_pool" "_law_pool" (defArgs (topS 7)) (defBody (topS 7)) (defScope (topS 7)) .none kV doc pm an cdv ct) P_Lpool 2 [] [0, 1] [] :=
  ⟨[], [], .nil, .nil, fun s us ws _ h1 h2 => match us, ws, h1, h2 with | [a0, a1], [], _, _ => .of_eq rfl⟩
theorem bd_Ltake_0 {K : PySem.W.Frag} {M : Mp} {kV doc pm cdv ct : Value} {an : Option Addr} : Bound ⟨K, M.cls, M.fns⟩ (PySem.W.fnOf "_law_take" "_law_take" (defArgs (topS 8)) (defBody (topS 8)) (defScope (topS 8)) .none kV doc pm an cdv ct) P_Ltake 2 [] [0, 1] [] :=
  ⟨[], [], .nil, .nil, fun s us ws _ h1 h2 => match us, ws, h1, h2 with | [a0, a1], [], _, _ => .of_eq rfl⟩
theorem bd_Lnames_0 {K : PySem.W.Frag} {M : Mp} {kV doc pm cdv ct : Value} {an : Option Addr} : Bound ⟨K, M.cls, M.fns⟩ (PySem.W.fnOf "_law_names" "_law_names" (defArgs (topS 9)) (defBody (topS 9)) (defScope (topS 9)) .none kV doc pm an cdv ct) P_Lnames 2 [] [0, 1] [] :=
  ⟨[], [], .nil, .nil, fun s us ws _ h1 h2 => match us, ws, h1, h2 with | [a0, a1], [], _, _ => .of_eq rfl⟩
theorem bd_Lhouse_0 {K : PySem.W.Frag} {M : Mp} {kV doc pm cdv ct : Value} {an : Option Addr} : Bound ⟨K, M.cls, M.fns⟩ (PySem.W.fnOf "_law_house" "_law_house" (defArgs (topS 10)) (defBody (topS 10)) (defScope (topS 10)) .none kV doc pm an cdv ct) P_Lhouse 2 [] [0, 1] [] :=
  ⟨[], [], .nil, .nil, fun s us ws _ h1 h2 => match us, ws, h1, h2 with | [a0, a1], [], _, _ => .of_eq rfl⟩
theorem bd_Lasked_0 {K : PySem.W.Frag} {M : Mp} {kV doc pm cdv ct : Value} {an : Option Addr} : Bound ⟨K, M.cls, M.fns⟩ (PySem.W.fnOf "_law_asked" "_law_asked" (defArgs (topS 11)) (defBody (topS 11)) (defScope (topS 11)) .none kV doc pm an cdv ct) P_Lasked 4 [] [0, 1, 2, 3] [] :=
  ⟨[], [], .nil, .nil, fun s us ws _ h1 h2 => match us, ws, h1, h2 with | [a0, a1, a2, a3], [], _, _ => .of_eq rfl⟩
theorem bd_Ldue_0 {K : PySem.W.Frag} {M : Mp} {kV doc pm cdv ct : Value} {an : Option Addr} : Bound ⟨K, M.cls, M.fns⟩ (PySem.W.fnOf "_law_due" "_law_due" (defArgs (topS 12)) (defBody (topS 12)) (defScope (topS 12)) .none kV doc pm an cdv ct) P_Ldue 3 [] [0, 1, 2] [] :=
  ⟨[], [], .nil, .nil, fun s us ws _ h1 h2 => match us, ws, h1, h2 with | [a0, a1, a2], [], _, _ => .of_eq rfl⟩
theorem bd_Lright_0 {K : PySem.W.Frag} {M : Mp} {kV doc pm cdv ct : Value} {an : Option Addr} : Bound ⟨K, M.cls, M.fns⟩ (PySem.W.fnOf "_law_right" "_law_right" (defArgs (topS 13)) (defBody (topS 13)) (defScope (topS 13)) .none kV doc pm an cdv ct) P_Lright_k05 3 [] [0, 1, 2] [] :=
  ⟨[], [], .nil, .nil, fun s us ws _ h1 h2 => match us, ws, h1, h2 with | [a0, a1, a2], [], _, _ => .of_eq rfl⟩
theorem bd_Lodd_0 {K : PySem.W.Frag} {M : Mp} {kV doc pm cdv ct : Value} {an : Option Addr} : Bound ⟨K, M.cls, M.fns⟩ (PySem.W.fnOf "_law_odd" "_law_odd" (defArgs (topS 14)) (defBody (topS 14)) (defScope (topS 14)) .none kV doc pm an cdv ct) P_Lodd_k05 2 [] [0, 1] [] :=
  ⟨[], [], .nil, .nil, fun s us ws _ h1 h2 => match us, ws, h1, h2 with | [a0, a1], [], _, _ => .of_eq rfl⟩
theorem bd_Lbeats_0 {K : PySem.W.Frag} {M : Mp} {kV doc pm cdv ct : Value} {an : Option Addr} : Bound ⟨K, M.cls, M.fns⟩ (PySem.W.fnOf "_law_beats" "_law_beats" (defArgs (topS 15)) (defBody (topS 15)) (defScope (topS 15)) .none kV doc pm an cdv ct) P_Lbeats_k05 1 [] [0] [] :=
  ⟨[], [], .nil, .nil, fun s us ws _ h1 h2 => match us, ws, h1, h2 with | [a0], [], _, _ => .of_eq rfl⟩
theorem bd_Lworn_0 {K : PySem.W.Frag} {M : Mp} {kV doc pm cdv ct : Value} {an : Option Addr} : Bound ⟨K, M.cls, M.fns⟩ (PySem.W.fnOf "_law_worn" "_law_worn" (defArgs (topS 16)) (defBody (topS 16)) (defScope (topS 16)) .none kV doc pm an cdv ct) P_Lworn 2 [] [0, 1] [] :=
  ⟨[], [], .nil, .nil, fun s us ws _ h1 h2 => match us, ws, h1, h2 with | [a0, a1], [], _, _ => .of_eq rfl⟩
theorem all_mk {l : PySem.W.OpenLaw} {w : World} {K : PySem.W.Frag} {h : Heap} {mg : Str → Option Value} {fa : Addr} (X : K.In h) (G : h.Ns mainGlobals mg) (hfa : mg "law" = some (.ref fa))
    {C_NoName : Addr}
    {C_LackError : Addr}
    {fx_NoName : Addr} {ocx_NoName kVx_NoName dcx_NoName pmx_NoName cdx_NoName ctx_NoName : Value} {odx_NoName anx_NoName : Option Addr} {slx_NoName : Array (Option Value)}
    {f_named : Addr} {oc_named kV_named dc_named pm_named cd_named ct_named : Value} {od_named an_named : Option Addr} {sl_named : Array (Option Value)}
    {f_change : Addr} {oc_change kV_change dc_change pm_change cd_change ct_change : Value} {od_change an_change : Option Addr} {sl_change : Array (Option Value)}
    {f_Lpool : Addr} {oc_Lpool kV_Lpool dc_Lpool pm_Lpool cd_Lpool ct_Lpool : Value} {od_Lpool an_Lpool : Option Addr} {sl_Lpool : Array (Option Value)}
    {f_Ltake : Addr} {oc_Ltake kV_Ltake dc_Ltake pm_Ltake cd_Ltake ct_Ltake : Value} {od_Ltake an_Ltake : Option Addr} {sl_Ltake : Array (Option Value)}
    {f_Lnames : Addr} {oc_Lnames kV_Lnames dc_Lnames pm_Lnames cd_Lnames ct_Lnames : Value} {od_Lnames an_Lnames : Option Addr} {sl_Lnames : Array (Option Value)}
    {f_Lhouse : Addr} {oc_Lhouse kV_Lhouse dc_Lhouse pm_Lhouse cd_Lhouse ct_Lhouse : Value} {od_Lhouse an_Lhouse : Option Addr} {sl_Lhouse : Array (Option Value)}
    {f_Lasked : Addr} {oc_Lasked kV_Lasked dc_Lasked pm_Lasked cd_Lasked ct_Lasked : Value} {od_Lasked an_Lasked : Option Addr} {sl_Lasked : Array (Option Value)}
    {f_Ldue : Addr} {oc_Ldue kV_Ldue dc_Ldue pm_Ldue cd_Ldue ct_Ldue : Value} {od_Ldue an_Ldue : Option Addr} {sl_Ldue : Array (Option Value)}
    {f_Lright : Addr} {oc_Lright kV_Lright dc_Lright pm_Lright cd_Lright ct_Lright : Value} {od_Lright an_Lright : Option Addr} {sl_Lright : Array (Option Value)}
    {f_Lodd : Addr} {oc_Lodd kV_Lodd dc_Lodd pm_Lodd cd_Lodd ct_Lodd : Value} {od_Lodd an_Lodd : Option Addr} {sl_Lodd : Array (Option Value)}
    {f_Lbeats : Addr} {oc_Lbeats kV_Lbeats dc_Lbeats pm_Lbeats cd_Lbeats ct_Lbeats : Value} {od_Lbeats an_Lbeats : Option Addr} {sl_Lbeats : Array (Option Value)}
    {f_Lworn : Addr} {oc_Lworn kV_Lworn dc_Lworn pm_Lworn cd_Lworn ct_Lworn : Value} {od_Lworn an_Lworn : Option Addr} {sl_Lworn : Array (Option Value)}
    {f_law : Addr} {oc_law kV_law dc_law pm_law cd_law ct_law : Value} {od_law an_law : Option Addr} {sl_law : Array (Option Value)}
    (z_enumerate : PySem.W.nsIn K mainGlobals "enumerate" = some none)
    (z_int : PySem.W.nsIn K mainGlobals "int" = some none)
    (z_len : PySem.W.nsIn K mainGlobals "len" = some none)
    (z_max : PySem.W.nsIn K mainGlobals "max" = some none)
    (z_min : PySem.W.nsIn K mainGlobals "min" = some none)
    (z_range : PySem.W.nsIn K mainGlobals "range" = some none)
    (z_repr : PySem.W.nsIn K mainGlobals "repr" = some none)
    (z_sorted : PySem.W.nsIn K mainGlobals "sorted" = some none)
    (z_tuple : PySem.W.nsIn K mainGlobals "tuple" = some none)
    (a_NoName : PySem.W.nsIn K mainGlobals "NoName" = some (some (.ref C_NoName)))
    (a_LackError : PySem.W.nsIn K mainGlobals "LackError" = some (some (.ref C_LackError)))
    (xl_NoName : xclB K "LookupError.__new__" leL C_NoName = true) (fi_NoName : PySem.W.findIn K (.ref C_NoName) "__init__" = some (some (.ref fx_NoName))) (ti_NoName : PySem.W.typeIn K (.ref fx_NoName) = some (.type "function")) (lx_NoName : K.lookup fx_NoName = some ⟨ocx_NoName, odx_NoName, .func (PySem.W.fnOf "__init__" "NoName.__init__" (defArgs (metS 2 0)) (defBody (metS 2 0)) (defScope (metS 2 0)) .none kVx_NoName dcx_NoName pmx_NoName anx_NoName cdx_NoName ctx_NoName), slx_NoName⟩) (cx_NoName : PySem.W.codeIn K cdx_NoName "NoName.__init__" = true)
    (sp_LackError : xsupB K "LookupError.__init__" C_LackError = true)
    (nf_NoName_name : PySem.W.findIn K (.ref C_NoName) "name" = some none)
    (xk_NoName : xckB K C_NoName = true)
    (ke_NoName_NoName : PySem.W.exmOne K (.ref C_NoName) (.ref C_NoName) = some true)
    (a_named : PySem.W.nsIn K mainGlobals "named" = some (some (.ref f_named))) (l_named : K.lookup f_named = some ⟨oc_named, od_named, .func (PySem.W.fnOf "named" "named" (defArgs (topS 4)) (defBody (topS 4)) (defScope (topS 4)) .none kV_named dc_named pm_named an_named cd_named ct_named), sl_named⟩) (c_named : PySem.W.codeIn K cd_named "named" = true) (k_named : PySem.W.keepIn K (.ref f_named) = true)
    (a_change : PySem.W.nsIn K mainGlobals "change" = some (some (.ref f_change))) (l_change : K.lookup f_change = some ⟨oc_change, od_change, .func (PySem.W.fnOf "change" "change" (defArgs (topS 5)) (defBody (topS 5)) (defScope (topS 5)) .none kV_change dc_change pm_change an_change cd_change ct_change), sl_change⟩) (c_change : PySem.W.codeIn K cd_change "change" = true) (k_change : PySem.W.keepIn K (.ref f_change) = true)
    (a_Lpool : PySem.W.nsIn K mainGlobals "_law_pool" = some (some (.ref f_Lpool))) (l_Lpool : K.lookup f_Lpool = some ⟨oc_Lpool, od_Lpool, .func (PySem.W.fnOf "_law_pool" "_law_pool" (defArgs (topS 7)) (defBody (topS 7)) (defScope (topS 7)) .none kV_Lpool dc_Lpool pm_Lpool an_Lpool cd_Lpool ct_Lpool), sl_Lpool⟩) (c_Lpool : PySem.W.codeIn K cd_Lpool "_law_pool" = true) (k_Lpool : PySem.W.keepIn K (.ref f_Lpool) = true)
    (a_Ltake : PySem.W.nsIn K mainGlobals "_law_take" = some (some (.ref f_Ltake))) (l_Ltake : K.lookup f_Ltake = some ⟨oc_Ltake, od_Ltake, .func (PySem.W.fnOf "_law_take" "_law_take" (defArgs (topS 8)) (defBody (topS 8)) (defScope (topS 8)) .none kV_Ltake dc_Ltake pm_Ltake an_Ltake cd_Ltake ct_Ltake), sl_Ltake⟩) (c_Ltake : PySem.W.codeIn K cd_Ltake "_law_take" = true) (k_Ltake : PySem.W.keepIn K (.ref f_Ltake) = true)
    (a_Lnames : PySem.W.nsIn K mainGlobals "_law_names" = some (some (.ref f_Lnames))) (l_Lnames : K.lookup f_Lnames = some ⟨oc_Lnames, od_Lnames, .func (PySem.W.fnOf "_law_names" "_law_names" (defArgs (topS 9)) (defBody (topS 9)) (defScope (topS 9)) .none kV_Lnames dc_Lnames pm_Lnames an_Lnames cd_Lnames ct_Lnames), sl_Lnames⟩) (c_Lnames : PySem.W.codeIn K cd_Lnames "_law_names" = true) (k_Lnames : PySem.W.keepIn K (.ref f_Lnames) = true)
    (a_Lhouse : PySem.W.nsIn K mainGlobals "_law_house" = some (some (.ref f_Lhouse))) (l_Lhouse : K.lookup f_Lhouse = some ⟨oc_Lhouse, od_Lhouse, .func (PySem.W.fnOf "_law_house" "_law_house" (defArgs (topS 10)) (defBody (topS 10)) (defScope (topS 10)) .none kV_Lhouse dc_Lhouse pm_Lhouse an_Lhouse cd_Lhouse ct_Lhouse), sl_Lhouse⟩) (c_Lhouse : PySem.W.codeIn K cd_Lhouse "_law_house" = true) (k_Lhouse : PySem.W.keepIn K (.ref f_Lhouse) = true)
    (a_Lasked : PySem.W.nsIn K mainGlobals "_law_asked" = some (some (.ref f_Lasked))) (l_Lasked : K.lookup f_Lasked = some ⟨oc_Lasked, od_Lasked, .func (PySem.W.fnOf "_law_asked" "_law_asked" (defArgs (topS 11)) (defBody (topS 11)) (defScope (topS 11)) .none kV_Lasked dc_Lasked pm_Lasked an_Lasked cd_Lasked ct_Lasked), sl_Lasked⟩) (c_Lasked : PySem.W.codeIn K cd_Lasked "_law_asked" = true) (k_Lasked : PySem.W.keepIn K (.ref f_Lasked) = true)
    (a_Ldue : PySem.W.nsIn K mainGlobals "_law_due" = some (some (.ref f_Ldue))) (l_Ldue : K.lookup f_Ldue = some ⟨oc_Ldue, od_Ldue, .func (PySem.W.fnOf "_law_due" "_law_due" (defArgs (topS 12)) (defBody (topS 12)) (defScope (topS 12)) .none kV_Ldue dc_Ldue pm_Ldue an_Ldue cd_Ldue ct_Ldue), sl_Ldue⟩) (c_Ldue : PySem.W.codeIn K cd_Ldue "_law_due" = true) (k_Ldue : PySem.W.keepIn K (.ref f_Ldue) = true)
    (a_Lright : PySem.W.nsIn K mainGlobals "_law_right" = some (some (.ref f_Lright))) (l_Lright : K.lookup f_Lright = some ⟨oc_Lright, od_Lright, .func (PySem.W.fnOf "_law_right" "_law_right" (defArgs (topS 13)) (defBody (topS 13)) (defScope (topS 13)) .none kV_Lright dc_Lright pm_Lright an_Lright cd_Lright ct_Lright), sl_Lright⟩) (c_Lright : PySem.W.codeIn K cd_Lright "_law_right" = true) (k_Lright : PySem.W.keepIn K (.ref f_Lright) = true)
    (a_Lodd : PySem.W.nsIn K mainGlobals "_law_odd" = some (some (.ref f_Lodd))) (l_Lodd : K.lookup f_Lodd = some ⟨oc_Lodd, od_Lodd, .func (PySem.W.fnOf "_law_odd" "_law_odd" (defArgs (topS 14)) (defBody (topS 14)) (defScope (topS 14)) .none kV_Lodd dc_Lodd pm_Lodd an_Lodd cd_Lodd ct_Lodd), sl_Lodd⟩) (c_Lodd : PySem.W.codeIn K cd_Lodd "_law_odd" = true) (k_Lodd : PySem.W.keepIn K (.ref f_Lodd) = true)
    (a_Lbeats : PySem.W.nsIn K mainGlobals "_law_beats" = some (some (.ref f_Lbeats))) (l_Lbeats : K.lookup f_Lbeats = some ⟨oc_Lbeats, od_Lbeats, .func (PySem.W.fnOf "_law_beats" "_law_beats" (defArgs (topS 15)) (defBody (topS 15)) (defScope (topS 15)) .none kV_Lbeats dc_Lbeats pm_Lbeats an_Lbeats cd_Lbeats ct_Lbeats), sl_Lbeats⟩) (c_Lbeats : PySem.W.codeIn K cd_Lbeats "_law_beats" = true) (k_Lbeats : PySem.W.keepIn K (.ref f_Lbeats) = true)
    (a_Lworn : PySem.W.nsIn K mainGlobals "_law_worn" = some (some (.ref f_Lworn))) (l_Lworn : K.lookup f_Lworn = some ⟨oc_Lworn, od_Lworn, .func (PySem.W.fnOf "_law_worn" "_law_worn" (defArgs (topS 16)) (defBody (topS 16)) (defScope (topS 16)) .none kV_Lworn dc_Lworn pm_Lworn an_Lworn cd_Lworn ct_Lworn), sl_Lworn⟩) (c_Lworn : PySem.W.codeIn K cd_Lworn "_law_worn" = true) (k_Lworn : PySem.W.keepIn K (.ref f_Lworn) = true)
    (a_law : PySem.W.nsIn K mainGlobals "law" = some (some (.ref f_law))) (l_law : K.lookup f_law = some ⟨oc_law, od_law, .func (PySem.W.fnOf "law" "law" (defArgs (topS 17)) (defBody (topS 17)) (defScope (topS 17)) .none kV_law dc_law pm_law an_law cd_law ct_law), sl_law⟩) (c_law : PySem.W.codeIn K cd_law "law" = true) (k_law : PySem.W.keepIn K (.ref f_law) = true)
    : ∃ fd : FuncData, (∀ (s : Shared) (v : Value), BindsTo s fd ⟨[v], []⟩ [("script", v)]) ∧ ∀ base : Heap, K.In base → base.Ns mainGlobals mg → FnG l.prog w K mg base (CX l.prog w) 7 fa fd ["script"] (spD ⟨K, (mpOf K).cls, (mpOf K).fns⟩ 1 F_law_k05) := by
  have eM_NoName : (mpOf K).cls 1019 = C_NoName := by show clsAt K "NoName" = _; unfold clsAt; rw [a_NoName]
  have eM_LackError : (mpOf K).cls 1018 = C_LackError := by show clsAt K "LackError" = _; unfold clsAt; rw [a_LackError]
  have e : fa = f_law := by have e := hfa.symm.trans (PySem.W.mg_of X G a_law); injection e with e; injection e
  rw [e]; clear e hfa
  have gs : Gs K (mpOf K) mg := ⟨PySem.W.mg_none_of X G z_enumerate,
    PySem.W.mg_none_of X G z_int,
    PySem.W.mg_none_of X G z_len,
    PySem.W.mg_none_of X G z_max,
    PySem.W.mg_none_of X G z_min,
    PySem.W.mg_none_of X G z_range,
    PySem.W.mg_none_of X G z_repr,
    PySem.W.mg_none_of X G z_sorted,
    PySem.W.mg_none_of X G z_tuple,
    ⟨_, _, _, _, fx_NoName, _, ["self", "name"], xb_le, by rw [eM_NoName]; exact xclB_ok xl_NoName, by rw [eM_NoName]; exact fi_NoName, ti_NoName, fun Pg w base CX => fn_xi1 (P := "LackError") xb_le lx_NoName cx_NoName sx_NoName bx_NoName nx_NoName (xsupB_ok sp_LackError) (PySem.W.mg_of X G a_LackError), by rw [eM_NoName]; intro f hf; simp only [List.mem_cons, List.not_mem_nil, or_false] at hf; rcases hf with rfl <;> assumption, binds2 fun u v => rfl, by rw [eM_NoName]; exact PySem.W.mg_of X G a_NoName, by decide⟩,
    by rw [eM_NoName]; exact PySem.W.mg_of X G a_NoName,
    by rw [eM_NoName]; exact xckB_ok xk_NoName,
    by rw [eM_NoName]; exact ke_NoName_NoName,
    by rw [eM_NoName]; exact nf_NoName_name⟩
  have h_named : H_named K (mpOf K) mg f_named _ := ⟨⟨_, _, _, _, _, _, _, _, _, _, rfl, l_named, c_named⟩, PySem.W.mg_of X G a_named, k_named, bd_named_0⟩
  have h_change : H_change K (mpOf K) mg f_change _ := ⟨⟨_, _, _, _, _, _, _, _, _, _, rfl, l_change, c_change⟩, PySem.W.mg_of X G a_change, k_change, bd_change_0, bd_change_1⟩
  have h_Lpool : H_Lpool K (mpOf K) mg f_Lpool _ := ⟨⟨_, _, _, _, _, _, _, _, _, _, rfl, l_Lpool, c_Lpool⟩, PySem.W.mg_of X G a_Lpool, k_Lpool, bd_Lpool_0⟩
  have h_Ltake : H_Ltake K (mpOf K) mg f_Ltake _ := ⟨⟨_, _, _, _, _, _, _, _, _, _, rfl, l_Ltake, c_Ltake⟩, PySem.W.mg_of X G a_Ltake, k_Ltake, bd_Ltake_0⟩
  have h_Lnames : H_Lnames K (mpOf K) mg f_Lnames _ := ⟨⟨_, _, _, _, _, _, _, _, _, _, rfl, l_Lnames, c_Lnames⟩, PySem.W.mg_of X G a_Lnames, k_Lnames, bd_Lnames_0⟩
  have h_Lhouse : H_Lhouse K (mpOf K) mg f_Lhouse _ := ⟨⟨_, _, _, _, _, _, _, _, _, _, rfl, l_Lhouse, c_Lhouse⟩, PySem.W.mg_of X G a_Lhouse, k_Lhouse, bd_Lhouse_0⟩
  have h_Lasked : H_Lasked K (mpOf K) mg f_Lasked _ := ⟨⟨_, _, _, _, _, _, _, _, _, _, rfl, l_Lasked, c_Lasked⟩, PySem.W.mg_of X G a_Lasked, k_Lasked, bd_Lasked_0⟩
  have h_Ldue : H_Ldue K (mpOf K) mg f_Ldue _ := ⟨⟨_, _, _, _, _, _, _, _, _, _, rfl, l_Ldue, c_Ldue⟩, PySem.W.mg_of X G a_Ldue, k_Ldue, bd_Ldue_0⟩
  have h_Lright : H_Lright K (mpOf K) mg f_Lright _ := ⟨⟨_, _, _, _, _, _, _, _, _, _, rfl, l_Lright, c_Lright⟩, PySem.W.mg_of X G a_Lright, k_Lright, bd_Lright_0⟩
  have h_Lodd : H_Lodd K (mpOf K) mg f_Lodd _ := ⟨⟨_, _, _, _, _, _, _, _, _, _, rfl, l_Lodd, c_Lodd⟩, PySem.W.mg_of X G a_Lodd, k_Lodd, bd_Lodd_0⟩
  have h_Lbeats : H_Lbeats K (mpOf K) mg f_Lbeats _ := ⟨⟨_, _, _, _, _, _, _, _, _, _, rfl, l_Lbeats, c_Lbeats⟩, PySem.W.mg_of X G a_Lbeats, k_Lbeats, bd_Lbeats_0⟩
  have h_Lworn : H_Lworn K (mpOf K) mg f_Lworn _ := ⟨⟨_, _, _, _, _, _, _, _, _, _, rfl, l_Lworn, c_Lworn⟩, PySem.W.mg_of X G a_Lworn, k_Lworn, bd_Lworn_0⟩
  have h_law : H_law K (mpOf K) mg f_law _ := ⟨⟨_, _, _, _, _, _, _, _, _, _, rfl, l_law, c_law⟩, PySem.W.mg_of X G a_law, k_law⟩
  refine ⟨PySem.W.fnOf "law" "law" (defArgs (topS 17)) (defBody (topS 17)) (defScope (topS 17)) .none kV_law dc_law pm_law an_law cd_law ct_law, fun s v => .of_eq rfl, fun base _ _ => ?_⟩
  have g_named := G_named (P := l.prog) (w := w) (base := base) h_named gs 
  have g_change := G_change (P := l.prog) (w := w) (base := base) h_change gs h_named g_named
  have g_Lpool := G_Lpool (P := l.prog) (w := w) (base := base) h_Lpool gs 
  have g_Ltake := G_Ltake (P := l.prog) (w := w) (base := base) h_Ltake gs 
  have g_Lnames := G_Lnames (P := l.prog) (w := w) (base := base) h_Lnames gs h_Ltake g_Ltake
  have g_Lhouse := G_Lhouse (P := l.prog) (w := w) (base := base) h_Lhouse gs h_Lnames g_Lnames h_Ltake g_Ltake
  have g_Lasked := G_Lasked (P := l.prog) (w := w) (base := base) h_Lasked gs h_change g_change
  have g_Ldue := G_Ldue (P := l.prog) (w := w) (base := base) h_Ldue gs 
  have g_Lright := G_Lright (P := l.prog) (w := w) (base := base) h_Lright gs h_Lasked g_Lasked h_Ldue g_Ldue
  have g_Lodd := G_Lodd (P := l.prog) (w := w) (base := base) h_Lodd gs h_Ltake g_Ltake
  have g_Lbeats := G_Lbeats (P := l.prog) (w := w) (base := base) h_Lbeats gs h_Ltake g_Ltake
  have g_Lworn := G_Lworn (P := l.prog) (w := w) (base := base) h_Lworn gs h_Lbeats g_Lbeats
  exact G_law h_law gs h_Lpool g_Lpool h_Lworn g_Lworn h_Lhouse g_Lhouse h_Ltake g_Ltake h_Lright g_Lright h_Lodd g_Lodd
end K05
set_option maxHeartbeats 4000000
namespace DL
open PySem L2 SeqAt
theorem dEq_anyL {d : D} {z : List Nat} (h : Dd d) : dEq (.str z) d = some (.bl (isStr d z)) := by
  cases d with
  | str x => show some (D.bl (z == x)) = some (.bl (x == z)); rw [Bool.beq_comm]
  | _ => first | rfl | (exfalso; have := h.dt; simp [dt] at this)
theorem isStr_ok {d : D} {z : List Nat} (h : isStr d z = true) : d = .str z := by
  cases d with
  | str x => rw [show x = z from eq_of_beq h]
  | _ => cases h
abbrev Dr := List Nat × Int × Int
def drE (r : Dr) : D := .tup [.str r.1, .int r.2.1, .int r.2.2]
theorem dr_drE {S : Sto} {r : Dr} : dr S (drE r) = drE r := rfl
theorem dr_0 {r : Dr} : dIx (drE r) (.int 0) = some (.str r.1) := rfl
theorem dr_1 {r : Dr} : dIx (drE r) (.int 1) = some (.int r.2.1) := rfl
theorem dr_2 {r : Dr} : dIx (drE r) (.int 2) = some (.int r.2.2) := rfl
def homeE (P Q : D) (rs : List Dr) : D := .tup [P, Q, .tup (rs.map drE)]
theorem dr_home {S : Sto} {P Q : D} {rs : List Dr} : dr S (homeE P Q rs) = homeE P Q rs := rfl
theorem home_0 {P Q : D} {rs : List Dr} : dIx (homeE P Q rs) (.int 0) = some P := rfl
theorem home_1 {P Q : D} {rs : List Dr} : dIx (homeE P Q rs) (.int 1) = some Q := rfl
theorem home_2 {P Q : D} {rs : List Dr} : dIx (homeE P Q rs) (.int 2) = some (.tup (rs.map drE)) := rfl
def findD (rs : List Dr) (d : D) : Option Dr := rs.find? fun r => isStr d r.1
theorem find_step {rs : List Dr} {d : D} {i : Nat} {r : Dr} (h : findD (rs.take i) d = none) (hr : rs[i]? = some r) : findD (rs.take (i + 1)) d = (if isStr d r.1 then some r else none) ∧ (isStr d r.1 = true → findD rs d = some r) := by
  have e : rs.take (i + 1) = rs.take i ++ [r] := by rw [List.take_add_one, hr]; rfl
  have h1 : findD (rs.take (i + 1)) d = (if isStr d r.1 then some r else none) := by
    unfold findD at h ⊢
    rw [e, List.find?_append, h]
    simp only [Option.none_or, List.find?_cons, List.find?_nil]
    cases isStr d r.1 <;> rfl
  refine ⟨h1, fun hs => ?_⟩
  rw [hs] at h1
  unfold findD at h1 ⊢
  rw [← List.take_append_drop (i + 1) rs, List.find?_append, h1]
  rfl
end DL
namespace LB
open PySem L2 DL SeqAt
local macro_rules | `(tactic| exists $hs,*) => `(tactic| simp -implicitDefEqProofs only [optW_s, kRv_k, kVal_v, kVal_l, kVal_d, kCell_o, kBl_k, kInt_k, kOB_k, drv_bl, drv_int, drv_str, drv_tup, drv_lst, drv_scr, slD_k, slP_l, d_var, r_var, o_var, p_var, o_peek, d_con, r_con, o_con, kTupF_k, kLstF_k, kl0, kt1, kl1, kt2, kl2, kt3, kl3, kt4, kl4, kl14, r_tup, d_tup, o_tup, r_lst, d_lst, o_lst, r_dct0, d_dct0, r_op, d_op, o_op, p_op, r_cmp, d_cmp, b_cmp, r_ix, d_ix, o_ix, kO1_k, kO2_vv, kO2_o0, kO2_o1, kO2_o2, kO2_o3, kO2_o4, kO2_o5, cmG0, cmG2, cmG4, cmG7, b_and, r_and, b_or, o_or, kAnd_t, kAnd_f, kOr_t, kOr_f, b_not, kNot_k, b_yes, d_ifx, r_ifx, kIf_t, kIf_f, r_neg, p_neg, kUF_vu, r_sl, d_sl, o_sl, kS1_k, kS2_k, kS3_k, p_nil, r_bi, d_bi, o_bi, kCa_0, kCa_3, kCa_4, kCa_5, kCa_7, kCa_8, kNew_k, kCa_10, r_join, d_join, kJ1_s, kJ2_k, r_call, d_call, o_call, b_call, kF1_k, kF2_k, l_nil, ol_nil, l_cons, ol_cons, kC1_k, kC2_k, r_comp, d_comp, o_comp, l_itv, kIt_k, l_itr1, l_ite, kCIF_k, x_set, x_setO, x_setC, kSet_k, kSetO_k, x_ret, x_retO, rtO_k, x_cond, kCond_t, kCond_f, x_loop, x_done, x_seq, kSq_n, kSq_r, kEnd_r, kTurn_n, kTurn_r, fg_n, fg_c, kBind_o, kBind_2, kSome_k, kKeep_t, kKeep_f, compF_o, x_rsi, kRsi_1, r_xfl, d_xfl, kXflF_1, x_tryx, t_trt, t_tif, kBi_t, kBi_f, t_tnx, thenT_n, thenT_r, onE_k, kTry_k, kTrM_t, offK_r, x_app, kApp_k, apO_k, x_put, kT1_k, kT2_k, kT3_k, dAdd_i, dSub_i, dNeg_i, dLt_i, dGt_i, dEq_i, dEq_s, gMax_i, gMin_i, gLen_l, gLen_t, gLen_r, gTuple_l, gInt_b, dIx_l, dIx_t, it_l, it_t, gEnum_l, List.getElem?_cons_zero, List.getElem?_cons_succ, List.set_cons_zero, List.set_cons_succ, List.map_cons, List.map_nil, List.cons_append, List.nil_append, Option.bind_some, Option.map_some, Option.bind_none, Option.map_none, LB.go_change_0, LB.gf_change_0, LB.go_Lasked_0, LB.go_Lasked_1, LB.gf_Lasked_0, LB.gf_Lasked_1, LB.xe_Lasked_NoName_1019, LB.xm_Lasked_name_1019, LB.go_Lright_k05_0, LB.go_Lright_k05_1, LB.gf_Lright_k05_0, LB.gf_Lright_k05_1, LB.go_Lodd_k05_0, LB.gf_Lodd_k05_0, LB.go_Lbeats_k05_0, LB.go_Lworn_0, LB.gf_Lworn_0, Bool.not_true, Bool.not_false, DL.oAdd_l, DL.oAdd_s, DL.oSl_s, DL.dr_drE, DL.dr_0, DL.dr_1, DL.dr_2, DL.dr_home, DL.home_2, DL.home_0, DL.home_1, $[$hs:term],*])
local macro_rules | `(tactic| decreasing_trivial) => `(tactic| first | assumption | exact Zs.nil | (apply Zs.app <;> decreasing_trivial) | (apply Zs.cut; decreasing_trivial) | (apply Zs.rev; decreasing_trivial) | (apply Zs.cons <;> decreasing_trivial) | (apply Ss.app <;> decreasing_trivial) | (apply Ss.cut; decreasing_trivial) | (apply Ss.rev; decreasing_trivial) | exact Ss.lit (by decide) | (apply Az.tup; decreasing_trivial) | (apply Az.lst; decreasing_trivial) | exact Az.non | exact Az.bl)
local macro_rules | `(tactic| get_elem_tactic_trivial) => `(tactic| first | (apply le_line; simp only [List.length_cons, List.length_nil]; omega) | (apply lt_line; simp only [List.length_cons, List.length_nil]; omega) | (apply zz2; decreasing_trivial; decreasing_trivial; omega) | (apply ss2; decreasing_trivial; decreasing_trivial; (try simp only [List.length_cons, List.length_nil]); omega) | (apply ss1; decreasing_trivial; omega))
theorem named_ok {rs : List Dr} {d : D} {S : Sto} {E : XC} {Q : Rv → Sto → Prop} (hd : Dd d) (k1 : ∀ r, findD rs d = some r → Q (.v (drE r)) S) (k2 : findD rs d = none → E ⟨1019, ["name"], [d]⟩ S) : F_named [.tup (rs.map drE), d] S E Q := by
  unfold F_named
  rw [runF_eq]
  unfold c_named
  show (ev T_named _).x [.val (.tup (rs.map drE)), .val d, .no] _ E _
  exists kVal_v
  refine for_inv (fun i γ S' => γ = [.val (.tup (rs.map drE)), .val d, .no] ∧ S' = S ∧ findD (rs.take i) d = none) ⟨rfl, rfl, by rw [List.take_zero]; rfl⟩ ?_ ?_
  · rintro i x γ S5 hx ⟨rfl, rfl, h⟩
    rw [List.getElem?_map, Option.map_eq_some_iff] at hx
    obtain ⟨r, hr, rfl⟩ := hx
    obtain ⟨h1, h2⟩ := find_step h hr
    unfold c_named_l0
    exists kBind_o, dr_dd hd, dEq_anyL hd
    cases hs : isStr d r.1
    · exists kTurn_n
      rw [hs] at h1
      exact ⟨trivial, trivial, h1⟩
    · exists kRv_k
      exact k1 r (h2 hs)
  · rintro γ S5 ⟨rfl, rfl, h⟩
    rw [List.length_map, List.take_length] at h
    exists kSq_n
    exact k2 h
theorem change_ok {P0 Q0 : D} {rs : List Dr} {a b : D} {S : Sto} {E : XC} {Q : Rv → Sto → Prop} (ha : Dd a) (hb : Dd b) (h1 : findD rs a = none → E ⟨1019, ["name"], [a]⟩ S) (h2 : ∀ r, findD rs a = some r → findD rs b = none → E ⟨1019, ["name"], [b]⟩ S)
    (h3 : ∀ r s, findD rs a = some r → findD rs b = some s → Q (.v (.int (if r.1 == s.1 then 0 else r.2.2 + s.2.1))) S) : F_change [homeE P0 Q0 rs, a, b] S E Q := by
  unfold F_change
  rw [runF_eq]
  unfold c_change
  show (ev T_change _).x [.val (homeE P0 Q0 rs), .val a, .val b, .no, .no] _ E _
  exists kVal_v
  refine named_ok ha (fun r hr => ?_) h1
  exists kVal_v
  refine named_ok hb (fun s hs => ?_) (h2 r hr)
  exists kVal_v
  have h3 := h3 r s hr hs
  cases q : (r.1 == s.1) <;> rw [q] at h3
  · exists kVal_v
    exact h3
  · exists kVal_v
    exact h3
def dueD (rs : List Dr) (a b : D) : D := match findD rs a with
  | none => .tup [.str [110, 111, 32, 110, 97, 109, 101], a]
  | some r => match findD rs b with
    | none => .tup [.str [110, 111, 32, 110, 97, 109, 101], b]
    | some s => .int (if r.1 == s.1 then 0 else r.2.2 + s.2.1)
theorem Lasked_ok {P0 Q0 : D} {rs : List Dr} {a b : D} {w : Int} {S : Sto} {E : XC} {Q : Rv → Sto → Prop} (ha : Dd a) (hb : Dd b) (k : Q (.v (dueD rs a b)) S) : F_Lasked [.int w, homeE P0 Q0 rs, a, b] S E Q := by
  unfold F_Lasked
  rw [runF_eq]
  unfold c_Lasked
  show (ev T_Lasked _).x [.val (.int w), .val (homeE P0 Q0 rs), .val a, .val b, .no] _ E _
  unfold dueD at k
  cases hw : (w == 0)
  all_goals
    exists hw
    refine change_ok ha hb (fun h => ?_) (fun r hr h => ?_) (fun r s hr hs => ?_)
    · rw [h] at k
      exists kTry_k
      exact ⟨trivial, k⟩
    · rw [hr, h] at k
      exists kTry_k
      exact ⟨trivial, k⟩
    · rw [hr, hs] at k
      exact k
theorem find_is {rs : List Dr} {d : D} {r : Dr} (h : findD rs d = some r) : d = .str r.1 := by
  have := List.find?_some (p := fun r : Dr => isStr d r.1) h
  exact isStr_ok this
theorem find_filter {rs : List Dr} {d : D} : (rs.map drE).filter (fun x => match x with | .tup (.str z :: _) => isStr d z | _ => false) = (rs.filter fun r => isStr d r.1).map drE := by
  rw [List.filter_map]
  rfl
theorem filter_none {rs : List Dr} {d : D} (h : findD rs d = none) : (rs.filter fun r => isStr d r.1) = [] := by
  have e : (rs.filter fun r => isStr d r.1).head? = findD rs d := List.head?_filter ..
  rw [h] at e
  exact List.head?_eq_none_iff.mp e
theorem filter_some {rs : List Dr} {d : D} {r : Dr} (h : findD rs d = some r) : ∃ l, (rs.filter fun r => isStr d r.1) = r :: l := by
  have e : (rs.filter fun r => isStr d r.1).head? = findD rs d := List.head?_filter ..
  rw [h] at e
  exact List.head?_eq_some_iff.mp e
theorem Ldue_ok {P0 Q0 : D} {rs : List Dr} {a b : D} {S : Sto} {E : XC} {Q : Rv → Sto → Prop} (hl : rs.length ≤ 20) (ha : Dd a) (hb : Dd b) (k : Q (.v (dueD rs a b)) S) : F_Ldue [homeE P0 Q0 rs, a, b] S E Q := by
  unfold F_Ldue
  rw [runF_eq]
  unfold c_Ldue
  show (ev T_Ldue _).x [.val (homeE P0 Q0 rs), .val a, .val b, .no, .no, .no] _ E _
  have at0 : ∀ (x : D) (l : List D), atI (x :: l) 0 = some x := fun x l => by
    unfold atI ixN
    simp
  unfold dueD at k
  exists kVal_v
  refine comp_filter (fun x => match x with | .tup (.str z :: _) => isStr a z | _ => false) (by rw [List.length_map]; omega) (fun x hx Q2 q1 q2 => ?_) ?_
  · obtain ⟨r, _, rfl⟩ := List.mem_map.mp hx
    exists dr_dd ha, dEq_anyL ha
    cases hs : isStr a r.1
    · exists kKeep_f
      exact q2 hs
    · exists b_yes
      exact q1 hs
  rw [find_filter]
  exists kVal_l
  refine comp_filter (fun x => match x with | .tup (.str z :: _) => isStr b z | _ => false) (by rw [List.length_map]; omega) (fun x hx Q2 q1 q2 => ?_) ?_
  · obtain ⟨r, _, rfl⟩ := List.mem_map.mp hx
    exists dr_dd hb, dEq_anyL hb
    cases hs : isStr b r.1
    · exists kKeep_f
      exact q2 hs
    · exists b_yes
      exact q1 hs
  rw [find_filter]
  exists kVal_l, dEq_l0
  cases h1 : findD rs a with
  | none =>
    rw [h1] at k
    rw [filter_none h1]
    exists List.map_nil, List.isEmpty_nil
    exact k
  | some r =>
    rw [h1] at k
    obtain ⟨l1, e1⟩ := filter_some h1
    rw [e1]
    exists List.map_cons, List.isEmpty_cons
    cases h2 : findD rs b with
    | none =>
      rw [h2] at k
      rw [filter_none h2]
      exists List.map_nil, List.isEmpty_nil
      exact k
    | some s =>
      rw [h2] at k
      obtain ⟨l2, e3⟩ := filter_some h2
      rw [e3]
      have ea : a = .str r.1 := find_is h1
      have eb : b = .str s.1 := find_is h2
      subst ea eb
      exists List.map_cons, List.isEmpty_cons, dEq_s, dEq_l0
      have k : Q (.v (.int (if r.1 == s.1 then 0 else r.2.2 + s.2.1))) S := k
      cases q : (r.1 == s.1) <;> rw [q] at k
      · exists at0, dEq_l0, q
        exact k
      · exists at0, dEq_l0, q
        exact k
theorem due_az {rs : List Dr} {a b : D} {B k m : Nat} (ha : Az B k m a) (hb : Az B k m b) (hr : ∀ r ∈ rs, r.2.1.natAbs ≤ 1000 ∧ r.2.2.natAbs ≤ 1000) (hB : 10000 ≤ B) : Az B (k + 1) (m + 10) (dueD rs a b) := by
  have T : ∀ {d : D}, Az B k m d → Az B (k + 1) (m + 10) (.tup [.str [110, 111, 32, 110, 97, 109, 101], d]) := fun h => by
    have h1 : Az B k 8 (D.str [110, 111, 32, 110, 97, 109, 101]) := Az.str (m := 7) (x := [110, 111, 32, 110, 97, 109, 101]) (Ss.lit (x := [110, 111, 32, 110, 97, 109, 101]) (by decide))
    refine ((Az.tup (Zs.cons h1 (Zs.cons h Zs.nil))).mono (Nat.le_refl _) (Nat.le_refl _) ?_)
    omega
  unfold dueD
  cases h1 : findD rs a with
  | none => exact T ha
  | some r =>
    cases h2 : findD rs b with
    | none => exact T hb
    | some s =>
      have r1 := hr r (List.mem_of_find?_eq_some h1)
      have s1 := hr s (List.mem_of_find?_eq_some h2)
      refine (Az.int (B := B) (k := k + 1) ?_).mono (Nat.le_refl _) (Nat.le_refl _) (by omega)
      split <;> omega
theorem Lright_ok {P0 Q0 : D} {rs : List Dr} {a b : D} {S : Sto} {E : XC} {Q : Rv → Sto → Prop} (hl : rs.length ≤ 20) (hh : Az 10000 5 20000 (homeE P0 Q0 rs)) (hr : ∀ r ∈ rs, r.2.1.natAbs ≤ 1000 ∧ r.2.2.natAbs ≤ 1000) (ha : Az 10000 5 2000 a) (hb : Az 10000 5 2000 b)
    (k : Q (.v (.bl true)) S) : F_Lright_k05 [homeE P0 Q0 rs, a, b] S E Q := by
  have da : Dd a := ha.dd (by decide) (by decide) (by decide)
  have db : Dd b := hb.dd (by decide) (by decide) (by decide)
  have hd := due_az ha hb hr (Nat.le_refl _)
  unfold F_Lright_k05
  rw [runF_eq]
  unfold c_Lright_k05
  show (ev T_Lright_k05 _).x [.val (homeE P0 Q0 rs), .val a, .val b, .no, .no, .no] _ E _
  have z1 : Az 10000 6 30000 (.lst [homeE P0 Q0 rs, a, b]) := (Az.lst (Zs.cons hh (Zs.cons ha (Zs.cons hb Zs.nil)))).mono (Nat.le_refl _) (Nat.le_refl _) (by omega)
  have g1 : gRepr [.lst [homeE P0 Q0 rs, a, b]] = some (.str (reprD (.lst [homeE P0 Q0 rs, a, b]))) := repr_az z1 (by decide) (by decide) (by decide)
  have z2 : Az 10000 7 30000 (.lst [dueD rs a b, dueD rs a b, dueD rs a b]) := ((Az.lst (Zs.cons hd (Zs.cons hd (Zs.cons hd Zs.nil)))).mono (Nat.le_refl _) (by omega) (by omega))
  have g2 : gRepr [.lst [dueD rs a b, dueD rs a b, dueD rs a b]] = some (.str (reprD (.lst [dueD rs a b, dueD rs a b, dueD rs a b]))) := repr_az z2 (by decide) (by decide) (by decide)
  have m3 : ∀ x : D, dMul (.lst [x]) (.int 3) = some (.o (.lst [x, x, x])) := fun _ => rfl
  exists g1
  refine comp_map (fun _ => dueD rs a b) (by decide) (fun x hx Q2 q2 => ?_) ?_
  · have hx' : x = .int 0 ∨ x = .int 1 := by
      simp only [List.mem_cons, List.not_mem_nil, or_false] at hx
      rcases hx with h | h | h <;> simp [h]
    rcases hx' with rfl | rfl
    · exists b_yes
      refine Lasked_ok da db ?_
      exists kVal_v
      exact q2
    · exists b_yes
      refine Lasked_ok da db ?_
      exists kVal_v
      exact q2
  exists kVal_l, List.map_cons, List.map_nil
  exists g2
  refine Ldue_ok hl da db ?_
  have bs : ∀ z : List Nat, (z == z) = true := fun z => by simp
  exists m3, g2, g1, bs
  exact k
theorem Lbeats_ok {cs : List Cell} {n p : Nat} {E : XC} {Q : Rv → Sto → Prop} (hp : cs[p]? = some .pool) (hn : n < 8000000) (k : ∀ i : Int, 0 ≤ i → i ≤ 1000 → Q (.v (.int i)) ⟨cs, n + 3⟩) : F_Lbeats_k05 [.ref p] ⟨cs, n⟩ E Q := by
  unfold F_Lbeats_k05
  rw [runF_eq]
  unfold c_Lbeats_k05
  show (ev T_Lbeats_k05 _).x [.val (.ref p)] _ E _
  exists kVal_v
  refine take_k hp (by omega) (by decide) (by decide) fun d1 a1 b1 => ?_
  exists kVal_v
  refine take_k hp (by omega) (by decide) (by decide) fun d2 a2 b2 => ?_
  exists kVal_v
  refine take_k hp (by omega) (by decide) (by decide) fun d3 a3 b3 => ?_
  obtain ⟨r, hr, e⟩ := pick (xs := [D.int d1, .int d2, .int 1000, .int 0]) a3 b3
  exists e
  simp only [List.mem_cons, List.not_mem_nil, or_false] at hr
  rcases hr with rfl | rfl | rfl | rfl
  · exact k _ a1 (by omega)
  · exact k _ a2 (by omega)
  · exact k _ (by decide) (by decide)
  · exact k _ (by decide) (by decide)
theorem Lworn_ok {cs : List Cell} {n p : Nat} {P0 Q0 : D} {ds : List D} {E : XC} {Q : Rv → Sto → Prop} (hp : cs[p]? = some .pool) (hn : n < 7000000) (hl : ds.length ≤ 20) (hN : ∀ d ∈ ds, DressD d)
    (k : ∀ (rs : List Dr) (n' : Nat), rs.map Prod.fst = ds.map headD → (∀ r ∈ rs, Nm r.1 ∧ 0 ≤ r.2.1 ∧ r.2.1 ≤ 1000 ∧ 0 ≤ r.2.2 ∧ r.2.2 ≤ 1000) → n' ≤ n + 200 → Q (.v (homeE P0 Q0 rs)) ⟨cs, n'⟩) : F_Lworn [.ref p, .tup [P0, Q0, .tup ds]] ⟨cs, n⟩ E Q := by
  unfold F_Lworn
  rw [runF_eq]
  unfold c_Lworn
  show (ev T_Lworn _).x [.val (.ref p), .val (.tup [P0, Q0, .tup ds]), .no, .no] _ E _
  have e0 : dIx (.tup [P0, Q0, .tup ds]) (.int 0) = some P0 := rfl
  have e1 : dIx (.tup [P0, Q0, .tup ds]) (.int 1) = some Q0 := rfl
  have e2 : dIx (.tup [P0, Q0, .tup ds]) (.int 2) = some (.tup ds) := rfl
  exists kVal_v
  refine comp_inv (fun i ys S' => ∃ (rs : List Dr) (n' : Nat), S' = ⟨cs, n'⟩ ∧ ys = rs.map drE ∧ rs.map Prod.fst = (ds.take i).map headD ∧ (∀ r ∈ rs, Nm r.1 ∧ 0 ≤ r.2.1 ∧ r.2.1 ≤ 1000 ∧ 0 ≤ r.2.2 ∧ r.2.2 ≤ 1000) ∧ n' ≤ n + 6 * i) (by omega) ⟨[], n, rfl, rfl, rfl, fun r h => (by cases h), by omega⟩ ?_ ?_
  · rintro i x ys S5 hx ⟨rs, n1, rfl, rfl, h1, h2, hn1⟩
    have hi : i < ds.length := (List.getElem?_eq_some_iff.mp hx).1
    obtain ⟨nm, a, b, rfl, hnm, _⟩ := (hN x (List.mem_of_getElem? hx)).ex
    have e0 : dIx (.tup [D.str nm, .int a, .int b]) (.int 0) = some (.str nm) := rfl
    exists b_yes, e0
    refine Lbeats_ok hp (by omega) fun u u0 u1 => ?_
    exists kVal_v
    refine Lbeats_ok hp (by omega) fun v v0 v1 => ?_
    exists kVal_v
    refine ⟨rs ++ [(nm, u, v)], _, rfl, by rw [List.map_append]; rfl, ?_, fun r hr => ?_, by omega⟩
    · rw [List.map_append, h1, List.take_add_one, hx, List.map_append]
      rfl
    · rcases List.mem_append.mp hr with h | h
      · exact h2 r h
      · rw [List.mem_singleton] at h
        rw [h]
        exact ⟨hnm, u0, u1, v0, v1⟩
  rintro ys S5 ⟨rs, n1, rfl, rfl, h1, h2, hn1⟩
  rw [List.take_length] at h1
  exists kVal_l, e0, e1
  exact k rs n1 h1 h2 (by omega)
theorem drE_az {r : Dr} (h : Nm r.1 ∧ 0 ≤ r.2.1 ∧ r.2.1 ≤ 1000 ∧ 0 ≤ r.2.2 ∧ r.2.2 ≤ 1000) : Az 10000 1 12 (drE r) := by
  obtain ⟨h1, h2, h3, h4, h5⟩ := h
  exact Az.tupM (k := 0) (m := 11) (Zs.cons (Az.str h1.ss) (Zs.cons (Az.int (by omega)) (Zs.cons (Az.int (by omega)) Zs.nil))) (by decide)
theorem zs_mapD {rs : List Dr} {n : Nat} (h : ∀ r ∈ rs, Az 10000 1 12 (drE r)) (hl : rs.length * 12 ≤ n) : Zs 10000 1 n (rs.map drE) := by
  induction rs generalizing n with
  | nil => exact ⟨rfl, Nat.zero_le _, Nat.zero_le _⟩
  | cons r rs ih =>
    have t := ih (n := rs.length * 12) (fun x hx => h x (List.mem_cons_of_mem _ hx)) (Nat.le_refl _)
    have := Zs.cons (h r List.mem_cons_self) t
    exact ⟨this.di, this.dp, Nat.le_trans this.wt (by simp only [List.length_cons] at hl; omega)⟩
theorem homeE_az {P0 Q0 : D} {d : D} {rs : List Dr} (h : Zs 1000 2 600 [P0, Q0, d]) (h2 : Az 10000 2 97 (.tup (rs.map drE))) : Az 10000 5 20000 (homeE P0 Q0 rs) := by
  have h0 : Az 1000 2 600 P0 := h.mem (by simp)
  have h3 : Az 1000 2 600 Q0 := h.mem (by simp)
  exact (Az.tup (k := 2) (Zs.cons (h0.mono (by decide) (Nat.le_refl _) (Nat.le_refl _)) (Zs.cons (h3.mono (by decide) (Nat.le_refl _) (Nat.le_refl _)) (Zs.cons h2 Zs.nil)))).mono (Nat.le_refl _) (by decide) (by decide)
theorem Lodd05_ok {cs : List Cell} {n p : Nat} {pl : List (List Nat)} {ds : List D} {rs : List Dr} {E : XC} {Q : Rv → Sto → Prop} (hp : cs[p]? = some .pool) (hn : n < 7000000) (p0 : 0 < pl.length) (pN : ∀ w ∈ pl, Nm w) (d0 : 0 < ds.length) (dN : ∀ d ∈ ds, DoorD pl d) (r0 : 0 < rs.length) (hl : rs.length ≤ 20)
    (hr : ∀ r ∈ rs, Nm r.1 ∧ 0 ≤ r.2.1 ∧ r.2.1 ≤ 1000 ∧ 0 ≤ r.2.2 ∧ r.2.2 ≤ 1000) (k : ∀ r, Az 10000 5 2000 r → Q (.v r) ⟨cs, n + 2⟩) : F_Lodd_k05 [.ref p, homeE (.tup (pl.map D.str)) (.tup ds) rs] ⟨cs, n⟩ E Q := by
  unfold F_Lodd_k05
  rw [runF_eq]
  unfold c_Lodd_k05
  show (ev T_Lodd_k05 _).x [.val (.ref p), .val (homeE (.tup (pl.map D.str)) (.tup ds) rs), .no, .no, .no] _ E _
  exists kVal_v
  refine comp_map (fun x => match x with | .tup (z :: _) => z | _ => .non) (by rw [List.length_map]; omega) (fun x hx Q2 q2 => ?_) ?_
  · obtain ⟨r, _, rfl⟩ := List.mem_map.mp hx
    exists b_yes
    exact q2
  have em : (rs.map drE).map (fun x => match x with | .tup (z :: _) => z | _ => .non) = rs.map fun r => D.str r.1 := by
    rw [List.map_map]
    rfl
  rw [em]
  have lr : (rs.map drE).length = rs.length := List.length_map ..
  exists kVal_l, gLen_t, lr
  refine take_k hp (by omega) (by omega) (by omega) fun d d0' d1 => ?_
  obtain ⟨x, hx, e⟩ := pick (xs := rs.map fun r => D.str r.1) d0' (by rw [List.length_map]; exact d1)
  obtain ⟨r, hr1, rfl⟩ := List.mem_map.mp hx
  have hN : Nm r.1 := (hr r hr1).1
  generalize hz : r.1 = z at hN e
  exists e
  have zs := hN.ss
  have zl : z.length ≤ 8 := zs.le
  obtain ⟨w0, pl', rfl⟩ : ∃ w l, pl = w :: l := by cases pl with
    | nil => exact absurd p0 (by decide)
    | cons w l => exact ⟨w, l, rfl⟩
  obtain ⟨x0, ds', rfl⟩ : ∃ w l, ds = w :: l := by cases ds with
    | nil => exact absurd d0 (by decide)
    | cons w l => exact ⟨w, l, rfl⟩
  obtain ⟨r0', rs', rfl⟩ : ∃ w l, rs = w :: l := by cases rs with
    | nil => exact absurd r0 (by decide)
    | cons w l => exact ⟨w, l, rfl⟩
  obtain ⟨dn, e1, e2, b, rfl, hdn, _⟩ := (dN x0 (by simp)).ex
  have at0 : ∀ (x : D) (l : List D), atI (x :: l) 0 = some x := fun x l => by
    unfold atI ixN
    simp
  have rN := hr r0' (by simp)
  have e16 : ∀ x : D, dIx (.tup [x]) (.int 0) = some x := fun _ => rfl
  exists at0, List.map_cons
  refine ⟨le_line (by simp only [List.length_cons, List.length_nil]; omega), le_line (by omega), le_line (by simp only [List.length_cons, List.length_nil]; omega), le_line (by simp only [List.length_cons, List.length_nil]; omega), ?_⟩
  refine take_k hp (by omega) (by decide) (by decide) fun d2 a2 b2 => ?_
  obtain ⟨y, hy, ey⟩ := pick (xs := [D.str (z ++ [120]), D.str (cutL z none (some (-1))), D.str [], D.str [111, 102, 102], D.str w0, D.str dn, D.non, D.bl true, D.int 0, D.int 1, D.lst [], D.dct [] [], D.tup [D.str z], D.lst [D.str z], drE r0', D.str (z ++ [32])]) a2 b2
  exists ey
  refine k y ?_
  have hw0 : Nm w0 := pN w0 (by simp)
  simp only [List.mem_cons, List.not_mem_nil, or_false] at hy
  rcases hy with rfl | rfl | rfl | rfl | rfl | rfl | rfl | rfl | rfl | rfl | rfl | rfl | rfl | rfl | rfl | rfl
  · exact Az.strM (zs.app (Ss.lit (x := [120]) (by decide))) (by decide)
  · exact Az.strM zs.cut (by decide)
  · exact ⟨by decide, by decide, by decide⟩
  · exact ⟨by decide, by decide, by decide⟩
  · exact Az.strM hw0.ss (by decide)
  · exact Az.strM hdn.ss (by decide)
  · exact ⟨by decide, by decide, by decide⟩
  · exact ⟨by decide, by decide, by decide⟩
  · exact ⟨by decide, by decide, by decide⟩
  · exact ⟨by decide, by decide, by decide⟩
  · exact ⟨by decide, by decide, by decide⟩
  · exact ⟨by decide, by decide, by decide⟩
  · exact Az.tupM (Zs.cons (Az.str (B := 10000) (k := 4) zs) Zs.nil) (by decide)
  · exact Az.lstM (Zs.cons (Az.str (B := 10000) (k := 4) zs) Zs.nil) (by decide)
  · exact (drE_az rN).mono (Nat.le_refl _) (by decide) (by decide)
  · exact Az.strM (zs.app (Ss.lit (x := [32]) (by decide))) (by decide)
end LB
namespace K05
open PySem L2 DL LB SeqAt
local macro_rules | `(tactic| exists $hs,*) => `(tactic| simp -implicitDefEqProofs only [optW_s, kRv_k, kVal_v, kVal_l, kVal_d, kCell_o, kBl_k, kInt_k, kOB_k, drv_bl, drv_int, drv_str, drv_tup, drv_lst, drv_scr, slD_k, slP_l, d_var, r_var, o_var, p_var, o_peek, d_con, r_con, o_con, kTupF_k, kLstF_k, kl0, kt1, kl1, kt2, kl2, kt3, kl3, kt4, kl4, kl14, r_tup, d_tup, o_tup, r_lst, d_lst, o_lst, r_dct0, d_dct0, r_op, d_op, o_op, p_op, r_cmp, d_cmp, b_cmp, r_ix, d_ix, o_ix, kO1_k, kO2_vv, kO2_o0, kO2_o1, kO2_o2, kO2_o3, kO2_o4, kO2_o5, cmG0, cmG2, cmG4, cmG7, b_and, r_and, b_or, o_or, kAnd_t, kAnd_f, kOr_t, kOr_f, b_not, kNot_k, b_yes, d_ifx, r_ifx, kIf_t, kIf_f, r_neg, p_neg, kUF_vu, r_sl, d_sl, o_sl, kS1_k, kS2_k, kS3_k, p_nil, r_bi, d_bi, o_bi, kCa_0, kCa_3, kCa_4, kCa_5, kCa_7, kCa_8, kNew_k, kCa_10, r_join, d_join, kJ1_s, kJ2_k, r_call, d_call, o_call, b_call, kF1_k, kF2_k, l_nil, ol_nil, l_cons, ol_cons, kC1_k, kC2_k, r_comp, d_comp, o_comp, l_itv, kIt_k, l_itr1, l_ite, kCIF_k, x_set, x_setO, x_setC, kSet_k, kSetO_k, x_ret, x_retO, rtO_k, x_cond, kCond_t, kCond_f, x_loop, x_done, x_seq, kSq_n, kSq_r, kEnd_r, kTurn_n, kTurn_r, fg_n, fg_c, kBind_o, kBind_2, kSome_k, kKeep_t, kKeep_f, compF_o, x_rsi, kRsi_1, r_xfl, d_xfl, kXflF_1, x_tryx, t_trt, t_tif, kBi_t, kBi_f, t_tnx, thenT_n, thenT_r, onE_k, kTry_k, kTrM_t, offK_r, x_app, kApp_k, apO_k, x_put, kT1_k, kT2_k, kT3_k, dAdd_i, dSub_i, dNeg_i, dLt_i, dGt_i, dEq_i, dEq_s, gMax_i, gMin_i, gLen_l, gLen_t, gLen_r, gTuple_l, gInt_b, dIx_l, dIx_t, it_l, it_t, gEnum_l, List.getElem?_cons_zero, List.getElem?_cons_succ, List.set_cons_zero, List.set_cons_succ, List.map_cons, List.map_nil, List.cons_append, List.nil_append, Option.bind_some, Option.map_some, Option.bind_none, Option.map_none, LB.go_law_k05_0, LB.go_law_k05_1, LB.go_law_k05_2, LB.go_law_k05_3, LB.go_law_k05_4, LB.go_law_k05_5, LB.gf_law_k05_0, LB.gf_law_k05_1, LB.gf_law_k05_2, LB.gf_law_k05_3, LB.gf_law_k05_4, LB.gf_law_k05_5, Bool.not_true, Bool.not_false, DL.oAdd_l, DL.oAdd_s, DL.oSl_s, DL.dr_drE, DL.dr_0, DL.dr_1, DL.dr_2, DL.dr_home, DL.home_2, DL.home_0, DL.home_1, $[$hs:term],*])
local macro_rules | `(tactic| decreasing_trivial) => `(tactic| first | assumption | exact Zs.nil | (apply Zs.app <;> decreasing_trivial) | (apply Zs.cut; decreasing_trivial) | (apply Zs.rev; decreasing_trivial) | (apply Zs.cons <;> decreasing_trivial) | (apply Ss.app <;> decreasing_trivial) | (apply Ss.cut; decreasing_trivial) | (apply Ss.rev; decreasing_trivial) | exact Ss.lit (by decide) | (apply Az.tup; decreasing_trivial) | (apply Az.lst; decreasing_trivial) | exact Az.non | exact Az.bl)
local macro_rules | `(tactic| get_elem_tactic_trivial) => `(tactic| first | (apply le_line; simp only [List.length_cons, List.length_nil]; omega) | (apply lt_line; simp only [List.length_cons, List.length_nil]; omega) | (apply zz2; decreasing_trivial; decreasing_trivial; omega) | (apply ss2; decreasing_trivial; decreasing_trivial; (try simp only [List.length_cons, List.length_nil]); omega) | (apply ss1; decreasing_trivial; omega))
theorem one_cell {cs : List Cell} {n : Nat} {ns : List Int} {k : Nat} {E : XC} {κ : Kt} (hn : n < 3000000) (hk : k ≤ 62) (hl : ns.length ≤ 63)
    (q : ∀ cs' s2 s3 s4 s5 s6 s7 s8 s9 s10 n', n' ≤ n + 30000 → κ.nx [.val (.scr ns), .val (.int k), s2, s3, s4, s5, s6, s7, s8, s9, s10, .no] ⟨cs', n'⟩) :
    (ev T_law_k05 c_law_k05_l4).x [.val (.scr ns), .val (.int k), .no, .no, .no, .no, .no, .no, .no, .no, .no, .no] ⟨cs, n⟩ E κ := by
  unfold c_law_k05_l4
  exists kRv_k
  refine pool_k (by omega) (by omega) (by omega) ?_
  have hp : (cs ++ [Cell.pool])[cs.length]? = some .pool := by simp
  exists kCell_o
  generalize cs ++ [Cell.pool] = cs' at hp ⊢
  generalize cs.length = p at hp ⊢
  refine take_k hp (by omega) (by decide) (by decide) fun d1 a1 b1 => ?_
  exists kRv_k
  refine lhouse_ok hp (by omega) a1 fun home n2 hd hn2 => ?_
  have ah := hd.az
  obtain ⟨pl, ds, xs, rfl, p0, p1, pN, pR, d0, d1', dN, dR, r0, r1, rN, rR⟩ := hd.ex
  exists kVal_v
  refine Lworn_ok hp (by omega) (by omega) rN fun rs n3 h1 h2 hn3 => ?_
  have hrl : rs.length = xs.length := by
    have := congrArg List.length h1
    simpa using this
  have rn := hrl ▸ r1
  have hr : ∀ r ∈ rs, r.2.1.natAbs ≤ 1000 ∧ r.2.2.natAbs ≤ 1000 := fun r h => by
    obtain ⟨_, a, b, c, d⟩ := h2 r h
    exact ⟨by omega, by omega⟩
  have hh : Az 10000 5 20000 (homeE (.tup (pl.map D.str)) (.tup ds) rs) := by
    have z1 : Zs 10000 1 96 (rs.map drE) := zs_mapD (fun r h => drE_az (h2 r h)) (by omega)
    have z2 : Az 10000 2 97 (.tup (rs.map drE)) := Az.tup z1
    have z3 := ah.of_tup1 (k := 2)
    exact homeE_az z3 z2
  exists kVal_v
  refine comp_map (fun x => match x with | .tup (z :: _) => z | _ => .non) (by rw [List.length_map]; omega) (fun x hx Q2 q2 => ?_) ?_
  · obtain ⟨r, _, rfl⟩ := List.mem_map.mp hx
    exists b_yes
    exact q2
  have em : (rs.map drE).map (fun x => match x with | .tup (z :: _) => z | _ => .non) = rs.map fun r => D.str r.1 := by
    rw [List.map_map]
    rfl
  rw [em]
  exists kVal_l
  have nAz : ∀ r ∈ rs, Az 10000 5 2000 (.str r.1) := fun r h => Az.strM (h2 r h).1.ss (by decide)
  have fEq : F_Lright_k05 = F_Lright_k05 := rfl
  refine for_inv (fun i γ S' => γ = [.val (.scr ns), .val (.int k), .val (.ref p), .val (homeE (.tup (pl.map D.str)) (.tup ds) rs), .val (.lst (rs.map fun r => D.str r.1)), .no, .no, .no, .no, .no, .no, .no] ∧ S' = ⟨cs', n3⟩) ⟨rfl, rfl⟩ ?_ ?_
  · rintro i x γ S5 hx ⟨rfl, rfl⟩
    rw [List.getElem?_map, Option.map_eq_some_iff] at hx
    obtain ⟨r, hr', rfl⟩ := hx
    have ha := nAz r (List.mem_of_getElem? hr')
    unfold c_law_k05_l1
    exists kBind_o
    refine for_inv (fun i γ S' => γ = [.val (.scr ns), .val (.int k), .val (.ref p), .val (homeE (.tup (pl.map D.str)) (.tup ds) rs), .val (.lst (rs.map fun r => D.str r.1)), .val (.str r.1), .no, .no, .no, .no, .no, .no] ∧ S' = ⟨cs', n3⟩) ⟨rfl, rfl⟩ ?_ ?_
    · rintro j x γ S6 hx ⟨rfl, rfl⟩
      rw [List.getElem?_map, Option.map_eq_some_iff] at hx
      obtain ⟨s, hs', rfl⟩ := hx
      have hb := nAz s (List.mem_of_getElem? hs')
      unfold c_law_k05_l0
      exists kBind_o
      refine Lright_ok (by omega) hh hr ha hb ?_
      exists kRv_k
      exact ⟨trivial, trivial⟩
    · rintro γ S6 ⟨rfl, rfl⟩
      exists kSq_n
      exact ⟨trivial, trivial⟩
  rintro γ S5 ⟨rfl, rfl⟩
  have e3 : gRange1 [.int 3] = some (rangeD 0 3) := gRange1_i (j := 3) (by decide) (by decide)
  exists kSq_n, e3
  refine for_inv (fun i γ S' => ∃ (n' : Nat), γ = [.val (.scr ns), .val (.int k), .val (.ref p), .val (homeE (.tup (pl.map D.str)) (.tup ds) rs), .val (.lst (rs.map fun r => D.str r.1)), .no, .no, .no, .no, .no, .no, .no] ∧ S' = ⟨cs', n'⟩ ∧ n' ≤ n3 + 100 * i) ⟨n3, rfl, rfl, by omega⟩ ?_ ?_
  · rintro i x γ S6 hx ⟨n', rfl, rfl, hn'⟩
    obtain ⟨hi, rfl⟩ := range_at hx
    have hi : i < 3 := by simpa using hi
    unfold c_law_k05_l3
    exists kBind_o
    refine Lodd05_ok hp (by omega) p0 pN d0 dN (by omega) (by omega) h2 fun o1 ho1 => ?_
    have lr : (rs.map fun r => D.str r.1).length = rs.length := List.length_map ..
    exists kVal_v, gLen_l, lr
    refine take_k hp (by omega) (by omega) (by omega) fun d d0' d1 => ?_
    obtain ⟨x, hx, e⟩ := pick (xs := rs.map fun r => D.str r.1) d0' (by rw [List.length_map]; exact d1)
    obtain ⟨r, hr1, rfl⟩ := List.mem_map.mp hx
    have hz := nAz r hr1
    generalize D.str r.1 = z at hz e
    exists e
    refine Lodd05_ok hp (by omega) p0 pN d0 dN (by omega) (by omega) h2 fun o2 ho2 => ?_
    exists kVal_v
    refine for_inv (fun j γ S' => γ = [.val (.scr ns), .val (.int k), .val (.ref p), .val (homeE (.tup (pl.map D.str)) (.tup ds) rs), .val (.lst (rs.map fun r => D.str r.1)), .no, .val (.int i), .no, .val o1, .val z, .no, .no] ∧ S' = ⟨cs', n' + 2 + 1 + 2⟩) ⟨rfl, rfl⟩ ?_ ?_
    · rintro j x γ S7 hx ⟨rfl, rfl⟩
      obtain ⟨u, v, rfl, hu, hv⟩ : ∃ u v, x = .tup [u, v] ∧ Az 10000 5 2000 u ∧ Az 10000 5 2000 v := by
        have := List.mem_of_getElem? hx
        simp only [List.mem_cons, List.not_mem_nil, or_false] at this
        rcases this with rfl | rfl | rfl
        · exact ⟨_, _, rfl, ho1, hz⟩
        · exact ⟨_, _, rfl, hz, ho1⟩
        · exact ⟨_, _, rfl, ho1, ho2⟩
      have u0 : dIx (.tup [u, v]) (.int 0) = some u := rfl
      have u1 : dIx (.tup [u, v]) (.int 1) = some v := rfl
      unfold c_law_k05_l2
      exists kBind_o, u0, u1, at0, at1
      refine Lright_ok (by omega) hh hr hu hv ?_
      exists kRv_k
      exact ⟨trivial, trivial⟩
    · rintro γ S7 ⟨rfl, rfl⟩
      exists kSq_n
      exact ⟨_, trivial, rfl, by omega⟩
  rintro γ S6 ⟨n', rfl, rfl, hn'⟩
  rw [range_len] at hn'
  have hn' : n' ≤ n3 + 300 := by simpa using hn'
  exists kSq_n
  exact q _ _ _ _ _ _ _ _ _ _ _ (by omega)
theorem law_true (ns : List Int) (hl : ns.length ≤ 63) : F_law_k05 [.scr ns] ⟨[], 0⟩ (fun _ _ => False) fun r _ => r = .v (.bl true) := by
  generalize (fun _ _ => False : XC) = E
  unfold F_law_k05
  rw [runF_eq]
  unfold c_law_k05
  show (ev T_law_k05 _).x [.val (.scr ns), .no, .no, .no, .no, .no, .no, .no, .no, .no, .no, .no] _ E _
  exists kVal_v
  obtain ⟨m, m0, m1, em⟩ : ∃ m : Int, 0 ≤ m ∧ m ≤ 63 ∧ (if (if (ns.length : Int) < 63 then (ns.length : Int) else 63) > 1 then (if (ns.length : Int) < 63 then (ns.length : Int) else 63) else 1) = m := by
    refine ⟨_, ?_, ?_, rfl⟩
    · split <;> split <;> omega
    · split <;> split <;> omega
  rw [em]
  exists gRange1_i m0 (by omega)
  refine for_inv (fun i γ S' => ∃ (cs : List Cell) (n' : Nat), γ = [.val (.scr ns), .no, .no, .no, .no, .no, .no, .no, .no, .no, .no, .no] ∧ S' = ⟨cs, n'⟩ ∧ n' ≤ 30000 * i) ⟨[], 0, rfl, rfl, by omega⟩ ?_ ?_
  · rintro i x γ S5 hx ⟨cs, n', rfl, rfl, hn'⟩
    obtain ⟨hi, rfl⟩ := range_at hx
    exists kBind_o
    refine one_cell (by omega) (by omega) hl fun cs' s2 s3 s4 s5 s6 s7 s8 s9 s10 n6 hn6 => ?_
    exists kTurn_n
    exact ⟨cs', n6, trivial, rfl, by omega⟩
  · rintro γ S5 ⟨cs, n', rfl, rfl, hn'⟩
    exists kSq_n
end K05
namespace K05
open PySem PySem.Spec PyProof.Rows L2 DL He Hd
def hTop (i : Nat) : Stmt := PySem.Challenge.pw_promptbook_k05_change_of_dress.main.body.getD i (.Pass ⟨0, 0, 0, 0⟩)
def hBody : Stmt → List Stmt
  | .ClassDef _ _ _ body _ _ _ _ _ _ _ => body
  | _ => []
def hMet (i j : Nat) : Stmt := (hBody (hTop i)).getD j (.Pass ⟨0, 0, 0, 0⟩)
def hNm_0 : List PySem.Str := ["__name__", "LackError", "NoName", "named", "change", "_law_pool", "_law_take", "_law_names", "_law_house", "_law_asked", "_law_due", "_law_right", "_law_odd", "_law_beats"]
def hNm_1 : List PySem.Str := ["_law_worn"]
abbrev hNm : List PySem.Str := hNm_0 ++ (hNm_1)
def hFs_0 : List Fx := [.free "enumerate", .free "int", .free "len", .free "max", .free "min", .free "range", .free "repr", .free "sorted", .free "tuple", .glo "NoName", .glo "LackError", .bl fun K => xclB K "LookupError.__new__" leL (ga K "NoName"), .bl fun K => eqO (PySem.W.findIn K (.ref (ga K "NoName")) "__init__") (some (some (.ref (ma K (ga K "NoName") "__init__")))), .bl fun K => decide (PySem.W.typeIn K (.ref (ma K (ga K "NoName") "__init__")) = some (.type "function"))]
def hFs_1 : List Fx := [.bl fun K => xsupB K "LookupError.__init__" (ga K "LackError"), .bl fun K => eqO (PySem.W.findIn K (.ref (ga K "NoName")) "name") (some none), .bl fun K => xckB K (ga K "NoName"), .bl fun K => decide (PySem.W.exmOne K (.ref (ga K "NoName")) (.ref (ga K "NoName")) = some true), .glo "named", .bl fun K => PySem.W.keepIn K (.ref (ga K "named")), .glo "change", .bl fun K => PySem.W.keepIn K (.ref (ga K "change")), .glo "_law_pool", .bl fun K => PySem.W.keepIn K (.ref (ga K "_law_pool")), .glo "_law_take", .bl fun K => PySem.W.keepIn K (.ref (ga K "_law_take")), .glo "_law_names", .bl fun K => PySem.W.keepIn K (.ref (ga K "_law_names"))]
def hFs_2 : List Fx := [.glo "_law_house", .bl fun K => PySem.W.keepIn K (.ref (ga K "_law_house")), .glo "_law_asked", .bl fun K => PySem.W.keepIn K (.ref (ga K "_law_asked")), .glo "_law_due", .bl fun K => PySem.W.keepIn K (.ref (ga K "_law_due")), .glo "_law_right", .bl fun K => PySem.W.keepIn K (.ref (ga K "_law_right")), .glo "_law_odd", .bl fun K => PySem.W.keepIn K (.ref (ga K "_law_odd")), .glo "_law_beats", .bl fun K => PySem.W.keepIn K (.ref (ga K "_law_beats")), .glo "_law_worn", .bl fun K => PySem.W.keepIn K (.ref (ga K "_law_worn"))]
def hFs_3 : List Fx := [.glo "law", .bl fun K => PySem.W.keepIn K (.ref (ga K "law"))]
abbrev hFs : List Fx := hFs_0 ++ (hFs_1 ++ (hFs_2 ++ (hFs_3)))
def hFn_0 : List Fd := [⟨("NoName", some "__init__"), "__init__", "NoName.__init__", defArgs (hMet 2 0), defBody (hMet 2 0), defScope (hMet 2 0), []⟩, ⟨("named", none), "named", "named", defArgs (hTop 4), defBody (hTop 4), defScope (hTop 4), []⟩, ⟨("change", none), "change", "change", defArgs (hTop 5), defBody (hTop 5), defScope (hTop 5), []⟩, ⟨("_law_pool", none), "_law_pool", "_law_pool", defArgs (hTop 7), defBody (hTop 7), defScope (hTop 7), []⟩, ⟨("_law_take", none), "_law_take", "_law_take", defArgs (hTop 8), defBody (hTop 8), defScope (hTop 8), []⟩, ⟨("_law_names", none), "_law_names", "_law_names", defArgs (hTop 9), defBody (hTop 9), defScope (hTop 9), []⟩, ⟨("_law_house", none), "_law_house", "_law_house", defArgs (hTop 10), defBody (hTop 10), defScope (hTop 10), []⟩, ⟨("_law_asked", none), "_law_asked", "_law_asked", defArgs (hTop 11), defBody (hTop 11), defScope (hTop 11), []⟩, ⟨("_law_due", none), "_law_due", "_law_due", defArgs (hTop 12), defBody (hTop 12), defScope (hTop 12), []⟩, ⟨("_law_right", none), "_law_right", "_law_right", defArgs (hTop 13), defBody (hTop 13), defScope (hTop 13), []⟩, ⟨("_law_odd", none), "_law_odd", "_law_odd", defArgs (hTop 14), defBody (hTop 14), defScope (hTop 14), []⟩, ⟨("_law_beats", none), "_law_beats", "_law_beats", defArgs (hTop 15), defBody (hTop 15), defScope (hTop 15), []⟩, ⟨("_law_worn", none), "_law_worn", "_law_worn", defArgs (hTop 16), defBody (hTop 16), defScope (hTop 16), []⟩, ⟨("law", none), "law", "law", defArgs (hTop 17), defBody (hTop 17), defScope (hTop 17), []⟩]
abbrev hFn : List Fd := hFn_0
abbrev hDc : List (Str × List Str) := []
abbrev hR : PySem.W.OpenRow := PySem.W.OpenLaw.row PySem.Challenge.rw_promptbook_k05_change_of_dress
abbrev hQ : Program := PySem.W.view hR.prog [17]
abbrev hH : PySem.W.Hook := Hd.hook hFs hFn hDc
def hOb (s : PySem.W.SharedT) : Hd.Al := Hd.obsG hFs hFn hDc (HandSHeadRun.getT s)
theorem hOb_eq (s : PySem.W.SharedT) : hOb s = hH.obs s.abs := Hd.obsG_eq (HandSHeadRun.getT_eq s)
theorem hRun_f (w : World) : HandSHeadRun.RunEq hR hQ hH hOb 20000 hNm (w.withFollow "special-get-raises" false) := by
  intro os
  kernel_rfl
theorem hRun_t (w : World) : HandSHeadRun.RunEq hR hQ hH hOb 20000 hNm (w.withFollow "special-get-raises" true) := by
  intro os
  kernel_rfl
theorem hRun (w : World) : HandSHeadRun.RunEq hR hQ hH hOb 20000 hNm w := PySem.W.byRow2 "special-get-raises" (P := fun w => HandSHeadRun.RunEq hR hQ hH hOb 20000 hNm w) hRun_f hRun_t w
end K05
namespace Hd
open PySem PySem.Spec PyProof.Rows L2 DL He
theorem law_walkE {l : PySem.W.OpenLaw} {n k : Nat} {q : Program} {loose : List Str} {XP : (Str → Option Value) → Heap → Prop} {YP : World → Heap → Prop} {d : DefRec} {F : World → FD} {x : Str}
    (hn : l.most = some n) (hn2 : n ≤ sizeLine) (hdf : d.params.defaults = []) (hr : Room k callerA)
    (G : ∀ (w : World) (mg : Str → Option Value) (fa : Addr) (h : Heap), YP w h → h.Ns mainGlobals mg → mg d.name = some (.ref fa) →
      ∃ (K : PySem.W.Frag) (M : Mp), K.In h ∧ ∃ fd : FuncData, (∀ (s : Shared) (u : Value), BindsTo s fd ⟨[u], []⟩ [(x, u)]) ∧ ∀ base : Heap, K.In base → base.Ns mainGlobals mg → FnG l.prog w K mg base (CX l.prog w) k fa fd [x] (spD ⟨K, M.cls, M.fns⟩ 1 (F w)))
    (hF : ∀ (w : World) (ns : List Int), ns.length ≤ n → F w [.scr ns] ⟨[], 0⟩ (fun _ _ => False) fun r _ => r = .v (.bl true)) :
    PySem.W.WalkO q loose XP YP l.row.toRowW d [] (fun f vs => PySem.call f vs) := by
  refine Att.attach_call hn hdf ?_
  intro w s₀ t mg mb fa o pm cd doc a vs ns Gd Y ho hd hcd hmg hobj hints hlen hg
  obtain ⟨K, M, KX, fd, hb, hG⟩ := G w mg fa _ Y Gd.T.g hmg
  exact law_run KX Gd.T.g Gd.T.b Gd.T.builtins Gd.T.nolimit hg hobj hints (Nat.le_trans hlen hn2) hr M hG hb (hF w ns hlen)
end Hd
namespace K05
open PySem PySem.Spec PyProof.Rows L2 DL LB He Hd
set_option maxHeartbeats 0 in
theorem hAll {l : PySem.W.OpenLaw} {w : World} {K : PySem.W.Frag} {h : Heap} {mg : Str → Option Value} {fa : Addr} (X : K.In h) (G : h.Ns mainGlobals mg) (hfa : mg "law" = some (.ref fa)) (c : Hd.Says hFs hFn hDc w.params K) :
    ∃ fd : FuncData, (∀ (s : Shared) (v : Value), BindsTo s fd ⟨[v], []⟩ [("script", v)]) ∧ ∀ base : Heap, K.In base → base.Ns mainGlobals mg → FnG l.prog w K mg base (CX l.prog w) 7 fa fd ["script"] (spD ⟨K, (mpOf K).cls, (mpOf K).fns⟩ 1 F_law_k05) := by
  have z_enumerate := free_ex (c.fact 0 (f := .free "enumerate") rfl)
  have z_int := free_ex (c.fact 1 (f := .free "int") rfl)
  have z_len := free_ex (c.fact 2 (f := .free "len") rfl)
  have z_max := free_ex (c.fact 3 (f := .free "max") rfl)
  have z_min := free_ex (c.fact 4 (f := .free "min") rfl)
  have z_range := free_ex (c.fact 5 (f := .free "range") rfl)
  have z_repr := free_ex (c.fact 6 (f := .free "repr") rfl)
  have z_sorted := free_ex (c.fact 7 (f := .free "sorted") rfl)
  have z_tuple := free_ex (c.fact 8 (f := .free "tuple") rfl)
  have a_NoName := glo_ex (c.fact 9 (f := .glo "NoName") rfl)
  have a_LackError := glo_ex (c.fact 10 (f := .glo "LackError") rfl)
  have xl_NoName := (c.fact 11 (f := .bl fun K => xclB K "LookupError.__new__" leL (ga K "NoName")) rfl)
  have fi_NoName := eqO_ok (c.fact 12 (f := .bl fun K => eqO (PySem.W.findIn K (.ref (ga K "NoName")) "__init__") (some (some (.ref (ma K (ga K "NoName") "__init__"))))) rfl)
  have ti_NoName := of_decide_eq_true (c.fact 13 (f := .bl fun K => decide (PySem.W.typeIn K (.ref (ma K (ga K "NoName") "__init__")) = some (.type "function"))) rfl)
  obtain ⟨_, _, _, _, _, _, _, _, _, lx_NoName, cx_NoName⟩ := Fd.ex0 (c.def_ 0 (d := ⟨("NoName", some "__init__"), "__init__", "NoName.__init__", defArgs (hMet 2 0), defBody (hMet 2 0), defScope (hMet 2 0), []⟩) rfl)
  have sp_LackError := (c.fact 14 (f := .bl fun K => xsupB K "LookupError.__init__" (ga K "LackError")) rfl)
  have nf_NoName_name := eqO_ok (c.fact 15 (f := .bl fun K => eqO (PySem.W.findIn K (.ref (ga K "NoName")) "name") (some none)) rfl)
  have xk_NoName := (c.fact 16 (f := .bl fun K => xckB K (ga K "NoName")) rfl)
  have ke_NoName_NoName := of_decide_eq_true (c.fact 17 (f := .bl fun K => decide (PySem.W.exmOne K (.ref (ga K "NoName")) (.ref (ga K "NoName")) = some true)) rfl)
  have a_named := glo_ex (c.fact 18 (f := .glo "named") rfl)
  obtain ⟨_, _, _, _, _, _, _, _, _, l_named, c_named⟩ := Fd.ex0 (c.def_ 1 (d := ⟨("named", none), "named", "named", defArgs (hTop 4), defBody (hTop 4), defScope (hTop 4), []⟩) rfl)
  have k_named := (c.fact 19 (f := .bl fun K => PySem.W.keepIn K (.ref (ga K "named"))) rfl)
  have a_change := glo_ex (c.fact 20 (f := .glo "change") rfl)
  obtain ⟨_, _, _, _, _, _, _, _, _, l_change, c_change⟩ := Fd.ex0 (c.def_ 2 (d := ⟨("change", none), "change", "change", defArgs (hTop 5), defBody (hTop 5), defScope (hTop 5), []⟩) rfl)
  have k_change := (c.fact 21 (f := .bl fun K => PySem.W.keepIn K (.ref (ga K "change"))) rfl)
  have a_Lpool := glo_ex (c.fact 22 (f := .glo "_law_pool") rfl)
  obtain ⟨_, _, _, _, _, _, _, _, _, l_Lpool, c_Lpool⟩ := Fd.ex0 (c.def_ 3 (d := ⟨("_law_pool", none), "_law_pool", "_law_pool", defArgs (hTop 7), defBody (hTop 7), defScope (hTop 7), []⟩) rfl)
  have k_Lpool := (c.fact 23 (f := .bl fun K => PySem.W.keepIn K (.ref (ga K "_law_pool"))) rfl)
  have a_Ltake := glo_ex (c.fact 24 (f := .glo "_law_take") rfl)
  obtain ⟨_, _, _, _, _, _, _, _, _, l_Ltake, c_Ltake⟩ := Fd.ex0 (c.def_ 4 (d := ⟨("_law_take", none), "_law_take", "_law_take", defArgs (hTop 8), defBody (hTop 8), defScope (hTop 8), []⟩) rfl)
  have k_Ltake := (c.fact 25 (f := .bl fun K => PySem.W.keepIn K (.ref (ga K "_law_take"))) rfl)
  have a_Lnames := glo_ex (c.fact 26 (f := .glo "_law_names") rfl)
  obtain ⟨_, _, _, _, _, _, _, _, _, l_Lnames, c_Lnames⟩ := Fd.ex0 (c.def_ 5 (d := ⟨("_law_names", none), "_law_names", "_law_names", defArgs (hTop 9), defBody (hTop 9), defScope (hTop 9), []⟩) rfl)
  have k_Lnames := (c.fact 27 (f := .bl fun K => PySem.W.keepIn K (.ref (ga K "_law_names"))) rfl)
  have a_Lhouse := glo_ex (c.fact 28 (f := .glo "_law_house") rfl)
  obtain ⟨_, _, _, _, _, _, _, _, _, l_Lhouse, c_Lhouse⟩ := Fd.ex0 (c.def_ 6 (d := ⟨("_law_house", none), "_law_house", "_law_house", defArgs (hTop 10), defBody (hTop 10), defScope (hTop 10), []⟩) rfl)
  have k_Lhouse := (c.fact 29 (f := .bl fun K => PySem.W.keepIn K (.ref (ga K "_law_house"))) rfl)
  have a_Lasked := glo_ex (c.fact 30 (f := .glo "_law_asked") rfl)
  obtain ⟨_, _, _, _, _, _, _, _, _, l_Lasked, c_Lasked⟩ := Fd.ex0 (c.def_ 7 (d := ⟨("_law_asked", none), "_law_asked", "_law_asked", defArgs (hTop 11), defBody (hTop 11), defScope (hTop 11), []⟩) rfl)
  have k_Lasked := (c.fact 31 (f := .bl fun K => PySem.W.keepIn K (.ref (ga K "_law_asked"))) rfl)
  have a_Ldue := glo_ex (c.fact 32 (f := .glo "_law_due") rfl)
  obtain ⟨_, _, _, _, _, _, _, _, _, l_Ldue, c_Ldue⟩ := Fd.ex0 (c.def_ 8 (d := ⟨("_law_due", none), "_law_due", "_law_due", defArgs (hTop 12), defBody (hTop 12), defScope (hTop 12), []⟩) rfl)
  have k_Ldue := (c.fact 33 (f := .bl fun K => PySem.W.keepIn K (.ref (ga K "_law_due"))) rfl)
  have a_Lright := glo_ex (c.fact 34 (f := .glo "_law_right") rfl)
  obtain ⟨_, _, _, _, _, _, _, _, _, l_Lright, c_Lright⟩ := Fd.ex0 (c.def_ 9 (d := ⟨("_law_right", none), "_law_right", "_law_right", defArgs (hTop 13), defBody (hTop 13), defScope (hTop 13), []⟩) rfl)
  have k_Lright := (c.fact 35 (f := .bl fun K => PySem.W.keepIn K (.ref (ga K "_law_right"))) rfl)
  have a_Lodd := glo_ex (c.fact 36 (f := .glo "_law_odd") rfl)
  obtain ⟨_, _, _, _, _, _, _, _, _, l_Lodd, c_Lodd⟩ := Fd.ex0 (c.def_ 10 (d := ⟨("_law_odd", none), "_law_odd", "_law_odd", defArgs (hTop 14), defBody (hTop 14), defScope (hTop 14), []⟩) rfl)
  have k_Lodd := (c.fact 37 (f := .bl fun K => PySem.W.keepIn K (.ref (ga K "_law_odd"))) rfl)
  have a_Lbeats := glo_ex (c.fact 38 (f := .glo "_law_beats") rfl)
  obtain ⟨_, _, _, _, _, _, _, _, _, l_Lbeats, c_Lbeats⟩ := Fd.ex0 (c.def_ 11 (d := ⟨("_law_beats", none), "_law_beats", "_law_beats", defArgs (hTop 15), defBody (hTop 15), defScope (hTop 15), []⟩) rfl)
  have k_Lbeats := (c.fact 39 (f := .bl fun K => PySem.W.keepIn K (.ref (ga K "_law_beats"))) rfl)
  have a_Lworn := glo_ex (c.fact 40 (f := .glo "_law_worn") rfl)
  obtain ⟨_, _, _, _, _, _, _, _, _, l_Lworn, c_Lworn⟩ := Fd.ex0 (c.def_ 12 (d := ⟨("_law_worn", none), "_law_worn", "_law_worn", defArgs (hTop 16), defBody (hTop 16), defScope (hTop 16), []⟩) rfl)
  have k_Lworn := (c.fact 41 (f := .bl fun K => PySem.W.keepIn K (.ref (ga K "_law_worn"))) rfl)
  have a_law := glo_ex (c.fact 42 (f := .glo "law") rfl)
  obtain ⟨_, _, _, _, _, _, _, _, _, l_law, c_law⟩ := Fd.ex0 (c.def_ 13 (d := ⟨("law", none), "law", "law", defArgs (hTop 17), defBody (hTop 17), defScope (hTop 17), []⟩) rfl)
  have k_law := (c.fact 43 (f := .bl fun K => PySem.W.keepIn K (.ref (ga K "law"))) rfl)
  exact all_mk X G hfa z_enumerate z_int z_len z_max z_min z_range z_repr z_sorted z_tuple a_NoName a_LackError xl_NoName fi_NoName ti_NoName lx_NoName cx_NoName sp_LackError nf_NoName_name xk_NoName ke_NoName_NoName a_named l_named c_named k_named a_change l_change c_change k_change a_Lpool l_Lpool c_Lpool k_Lpool a_Ltake l_Ltake c_Ltake k_Ltake a_Lnames l_Lnames c_Lnames k_Lnames a_Lhouse l_Lhouse c_Lhouse k_Lhouse a_Lasked l_Lasked c_Lasked k_Lasked a_Ldue l_Ldue c_Ldue k_Ldue a_Lright l_Lright c_Lright k_Lright a_Lodd l_Lodd c_Lodd k_Lodd a_Lbeats l_Lbeats c_Lbeats k_Lbeats a_Lworn l_Lworn c_Lworn k_Lworn a_law l_law c_law k_law
end K05
open PySem PySem.W PySem.Calls PyProof.Rows
set_option maxRecDepth 100000 in
set_option maxHeartbeats 0 in
theorem PySem.Challenge.cw_promptbook_k05_change_of_dress_holds : PySem.Challenge.rw_promptbook_k05_change_of_dress.Holds := by
  w_on; o_law
  refine HandSHeadRun.head_any (r := OpenLaw.row PySem.Challenge.rw_promptbook_k05_change_of_dress) (q := K05.hQ) (H := K05.hH) (ob := K05.hOb) (M := 20000) (loose := K05.hNm) (d := HandSHeadRun.topDef (OpenLaw.row PySem.Challenge.rw_promptbook_k05_change_of_dress).prog 17) (kwd := []) K05.hOb_eq
    (by kernel_rfl) (fun s => by kernel_rfl) K05.hRun (by kernel_rfl) (by kernel_rfl) (by kernel_rfl) (by rfl) (by first | assumption | decide +kernel) (by decide +kernel) ⟨rfl, rfl, rfl, rfl, rfl, by decide +kernel⟩ ?hw ?hc
  case hw => w_witness2
  case hc =>
    refine Hd.law_walkE (l := PySem.Challenge.rw_promptbook_k05_change_of_dress) (n := 63) (k := 7) (x := "script") (F := fun _ => LB.F_law_k05) rfl (by decide) (by kernel_rfl) ⟨rfl, by decide, by decide⟩ ?F fun _ ns h => K05.law_true ns h
    intro w mg fa h Y G hmg0
    obtain ⟨K, KX, c⟩ := Y
    have hmg : mg ("law" : PySem.Str) = some (.ref fa) := by
      have e : (HandSHeadRun.topDef (OpenLaw.row PySem.Challenge.rw_promptbook_k05_change_of_dress).prog 17).name = ("law" : PySem.Str) := by kernel_rfl
      rw [← e]
      exact hmg0
    exact ⟨K, K05.mpOf K, KX, K05.hAll KX G hmg c⟩
